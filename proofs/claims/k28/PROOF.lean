import PyProof.Rows.All
import Wide.All
import OpenK.AllK
import Wide.FinOn
import HandS.ForMost
import HandS.Wide
import HandS.IsInst
import HandS.Style
import HandS.FStr
import HandS.Property
import HandS.SlotsOwn
import HandS.ClsMeth
import HandS.NoneIn
import HandS.Codes
import HandS.Walk
import HandS.ExcInit
import HandS.ExcIs
import HandS.ExcOwn
import HandS.ExcField
import HandS.TryMany
import HandS.WordsExc
import HandS.ExcBuiltin
import HandS.MakeKw
import HandS.MakeKwOnly
import HandS.TryOnly
import PyProof.ReprLen
import KE.KOpsOwn
import HandS.TupAny
import HandS.DictTup
import HandS.DictComp
import KE.KDictDisplayH
import PyProof.Rows.SeqRoads
import HandS.Replace
import HandS.Deep
import KE.GoesMore
import KE.GoesEnum
import HandS.SetFor
import HandS.Star
import HandS.HeadEnd
import HandS.HeadHook2
import HandS.Head2
import HandS.CallSlots
import KE.KExcIs
import KE.DataCmp
import HandS.SortKw
import KE.SortKeyHeap
import HandS.OwnEq
import PySem.Challenge.RW_unmarked_k28_edges_of_told_ratios
set_option Elab.async false
set_option linter.all false
set_option maxRecDepth 100000
set_option maxHeartbeats 4000000
namespace Kb
open PySem PySem.Spec PyProof.Rows L2

theorem ifT {c : Bool} {A B : Prop} (hc : c = true) (h : A) : if c = true then A else B := by rw [if_pos hc]; exact h
theorem ifF {c : Bool} {A B : Prop} (hc : c = false) (h : B) : if c = true then A else B := by rw [hc, if_neg Bool.false_ne_true]; exact h
/-! ### a statement, then the rest, joined by a word -/
def tMid (t u : TS) : TS := fun D σ H => ∃ M : L2.St → Hp → Prop, t { D with nx := M } σ H ∧ ∀ σ1 H1, M σ1 H1 → u D σ1 H1
theorem pss_mid {X : Cx} {st : Stmt} {rest : List Stmt} {t u : TS} (a : PS X st t) (b : PSs X rest u) : PSs X (st :: rest) (tMid t u) := by
  refine ⟨fun pins s σ H D I ⟨M, hm, hu⟩ => ?_⟩
  refine wpAny_execs_cons (thn (a.run pins s σ H { D with nx := M } I hm) fun fl s1 z => ?_)
  cases fl with
  | next =>
    obtain ⟨σ1, H1, I1, z⟩ := z
    exact b.run pins s1 σ1 H1 D I1 (hu σ1 H1 z)
  | ret v => exact z
  | brk => exact z
  | cont => exact z
/-! ### what a comprehension's reading asks behind its source -/
def LcR (J : It) (g : TG) (tt : TT) (te : TE) (vs : List Nat) (σ : L2.St) (H1 : Hp) (D : Addr) (Qd : Hp → Prop) : Prop := ∃ W : Nat → Nat → Hp → Prop, (∃ m, W 0 m (upd H1 D (.lst []))) ∧ ∀ i m H, W i m H →
  (J.stop i H ∧ Qd H) ∨ (J.go i H ∧ ∃ Nx : Hp → Prop, (∀ H', Nx H' → ∃ m', m' < m ∧ W (i + 1) m' H') ∧ ∀ x H', J.yld i H x H' → g x (wipe σ vs) H' fun σ2 H2 => wipe σ2 vs = wipe σ vs ∧ tt σ2 H2 fun b H3 =>
    if b = true then te σ2 H3 fun y H4 => ∃ acc, H4 D = some (.lst acc) ∧ acc.length < sizeLine ∧ Nx (upd H4 D (.lst (acc ++ [y]))) else Nx H3)
theorem lcR_range {lo : Int} {n : Nat} {g : TG} {te : TE} {vs : List Nat} {σ : L2.St} {H1 : Hp} {D : Addr} {Qd : Hp → Prop} (M : Nat → Hp → Prop) (h0 : M 0 (upd H1 D (.lst [])))
    (hs : ∀ i H, i < n → M i H → g (.int (lo + i)) (wipe σ vs) H fun σ2 H2 => wipe σ2 vs = wipe σ vs ∧ te σ2 H2 fun y H4 => ∃ acc, H4 D = some (.lst acc) ∧ acc.length < sizeLine ∧ M (i + 1) (upd H4 D (.lst (acc ++ [y]))))
    (hm : ∀ x σ H Q Q', (∀ σ2 H2, Q σ2 H2 → Q' σ2 H2) → g x σ H Q → g x σ H Q') (hd : ∀ H, M n H → Qd H) : LcR (Itr lo n) g tYes te vs σ H1 D Qd :=
  lc_range M h0 (fun i H hi m => hm _ _ _ _ _ (fun σ2 H2 z => ⟨z.1, ifT (B := M (i + 1) H2) rfl z.2⟩) (hs i H hi m)) hd
theorem lcR_list {K : PySem.W.Frag} {a : Addr} {xs : List V} {g : TG} {te : TE} {vs : List Nat} {σ : L2.St} {H1 : Hp} {D : Addr} {Qd : Hp → Prop} (M : Nat → Hp → Prop) (h0 : M 0 (upd H1 D (.lst []))) (hl : ∀ i H, i ≤ xs.length → M i H → SqL K H a xs)
    (hs : ∀ i x H, xs[i]? = some x → M i H → g x (wipe σ vs) H fun σ2 H2 => wipe σ2 vs = wipe σ vs ∧ te σ2 H2 fun y H4 => ∃ acc, H4 D = some (.lst acc) ∧ acc.length < sizeLine ∧ M (i + 1) (upd H4 D (.lst (acc ++ [y]))))
    (hm : ∀ x σ H Q Q', (∀ σ2 H2, Q σ2 H2 → Q' σ2 H2) → g x σ H Q → g x σ H Q') (hd : ∀ H, M xs.length H → Qd H) : LcR (Itl K a) g tYes te vs σ H1 D Qd :=
  lc_list M h0 hl (fun i x H hi m => hm _ _ _ _ _ (fun σ2 H2 z => ⟨z.1, ifT (B := M (i + 1) H2) rfl z.2⟩) (hs i x H hi m)) hd
theorem gName_mono (i : Nat) : ∀ (x : V) (σ : L2.St) (H : Hp) (Q Q' : L2.St → Hp → Prop), (∀ σ2 H2, Q σ2 H2 → Q' σ2 H2) → gName i x σ H Q → gName i x σ H Q' := fun _ _ _ _ _ h q => h _ _ q
theorem szl {n : Nat} (h : n ≤ 1000000) : n ≤ sizeLine := Nat.le_trans h (by decide)
theorem szs {n : Nat} (h : n ≤ 1000000) : n < sizeLine := Nat.lt_of_le_of_lt h (by decide)
/-! ### rules that name the written part: for blocks of comprehensions -/
section
variable {X : Cx} {K : PySem.W.Frag}
theorem ix_listK (h : X.K = K) : IxR X (rIxL K) := h ▸ ix_list
theorem ix_tupK (h : X.K = K) : IxR X (rIxT K) := h ▸ ix_tup
theorem ix_seqK (h : X.K = K) : IxR X (rIx K) := h ▸ ix_seq
theorem pe_fldK {e : Expr} {f : Str} {ta : TE} {pos : Pos} (h : X.K = K) (he : PE X e ta) (hb : attributeBase e f X.env (eval e X.env) = eval e X.env) : PE X (.Attribute e f pos) (tFld K ta f) := h ▸ pe_fld he hb
theorem call_len_seqK (h : X.K = K) : CallR X (.builtin "len") (fun xs H Q => ∃ p ys, xs = [.ref p] ∧ (SqL K H p ys ∨ SqT K H p ys) ∧ Q (.int ys.length) H) := h ▸ call_len_seq
theorem pi_listK {tg l : Expr} {tl : TE} (h : X.K = K) (hl : PE X l tl) : PI X tg l (iList K tl) := h ▸ pi_list hl
theorem pi_tupK {tg l : Expr} {tl : TE} (h : X.K = K) (hl : PE X l tl) : PI X tg l (iTup K tl) := h ▸ pi_tup hl
theorem call_isiK' (h : X.K = K) : CallR X (.builtin "isinstance") (rIsi K) := h ▸ call_isi
end
/-! ### a comprehension over a text -/
theorem lcR_str {z : Str} {g : TG} {te : TE} {vs : List Nat} {σ : L2.St} {H1 : Hp} {D : Addr} {Qd : Hp → Prop} (M : Nat → Hp → Prop) (h0 : M 0 (upd H1 D (.lst [])))
    (hs : ∀ i c H, i < z.cps.size → z.cps[i]? = some c → M i H → g (.str ⟨#[c]⟩) (wipe σ vs) H fun σ2 H2 => wipe σ2 vs = wipe σ vs ∧ te σ2 H2 fun y H4 => ∃ acc, H4 D = some (.lst acc) ∧ acc.length < sizeLine ∧ M (i + 1) (upd H4 D (.lst (acc ++ [y]))))
    (hm : ∀ x σ H Q Q', (∀ σ2 H2, Q σ2 H2 → Q' σ2 H2) → g x σ H Q → g x σ H Q') (hd : ∀ H, M z.cps.size H → Qd H) : LcR (Its z) g tYes te vs σ H1 D Qd :=
  lc_it walk_str M h0 (fun _ _ _ _ => trivial) (fun i x H H' hi m y => by
    obtain ⟨e, c, hc, ex⟩ := y
    subst e; subst ex
    exact hm _ _ _ _ _ (fun σ2 H2 z => ⟨z.1, ifT (B := M (i + 1) H2) rfl z.2⟩) (hs i c _ hi hc m)) hd
/-! ### a comprehension whose every turn makes one object -/
theorem comp_objs {K : PySem.W.Frag} {a : Addr} {xs : List V} {g : TG} {te : TE} {vs : List Nat} {σ : L2.St} {H1 : Hp} {D : Addr} {Qd : Hp → Prop} (F : Nat → Hp → Addr → Prop) (hn : xs.length ≤ 1000000)
    (mono : ∀ j H H' p ys, H D = some (.lst ys) → (∀ b o, b ≠ D → H b = some o → H' b = some o) → F j H p → F j H' p) (hl : SqL K H1 a xs) (hD : H1 D = none) (hm : ∀ x σ H Q Q', (∀ σ2 H2, Q σ2 H2 → Q' σ2 H2) → g x σ H Q → g x σ H Q')
    (turn : ∀ i x H (k : VK), xs[i]? = some x → (∀ b o, b ≠ D → H1 b = some o → H b = some o) → (∃ ys, H D = some (.lst ys)) → (∀ p H4, Same H H4 → F i H4 p → k (.ref p) H4) → g x (wipe σ vs) H fun σ2 H2 => wipe σ2 vs = wipe σ vs ∧ te σ2 H2 k)
    (done : ∀ (ps : List Addr) H, ps.length = xs.length → (∀ b o, b ≠ D → H1 b = some o → H b = some o) → H D = some (.lst (ps.map V.ref)) → (∀ j p, ps[j]? = some p → F j H p) → Qd H) : LcR (Itl K a) g tYes te vs σ H1 D Qd := by
  have kS : ∀ H, (∀ b o, b ≠ D → H1 b = some o → H b = some o) → SqL K H a xs := fun H kp => by
    have rd : ∀ u, Rd H1 a u → Rd H a u := fun u q => q.elim (fun q => .inl (kp _ _ (ne_of_none q hD) q)) fun ⟨o, q⟩ => .inr ⟨o, kp _ _ (ne_of_none q hD) q⟩
    exact hl.elim (fun q => .inl (rd _ q)) .inr
  refine lcR_list (fun i H => (∀ b o, b ≠ D → H1 b = some o → H b = some o) ∧ ∃ ps : List Addr, ps.length = i ∧ H D = some (.lst (ps.map V.ref)) ∧ ∀ j p, ps[j]? = some p → F j H p)
    ⟨fun b o n e => by rw [upd_ne n]; exact e, [], rfl, upd_same, fun j p h => by simp at h⟩ (fun i H _ m => kS H m.1) (fun i x H hi m => ?_) hm (fun H m => ?_)
  · obtain ⟨kp, ps, hp, hD', hF⟩ := m
    have hlt : i < xs.length := (List.getElem?_eq_some_iff.mp hi).1
    refine turn i x H _ hi kp ⟨_, hD'⟩ fun p H4 sm hp4 => ?_
    have h4 : H4 D = some (.lst (ps.map V.ref)) := sm _ _ hD'
    have kk : ∀ b o, b ≠ D → H4 b = some o → upd H4 D (.lst (ps.map V.ref ++ [.ref p])) b = some o := fun b o n e => by rw [upd_ne n]; exact e
    refine ⟨_, h4, by rw [List.length_map]; exact szs (by omega), fun b o n e => kk b o n (sm _ _ (kp b o n e)), ps ++ [p], by simp [hp], by rw [upd_same]; simp, fun j r hj => ?_⟩
    refine mono j H4 _ r _ h4 kk ?_
    by_cases c : j < ps.length
    · rw [List.getElem?_append_left c] at hj
      exact mono j H H4 r _ hD' (fun b o _ e => sm b o e) (hF j r hj)
    · have e : j = ps.length := by
        have := (List.getElem?_eq_some_iff.mp hj).1
        simp at this
        omega
      subst e
      simp at hj
      subst hj
      rw [hp]
      exact hp4
  · obtain ⟨kp, ps, hp, hD', hF⟩ := m
    exact done ps H hp kp hD' hF
theorem kit_self (K : PySem.W.Frag) (t : Value) (h : (t == t) = true) : PySem.W.kitOne K t t = some true := by
  unfold PySem.W.kitOne
  rw [if_pos h]
/-! ### int of an int, of a truth -/
theorem call_intI {X : Cx} : CallR X (.type "int") (fun xs H Q => ∃ i, xs = [.int i] ∧ Q (.int i) H) := fun pins s σ H xs us Q I r h => call_int1 pins s σ H xs us Q I r (.inl h)
theorem call_intB {X : Cx} : CallR X (.type "int") (fun xs H Q => ∃ k, xs = [.bl k] ∧ Q (.int (if k then 1 else 0)) H) := fun pins s σ H xs us Q I r h => call_int1 pins s σ H xs us Q I r (.inr h)
/-! ### a def that may be called by its name -/
structure FnC (P : Program) (w : World) (K : PySem.W.Frag) (mg : Str → Option Value) (base : Heap) (CX : CXT) (k : Nat) (x : Str) (ps : List Str) (sp : Sp) : Prop where
  ex : ∃ (f : Addr) (fd : FuncData), FnOk P w K mg base CX k f fd ps sp ∧ mg x = some (.ref f) ∧ PySem.W.keepIn K (.ref f) = true ∧ Binds K fd ps []
section
variable {X : Cx} {k : Nat} {x : Str} {ps : List Str} {sp : Sp} {e : Expr} {es : List Expr} {t : TA} {p pos : Pos}
theorem pe_callC (F : FnC X.prog X.w X.K X.mg X.base CX0 k x ps sp) (hr : Room k X.A) (hg : Gl X x) (ha : PA X (e :: es) t) (hdb : (x == ("__debug__" : Str)) = false := by decide)
    (he : starEach (e :: es) X.env = (false, eval e X.env) :: starEach es X.env := by rfl) (hpl : (backTo pos (starEach es X.env)).any (·.1) = false := by rfl) :
    PE X (.Call (.Name x p) (e :: es) [] pos) (tCall sp [] E0 t) := by
  obtain ⟨f, fd, h, hm, hk, hb⟩ := F.ex
  exact pe_call h hr hg hm hk hb .nil pass0 ha hdb he hpl
end

/-! ### texts -/
section
variable {X : Cx}
def repS (z : Str) (n : Nat) : Str := ⟨(List.replicate n z.cps.toList).flatten.toArray⟩
theorem fold_rep (a : Array Nat) : ∀ (n : Nat) (b : Array Nat), (List.replicate n a).foldl (· ++ ·) b = (b.toList ++ (List.replicate n a.toList).flatten).toArray
  | 0, b => by simp
  | n + 1, b => by
    rw [List.replicate_succ, List.foldl_cons, fold_rep a n]
    simp [List.replicate_succ]
theorem repS_eq (z : Str) (n : Nat) : (⟨(List.replicate n z.cps).foldl (· ++ ·) #[]⟩ : Str) = repS z n := by
  rw [fold_rep]; simp [repS]
theorem repS_len (z : Str) (n : Nat) : (repS z n).length = z.length * n := by
  show (List.replicate n z.cps.toList).flatten.toArray.size = z.cps.size * n
  simp [Nat.mul_comm]
def rMulS : R2 := fun x y H Q => ∃ (z : Str) (n : Int), x = .str z ∧ y = .int n ∧ 0 ≤ n ∧ n < 2 ^ 40 ∧ z.length * n.toNat ≤ 1000000 ∧ Q (.str (repS z n.toNat)) H
theorem op_mul_str : OpR X (binaryOp .Mult) rMulS := by
  intro pins s σ H x y v u Q I rx ry h
  obtain ⟨z, n, rfl, rfl, h0, h1, h2, q⟩ := h
  obtain ⟨t, rfl⟩ := rx
  obtain ⟨t', rfl⟩ := ry
  have b1 : ¬ n < -(2 ^ 63 : Int) := by omega
  have b2 : ¬ n ≥ (2 ^ 63 : Int) := by omega
  have hz : z.length * n.toNat ≤ sizeLine := Nat.le_trans h2 (by decide)
  refine PySem.P.mul_str (by rw [decide_eq_false b1, decide_eq_false b2]; rfl) (fun c1 _ => ?_) (fun _ _ => ?_) ?_
  · have hn : 1 ≤ n := by omega
    have hl : z.length ≤ 1000000 := by
      have : 1 ≤ n.toNat := by omega
      calc z.length = z.length * 1 := (Nat.mul_one _).symm
        _ ≤ z.length * n.toNat := Nat.mul_le_mul_left _ this
        _ ≤ 1000000 := h2
    have hd : (1000000 : Int) ≤ (2 ^ 63 - 1) / n := by
      rw [Int.le_ediv_iff_mul_le (by omega)]
      omega
    omega
  · show (decide _) = false
    exact decide_eq_false (by omega)
  · by_cases c1 : n < 1
    · rw [if_pos c1]
      have e : n.toNat = 0 := by omega
      have e2 : repS z n.toNat = Str.empty := by rw [e]; rfl
      rw [e2] at q
      exact ⟨by decide, .str Str.empty, H, I.tok _, ⟨_, rfl⟩, q⟩
    · rw [if_neg c1]
      by_cases c2 : (n == 1 || z.length == 0) = true
      · rw [if_pos c2]
        have e2 : repS z n.toNat = z := by
          rcases Bool.or_eq_true_iff.mp c2 with c | c
          · have : n = 1 := eq_of_beq c
            subst this
            show (⟨(List.replicate 1 z.cps.toList).flatten.toArray⟩ : Str) = z
            simp
          · have c' : z.length = 0 := eq_of_beq c
            have hz0 : z.cps = #[] := Array.eq_empty_of_size_eq_zero c'
            obtain ⟨cps⟩ := z
            simp only at hz0
            subst hz0
            simp [repS]
        rw [e2] at q
        exact ⟨.str z, H, I, ⟨t, rfl⟩, q⟩
      · rw [if_neg c2]
        refine ⟨?_, ?_⟩
        · rw [repS_eq, repS_len]; exact hz
        · rw [repS_eq]
          exact ⟨.str _, H, I.tok _, ⟨_, rfl⟩, q⟩

/-- z[::-1] -/
def revS (z : Str) : Str := ⟨z.cps.toList.reverse.toArray⟩
def tRevS (te : TE) : TE := fun σ H Q => te σ H fun x H1 => ∃ z : Str, x = .str z ∧ z.length ≤ sizeLine ∧ Q (.str (revS z)) H1
theorem picked_rev (z : Str) (t : Tok) : ((PySem.slicePicked z none none (some (-1, t))).filterMap (z.cps[·]?)).toArray = z.cps.toList.reverse.toArray := by
  unfold PySem.slicePicked Builtin.Str.strSliceIndices
  simp only [Option.map_none, Option.map_some, Option.getD_some, show ¬ ((-1 : Int) > 0) by decide, if_false]
  rw [show (z.length : Int) = ((z.cps.size : Nat) : Int) from rfl, PySem.W.krv_sliceRange, PySem.W.krv_range, List.filterMap_reverse, PySem.W.krv_all]
theorem pe_revS {e : Expr} {te : TE} {k : Nat} {p1 p2 p3 pos : Pos} (he : PE X e te) : PE X (.Subscript e (.Slice none none (some (.UnaryOp .USub (.Constant (.int 1) k p1) p2)) p3) pos) (tRevS te) := by
  refine ⟨fun pins s σ H Q I h => ?_⟩
  refine Subscript_ (thn (he.run pins s σ H _ I h) fun v s1 ⟨x, H1, I1, r1, q1⟩ => ?_)
  obtain ⟨z, ex, hz, q⟩ := q1
  subst ex
  obtain ⟨t, rfl⟩ := r1
  have stp : PO X (some (.UnaryOp .USub (.Constant (.int 1) k p1) p2)) (tPart (tUn (rU fun i => .int (-i)) (tC (.int 1)))) := po_some (pe_un un_neg pe_int)
  refine wpAny_Slice (thn (po_none.run pins s1 σ H1 (fun o H2 => o = none ∧ H2 = H1) I1 ⟨rfl, rfl⟩) fun vl s2 ⟨l, H2, I2, pl, el, e2⟩ => ?_)
  subst el; subst e2
  refine thn (po_none.run pins s2 σ H2 (fun o H3 => o = none ∧ H3 = H2) I2 ⟨rfl, rfl⟩) fun vu s3 ⟨u, H3, I3, pu, eu, e3⟩ => ?_
  subst eu; subst e3
  refine thn (stp.run pins s3 σ H3 (fun o H4 => o = some (-1) ∧ H4 = H3) I3 ⟨1, rfl, -1, rfl, rfl, rfl⟩) fun vs s4 ⟨o, H4, I4, ps, eo, e4⟩ => ?_
  subst eo; subst e4
  have I5 : Inv X pins σ H4 { s4 with heap := s4.heap.push { cls := .type "slice", data := .fields #[vl, vu, vs] } } := I4.kept (t' := s4.toks) fun b ob q => Heap.get?_push_of_some _ q
  cases pl; cases pu; cases ps
  rename_i tk _
  show wpAny (model X.prog X.w) X.A (subscriptTail e (.Slice none none (some (.UnaryOp .USub (.Constant (.int 1) k p1) p2)) p3) (.str z t) (.ref s4.heap.objs.size)) (EP X pins σ Q) X.xe _
  refine tail_any (ops := [.str z t, .ref s4.heap.objs.size]) (typeIs_str _ _ _) (PySem.F.slot_str_getitem.lookup) ?_ (by with_unfolding_all rfl)
  refine wpAny_getItem_str_slice (l := none) (u := none) (st := some (-1, tk)) (Heap.IsSliceOf.new _ _ _ _) rfl ?_
  have ne : ¬ ((((some (-1, tk) : Option (Int × Tok)).map (·.1)).getD 1 == 1 && (PySem.slicePicked z none none (some (-1, tk))).length == z.length) = true) := by
    show ¬ (((-1 : Int) == 1 && _) = true)
    simp
  unfold PySem.sliceMade
  rw [if_neg ne, picked_rev]
  refine ⟨?_, .str (revS z), H4, I5.tok _, ⟨_, rfl⟩, q⟩
  show z.cps.toList.reverse.toArray.size ≤ sizeLine
  rw [List.size_toArray, List.length_reverse, Array.length_toList]
  exact hz
end
end Kb

/-! ### own comparisons -/
namespace Kb
open PySem PySem.W PySem.Spec PyProof.Rows
section
variable {prog : Program} {w : World} {A : Around} {E : Value → Shared → Prop} {s : Shared} {K : Frag} {x C f L : Addr} {ox : Obj} {od : Option Obj} {h₀ : Heap} {m : Str → Option Value} {tb : Value}
theorem ifBound_B {M : Model} {name : Str} {id : String} {args : List Value} {Q : Option Value → Shared → Prop} (X : K.In s.heap) (I : InstAt s.heap x ox C od) (hs : findIn K (.ref C) name = some (some (.builtin id)))
    (hb : ∀ self, bindSpecial (.builtin id) self = pure (.builtin id, [self]))
    (h : wpAny M A (call (.builtin id) (.ref x :: args)) (fun v => Q (some v)) E s) : wpAny M A (callSpecialIfBound? (.ref x) name args) Q E s := by
  simp only [callSpecialIfBound?, bindSpecialIfBound?]
  refine wpAny_holding (wpAny_bind (wpAny_bind (wpAny_bind (I.type.here ((looks_findIn X hs).here ?_)))))
  refine wpAny_bind (wpAny_askSetting (wpAny_ite ?_))
  have fin : wpAny M A (call (.builtin id) ([.ref x] ++ args) >>= fun v => pure (some v)) Q E s := wpAny_bind (wpAny_mono h (fun v s' z => wpAny_pure z) fun _ _ z => z)
  split
  · exact wpAny_bind ((Looks.of_pure (hb _)).here (wpAny_pure (by exact fin)))
  · exact wpAny_tryCatch (wpAny_bind ((Looks.of_pure (hb _)).here (wpAny_pure (by exact fin))))
theorem check_slotI {i owner n : String} {self : Value} {rest : List Value} {kw : List (Str × Value)} {Q : Unit → Shared → Prop}
    (hk : builtinKind i = some .slot) (hs : splitId i = some (owner, n)) (hi : Looks (model prog w) s.heap (isInstance self (.type owner)) true) (ha : argsOk i ⟨self :: rest, kw⟩) (q : Q () s) :
    wpAny (model prog w) A (checkBuiltinCall i ⟨self :: rest, kw⟩) Q E s := by
  simp only [checkBuiltinCall, hk, hs]
  refine wpAny_bind (hi.here ?_)
  simp only [Bool.not_true, Bool.false_eq_true, if_false]
  cases hsig : Manifest.signature? i with
  | none => exact wpAny_pure q
  | some sig =>
    simp only [argsOk, hsig] at ha
    have h2 : Bind.checkArgs i sig ⟨self :: rest, kw⟩ = pure () := ha
    show wpAny _ A (Bind.checkArgs i sig ⟨self :: rest, kw⟩) Q E s
    rw [h2]; exact wpAny_pure q
theorem cmp_ne {b : Value} {Q : Value → Shared → Prop} (hu : A.units + 1 < cLine) (F : Fr h₀ L s.heap m) (X₀ : K.In h₀) (I : InstAt s.heap x ox C od) (hb : Looks (model prog w) s.heap (typeOf b) tb) (hn : notFirst K C tb = true)
    (hne : findIn K (.ref C) "__ne__" = some (some (.builtin "object.__ne__"))) (hm : subIn K (.ref C) (.type "object") = some true)
    (hs : findIn K (.ref C) "__eq__" = some (some (.ref f))) (hf : isFn K (.ref f) = true)
    (h : wpAny (model prog w) A.in1 (call (.ref f) [.ref x, b]) (fun v s' => ∃ k, v = .bool k ∧ Q (.bool (!k)) s') E s) : wpAny (model prog w) A (richCompare .NotEq (.ref x) b) Q E s := by
  have X := X₀.keeps F.keep
  have bs : ∀ self, bindSpecial (.builtin "object.__ne__") self = pure (.builtin "object.__ne__", [self]) := fun self => by with_unfolding_all rfl
  have isi : Looks (model prog w) s.heap (isInstance (.ref x) (.type "object")) true := by
    unfold isInstance
    exact I.type.andThen (looks_subIn X hm)
  have one : wpAny (model prog w) A (tryCompare (.ref x) (cmpInfo .NotEq).2.1 b) (fun r s' => ∃ v, r = some v ∧ Q v s') E s := by
    unfold tryCompare
    refine wpAny_bind (ifBound_B (id := "object.__ne__") X I hne bs ?_)
    refine wpAny_call (codeAny_call_builtin (by decide +kernel) PySem.F.cmpEntry_ne (check_slotI PySem.F.cmpKind_ne PySem.F.cmpSplit_ne isi (PySem.F.cmpArgs_ne _ _) ?_))
    unfold Builtin.«object.__ne__»
    have hu2 : A.in1.units < cLine := hu
    repeat (first
      | with_reducible refine wpAny_cRoomFor hu2 ?_
      | refine wpAny_bind (m := callSpecialIfBound? (.ref x) (Str.ofString "__eq__") [b]) (ifBound_K X I hs hf (wpAny_mono h (fun r s' hr => ?_) fun _ _ e => e))
      | wp_step)
    obtain ⟨k, rfl, hq⟩ := hr
    repeat (first | exact ⟨_, rfl, wpAny_pure hq⟩ | exact ⟨_, rfl, hq⟩ | exact hq | exact wpAny_pure hq | (refine wpAny_bind (m := truthy (.bool _)) (wpAny_truthy_bool ?_)) | wp_step)
  unfold richCompare
  simp only [oneThing_ref]
  refine wpAny_holding (wpAny_bind (wpAny_cRoomFor (by omega) ?_))
  refine wpAny_bind (I.type.here (wpAny_bind (hb.here ?_)))
  have fin : wpAny (model prog w) A (tryCompare (.ref x) (cmpInfo .NotEq).2.1 b) (fun r s' => ∃ v, r = some v ∧ Q v s') E s := one
  split
  · rename_i q
    have e : subIn K tb (.ref C) = some false := by
      rcases Bool.or_eq_true_iff.mp hn with e | e
      · rw [beq_iff_eq.mp e] at q; simp at q
      · exact beq_iff_eq.mp e
    refine wpAny_bind ((looks_subIn X e).here ?_)
    simp only [Bool.false_eq_true, if_false]
    refine wpAny_bind (wpAny_mono fin (fun r s' z => ?_) fun _ _ e => e)
    obtain ⟨v, rfl, hq⟩ := z
    exact wpAny_pure hq
  · refine wpAny_bind (wpAny_pure ?_)
    simp only [Bool.false_eq_true, if_false]
    refine wpAny_bind (wpAny_mono fin (fun r s' z => ?_) fun _ _ e => e)
    obtain ⟨v, rfl, hq⟩ := z
    exact wpAny_pure hq
end
end Kb

/-! ### methods of own classes, own comparisons, repr, defs that ask for the guards -/
namespace Kb
open PySem PySem.Spec PyProof.Rows L2
/-- a method of the class at C -/
structure MtC (P : Program) (w : World) (K : PySem.W.Frag) (mg : Str → Option Value) (base : Heap) (CX : CXT) (k : Nat) (C : Addr) (m : Str) (ps : List Str) (sp : Sp) : Prop where
  ex : ∃ (f : Addr) (fd : FuncData), FnOk P w K mg base CX k f fd ps sp ∧ Meth K C m f ∧ Binds K fd ps []
/-- how the class at C is made -/
structure MkC (P : Program) (w : World) (K : PySem.W.Frag) (mg : Str → Option Value) (base : Heap) (CX : CXT) (k : Nat) (C : Addr) (x : Str) (ps : List Str) (sp : Sp) : Prop where
  ex : ∃ (f : Addr) (fd : FuncData), FnOk P w K mg base CX k f fd ps sp ∧ Mk K C f ∧ mg x = some (.ref C) ∧ Binds K fd ps []
section
variable {X : Cx} {k : Nat} {x m : Str} {C : Addr} {ps : List Str} {sp : Sp} {e o : Expr} {es : List Expr} {t : TA} {ta : TE} {p pos apos : Pos}
theorem pe_makeC (F : MkC X.prog X.w X.K X.mg X.base CX0 k C x ps sp) (hr : Room (k + 1) X.A) (hg : Gl X x) (ha : PA X (e :: es) t) (hdb : (x == ("__debug__" : Str)) = false := by decide)
    (he : starEach (e :: es) X.env = (false, eval e X.env) :: starEach es X.env := by rfl) (hpl : (backTo pos (starEach es X.env)).any (·.1) = false := by rfl) :
    PE X (.Call (.Name x p) (e :: es) [] pos) (tMake C sp [] E0 t) := by
  obtain ⟨f, fd, h, M, hm, hb⟩ := F.ex
  exact pe_make M h hr hg hm hb .nil pass0 ha hdb he hpl
/-- x op y by the class's own def -/
def rOwnI (K : PySem.W.Frag) (C : Addr) (sp : Sp) (E : XK) : R2 := fun x y H Q => ∃ (a dx : Addr) (fs : List (Str × V)) (t : Value), x = .ref a ∧ H a = some (.ins C dx fs) ∧ TyX K H y t ∧ PySem.W.notFirst K C t = true ∧ sp [x, y] H Q E
theorem op_ownI {op : CmpOp} (hop : ∀ a b, compareOp op a b = richCompare op a b) (F : MtC X.prog X.w X.K X.mg X.base CX0 k C (cmpInfo op).2.1 ps sp) (hr : Room k X.A) : OpR X (compareOp op) (rOwnI X.K C sp E0) := by
  intro pins s σ H x y v u Q I rx ry h
  obtain ⟨a, dx, fs, ty, rfl, ha, hty, hn, q⟩ := h
  obtain ⟨f, fd, hf, M, hb⟩ := F.ex
  cases (show v = Value.ref a from rx)
  obtain ⟨mA, O, _⟩ := ins_get I.hok ha
  obtain ⟨od, J, _⟩ := O.look
  obtain ⟨P, Z, hP, _⟩ := kit_of I ry hty
  obtain ⟨m, hF⟩ := I.fr
  rw [hop]
  refine PySem.W.cmp_K (op := op) (tb := ty) hr.units0 hF I.ok.mod.kin J (Z.ty _ _ I.kIn hP) hn M.at_ M.fn ?_
  refine wpAny_mono (run_fn (us := [.ref a, u]) (vs := [.ref a, y]) hf hr hb .nil pass0 I (.cons rfl (.cons ry .nil)) q) (fun w s' z => ?_) fun _ _ z => z
  obtain ⟨z', H', I', rz, qz⟩ := z
  exact SlX.cmpback rz ⟨z', H', I', rz, qz⟩
/-- x != y by the class's own == alone -/
def rOwnNe (K : PySem.W.Frag) (C : Addr) (sp : Sp) : R2 := fun x y H Q => ∃ (a dx : Addr) (fs : List (Str × V)) (t : Value), x = .ref a ∧ H a = some (.ins C dx fs) ∧ TyX K H y t ∧ PySem.W.notFirst K C t = true ∧ sp [x, y] H (fun z H' => ∃ b, z = .bl b ∧ Q (.bl (!b)) H') E0
theorem op_neI (F : MtC X.prog X.w X.K X.mg X.base CX0 k C "__eq__" ps sp) (hne : PySem.W.findIn X.K (.ref C) "__ne__" = some (some (.builtin "object.__ne__"))) (hm : PySem.W.subIn X.K (.ref C) (.type "object") = some true) (hr : Room (k + 1) X.A) : OpR X (compareOp .NotEq) (rOwnNe X.K C sp) := by
  intro pins s σ H x y v u Q I rx ry h
  obtain ⟨a, dx, fs, ty, rfl, ha, hty, hn, q⟩ := h
  obtain ⟨f, fd, hf, M, hb⟩ := F.ex
  cases (show v = Value.ref a from rx)
  obtain ⟨mA, O, _⟩ := ins_get I.hok ha
  obtain ⟨od, J, _⟩ := O.look
  obtain ⟨P, Z, hP, _⟩ := kit_of I ry hty
  obtain ⟨m, hF⟩ := I.fr
  show wpAny _ _ (richCompare .NotEq (.ref a) u) _ _ _
  refine cmp_ne (tb := ty) (by have := hr.un; omega) hF I.ok.mod.kin J (Z.ty _ _ I.kIn hP) hn hne hm M.at_ M.fn ?_
  have r2 : Vals ([V.ref a, y] ++ []) ([Value.ref a, u] ++ []) := .cons rfl (.cons ry .nil)
  have q' : sp ([V.ref a, y] ++ []) H (fun z H' => ∃ b, z = .bl b ∧ Q (.bl (!b)) H') E0 := q
  have hl : ([Value.ref a, u] ++ []).length = ps.length := by rw [← r2.length]; exact hf.len _ _ _ _ q'
  refine wpAny_call (codeAny_mono (hf.run X.A.in1 X.stack s H ⟨[.ref a, u], []⟩ ([.ref a, u] ++ []) ([.ref a, y] ++ []) _ E0 hr.in1 I.env0.in1 (hb s _ I.kIn hl) r2 q') fun r s' hq => ?_)
  cases r with
  | error e => exact (show False from hq).elim
  | ok fl =>
    cases fl with
    | ret w =>
      obtain ⟨z, H', I', rz, b, eb, qz⟩ := I.after hq
      subst eb
      cases (show w = Value.bool b from rz)
      exact ⟨b, rfl, .bl (!b), H', I', rfl, qz⟩
    | next => exact False.elim hq
    | brk => exact False.elim hq
    | cont => exact False.elim hq
/-! ### repr of data -/
theorem call_reprD (hg : X.A.guards = some []) (hr : Room k X.A) : CallR X (.builtin "repr") (fun xs H Q => ∃ x d, xs = [x] ∧ Dp X.K H x d ∧ d.showable = true ∧ d.hasDict = false ∧ d.depth ≤ 100 ∧ d.shown.length ≤ sizeLine ∧ Q (.str d.shown) H) := by
  intro pins s σ H xs us Q I r h
  obtain ⟨x, d, rfl, hd, hs, hn, hdp, hl, q⟩ := h
  obtain ⟨u, rfl, ru⟩ := r.one
  obtain ⟨as, hR⟩ := Dp.reads I d x u hd ru
  have hu := hr.un
  cases hd with
  | non =>
    cases (show u = Value.none from ru)
    exact PySem.P.repr_of_none ⟨.str _, H, I.tok _, ⟨_, rfl⟩, q⟩
  | bl b =>
    cases (show u = Value.bool b from ru)
    exact PySem.P.repr_of_bool ⟨.str _, H, I.tok _, ⟨_, rfl⟩, by cases b <;> exact q⟩
  | int i => 
    obtain ⟨t, rfl⟩ := ru
    exact PySem.P.repr_of_int (of_decide_eq_true hs) ⟨.str _, H, I.tok _, ⟨_, rfl⟩, q⟩
  | str z =>
    obtain ⟨t, rfl⟩ := ru
    exact PySem.P.repr_of_str ⟨.str _, H, I.tok _, ⟨_, rfl⟩, q⟩ hl
  | @lst a ys ds h1 h2 =>
    cases (show u = Value.ref a from ru)
    exact PySem.repr_of_reads' hR hs (PySem.PyData.noDict_hsm hn) hg (by omega) (fun _ _ e => e) (fun h' t tk k => ⟨.str _, H, I.kept (t' := tk) k, ⟨_, rfl⟩, q⟩) hl
  | @tup a ys ds h1 h2 =>
    cases (show u = Value.ref a from ru)
    exact PySem.repr_of_reads' hR hs (PySem.PyData.noDict_hsm hn) hg (by omega) (fun _ _ e => e) (fun h' t tk k => ⟨.str _, H, I.kept (t' := tk) k, ⟨_, rfl⟩, q⟩) hl
end
end Kb

/-! ### defs that ask that no repr is under way -/
namespace Kb
open PySem PySem.Spec PyProof.Rows L2
structure FnOkG (P : Program) (w : World) (K : PySem.W.Frag) (mg : Str → Option Value) (base : Heap) (CX : CXT) (k : Nat) (f : Addr) (fd : FuncData) (ps : List Str) (sp : Sp) : Prop where
  len : ∀ vs H Q E, sp vs H Q E → vs.length = ps.length
  run : ∀ (A : Around) (outer : List Env) (s : Shared) (H : Hp) (ar : Args) (us : List Value) (vs : List V) (Q : VK) (E : XK), A.guards = some [] → Room k A → Env0 P w K mg base A outer s H → BindsTo s fd ar (ps.zip us) → Vals vs us → sp vs H Q E →
    codeAny (model P w) A (.call (.ref f) ar) (CR CX outer P w H s Q E) s
theorem FnOkG.of {P : Program} {w : World} {K : PySem.W.Frag} {mg : Str → Option Value} {base : Heap} {CX : CXT} {k : Nat} {f : Addr} {fd : FuncData} {ps : List Str} {sp : Sp} (F : FnOk P w K mg base CX k f fd ps sp) : FnOkG P w K mg base CX k f fd ps sp :=
  ⟨F.len, fun A o s H ar us vs Q E _ => F.run A o s H ar us vs Q E⟩
section
variable {CX : CXT} {P : Program} {w : World} {K : PySem.W.Frag} {mg : Str → Option Value} {base : Heap} {k : Nat} {f : Addr} {name qual : Str} {N ps : List Str} {sp : Sp} {st : Stmt} {fd : FuncData}
theorem okG (F : Fun K name qual st f fd) (S : FnScope N ps (defScope st)) (hlen : ∀ vs H Q E, sp vs H Q E → vs.length = ps.length)
    (hb : ∀ (cdv : Value) (A : Around) (outer : List Env) (s : Shared) (H : Hp) (vs : List V) (Q : VK) (E : XK), (A.deeper (envOfC qual (defScope st) s.heap.objs.size f cdv)).guards = some [] → Room k (A.deeper (envOfC qual (defScope st) s.heap.objs.size f cdv)) → sp vs H Q E →
      ∃ t, PSs (cxOf CX P w K mg base N qual (defScope st) f cdv A outer s H E) (defBody st) t ∧ t { nx := fun _ H' => Q .non H', rt := Q } (start N vs) H) :
    FnOkG P w K mg base CX (k + 1) f fd ps sp := by
  obtain ⟨oc, od, kV, doc, pm, an, cdv, ct, osl, rfl, lk, hcd⟩ := F.ex
  refine ⟨hlen, fun A outer s H ar us vs Q E hg hr e0 hbi r hsp => ?_⟩
  have hl := hlen _ _ _ _ hsp
  have KX : K.In s.heap := e0.mod.kin.keeps fun b o z => (e0.bs b o z).1
  have nl : s.heap.NoLimit := e0.mod.nolimit.keeps fun b o z => (e0.bs b o z).1
  have kinds : ∀ y ∈ ps.zip us, (defScope st).names.lookup y.1 = some .local ∨ ((defScope st).names.lookup y.1 = some .cell ∧ ((cellsFrom (s.heap.objs.size + 1) (defScope st).names []).lookup y.1).isSome = true) := fun ⟨n, v⟩ hy =>
    (S.par n (List.of_mem_zip hy).1).elim (fun q => .inl q) fun q => .inr ⟨q, PySem.W.cellsFrom_some _ _ _ (.inl q)⟩
  refine codeAny_call_function (Room.depth hr) (KX _ _ lk) rfl S.co S.gen rfl (PySem.W.codeRec_of KX hcd) (hbi _ _ _ _ ?_)
  refine wpAny_newFunctionEnv_cells (S.kind) kinds fun env he s1 x => ?_
  subst he
  refine ⟨nl.keeps x.toInCall.keep, codeAny_func ?_⟩
  obtain ⟨t, ht, hq⟩ := hb cdv A outer s H vs Q E hg (hr.deeper _) hsp
  have I := inv_start (CX := CX) (E := E) S hr.hd e0 hl r x
  refine wpAny_mono (ht.run [] s1 (start N vs) H _ I hq) (fun fl s' hs => ?_) fun _ _ z => z
  cases fl with
  | ret u =>
    obtain ⟨v, σ', H', J, rv, q⟩ := hs
    exact ⟨v, H', J.os, J.bare, J.base, J.hok, rv, q⟩
  | next =>
    obtain ⟨σ', H', J, q⟩ := hs
    exact ⟨.non, H', J.os, J.bare, J.base, J.hok, rfl, q⟩
  | brk =>
    obtain ⟨_, _, _, q⟩ := hs
    exact q.elim
  | cont =>
    obtain ⟨_, _, _, q⟩ := hs
    exact q.elim
end
structure FnG (P : Program) (w : World) (K : PySem.W.Frag) (mg : Str → Option Value) (base : Heap) (CX : CXT) (k : Nat) (x : Str) (ps : List Str) (sp : Sp) : Prop where
  ex : ∃ (f : Addr) (fd : FuncData), FnOkG P w K mg base CX k f fd ps sp ∧ mg x = some (.ref f) ∧ PySem.W.keepIn K (.ref f) = true ∧ Binds K fd ps []
section
variable {X : Cx} {CX : CXT} {k : Nat} {x : Str} {ps : List Str} {sp : Sp} {e : Expr} {es : List Expr} {t : TA} {p pos : Pos}
theorem pe_callG (F : FnG X.prog X.w X.K X.mg X.base CX0 k x ps sp) (hgd : X.A.guards = some []) (hr : Room k X.A) (hg : Gl X x) (ha : PA X (e :: es) t) (hdb : (x == ("__debug__" : Str)) = false := by decide)
    (he : starEach (e :: es) X.env = (false, eval e X.env) :: starEach es X.env := by rfl) (hpl : (backTo pos (starEach es X.env)).any (·.1) = false := by rfl) :
    PE X (.Call (.Name x p) (e :: es) [] pos) (tCall sp [] E0 t) := by
  obtain ⟨f, fd, hf, hm, hk, hb⟩ := F.ex
  refine ⟨fun pins s σ H Q I h => ?_⟩
  refine wpAny_Call_Name_kw (ld_glob I hg hm ?_ hdb)
  refine PySem.W.callWith_K (h₀ := X.base) I.ok.mod.kin hk (thn (ha.run pos pins s σ H _ I h) fun us s1 ⟨vs, H1, I1, r, q⟩ => ⟨I1.kIn, ?_⟩) he hpl
  have r2 : Vals (vs ++ []) (us ++ []) := r.append .nil
  have hl : (us ++ []).length = ps.length := by rw [← r2.length]; exact hf.len _ _ _ _ q
  refine wpAny_call (codeAny_mono (hf.run X.A X.stack s1 H1 ⟨us, []⟩ (us ++ []) (vs ++ []) Q E0 hgd hr I1.env0 (hb s1 us I1.kIn hl) r2 q) fun r s' hq => ?_)
  cases r with
  | error e => exact (show False from hq).elim
  | ok fl => cases fl with
    | ret u => exact I1.after hq
    | next => exact (show False from hq).elim
    | brk => exact (show False from hq).elim
    | cont => exact (show False from hq).elim
end
/-! ### the end for a law that asks for the guards -/
theorem lawG {P : Program} {w : World} {K : PySem.W.Frag} {mg mb : Str → Option Value} {k : Nat} {fa a : Addr} {fd : FuncData} {x : Str} {sp : Sp} {s₁ : Shared} {vs : List Value} {ns : List Int}
    (KX : K.In s₁.heap) (hns : s₁.heap.Ns mainGlobals mg) (hbn : s₁.heap.Ns builtinsNs mb) (hbb : ∀ x : Str, x ≠ "__name__" → mb x = bootBuiltins x) (nl : s₁.heap.NoLimit) (hg : s₁.gens = #[])
    (ha : s₁.heap.get? a = some { cls := .type "list", data := .seq vs.toArray }) (hi : IntsAre vs ns) (hl : ns.length ≤ sizeLine) (hr : Room k callerA)
    (F : ∀ base : Heap, K.In base → base.Ns mainGlobals mg → FnOkG P w K mg base CX0 k fa fd [x] sp) (bd : ∀ (s : Shared) (u : Value), BindsTo s fd ⟨[u], []⟩ [(x, u)])
    (hsp : ∀ H : Hp, Only H → SqL K H a (ns.map V.int) → sp [.ref a] H (fun v _ => v = .bl true) E0) :
    codeAny (model P w) callerA (.call (.ref fa) ⟨[.ref a], []⟩) (fun r s' => r = .ok (.ret (.bool true)) ∧ OldK s₁.heap s'.heap ∧ s'.os = s₁.os ∧ AllBare s'.gens) s₁ := by
  have rv := vals_ints hi
  have core : ∀ H : Hp, Only H → SqL K H a (ns.map V.int) → HOk P w H s₁.heap → (∀ b, H b ≠ none → b = a) → (H a ≠ none → K.lookup a = none) →
      codeAny (model P w) callerA (.call (.ref fa) ⟨[.ref a], []⟩) (fun r s' => r = .ok (.ret (.bool true)) ∧ OldK s₁.heap s'.heap ∧ s'.os = s₁.os ∧ AllBare s'.gens) s₁ := by
    intro H hO hS hok hA hK
    have free : ∀ {b : Addr} {o : Obj} {es : Array DictEntry} {ep : Nat}, s₁.heap.get? b = some o → o.data = .dict es ep → H b = none := fun {b o es ep} e d => Classical.byContradiction fun z => by
      have e' := hA b z
      subst e'
      rw [ha] at e; cases e
      exact nomatch (show Data.seq vs.toArray _ = Data.dict es ep from d)
    have nsK : ∀ {b : Addr} {m : Str → Option Value}, s₁.heap.Ns b m → (hidT s₁.heap H).Ns b m := fun {b m} ⟨o, es, ep, e, d, r⟩ => ⟨o, es, ep, hidT_get e (free e d), d, r⟩
    have hKb : K.In (hidT s₁.heap H) := fun b o e => hidT_get (KX b o e) (Classical.byContradiction fun z => by
      have e' := hA b z
      subst e'
      rw [hK z] at e; cases e)
    have hM : Mod K mg (hidT s₁.heap H) := ⟨hKb, nsK hns, ⟨mb, nsK hbn, hbb⟩, nl.elim fun mc z => ⟨mc, nsK z.1, z.2⟩⟩
    have e0 : Env0 P w K mg (hidT s₁.heap H) callerA [] s₁ H := ⟨rfl, hM, fun b o e => of_hidT e, Nat.le_of_eq (hidT_size _ _), trivial, fun b hb => (List.not_mem_nil hb).elim, hok, .of_eq hg⟩
    refine codeAny_mono ((F _ hKb (nsK hns)).run callerA [] s₁ H ⟨[.ref a], []⟩ [.ref a] [.ref a] _ _ rfl hr e0 (bd s₁ (.ref a)) (.cons rfl .nil) (hsp H hO hS)) fun r s' z => ?_
    cases r with
    | error e => exact (show False from z).elim
    | ok fl => cases fl with
      | next => exact (show False from z).elim
      | brk => exact (show False from z).elim
      | cont => exact (show False from z).elim
      | ret u =>
        obtain ⟨v, H', os, bare, un, hok', r', q⟩ := z
        cases (show v = V.bl true from q)
        cases (show u = Value.bool true from r')
        refine ⟨rfl, OldK.of_keep fun b o e => ?_, os, bare⟩
        rcases hO b with q | ⟨ob, xs, q⟩
        · exact un.keep b o e q (fun z => (List.not_mem_nil z).elim) (fun z => (List.not_mem_nil z).elim)
        · have e1 := (hok b _ q).1
          have e2 := (hok' b _ (un.frzs b ob _ q)).1
          rw [e] at e1; cases e1
          exact e2
  cases hk : K.lookup a with
  | some o =>
    have e := KX a o hk
    rw [ha] at e
    cases e
    exact core (fun _ => none) (fun _ => .inl rfl) (.inr ⟨_, vs.toArray, _, hk, rfl, rfl, rfl, by rw [List.size_toArray, hi.length]; exact hl, by simpa using rv⟩) (fun b u z => nomatch z) (fun b z => absurd rfl z) fun z => absurd rfl z
  | none =>
    refine core (fun b => if b = a then some (.frz { cls := .type "list", data := .seq vs.toArray } (.lst (ns.map V.int))) else none) (fun b => ?_) (.inl (.inr ⟨_, if_pos rfl⟩)) (fun b u z => ?_) (fun b z => Classical.byContradiction fun c => z (if_neg c)) fun _ => hk
    · by_cases c : b = a
      · exact .inr ⟨_, _, if_pos c⟩
      · exact .inl (if_neg c)
    · by_cases c : b = a
      · have z := (if_pos c).symm.trans z
        cases z
        subst c
        exact ⟨ha, by rw [List.length_map]; exact hl, vs, _, rv, ha⟩
      · have z := (if_neg c).symm.trans z
        cases z
theorem walk_ofG {l : PySem.W.OpenLaw} {n k : Nat} {q : Program} {loose : List Str} {XP : (Str → Option Value) → Heap → Prop} {YP : World → Heap → Prop} {d : DefRec} {K : Params → PySem.W.Frag} {sp : PySem.W.Frag → Sp} {x : Str}
    (hn : l.most = some n) (hn2 : n ≤ sizeLine) (hdf : d.params.defaults = []) (hr : Room k callerA) (hY : ∀ (w : World) (h : Heap), YP w h → (K w.params).In h)
    (F : ∀ (w : World) (mg : Str → Option Value) (fa : Addr) (h : Heap), (K w.params).In h → h.Ns mainGlobals mg → mg d.name = some (.ref fa) →
      ∃ fd : FuncData, (∀ (s : Shared) (u : Value), BindsTo s fd ⟨[u], []⟩ [(x, u)]) ∧ ∀ base : Heap, (K w.params).In base → base.Ns mainGlobals mg → FnOkG l.prog w (K w.params) mg base CX0 k fa fd [x] (sp (K w.params)))
    (hsp : ∀ (K : PySem.W.Frag) (H : Hp) (a : Addr) (ns : List Int), ns.length ≤ n → Only H → SqL K H a (ns.map V.int) → sp K [.ref a] H (fun v _ => v = .bl true) E0) :
    PySem.W.WalkO q loose XP YP l.row.toRowW d [] (fun f vs => PySem.call f vs) := by
  refine Att.attach_call hn hdf fun w s₀ s₁ mg mb fa o pm cd doc a vs ns G Y ho hd hcd hmg hobj hints hlen hg => ?_
  have KX := hY w _ Y
  obtain ⟨fd, hb, hF⟩ := F w mg fa _ KX G.T.g hmg
  exact lawG KX G.T.g G.T.b G.T.builtins G.T.nolimit hg hobj hints (Nat.le_trans hlen hn2) hr hF hb fun H hO hS => hsp (K w.params) H a ns hlen hO hS
end Kb

/-! ### own errors, defs that refuse, calls at the slots, clauses with and without a name -/
namespace Kb
open PySem PySem.Spec PyProof.Rows L2 ClX
def calm (sp : Sp) : Sp := fun vs H Q _ => sp vs H Q E0
theorem fn_calm {P : Program} {w : World} {K : PySem.W.Frag} {mg : Str → Option Value} {base : Heap} {k : Nat} {f : Addr} {fd : FuncData} {ps : List Str} {sp : Sp} (F : FnOk P w K mg base (L2.CX P w) k f fd ps sp) : FnOk P w K mg base CX0 k f fd ps (calm sp) := by
  refine ⟨fun vs H Q E h => F.len vs H Q E0 h, fun A outer s H ar us vs Q E hr e0 hb r h => codeAny_mono (F.run A outer s H ar us vs Q E0 hr e0 hb r h) fun rs s' z => ?_⟩
  cases rs with
  | ok fl => cases fl <;> exact z
  | error e =>
    obtain ⟨_, _, _, _, _, _, _, _, _, _, _, _, q⟩ := z
    exact (show False from q).elim
theorem FnC.calm {P : Program} {w : World} {K : PySem.W.Frag} {mg : Str → Option Value} {base : Heap} {k : Nat} {x : Str} {ps : List Str} {sp : Sp} (F : FnC P w K mg base (L2.CX P w) k x ps sp) : FnC P w K mg base CX0 k x ps (Kb.calm sp) :=
  let ⟨f, fd, h, r⟩ := F.ex
  ⟨f, fd, fn_calm h, r⟩
theorem MkC.calm {P : Program} {w : World} {K : PySem.W.Frag} {mg : Str → Option Value} {base : Heap} {k : Nat} {C : Addr} {x : Str} {ps : List Str} {sp : Sp} (F : MkC P w K mg base (L2.CX P w) k C x ps sp) : MkC P w K mg base CX0 k C x ps (Kb.calm sp) :=
  let ⟨f, fd, h, r⟩ := F.ex
  ⟨f, fd, fn_calm h, r⟩
theorem MtC.calm {P : Program} {w : World} {K : PySem.W.Frag} {mg : Str → Option Value} {base : Heap} {k : Nat} {C : Addr} {m : Str} {ps : List Str} {sp : Sp} (F : MtC P w K mg base (L2.CX P w) k C m ps sp) : MtC P w K mg base CX0 k C m ps (Kb.calm sp) :=
  let ⟨f, fd, h, r⟩ := F.ex
  ⟨f, fd, fn_calm h, r⟩

/-! ### calls that may raise, at the slots -/
def tMakeS (C : Addr) (sp : Sp) (E : L2.St → XK) (t : TA) : TE := fun σ H Q => t σ H fun vs H1 => ∀ x dx, H1 x = none → H1 dx = none → dx ≠ x →
  sp (.ref x :: vs) (upd (upd H1 dx (.own x)) x (.ins C dx [])) (fun v H2 => v = .non ∧ Q (.ref x) H2) (E σ)
section
variable {X : Cx} {k : Nat} {x m : Str} {f C : Addr} {fd : FuncData} {ps : List Str} {sp : Sp} {W : WX} {e o : Expr} {es : List Expr} {t : TA} {ta : TE} {p pos apos : Pos}
theorem pe_callSC (F : FnC X.prog X.w X.K X.mg X.base (L2.CX X.prog X.w) k x ps sp) (hr : Room k X.A) (tk : Takes X W) (hg : Gl X x) (ha : PA X (e :: es) t) (hdb : (x == ("__debug__" : Str)) = false := by decide)
    (he : starEach (e :: es) X.env = (false, eval e X.env) :: starEach es X.env := by rfl) (hpl : (backTo pos (starEach es X.env)).any (·.1) = false := by rfl) :
    PE X (.Call (.Name x p) (e :: es) [] pos) (tCallS sp (WE W) t) := by
  obtain ⟨f, fd, h, hm, hk, hb⟩ := F.ex
  exact pe_callS h hr hg hm hk hb (passAt tk) ha hdb he hpl
theorem run_makeS {CX : CXT} {E : XK} {pins : List (Addr × Obj)} {σ : L2.St} {H : Hp} {s : Shared} {Q : VK} {us : List Value} {vs : List V} (M : Mk X.K C f) (F : FnOk X.prog X.w X.K X.mg X.base CX k f fd ps sp) (hr : Room (k + 1) X.A) (hb : Binds X.K fd ps [])
    (hx : ∀ (pins : List (Addr × Obj)) (H' : Hp) (s : Shared) (e : Value) (s' : Shared), Inv X pins σ H' s → CX X.stack H' s E e s' → X.xe e s') (I : Inv X pins σ H s) (r : Vals vs us)
    (h : ∀ x dx, H x = none → H dx = none → dx ≠ x → sp (.ref x :: vs) (upd (upd H dx (.own x)) x (.ins C dx [])) (fun v H2 => v = .non ∧ Q (.ref x) H2) E) :
    wpAny (model X.prog X.w) X.A (call (.ref C) us) (EP X pins σ Q) X.xe s := by
  have hq := h (s.heap.objs.size + 1) s.heap.objs.size (I.hok.fresh (Nat.le_succ _)) (I.hok.fresh (Nat.le_refl _)) (Nat.ne_of_lt (Nat.lt_succ_self _))
  have I2 := Inv.made (C := C) I
  have r2 : Vals (V.ref (s.heap.objs.size + 1) :: vs) (Value.ref (s.heap.objs.size + 1) :: us) := .cons rfl r
  have hl : (Value.ref (s.heap.objs.size + 1) :: us).length = ps.length := by
    have e := r2.length
    rw [F.len _ _ _ _ hq] at e
    exact e.symm
  have b := hb _ (Value.ref (s.heap.objs.size + 1) :: us) I2.kIn (by rw [List.append_nil]; exact hl)
  rw [List.append_nil] at b
  refine wpAny_call (make_map (f := f) I.kIn M.makes M.init (beq_iff_eq.mp M.fn) (codeAny_mono (F.run _ X.stack _ _ ⟨Value.ref (s.heap.objs.size + 1) :: us, []⟩ (Value.ref (s.heap.objs.size + 1) :: us) _ _ E (hr.make C us [])
    (I2.env0.make C us []) b r2 hq) fun r s' hq' => ?_))
  cases r with
  | error e => exact hx pins _ _ e s' I2 hq'
  | ok fl =>
    cases fl with
    | ret u =>
      obtain ⟨v, H', I3, rv, ev, q3⟩ := I2.after hq'
      subst ev
      exact ⟨rv, ⟨V.ref (s.heap.objs.size + 1), H', I3, rfl, q3⟩⟩
    | next => exact False.elim hq'
    | brk => exact False.elim hq'
    | cont => exact False.elim hq'
theorem pe_makeS (F : MkC X.prog X.w X.K X.mg X.base (L2.CX X.prog X.w) k C x ps sp) (hr : Room (k + 1) X.A) (tk : Takes X W) (hg : Gl X x) (ha : PA X (e :: es) t) (hdb : (x == ("__debug__" : Str)) = false := by decide)
    (he : starEach (e :: es) X.env = (false, eval e X.env) :: starEach es X.env := by rfl) (hpl : (backTo pos (starEach es X.env)).any (·.1) = false := by rfl) :
    PE X (.Call (.Name x p) (e :: es) [] pos) (tMakeS C sp (WE W) t) := by
  obtain ⟨f, fd, h, M, hm, hb⟩ := F.ex
  refine ⟨fun pins s σ H Q I hh => ?_⟩
  refine wpAny_Call_Name_kw (ld_glob I hg hm ?_ hdb)
  refine PySem.W.callWith_K (h₀ := X.base) I.ok.mod.kin M.kp (thn (ha.run pos pins s σ H _ I hh) fun us s1 ⟨vs, H1, I1, r, q⟩ => ⟨I1.kIn, ?_⟩) he hpl
  exact run_makeS M h hr hb (fun pins H s e s' I z => passAt tk σ pins H s e s' I z) I1 r q
/-- cls(..), the i-th slot holds the class at C -/
def tMakeL (i : Nat) (C : Addr) (sp : Sp) (E : L2.St → XK) (t : TA) : TE := fun σ H Q => σ[i]? = some (some (.ref C)) ∧ tMakeS C sp E t σ H Q
theorem pe_makeL {i : Nat} {y : Str} (F : MkC X.prog X.w X.K X.mg X.base (L2.CX X.prog X.w) k C y ps sp) (hr : Room (k + 1) X.A) (tk : Takes X W) (hN : X.N[i]? = some x) (hv : Vis X.env.scope x) (ha : PA X (e :: es) t)
    (hdb : (x == ("__debug__" : Str)) = false := by decide) (hcd : (x == ("__classdict__" : Str)) = false := by decide)
    (he : starEach (e :: es) X.env = (false, eval e X.env) :: starEach es X.env := by rfl) (hpl : (backTo pos (starEach es X.env)).any (·.1) = false := by rfl) :
    PE X (.Call (.Name x p) (e :: es) [] pos) (tMakeL i C sp (WE W) t) := by
  obtain ⟨f, fd, h, M, hm, hb⟩ := F.ex
  refine ⟨fun pins s σ H Q I hh => ?_⟩
  obtain ⟨hs, ht⟩ := hh
  refine wpAny_Call_Name_kw (thn ((pe_var (pos := p) hN hv hdb hcd).run pins s σ H (fun v H1 => v = .ref C ∧ H1 = H) I ⟨.ref C, hs, rfl, rfl⟩) fun u s1 ⟨v, H1, I1, r1, q1⟩ => ?_)
  obtain ⟨rfl, rfl⟩ := q1
  cases r1
  refine PySem.W.callWith_K (h₀ := X.base) I.ok.mod.kin M.kp (thn (ha.run pos pins s1 σ _ _ I1 ht) fun us s2 ⟨vs, H2, I2, r, q⟩ => ⟨I2.kIn, ?_⟩) he hpl
  exact run_makeS M h hr hb (fun pins H s e s' I z => passAt tk σ pins H s e s' I z) I2 r q
/-- a classmethod of the class at C, its name x -/
structure CmC (P : Program) (w : World) (K : PySem.W.Frag) (mg : Str → Option Value) (base : Heap) (CX : CXT) (k : Nat) (C : Addr) (x m : Str) (ps : List Str) (sp : Sp) : Prop where
  ex : ∃ (f q : Addr) (fd : FuncData), FnOk P w K mg base CX k f fd ps sp ∧ CRead K C (.type "type") ∧ CMet K C (.type "type") m q f ∧ mg x = some (.ref C) ∧ Binds K fd ps []
theorem CmC.calm {P : Program} {w : World} {K : PySem.W.Frag} {mg : Str → Option Value} {base : Heap} {k : Nat} {C : Addr} {x m : Str} {ps : List Str} {sp : Sp} (F : CmC P w K mg base (L2.CX P w) k C x m ps sp) : CmC P w K mg base CX0 k C x m ps (Kb.calm sp) :=
  let ⟨f, q, fd, h, r⟩ := F.ex
  ⟨f, q, fd, fn_calm h, r⟩
def tCm (C : Addr) (sp : Sp) (E : L2.St → XK) (t : TA) : TE := fun σ H Q => t σ H fun vs H2 => sp (.ref C :: vs) H2 Q (E σ)
theorem pe_cmX {CX : CXT} {E : L2.St → XK} {pl : Sem Bool} (F : CmC X.prog X.w X.K X.mg X.base CX k C x m ps sp) (hr : Room k X.A) (hx : ∀ σ, PassesAt CX X σ (E σ)) (hg : Gl X x) (ha : PA X (e :: es) t) (hdb : (x == ("__debug__" : Str)) = false := by decide)
    (hst : starEach (e :: es) X.env = (false, eval e X.env) :: starEach es X.env := by rfl) (hpl : (backTo pos (starEach es X.env)).any (·.1) = false := by rfl)
    (ht : eval (.Call (.Attribute (.Name x p) m apos) (e :: es) [] pos) X.env = (do
      let ov ← eval (.Name x p) X.env
      standAt apos.atName
      let (f, first) ← holding [ov] (getMethod ov m pl)
      callWith pos f first (backTo pos (starEach (e :: es) X.env)) (backToKw pos (keywordEach [] X.env))) := by rfl) :
    PE X (.Call (.Attribute (.Name x p) m apos) (e :: es) [] pos) (tCm C sp E t) := by
  obtain ⟨f, q, fd, h, r, c, hm, hb⟩ := F.ex
  refine ⟨fun pins s σ H Q I hh => ?_⟩
  refine PySem.W.methodCall_KW (pl := pl) (ld_glob I hg hm ?_ hdb) ht
  refine getmethcm_ok I r c fun s2 I2 => ?_
  refine callwith_cm I2 (base_none I (Nat.le_refl _)) c.fi (thn (ha.run pos _ s2 σ H _ I2 hh) fun us s3 ⟨vs, H2, I3, rv, q2⟩ => ⟨⟨pin_at I3, I3.kIn⟩, ?_⟩) hst hpl
  have hl : (Value.ref C :: us).length = ps.length := by
    rw [← h.len _ _ _ _ q2]
    show us.length + 1 = vs.length + 1
    rw [rv.length]
  have b := hb s3 (.ref C :: us) I3.kIn (by rw [List.append_nil]; exact hl)
  rw [List.append_nil] at b
  have z : wpAny (model X.prog X.w) X.A (call (.ref s.heap.objs.size) us) (EP X ((s.heap.objs.size, PySem.W.methodObj (.ref f) (.ref C)) :: pins) σ Q) X.xe s3 := by
   refine wpAny_call (PySem.W.method_call (pin_at I3) (codeAny_mono (h.run X.A X.stack s3 H2 ⟨.ref C :: us, []⟩ (.ref C :: us) (.ref C :: vs) Q (E σ) hr I3.env0 b (.cons rfl rv) q2) fun r s' hq => ?_))
   cases r with
   | error e => exact hx σ _ H2 s3 e s' I3 hq
   | ok fl =>
    cases fl with
    | ret u => exact I3.after hq
    | next => exact False.elim hq
    | brk => exact False.elim hq
    | cont => exact False.elim hq
  exact thn z fun _ _ y => unpinE y
theorem pe_cmS {pl : Sem Bool} (F : CmC X.prog X.w X.K X.mg X.base (L2.CX X.prog X.w) k C x m ps sp) (hr : Room k X.A) (tk : Takes X W) (hg : Gl X x) (ha : PA X (e :: es) t) (hdb : (x == ("__debug__" : Str)) = false := by decide)
    (hst : starEach (e :: es) X.env = (false, eval e X.env) :: starEach es X.env := by rfl) (hpl : (backTo pos (starEach es X.env)).any (·.1) = false := by rfl)
    (ht : eval (.Call (.Attribute (.Name x p) m apos) (e :: es) [] pos) X.env = (do
      let ov ← eval (.Name x p) X.env
      standAt apos.atName
      let (f, first) ← holding [ov] (getMethod ov m pl)
      callWith pos f first (backTo pos (starEach (e :: es) X.env)) (backToKw pos (keywordEach [] X.env))) := by rfl) :
    PE X (.Call (.Attribute (.Name x p) m apos) (e :: es) [] pos) (tCm C sp (WE W) t) := pe_cmX F hr (passAt tk) hg ha hdb hst hpl ht
theorem pe_cmC {pl : Sem Bool} (F : CmC X.prog X.w X.K X.mg X.base CX0 k C x m ps sp) (hr : Room k X.A) (hg : Gl X x) (ha : PA X (e :: es) t) (hdb : (x == ("__debug__" : Str)) = false := by decide)
    (hst : starEach (e :: es) X.env = (false, eval e X.env) :: starEach es X.env := by rfl) (hpl : (backTo pos (starEach es X.env)).any (·.1) = false := by rfl)
    (ht : eval (.Call (.Attribute (.Name x p) m apos) (e :: es) [] pos) X.env = (do
      let ov ← eval (.Name x p) X.env
      standAt apos.atName
      let (f, first) ← holding [ov] (getMethod ov m pl)
      callWith pos f first (backTo pos (starEach (e :: es) X.env)) (backToKw pos (keywordEach [] X.env))) := by rfl) :
    PE X (.Call (.Attribute (.Name x p) m apos) (e :: es) [] pos) (tCm C sp (fun _ => E0) t) := pe_cmX F hr (fun _ _ _ _ _ _ _ z => (show False from z).elim) hg ha hdb hst hpl ht
/-- a property of the class at C -/
structure PrC (P : Program) (w : World) (K : PySem.W.Frag) (mg : Str → Option Value) (base : Heap) (k : Nat) (C : Addr) (m : Str) (sp : Sp) : Prop where
  ex : ∃ (f q : Addr) (fd : FuncData), FnOk P w K mg base CX0 k f fd ["self"] sp ∧ Cls K C ∧ PropOf K C m q f ∧ Binds K fd ["self"] []
theorem pe_propC (F : PrC X.prog X.w X.K X.mg X.base k C m sp) (hr : Room (k + 1) X.A) (he : PE X e ta) (hab : attributeBase e m X.env (eval e X.env) = eval e X.env := by rfl) : PE X (.Attribute e m pos) (tProp C sp [] E0 ta) := by
  obtain ⟨f, q, fd, h, c, hp, hb⟩ := F.ex
  exact pe_prop he c hp h hr hb .nil (fun _ _ _ _ _ _ _ z => (show False from z).elim) hab
end
end Kb

namespace Kb
open PySem PySem.Spec PyProof.Rows L2 ClX
/-! ### an own error that has no fields -/
/-- the class whose own initialiser is called by its name -/
structure UeC (K : PySem.W.Frag) (U : Addr) : Prop where
  rd : CRead K U (.type "type")
  at_ : PySem.W.findCls K (.ref U) (.type "type") "__init__" = some (.val (.builtin "ValueError.__init__"))
section
variable {X : Cx} {o e : Expr} {es : List Expr} {ta : TA} {x : Str} {U : Addr} {p p1 p2 pos : Pos}
theorem pe_uinit {pl : Sem Bool} (hU : UeC X.K U) (hg : Gl X x) (hm : X.mg x = some (.ref U)) (ha : PA X (e :: es) ta) (hdb : (x == ("__debug__" : Str)) = false := by decide)
    (hc : eval (.Call (.Attribute (.Name x p1) "__init__" p2) (e :: es) [] pos) X.env = (do
      let ov ← eval (.Name x p1) X.env
      standAt p2.atName
      let (f, first) ← holding [ov] (getMethod ov "__init__" pl)
      callWith pos f first (backTo pos (starEach (e :: es) X.env)) (backToKw pos (keywordEach [] X.env))) := by rfl)
    (he : starEach (e :: es) X.env = (false, eval e X.env) :: starEach es X.env := by rfl) (hpl : (backTo pos (starEach es X.env)).any (·.1) = false := by rfl) :
    PE X (.Call (.Attribute (.Name x p1) "__init__" p2) (e :: es) [] pos) (tVeI X.K ta) := by
  refine ⟨fun pins s σ H Q I h => ?_⟩
  refine PySem.W.methodCall_KW (ld_glob I hg hm ?_ hdb) hc
  refine PySem.W.method_cls I.kIn hU.rd.ga (PySem.W.cls_value I.kIn hU.rd.rd hU.at_ rfl ?_)
  show wpAny _ _ (callWith pos (Value.builtin "ValueError.__init__") [] (backTo pos (starEach (e :: es) X.env)) []) _ _ _
  refine PyProof.Rows.callWith_method1 (thn (ha.run pos pins _ σ H _ (I.tok _) h) fun us s1 ⟨vs, H1, I1, r1, a, C, ws, ev, hl, T, ea, q⟩ => ?_) he hpl
  subst ev
  cases r1 with
  | @cons _ u0 _ ur ra rw' =>
    obtain rfl : u0 = Value.ref a := ra
    have hlen : ur.length ≤ sizeLine := by
      rw [← Paired.length rw', sizeLine_eq]
      omega
    exact oinit_ok T I1 ea hlen fun s' J => ⟨.non, H1, J, rfl, q⟩
end
def sp_err0 (C : Addr) : Sp := fun vs H Q _ => ∃ a, vs = [.ref a] ∧ H a = some (exo a C none) ∧ Q .non H
theorem mk_endN {X : Cx} {pins : List (Addr × Obj)} {σ : L2.St} {H1 H2 : Hp} {hp hp2 h2 : Heap} {g1 g2 : Array GenState} {d1 d2 : Drawn} {t1 t2 : Nat} {os1 os2 : OsState} {a C : Addr} (I1 : Inv X pins σ H1 ⟨hp, g1, d1, t1, os1⟩)
    (ha : hp.objs.size ≤ a) (k : ∀ b o, hp.get? b = some o → hp2.get? b = some o) (un : Un (frs X.stack) [] (upd H1 a (exo a C none)) H2 hp2 h2) (hok : HOk X.prog X.w H2 h2) (ho : os2 = os1) (hb : AllBare g2)
    (ea : H2 a = some (exo a C none)) :
    ∃ (t0 : Addr) (G : Heap), Inv X pins σ (del H2 a) ⟨G, g2, d2, t2, os2⟩ ∧ (∀ b o, G.get? b = some o → h2.get? b = some o) ∧ G.get? a = none ∧
      h2.get? a = some ({ cls := .ref C, dict := none, data := .fields #[.ref t0, .none, .none, .none, .bool false, .none] } : Obj) ∧ (del H2 a) a = none := by
  obtain ⟨t0, hoe⟩ := exo_at hok ea
  have hn : H1 a = none := I1.hok.fresh ha
  obtain ⟨G, g1', g2'⟩ := restrict h2 fun b => decide (b ≠ a)
  have gk : ∀ b, b ≠ a → G.get? b = h2.get? b := fun b hb => g1' b (decide_eq_true hb)
  have ge : G.get? a = none := g2' a (by simp)
  have nha : ∀ {b : Addr} {o : Obj}, hp.get? b = some o → b ≠ a := fun {b o} z => Nat.ne_of_lt (Nat.lt_of_lt_of_le (Heap.lt_size z) ha)
  have up : ∀ {b : Addr}, b ≠ a → H1 b = none → upd H1 a (exo a C none) b = none := fun {b} hb n => by rw [upd_ne hb]; exact n
  have U : Un (frs X.stack) [] H1 (del H2 a) hp G := {
    keep := fun b o z n hf hx => by
      rw [gk b (nha z)]
      exact un.keep b o (k b o z) (up (nha z) n) hf hx
    slot := fun b o z n hf hx => by
      rw [gk b (nha z)]
      exact un.slot b o (k b o z) (up (nha z) n) hf hx
    free := fun b o z n hx => by
      rw [del_ne (nha z)]
      exact un.free b o (k b o z) (up (nha z) n) hx
    there := fun b o z hx => by
      rw [gk b (nha z)]
      exact un.there b o (k b o z) hx
    tups := fun b xs z => by
      rw [del_ne (ne_of_none z hn)]
      exact un.tups b xs (by rw [upd_ne (ne_of_none z hn)]; exact z)
    frzs := fun b o v z => by
      rw [del_ne (ne_of_none z hn)]
      exact un.frzs b o v (by rw [upd_ne (ne_of_none z hn)]; exact z)
    tbls := fun b ps z => by
      rw [del_ne (ne_of_none z hn)]
      exact un.tbls b ps (by rw [upd_ne (ne_of_none z hn)]; exact z) }
  have hok3 : HOk X.prog X.w (del H2 a) G := fun b o z => by
    have hba : b ≠ a := fun e => by
      rw [e, del_same] at z
      cases z
    rw [del_ne hba] at z
    have noa : ∀ {c : Addr}, H2 c = some (.own b) → c ≠ a := fun {c} hc => at_ne ea hc exo_own
    exact (hok b o z).stay (fun c v hc y => by
        have hca : c ≠ a := by
          rcases hc with hc | hc
          · rw [hc]
            exact hba
          · exact noa hc
        rw [gk c hca]
        exact y)
      (fun c hc => by rw [del_ne (noa hc)]; exact hc) (fun c xs hc => by rw [del_ne (at_ne ea hc exo_tup)]; exact hc)
  have J : Inv X pins σ (del H2 a) ⟨G, g2, d2, t2, os2⟩ := I1.call' (ch := []) ho U hok3 hb (fun b z => absurd z (by simp))
  refine ⟨t0, G, J, fun b o z => ?_, ge, hoe, del_same⟩
  by_cases hba : b = a
  · rw [hba, ge] at z
    cases z
  · exact (gk b hba).symm.trans z
/-- an own error without fields, made by its name -/
structure ErC (P : Program) (w : World) (K : PySem.W.Frag) (mg : Str → Option Value) (base : Heap) (x : Str) (C : Addr) : Prop where
  ex : ∃ (f : Addr) (fd : FuncData), FnOk P w K mg base CX0 2 f fd ["self"] (sp_err0 C) ∧ OexC K C ∧ PySem.W.findIn K (.ref C) "__init__" = some (some (.ref f)) ∧ PySem.W.typeIn K (.ref f) = some (.type "function") ∧ mg x = some (.ref C) ∧ Binds K fd ["self"] []
theorem pmk_err0 {X : Cx} {C : Addr} {x : Str} {p pos : Pos} (F : ErC X.prog X.w X.K X.mg X.base x C) (hr : Room 3 X.A) (hg : Gl X x) (hdb : (x == ("__debug__" : Str)) = false := by decide) :
    PMk X (.Call (.Name x p) [] [] pos) (fun _ H Q => Q (.ref C) none H) := by
  obtain ⟨f, fd, F1, T, iC, tI, hm, hb⟩ := F.ex
  intro pins s σ H Q I h
  obtain ⟨nm, q, N, bs, bm, sn, sub, ab, col, dd, k0, k1, k2, k3, k5, hC, hbm⟩ := T.cls
  refine wpAny_Call_Name_kw (ld_glob I hg hm ?_ hdb)
  refine PySem.W.callWith_K0 I.kIn T.kC ?_
  show wpAny _ _ (call (.ref C) []) _ _ _
  obtain ⟨hp, g, dr, tk, os⟩ := s
  have hsz : hp.objs.size ≤ hp.objs.size + 1 := Nat.le_succ _
  have hn : H (hp.objs.size + 1) = none := I.hok.fresh hsz
  have kk : ∀ b o, hp.get? b = some o → ((hp.push (PySem.W.kdv_tup [])).push (PySem.HandSPX.excO C hp.objs.size)).get? b = some o := fun b o e => Heap.get?_push_of_some _ (Heap.get?_push_of_some _ e)
  have hget : ((hp.push (PySem.W.kdv_tup [])).push (PySem.HandSPX.excO C hp.objs.size)).get? (hp.objs.size + 1) = some (PySem.HandSPX.excO C hp.objs.size) := by heap_get
  have I2 : Inv X pins σ (upd H (hp.objs.size + 1) (exo (hp.objs.size + 1) C none)) ⟨(hp.push (PySem.W.kdv_tup [])).push (PySem.HandSPX.excO C hp.objs.size), g, dr, tk, os⟩ :=
    I.laid (t' := tk) (a := hp.objs.size + 1) (o := exo (hp.objs.size + 1) C none) (h' := (hp.push (PySem.W.kdv_tup [])).push (PySem.HandSPX.excO C hp.objs.size)) kk hsz (exo_ok hget)
  have r2 : Vals [V.ref (hp.objs.size + 1)] [Value.ref (hp.objs.size + 1)] := .cons rfl .nil
  have b := hb _ [Value.ref (hp.objs.size + 1)] I2.kIn rfl
  have hq : sp_err0 C [V.ref (hp.objs.size + 1)] (upd H (hp.objs.size + 1) (exo (hp.objs.size + 1) C none)) (fun v H2 => v = .non ∧ H2 = upd H (hp.objs.size + 1) (exo (hp.objs.size + 1) C none)) E0 := ⟨_, rfl, upd_same, rfl, rfl⟩
  refine wpAny_call (PySem.HandSPX.call_own _root_.PySem.F.excBase_ValueError (fun Y => PySem.HandSPX.refsVE_contains Y bm hbm) (I.kIn _ _ hC) (PySem.W.looks_findIn I.kIn iC) (fun self => PySem.W.bind_fn I.kIn self tI) (Nat.zero_le _)
    (codeAny_mono (F1.run _ X.stack _ _ ⟨[Value.ref (hp.objs.size + 1)], []⟩ [Value.ref (hp.objs.size + 1)] _ _ E0 (hr.make C [] []) (I2.env0.make C [] []) b r2 hq) fun r s' hq' => ?_))
  cases r with
  | error er => exact (show False from hq').elim
  | ok fl =>
    cases fl with
    | ret u =>
      obtain ⟨v, H2, os2, bare2, un2, hok2, rv, ev, eH⟩ := hq'
      subst ev
      subst eH
      obtain ⟨h2, g2, d2, t2, os'⟩ := s'
      have ed : del (upd H (hp.objs.size + 1) (exo (hp.objs.size + 1) C none)) (hp.objs.size + 1) = H := by
        funext b
        by_cases hb : b = hp.objs.size + 1
        · rw [hb, del_same, hn]
        · rw [del_ne hb, upd_ne hb]
      obtain ⟨t0, G, J, kG, ge, hoe, na⟩ := mk_endN (d2 := d2) (t2 := t2) I hsz kk un2 hok2 os2 bare2 upd_same
      rw [ed] at J na
      exact ⟨rv, _, _, _, ⟨G, g2, d2, t2, os'⟩, _, .ref C, none, rfl, J, kG, ge, hoe, ⟨rfl, rfl⟩, rfl, rfl, na, rfl, bare2, raises_own T.exC T.tyC, h⟩
    | next => exact False.elim hq'
    | brk => exact False.elim hq'
    | cont => exact False.elim hq'
theorem ps_raise0 {X : Cx} {W : WX} {C : Addr} {x : Str} {p pos pos' : Pos} (F : ErC X.prog X.w X.K X.mg X.base x C) (hr : Room 3 X.A) (hc : X.calm = true) (tk : Takes X W) (hg : Gl X x) (hdb : (x == ("__debug__" : Str)) = false := by decide) :
    PS X (.Raise (some (.Call (.Name x p) [] [] pos)) none pos') (fun _ σ H => W (.ref C) none σ H) := ps_raise hc tk (pmk_err0 F hr hg hdb)
/-! ### clauses, with a name or without -/
inductive Cl where
  | pl (c : Value) (ts : Addr → Value → Option Addr → TS)
  | nm (c : Value) (i : Nat) (ts : Addr → Value → Option Addr → TS)
def Ends.unset (D : Ends) (i : Nat) : Ends := { nx := fun σ' H' => D.nx (σ'.set i none) H', rt := fun v H' => D.rt v H', bk := fun σ' H' => D.bk (σ'.set i none) H', ct := fun σ' H' => D.ct (σ'.set i none) H' }
def wCl (K : PySem.W.Frag) (Wout : WX) (D : Ends) : List Cl → WX
  | [] => Wout
  | .pl c ts :: r => fun cls d σ H => ∃ b, PySem.W.exmOne K cls c = some b ∧ (b = true → ∀ a, H a = none → ts a cls d D σ H) ∧ (b = false → wCl K Wout D r cls d σ H)
  | .nm c i ts :: r => fun cls d σ H => ∃ b, PySem.W.exmOne K cls c = some b ∧ (b = true → ∀ a, H a = none → ts a cls d (Ends.unset D i) (σ.set i (some (.ref a))) H) ∧ (b = false → wCl K Wout D r cls d σ H)
inductive ClOk (X : Cx) : List ExceptHandler → List Cl → Prop
  | nil : ClOk X [] []
  | pl {x : Str} {c : Value} {ts : Addr → Value → Option Addr → TS} {b₀ : Stmt} {suite : List Stmt} {np pos' : Pos} {hds : List ExceptHandler} {l : List Cl} (hc : Names X x c)
      (hsu : ∀ (a : Addr) (oe : Obj) (cls : Value) (d : Option Addr) (pn : List (Addr × Obj)), Zc cls d oe → (∃ vs, oe.data = .fields vs) → PSs (X.suite a ((a, oe) :: pn)) (b₀ :: suite) (ts a cls d)) (r : ClOk X hds l) :
      ClOk X (.ExceptHandler (some (.Name x np)) none (b₀ :: suite) pos' :: hds) (.pl c ts :: l)
  | nm {x n : Str} {i : Nat} {c : Value} {ts : Addr → Value → Option Addr → TS} {b₀ : Stmt} {suite : List Stmt} {np pos' : Pos} {hds : List ExceptHandler} {l : List Cl} (hN : X.N.Nodup) (hi : X.N[i]? = some n) (hln : X.env.kindOf n = some .local) (hc : Names X x c)
      (hsu : ∀ (a : Addr) (oe : Obj) (cls : Value) (d : Option Addr) (pn : List (Addr × Obj)), Zc cls d oe → (∃ vs, oe.data = .fields vs) → PSs (X.suite a ((a, oe) :: pn)) (b₀ :: suite) (ts a cls d)) (r : ClOk X hds l) :
      ClOk X (.ExceptHandler (some (.Name x np)) (some n) (b₀ :: suite) pos' :: hds) (.nm c i ts :: l)
section
variable {X : Cx} {body : List Stmt} {h₀ : ExceptHandler} {hds : List ExceptHandler} {l : List Cl} {pos : Pos} {tb : WX → TS} {Wout : WX}
theorem ps_tryCl (hs : X.stack = X.env :: X.outer) (hf : X.env.frame = some X.env.locals) (tk : Takes X Wout)
    (hb : ∀ (W : WX) (pn : List (Addr × Obj)) (xe : Value → Shared → Prop), Takes (X.tr pn xe) W → PassesOwn (model X.prog X.w) X.A X.env xe → PSs (X.tr pn xe) body (tb W))
    (hh : ClOk X (h₀ :: hds) l) : PS X (.Try body (h₀ :: hds) [] [] pos) (fun D σ H => tb (wCl X.K Wout D l) D σ H) := by
  refine ⟨fun pins s σ H D I h => ?_⟩
  have ok := I.ok
  have hfr : X.A.frames = some (X.env :: X.outer) := by rw [ok.frames, hs]
  refine wpAny_Try_except ?_
  refine wpAny_mono ((hb (wCl X.K Wout D l) (X.pn ++ pins) (fun e s₁ => wpAny (model X.prog X.w) X.A (noteFrame e X.env) (fun _ s₂ => wpAny (model X.prog X.w) X.A (setFlight e none) (fun _ s₃ =>
    wpAny (model X.prog X.w) X.A (handleBy e X.env (h₀ :: hds)) (SP X pins D) X.xe s₃) X.xe s₂) X.xe s₁) (fun u s' xx => ?_) PassesOwn.looking).run [] s σ H D (I.toTry _) h) (fun f s1 hsp => ?_) (fun e s1 he => he)
  · -- the catch
    obtain ⟨a, B, sI, pins', σ', H', cls, d, rfl, J', nb, up, sky, na, os, ag, w⟩ := xx
    have J : Inv X pins σ' H' sI := J'.ofTry ok
    have sky' : Sky B (X.env :: X.outer) a (Zc cls d) X.env.locals s'.heap := by rw [← hs]; exact sky
    show wpAny (model X.prog X.w) X.A (noteFrame (.ref a) X.env) _ _ _
    refine Sky.land Zc.steady hfr hf sky' fun h3 fl3 up3 => ?_
    have J3 : Inv X pins σ' H' { s' with heap := h3 } := J.landed nb fl3.1 (up.trans up3) os ag
    obtain ⟨oe3, vs3, he3, hz3, hd3⟩ := fl3.there
    have notFr : ∀ {h : Heap} {o : Obj} {vs : Array Value}, h.FunFrames B (X.env :: X.outer) → h.get? a = some o → o.data = .fields vs → a ∉ frs (X.env :: X.outer) := fun {h o vs} ff e dd hm => by
      obtain ⟨_, o', e', hnf⟩ := ff.mem hm
      rw [e] at e'; cases e'
      exact hnf _ dd
    have nfr := notFr fl3.2.2.1 he3 hd3
    have nL : a ≠ X.env.locals := fun z => nfr (List.mem_filterMap.mpr ⟨X.env, List.mem_cons_self, by rw [hf, z]⟩)
    have nF : a ∉ X.fs := fun hm => by
      obtain ⟨e, he, q⟩ := List.mem_filterMap.mp hm
      exact nfr (List.mem_filterMap.mpr ⟨e, List.mem_cons_of_mem _ he, q⟩)
    have S3 := J3.suite he3 hd3 na nL nF
    have LT : PySem.W.Looks (model X.prog X.w) h3 (typeOf (.ref a)) cls := fun A Q E s k q => wpAny_typeOf_ref (k _ _ he3) (by rw [hz3.1]; exact q)
    have test : ∀ {x : Str} {c : Value} {np : Pos}, Names X x c → ∀ {Q : Value → Shared → Prop} {E : Value → Shared → Prop}, Q c { s' with heap := h3 } → wpAny (model X.prog X.w) (X.A.mark (some (.ref a))) (eval (.Name x np) X.env) Q E { s' with heap := h3 } := fun {x c np} hc {Q E} q => by
      obtain ⟨hg, hdbg, hm | ⟨hm, hv, hnn⟩⟩ := hc
      · exact ld_glob (X := X.suite a ((a, oe3) :: (X.pn ++ pins))) S3 hg hm q hdbg
      · exact ld_blt (X := X.suite a ((a, oe3) :: (X.pn ++ pins))) S3 hg hm hv q hnn hdbg
    have go : ∀ {hds' : List ExceptHandler} {l' : List Cl}, ClOk X hds' l' → wCl X.K Wout D l' cls d σ' H' →
        wpAny (model X.prog X.w) X.A (handleBy (.ref a) X.env hds') (SP X pins D) X.xe { s' with heap := h3 } := by
      intro hds' l' hk
      induction hk with
      | nil =>
        intro w
        refine wpAny_handleBy_nil ?_
        obtain ⟨k1, k2, k3, oe, vs, T, oT, ts', he, hz, hd, h1, hr⟩ := id fl3
        unfold PySem.passOn
        refine wpAny_bind (wpAny_field he hd h1 ?_)
        rw [if_neg (show ¬ ((Value.ref T == Value.none) = true) from by simp)]
        have fin : wpAny (model X.prog X.w) X.A (setFlight (.ref a) X.env.frame) (fun _ s4 => wpAny (model X.prog X.w) X.A (throw (.ref a) : Sem Flow) (SP X pins D) X.xe s4) X.xe { s' with heap := h3 } := by
          rw [hf]
          refine HandSPX.setFlight_upZ fl3 fun h4 hh4 up4 => wpAny_throw (tk _ _ ?_)
          exact ⟨a, B, sI, pins, σ', H', cls, d, rfl, J, nb, (up.trans up3).trans up4, .inr (.inr (by rw [hs]; exact hh4)), na, os, ag, w⟩
        first
          | exact wpAny_bind (wpAny_pure (wpAny_bind fin))
          | exact wpAny_bind fin
      | @pl x c ts b₀ suite np pos' hds2 l2 hc hsu r ih =>
        intro w
        obtain ⟨b, hb1, hyes, hno⟩ := w
        refine wpAny_handleBy_cons (codeAny_handlers_test ?_) (by intro q; cases q)
        have LM := PySem.W.exm_one (M := model X.prog X.w) (J3.kIn) LT hb1
        refine test hc (LM.here ?_)
        cases b with
        | true =>
          refine codeAny_handlers_suite ?_
          refine HandSPX.lands_againZ fl3 fun h4 fl4 up4 => ?_
          have J4 : Inv X pins σ' H' { s' with heap := h4 } := J.landed nb fl4.1 ((up.trans up3).trans up4) os ag
          obtain ⟨oe4, vs4, he4, hz4, hd4⟩ := fl4.there
          have S4 := J4.suite he4 hd4 na nL nF
          refine wpAny_mono ((hsu a oe4 cls d (X.pn ++ pins) hz4 ⟨_, hd4⟩).run [] _ _ H' _ S4 (hyes rfl a na)) (fun f s6 hsp => ?_) (fun _ _ z => False.elim z)
          cases f with
          | next =>
            obtain ⟨σ6, H6, S6, q6⟩ := hsp
            exact ⟨_, _, S6.unsuite ok, q6⟩
          | brk =>
            obtain ⟨σ6, H6, S6, q6⟩ := hsp
            exact ⟨_, _, S6.unsuite ok, q6⟩
          | cont =>
            obtain ⟨σ6, H6, S6, q6⟩ := hsp
            exact ⟨_, _, S6.unsuite ok, q6⟩
          | ret u =>
            obtain ⟨v6, σ6, H6, S6, r6, q6⟩ := hsp
            exact ⟨_, _, _, S6.unsuite ok, r6, q6⟩
        | false =>
          show wpAny _ X.A (handleBy (.ref a) X.env hds2) _ _ _
          exact ih (hno rfl)
      | @nm x n i c ts b₀ suite np pos' hds2 l2 hN hi hln hc hsu r ih =>
        intro w
        have hloc : Loc X.env.scope n := .inl hln
        obtain ⟨b, hb1, hyes, hno⟩ := w
        refine wpAny_handleBy_cons (codeAny_handlers_test ?_) (by intro q; cases q)
        have LM := PySem.W.exm_one (M := model X.prog X.w) (J3.kIn) LT hb1
        refine test hc (LM.here ?_)
        cases b with
        | true =>
          refine codeAny_handlers_suite_as ?_
          refine HandSPX.lands_againZ fl3 fun h4 fl4 up4 => ?_
          have J4 : Inv X pins σ' H' { s' with heap := h4 } := J.landed nb fl4.1 ((up.trans up3).trans up4) os ag
          obtain ⟨oe4, vs4, he4, hz4, hd4⟩ := fl4.there
          have S4 := J4.suite he4 hd4 na nL nF
          refine store_ok (X := X.suite a ((a, oe4) :: (X.pn ++ pins))) (v := .ref a) S4 hN hi hloc rfl (fun s5 S5 => ?_) (.inr hln)
          refine wpAny_mono ((hsu a oe4 cls d (X.pn ++ pins) hz4 ⟨_, hd4⟩).run [] s5 _ H' _ S5 (hyes rfl a na)) (fun f s6 hsp => ?_) (fun _ _ z => False.elim z)
          have end_ : ∀ {σ6 : L2.St} {H6 : Hp} {Q : Shared → Prop}, Inv (X.suite a ((a, oe4) :: (X.pn ++ pins))) [] σ6 H6 s6 → (∀ s7, Inv X pins (σ6.set i none) H6 s7 → Q s7) →
              wpAny (model X.prog X.w) X.A (do bindName X.env n .none; unbindBehindTheSuite X.env n pos') (fun _ s7 => Q s7) X.xe s6 := fun {σ6 H6 Q} S6 hq => gone_ok (S6.unsuite ok) hN hi hln hq
          cases f with
          | next =>
            obtain ⟨σ6, H6, S6, q6⟩ := hsp
            exact end_ S6 fun s7 J7 => ⟨_, _, J7, q6⟩
          | brk =>
            obtain ⟨σ6, H6, S6, q6⟩ := hsp
            exact end_ S6 fun s7 J7 => ⟨_, _, J7, q6⟩
          | cont =>
            obtain ⟨σ6, H6, S6, q6⟩ := hsp
            exact end_ S6 fun s7 J7 => ⟨_, _, J7, q6⟩
          | ret u =>
            obtain ⟨v6, σ6, H6, S6, r6, q6⟩ := hsp
            exact end_ S6 fun s7 J7 => ⟨_, _, _, J7, r6, q6⟩
        | false =>
          show wpAny _ X.A (handleBy (.ref a) X.env hds2) _ _ _
          exact ih (hno rfl)
    exact go hh w
  · cases f with
    | next =>
      obtain ⟨σ', H', J', q⟩ := hsp
      exact wpAny_execs_nil ⟨σ', H', J'.ofTry ok, q⟩
    | brk =>
      obtain ⟨σ', H', J', q⟩ := hsp
      exact ⟨σ', H', J'.ofTry ok, q⟩
    | cont =>
      obtain ⟨σ', H', J', q⟩ := hsp
      exact ⟨σ', H', J'.ofTry ok, q⟩
    | ret u =>
      obtain ⟨v, σ', H', J', r, q⟩ := hsp
      exact ⟨v, σ', H', J'.ofTry ok, r, q⟩
end
/-! ### isinstance of a caught error and several classes -/
def clsA : Value → Addr
  | .ref D => D
  | _ => 0
/-- a suite whose reading has what it knows of the class -/
theorem pss_if {X : Cx} {p : Prop} {b : List Stmt} {t : TS} (h : p → PSs X b t) : PSs X b (fun D σ H => p ∧ t D σ H) :=
  ⟨fun pins s σ H D I z => (h z.1).run pins s σ H D I z.2⟩
def ErrD (K : PySem.W.Frag) (cls : Value) (d : Option Addr) : Prop := ∃ D, cls = .ref D ∧ d = none ∧ ExcC K D
def rIsET (K : PySem.W.Frag) (D a : Addr) : List V → Hp → VK → Prop := fun xs H Q => ∃ (tp : Addr) (cs : List V) (us : List Value) (b : Bool), xs = [.ref a, .ref tp] ∧ H tp = some (.tup cs) ∧ Paired ClsV cs us ∧ PySem.W.kitAny K (.ref D) us = some b ∧ Q (.bl b) H
theorem call_isET {X : Cx} {a : Addr} {cls : Value} {d : Option Addr} {oe : Obj} {pn : List (Addr × Obj)} (C : ErrD X.K cls d) (hz : Zc cls d oe) (hf : ∃ vs, oe.data = .fields vs) : CallR (X.suite a ((a, oe) :: pn)) (.builtin "isinstance") (rIsET X.K (clsA cls) a) := by
  obtain ⟨D, rfl, rfl, C⟩ := C
  intro pins s σ H xs us Q I r h
  obtain ⟨tp, cs, ws, b, rfl, hT, k, e, q⟩ := h
  obtain ⟨u1, u2, rfl, r1, r2⟩ := vals2 r
  cases (show u1 = Value.ref a from r1)
  cases (show u2 = Value.ref tp from r2)
  obtain ⟨hget, _⟩ := I.pin (a, oe) (List.mem_append.mpr (.inl List.mem_cons_self))
  obtain ⟨vs, hv⟩ := hf
  have J : PySem.W.InstAt s.heap a oe D none := by
    obtain ⟨oc, od, oda, osl⟩ := oe
    obtain ⟨h1, h2⟩ := hz
    dsimp only at h1 h2 hv
    subst h1 h2 hv
    exact ⟨hget, rfl, rfl, trivial⟩
  obtain ⟨_, its, rv, o, h1, h2, n, h3⟩ := (show ObjOk X.prog X.w H s.heap tp (.tup cs) from I.hok tp _ hT)
  have e3 := ClsV.all k rv
  subst e3
  obtain ⟨oc, od, dt, sl⟩ := o
  simp only at h2 h3
  subst h2 h3
  exact PySem.W.kia_tup (PySem.W.handS_kitx_exc C.hg C.hk C.hs C.hd C.ha C.hn C.ht C.hm) I.kIn J h1 e (fun z => nomatch z) fun tk => ⟨.bl b, H, I.kept (t' := tk) fun _ _ z => z, rfl, q⟩
theorem call_isED {X : Cx} {a : Addr} {cls : Value} {d : Option Addr} {oe : Obj} {pn : List (Addr × Obj)} (C : ErrD X.K cls d) (hz : Zc cls d oe) (hf : ∃ vs, oe.data = .fields vs) : CallR (X.suite a ((a, oe) :: pn)) (.builtin "isinstance") (rIsE X.K (clsA cls) a) := by
  obtain ⟨D, rfl, rfl, C⟩ := C
  exact call_isE C hz hf
end Kb
namespace Kb
open PySem PySem.Spec PyProof.Rows L2 ClX
theorem ErC.nm {P : Program} {w : World} {K : PySem.W.Frag} {mg : Str → Option Value} {base : Heap} {x : Str} {C : Addr} (F : ErC P w K mg base x C) : mg x = some (.ref C) := let ⟨_, _, _, _, _, _, h, _⟩ := F.ex; h
structure NmC (mg : Str → Option Value) (x : Str) (C : Addr) : Prop where
  nm : mg x = some (.ref C)
end Kb
namespace Kb
open PySem PySem.Spec PyProof.Rows L2 ClX
theorem kit_ownF {K : PySem.W.Frag} {t c : Addr} (hr : PySem.W.subIn K (.ref t) (.ref t) = some true) (hd : PySem.W.hasDictIn K c = true) (ht : PySem.W.typeIn K (.ref c) = some (.type "type")) (h : PySem.W.subIn K (.ref t) (.ref c) = some false) : PySem.W.kitOne K (.ref t) (.ref c) = some false := by
  unfold PySem.W.kitOne
  by_cases e : t = c
  · subst e; rw [hr] at h; cases h
  · obtain ⟨cd, hc, _⟩ := PySem.W.any_some hd
    have e2 : ((PySem.W.clsIn K c).isSome && PySem.W.typeIn K (.ref c) == some (.type "type")) = true := by rw [hc, ht] <;> rfl
    rw [if_neg (fun z => e (Value.ref.inj (beq_iff_eq.mp z)))]
    show (if ((PySem.W.clsIn K c).isSome && PySem.W.typeIn K (.ref c) == some (.type "type")) = true then PySem.W.subIn K (.ref t) (.ref c) else none) = some false
    rw [if_pos e2]
    exact h
theorem kit_ownB {K : PySem.W.Frag} {b : String} {c : Addr} (hd : PySem.W.hasDictIn K c = true) (ht : PySem.W.typeIn K (.ref c) = some (.type "type")) (h : PySem.W.subIn K (.type b) (.ref c) = some false) : PySem.W.kitOne K (.type b) (.ref c) = some false := by
  unfold PySem.W.kitOne
  obtain ⟨cd, hc, _⟩ := PySem.W.any_some hd
  have e2 : ((PySem.W.clsIn K c).isSome && PySem.W.typeIn K (.ref c) == some (.type "type")) = true := by rw [hc, ht] <;> rfl
  rw [if_neg (fun z => nomatch (beq_iff_eq.mp z : Value.type b = Value.ref c))]
  show (if ((PySem.W.clsIn K c).isSome && PySem.W.typeIn K (.ref c) == some (.type "type")) = true then PySem.W.subIn K (.type b) (.ref c) else none) = some false
  rw [if_pos e2]
  exact h
theorem kit_ownT {K : PySem.W.Frag} {t c : Addr} (hd : PySem.W.hasDictIn K c = true) (ht : PySem.W.typeIn K (.ref c) = some (.type "type")) (h : PySem.W.subIn K (.ref t) (.ref c) = some true) : PySem.W.kitOne K (.ref t) (.ref c) = some true := by
  unfold PySem.W.kitOne
  by_cases e : t = c
  · subst e; rw [if_pos (beq_self_eq_true _)]
  · obtain ⟨cd, hc, _⟩ := PySem.W.any_some hd
    have e2 : ((PySem.W.clsIn K c).isSome && PySem.W.typeIn K (.ref c) == some (.type "type")) = true := by rw [hc, ht] <;> rfl
    rw [if_neg (fun z => e (Value.ref.inj (beq_iff_eq.mp z)))]
    show (if ((PySem.W.clsIn K c).isSome && PySem.W.typeIn K (.ref c) == some (.type "type")) = true then PySem.W.subIn K (.ref t) (.ref c) else none) = some true
    rw [if_pos e2]
    exact h
theorem kit_VE {K : PySem.W.Frag} {t : Addr} (h : PySem.W.subIn K (.ref t) (.type "ValueError") = some true) : PySem.W.kitOne K (.ref t) (.type "ValueError") = some true := by
  unfold PySem.W.kitOne
  rw [if_neg (by intro z; have := beq_iff_eq.mp z; cases this)]
  show (if PySem.W.kitMeta "ValueError" = true then PySem.W.subIn K (.ref t) (.type "ValueError") else none) = some true
  rw [if_pos (by decide +kernel)]
  exact h
end Kb

namespace PySem.W
open PySem PySem.Calls PyProof.Rows Builtin
theorem abs_K {prog : Program} {w : World} {A : Around} {E : Value → Shared → Prop} {s : Shared} {K : Frag} {x C f : Addr} {ox : Obj} {od : Option Obj} {Q : Value → Shared → Prop} (X : K.In s.heap) (I : InstAt s.heap x ox C od)
    (hs : findIn K (.ref C) "__abs__" = some (some (.ref f))) (hf : isFn K (.ref f) = true) (h : wpAny (model prog w) A.in1 (call (.ref f) [.ref x]) Q E s) : wpAny (model prog w) A (call (.builtin "abs") [.ref x]) Q E s := by
  refine Calls.call_function_entry kind_abs plain_abs entry_abs (args_abs _) ?_
  unfold Builtin.«abs»
  refine wpAny_bind (m := oneArg "abs" _) (wpAny_pure ?_)
  refine wpAny_bind (m := callSpecial? (.ref x) (Str.ofString "__abs__")) (special_fn X I hs (beq_iff_eq.mp hf) (wpAny_mono h (fun r s' hr => ?_) fun _ _ y => y))
  exact wpAny_pure ⟨_, rfl, hr⟩
def InsP (K : Frag) (x dx C : Addr) (h : Heap) : Prop := K.In h ∧ ∃ od, InstAt h x (instObj C dx) C od
theorem callWith_inst {M : Model} {A : Around} {E : Value → Shared → Prop} {s : Shared} {K : Frag} {env : Env} {pos : Pos} {x dx C : Addr} {Q : Value → Shared → Prop} {e : Expr} {rest : List Expr}
    (h : wpAny M A (spliced (backTo pos (starEach (e :: rest) env))) (fun vs s₁ => InsP K x dx C s₁.heap ∧ wpAny M A (call (.ref x) vs) Q E s₁) E s)
    (he : starEach (e :: rest) env = (false, eval e env) :: starEach rest env := by rfl) (hplain : (backTo pos (starEach rest env)).any (·.1) = false := by rfl) :
    wpAny M A (callWith pos (.ref x) [] (backTo pos (starEach (e :: rest) env)) []) Q E s := by
  rw [he] at h ⊢
  have hp : ((backTo pos ((false, eval e env) :: starEach rest env)).any (·.1) || ([] : List (Option Str × Sem Value)).any (·.1.isNone)) = false := by
    show ((false || (backTo pos (starEach rest env)).any (·.1)) || false) = false
    rw [hplain]; rfl
  have h2 := evalArgs_plain (f := .ref x) (Q := fun (a : Args) s₁ => InsP K x dx C s₁.heap ∧ wpAny M A (call (.ref x) a.pos a.kw) Q E s₁) h
  unfold callWith
  refine wpAny_bind (wpAny_holding (wpAny_mono h2 (fun a s₁ h₁ => wpAny_bind (wpAny_standAt ?_)) fun _ _ y => y))
  obtain ⟨⟨_, od, J⟩, h3⟩ := h₁
  have L := kco_keeper (M := M) J rfl
  simp only [hp]
  refine wpAny_bind (L.here ?_)
  have tail : ∀ {t : Sem Value}, wpAny M A t Q E s₁ → wpAny M A (t >>= fun r => holding [r] point >>= fun _ => pure r) Q E s₁ :=
    fun ht => wpAny_bind (wpAny_mono ht (fun r s₂ hr => wpAny_bind (wpAny_holding (wpAny_point (wpAny_pure hr)))) fun _ _ y => y)
  exact tail (wpAny_operateT h3)
end PySem.W
namespace Kb
open PySem PySem.Spec PyProof.Rows L2 ClX
section
variable {X : Cx} {k : Nat} {C : Addr} {ps : List Str} {sp : Sp}
/-- a method with self alone, called one in, its answer looked at -/
theorem run_self {pins : List (Addr × Obj)} {σ : L2.St} {H : Hp} {s : Shared} {a : Addr} {f : Addr} {fd : FuncData} {Q : VK} {Qf : Value → Shared → Prop} {A : Around} (I : Inv X pins σ H s) (F : FnOk X.prog X.w X.K X.mg X.base CX0 k f fd ["self"] sp) (hr : Room k A) (hb : Binds X.K fd ["self"] []) (h : sp [.ref a] H Q E0)
    (fin : ∀ u s', EP X pins σ Q u s' → Qf u s') (hA : A.frames = X.A.frames) {E : Value → Shared → Prop} : wpAny (model X.prog X.w) A (call (.ref f) [.ref a]) Qf E s := by
  have b := hb s [.ref a] I.kIn rfl
  have e0 : Env0 X.prog X.w X.K X.mg X.base A X.stack s H := ⟨hA.trans I.env0.frames, I.env0.mod, I.env0.bs, I.env0.bsz, I.env0.funs, I.env0.frf, I.env0.hok, I.env0.bare⟩
  refine wpAny_call (codeAny_mono (F.run A X.stack s H ⟨[.ref a], []⟩ ([.ref a] ++ []) [.ref a] Q E0 hr e0 b (Paired.cons (show RelV (V.ref a) (Value.ref a) from rfl) Paired.nil) h) fun r s' hq => ?_)
  cases r with
  | error e => exact (show False from hq).elim
  | ok fl =>
    cases fl with
    | ret u => exact fin u s' (I.after hq)
    | next => exact False.elim hq
    | brk => exact False.elim hq
    | cont => exact False.elim hq
def rSelf (C : Addr) (sp : Sp) : List V → Hp → VK → Prop := fun xs H Q => ∃ (a dx : Addr) (fs : List (Str × V)), xs = [.ref a] ∧ H a = some (.ins C dx fs) ∧ sp [.ref a] H Q E0
/-- abs(x), x an own instance -/
theorem call_absC (F : MtC X.prog X.w X.K X.mg X.base CX0 k C "__abs__" ["self"] sp) (hr : Room (k + 1) X.A) : CallR X (.builtin "abs") (rSelf C sp) := by
  intro pins s σ H xs us Q I r h
  obtain ⟨a, dx, fs, rfl, ha, q⟩ := h
  obtain ⟨f, fd, hf, M, hb⟩ := F.ex
  obtain ⟨u, rfl, ru⟩ := r.one
  cases (show u = Value.ref a from ru)
  obtain ⟨mA, O, _⟩ := ins_get I.hok ha
  obtain ⟨od, J, _⟩ := O.look
  exact PySem.W.abs_K I.kIn J M.at_ M.fn (run_self I hf hr.in1 hb q (fun u s' z => z) rfl)
/-- len(x), x an own instance -/
def rSelfLen (C : Addr) (sp : Sp) : List V → Hp → VK → Prop := fun xs H Q => ∃ (a dx : Addr) (fs : List (Str × V)), xs = [.ref a] ∧ H a = some (.ins C dx fs) ∧ sp [.ref a] H (fun v H' => ∃ n : Int, v = .int n ∧ 0 ≤ n ∧ n < 2 ^ 63 ∧ Q (.int n) H') E0
theorem call_lenC (F : MtC X.prog X.w X.K X.mg X.base CX0 k C "__len__" ["self"] sp) (hr : Room (k + 1) X.A) : CallR X (.builtin "len") (rSelfLen C sp) := by
  intro pins s σ H xs us Q I r h
  obtain ⟨a, dx, fs, rfl, ha, q⟩ := h
  obtain ⟨f, fd, hf, M, hb⟩ := F.ex
  obtain ⟨u, rfl, ru⟩ := r.one
  cases (show u = Value.ref a from ru)
  obtain ⟨mA, O, _⟩ := ins_get I.hok ha
  obtain ⟨od, J, _⟩ := O.look
  obtain ⟨m, hF⟩ := I.fr
  refine PySem.W.len_K hF I.ok.mod.kin J M.at_ M.fn (run_self I hf hr.in1 hb q (fun u s' z => ?_) rfl)
  obtain ⟨v, H', I', rv, n, rfl, n0, n1, q'⟩ := z
  obtain ⟨t, rfl⟩ := rv
  exact ⟨⟨n0, n1⟩, .int n, H', I'.tok _, ⟨_, rfl⟩, q'⟩
/-- str(x), x an own instance -/
def rSelfStr (C : Addr) (sp : Sp) : List V → Hp → VK → Prop := fun xs H Q => ∃ (a dx : Addr) (fs : List (Str × V)), xs = [.ref a] ∧ H a = some (.ins C dx fs) ∧ sp [.ref a] H (fun v H' => ∃ z : Str, v = .str z ∧ Q (.str z) H') E0
theorem call_strC (F : MtC X.prog X.w X.K X.mg X.base CX0 k C "__str__" ["self"] sp) (hr : Room (k + 2) X.A) : CallR X (.type "str") (rSelfStr C sp) := by
  intro pins s σ H xs us Q I r h
  obtain ⟨a, dx, fs, rfl, ha, q⟩ := h
  obtain ⟨f, fd, hf, M, hb⟩ := F.ex
  obtain ⟨u, rfl, ru⟩ := r.one
  cases (show u = Value.ref a from ru)
  obtain ⟨mA, O, _⟩ := ins_get I.hok ha
  obtain ⟨od, J, _⟩ := O.look
  have hu := hr.un
  refine PySem.W.kso_call (by show X.A.units + 1 + 1 < _; omega) I.kIn J M.at_ M.fn (run_self I hf hr.in1.in1 hb q (fun u s' z => ?_) rfl)
  obtain ⟨v, H', I', rv, n, rfl, q'⟩ := z
  obtain ⟨t, rfl⟩ := rv
  exact ⟨.str n, H', I', ⟨_, rfl⟩, q'⟩
end
/-! ### an own instance, called -/
def tInst (i : Nat) (C : Addr) (sp : Sp) (E : L2.St → XK) (t : TA) : TE := fun σ H Q => ∃ (a dx : Addr) (fs : List (Str × V)), σ[i]? = some (some (.ref a)) ∧ H a = some (.ins C dx fs) ∧ t σ H fun vs H1 => (∃ fs', H1 a = some (.ins C dx fs')) ∧ sp (.ref a :: vs) H1 Q (E σ)
section
variable {X : Cx} {CX : CXT} {k i : Nat} {x : Str} {C : Addr} {ps : List Str} {sp : Sp} {E : L2.St → XK} {W : WX} {e : Expr} {es : List Expr} {t : TA} {p pos : Pos}
theorem ins_in1 {A : Around} {k : Nat} (hr : Room (k + 1) A) : Room k A := hr.mono (Nat.le_succ _)
theorem pe_instX (F : MtC X.prog X.w X.K X.mg X.base CX k C "__call__" ps sp) (hfn : ∀ f, Meth X.K C "__call__" f → PySem.W.fnIn X.K f = true) (hr : Room k X.A) (hx : ∀ σ, PassesAt CX X σ (E σ)) (hN : X.N[i]? = some x) (hv : Vis X.env.scope x) (ha : PA X (e :: es) t)
    (hdb : (x == ("__debug__" : Str)) = false := by decide) (hcd : (x == ("__classdict__" : Str)) = false := by decide)
    (he : starEach (e :: es) X.env = (false, eval e X.env) :: starEach es X.env := by rfl) (hpl : (backTo pos (starEach es X.env)).any (·.1) = false := by rfl) :
    PE X (.Call (.Name x p) (e :: es) [] pos) (tInst i C sp E t) := by
  obtain ⟨f, fd, h, M, hb⟩ := F.ex
  refine ⟨fun pins s σ H Q I hh => ?_⟩
  obtain ⟨a, dx, fs, hs, hA, ht⟩ := hh
  refine wpAny_Call_Name_kw (thn ((pe_var (pos := p) hN hv hdb hcd).run pins s σ H (fun v H1 => v = .ref a ∧ H1 = H) I ⟨.ref a, hs, rfl, rfl⟩) fun u s1 ⟨v, H1, I1, r1, q1⟩ => ?_)
  obtain ⟨rfl, rfl⟩ := q1
  cases r1
  refine PySem.W.callWith_inst (K := X.K) (dx := dx) (C := C) (thn (ha.run pos pins s1 σ _ _ I1 ht) fun us s2 ⟨vs, H2, I2, r, ⟨fs', hA2⟩, q⟩ => ?_) he hpl
  obtain ⟨mA, O, _⟩ := ins_get I2.hok hA2
  obtain ⟨od, J, _⟩ := O.look
  refine ⟨⟨I2.kIn, _, J⟩, wpAny_call (PySem.W.kco_code I2.kIn J rfl M.at_ M.fn (hfn f M) ?_)⟩
  have hl : (Value.ref a :: us).length = ps.length := by
    rw [← h.len _ _ _ _ q]
    show us.length + 1 = vs.length + 1
    rw [r.length]
  have b := hb s2 (.ref a :: us) I2.kIn (by rw [List.append_nil]; exact hl)
  rw [List.append_nil] at b
  refine codeAny_mono (h.run X.A X.stack s2 H2 ⟨.ref a :: us, []⟩ (.ref a :: us) (.ref a :: vs) Q (E σ) hr I2.env0 b (.cons rfl r) q) fun r s' hq => ?_
  cases r with
  | error e => exact hx σ _ H2 s2 e s' I2 hq
  | ok fl =>
    cases fl with
    | ret u => exact I2.after hq
    | next => exact False.elim hq
    | brk => exact False.elim hq
    | cont => exact False.elim hq
theorem pe_instC (F : MtC X.prog X.w X.K X.mg X.base CX0 k C "__call__" ps sp) (hfn : ∀ f, Meth X.K C "__call__" f → PySem.W.fnIn X.K f = true) (hr : Room k X.A) (hN : X.N[i]? = some x) (hv : Vis X.env.scope x) (ha : PA X (e :: es) t)
    (hdb : (x == ("__debug__" : Str)) = false := by decide) (hcd : (x == ("__classdict__" : Str)) = false := by decide)
    (he : starEach (e :: es) X.env = (false, eval e X.env) :: starEach es X.env := by rfl) (hpl : (backTo pos (starEach es X.env)).any (·.1) = false := by rfl) :
    PE X (.Call (.Name x p) (e :: es) [] pos) (tInst i C sp (fun _ => E0) t) := pe_instX F hfn hr (fun _ _ _ _ _ _ _ z => (show False from z).elim) hN hv ha hdb hcd he hpl
theorem pe_instS (F : MtC X.prog X.w X.K X.mg X.base (L2.CX X.prog X.w) k C "__call__" ps sp) (hfn : ∀ f, Meth X.K C "__call__" f → PySem.W.fnIn X.K f = true) (hr : Room k X.A) (tk : Takes X W) (hN : X.N[i]? = some x) (hv : Vis X.env.scope x) (ha : PA X (e :: es) t)
    (hdb : (x == ("__debug__" : Str)) = false := by decide) (hcd : (x == ("__classdict__" : Str)) = false := by decide)
    (he : starEach (e :: es) X.env = (false, eval e X.env) :: starEach es X.env := by rfl) (hpl : (backTo pos (starEach es X.env)).any (·.1) = false := by rfl) :
    PE X (.Call (.Name x p) (e :: es) [] pos) (tInst i C sp (WE W) t) := pe_instX F hfn hr (passAt tk) hN hv ha hdb hcd he hpl
end
/-! ### an own class made by keywords alone -/
structure MkKC (P : Program) (w : World) (K : PySem.W.Frag) (mg : Str → Option Value) (base : Heap) (k : Nat) (C : Addr) (x : Str) (ps ks : List Str) (gV : List V → List V → List V) (sp : Sp) : Prop where
  ex : ∃ (f : Addr) (fd : FuncData) (g : List Value → List Value → List Value), FnOk P w K mg base CX0 k f fd ps sp ∧ Mk K C f ∧ mg x = some (.ref C) ∧ KBn K fd ps 1 ks g gV
theorem pe_makeKC {X : Cx} {k : Nat} {C : Addr} {x : Str} {ps ks : List Str} {gV : List V → List V → List V} {sp : Sp} {kws : List Keyword} {tk : TA} {p pos : Pos} (F : MkKC X.prog X.w X.K X.mg X.base k C x ps ks gV sp) (hr : Room (k + 1) X.A) (hg : Gl X x) (hkw : PK X kws tk)
    (hall : (backToKw pos (keywordEach kws X.env)).all (·.1.isSome) = true := by rfl) (hks : (backToKw pos (keywordEach kws X.env)).filterMap (·.1) = ks := by rfl) (hdb : (x == ("__debug__" : Str)) = false := by decide)
    (hpl : ((backTo pos (starEach [] X.env)).any (·.1) || (backToKw pos (keywordEach kws X.env)).any (·.1.isNone)) = false := by rfl) :
    PE X (.Call (.Name x p) [] kws pos) (tMakeK C 0 ks.length sp gV E0 tNil tk) := by
  obtain ⟨f, fd, g, h, M, hm, hb⟩ := F.ex
  exact pe_makeK0 M h hr hg hm hb pass0 hkw hall hks hdb hpl
theorem vals_rev : ∀ {vs : List V} {us : List Value}, Vals vs us → Vals vs.reverse us.reverse
  | _, _, .nil => .nil
  | _, _, .cons r h => by
    rw [List.reverse_cons, List.reverse_cons]
    exact (vals_rev h).append (.cons r .nil)
def kwV : List V → List V → List V := fun vs zs => vs ++ zs.reverse
def kwU : List Value → List Value → List Value := fun vs zs => vs ++ zs.reverse
theorem kwRel {vs : List V} {us : List Value} {zs : List V} {ws : List Value} (r : Vals vs us) (z : Vals zs ws) : Vals (kwV vs zs) (kwU us ws) := r.append (vals_rev z)
theorem meth_fn {K : PySem.W.Frag} {C f g : Addr} {m : Str} (M : Meth K C m f) (h : PySem.W.findIn K (.ref C) m = some (some (.ref g))) (hf : PySem.W.fnIn K g = true) : PySem.W.fnIn K f = true := by
  have e := M.at_.symm.trans h
  cases e
  exact hf
end Kb

/-! ### shown data of ints -/
namespace Kb
open PySem PySem.Spec PyProof.Rows L2 ClX
theorem shown_int {i : Int} (h : i.natAbs < 2 ^ 1000) : (PyData.shown (.int i)).length ≤ 1001 := by
  show (Str.ofString (toString i)).length ≤ 1001
  rw [PySem.ofString_length]
  exact int_text_length_le (by decide) (PySem.Flt.log2_lt_of (by decide) h)
def showsI (i : Int) : Prop := i.natAbs < 2 ^ 1000
theorem weight_int {i : Int} (h : showsI i) : (PyData.int i).weight ≤ 1001 := by
  have := PySem.Flt.log2_lt_of (show 0 < 1000 by decide) h
  show (if i == 0 then 0 else i.natAbs.log2 + 1) ≤ 1001
  split <;> omega
theorem show_int {i : Int} (h : showsI i) : (PyData.int i).showable = true ∧ (PyData.int i).leavesShort 1001 = true := by
  refine ⟨decide_eq_true ?_, decide_eq_true (shown_int h)⟩
  exact Nat.lt_of_lt_of_le (PySem.Flt.log2_lt_of (by decide) h) (by decide)
structure ShOk (d : PyData) : Prop where
  a : d.showable = true
  b : d.hasDict = false
  c : d.depth ≤ 100
  d : d.shown.length ≤ sizeLine
theorem shOk {d : PyData} (h1 : d.showable = true) (h2 : d.hasDict = false) (h3 : d.depth ≤ 100) (h4 : d.leavesShort 1001 = true) (h5 : 1003 * d.weight + 1001 ≤ sizeLine) : ShOk d := ⟨h1, h2, h3, Nat.le_trans (PyData.shown_le 1001 (by decide) d h4) h5⟩
theorem sh2 {a b : Int} (ha : showsI a) (hb : showsI b) : ShOk (.tuple [.int a, .int b]) := by
  have sa := show_int ha
  have sb := show_int hb
  refine shOk ?_ rfl (by show 1 ≤ 100; decide) ?_ ?_
  · show ((PyData.int a).showable && ((PyData.int b).showable && true)) = true
    rw [sa.1, sb.1]; rfl
  · show ((PyData.int a).leavesShort 1001 && ((PyData.int b).leavesShort 1001 && true)) = true
    rw [sa.2, sb.2]; rfl
  · have wa := weight_int ha
    have wb := weight_int hb
    show 1003 * ((PyData.int a).weight + 1 + ((PyData.int b).weight + 1 + 0)) + 1001 ≤ sizeLine
    rw [sizeLine_eq]; omega
theorem sh4 {a b c d : Int} (ha : showsI a) (hb : showsI b) (hc : showsI c) (hd : showsI d) : (PyData.tuple [.int a, .int b, .int c, .int d]).showable = true ∧ (PyData.tuple [.int a, .int b, .int c, .int d]).leavesShort 1001 = true := by
  have sa := show_int ha
  have sb := show_int hb
  have sc := show_int hc
  have sd := show_int hd
  refine ⟨?_, ?_⟩
  · show ((PyData.int a).showable && ((PyData.int b).showable && ((PyData.int c).showable && ((PyData.int d).showable && true)))) = true
    rw [sa.1, sb.1, sc.1, sd.1]; rfl
  · show ((PyData.int a).leavesShort 1001 && ((PyData.int b).leavesShort 1001 && ((PyData.int c).leavesShort 1001 && ((PyData.int d).leavesShort 1001 && true)))) = true
    rw [sa.2, sb.2, sc.2, sd.2]; rfl
theorem shM {a b c d t u : Int} (ha : showsI a) (hb : showsI b) (hc : showsI c) (hd : showsI d) (ht : showsI t) (hu : showsI u) : ShOk (.tuple [.tuple [.int a, .int b, .int c, .int d], .int t, .int u]) := by
  have s4 := sh4 ha hb hc hd
  have st := show_int ht
  have su := show_int hu
  refine shOk ?_ rfl (by show 2 ≤ 100; decide) ?_ ?_
  · show ((PyData.tuple [.int a, .int b, .int c, .int d]).showable && ((PyData.int t).showable && ((PyData.int u).showable && true))) = true
    rw [s4.1, st.1, su.1]; rfl
  · show ((PyData.tuple [.int a, .int b, .int c, .int d]).leavesShort 1001 && ((PyData.int t).leavesShort 1001 && ((PyData.int u).leavesShort 1001 && true))) = true
    rw [s4.2, st.2, su.2]; rfl
  · have wa := weight_int ha
    have wb := weight_int hb
    have wc := weight_int hc
    have wd := weight_int hd
    have wt := weight_int ht
    have wu := weight_int hu
    show 1003 * (((PyData.int a).weight + 1 + ((PyData.int b).weight + 1 + ((PyData.int c).weight + 1 + ((PyData.int d).weight + 1 + 0)))) + 1 + ((PyData.int t).weight + 1 + ((PyData.int u).weight + 1 + 0))) + 1001 ≤ sizeLine
    rw [sizeLine_eq]; omega
end Kb

/-! ### own operators, classmethods without arguments -/
namespace PySem.W
open PySem PySem.Calls PyProof.Rows
section
variable {prog : Program} {w : World} {M : Model} {A : Around} {E : Value → Shared → Prop} {s : Shared} {K : Frag} {x C D L f : Addr} {h₀ : Heap} {m : Str → Option Value} {ox : Obj} {od : Option Obj} {nm : String}
def plainMro (K : Frag) (C : Addr) : Bool := (clsIn K C).any fun cd => cd.mro == [.ref C, .type "object"]
theorem plain_mro (h : plainMro K C = true) : ∃ cd, clsIn K C = some cd ∧ cd.mro = [.ref C, .type "object"] := by
  obtain ⟨cd, hc, hm⟩ := any_some h
  exact ⟨cd, hc, eq_of_beq hm⟩
theorem plain_of {cd : ClassData} (h : clsIn K C = some cd) (hm : cd.mro = [.ref C, .type "object"]) : plainMro K C = true := by
  unfold plainMro
  rw [h]
  show (cd.mro == _) = true
  rw [hm]
  exact beq_self_eq_true _
/-- a class without the operator -/
theorem fills_no {h : Heap} (X : K.In h) (hp : plainMro K D = true) (h1 : findIn K (.ref D) (PySem.dunder nm) = some none) (h2 : findIn K (.ref D) (dunderR nm) = some none) (h3 : findIn K (.type "object") (PySem.dunder nm) = some none) (h4 : findIn K (.type "object") (dunderR nm) = some none) :
    Looks M h (fillsNumberSlot (.ref D) nm) false := by
  intro A Q E s k q
  obtain ⟨cd, hcd, hm⟩ := plain_mro hp
  have Lm := (looks_clsIn (M := M) (X.keeps k) hcd).andThen (f := fun cd => pure cd.mro) .now
  have X' : K.In s.heap := X.keeps k
  have L1 : Looks M s.heap (typeLookup (.ref D) (PySem.dunder nm)) none := looks_findIn X' h1
  have L2 : Looks M s.heap (typeLookup (.ref D) (dunderR nm)) none := looks_findIn X' h2
  have L3 : Looks M s.heap (typeLookup (.type "object") (PySem.dunder nm)) none := looks_findIn X' h3
  have L4 : Looks M s.heap (typeLookup (.type "object") (dunderR nm)) none := looks_findIn X' h4
  unfold fillsNumberSlot
  refine wpAny_bind (Lm.at ?_)
  rw [hm, List.anyM_cons]
  refine wpAny_bind ?_
  show wpAny M A (List.anyM _ [PySem.dunder nm, dunderR nm]) _ _ _
  rw [List.anyM_cons]
  refine wpAny_bind (wpAny_bind (L1.at (wpAny_pure ?_)))
  rw [if_neg Bool.false_ne_true, List.anyM_cons]
  refine wpAny_bind (wpAny_bind (L2.at (wpAny_pure ?_)))
  rw [if_neg Bool.false_ne_true]
  refine wpAny_pure ?_
  rw [if_neg Bool.false_ne_true, List.anyM_cons]
  refine wpAny_bind (wpAny_bind (L3.at (wpAny_bind (L4.at (wpAny_pure ?_)))))
  rw [if_neg (by decide)]
  exact wpAny_pure q
theorem binop_KO {op : Operator} {b : Value} {Q : Value → Shared → Prop} (F : Fr h₀ L s.heap m) (X₀ : K.In h₀) (I : InstAt s.heap x ox C od) (hb : Looks (model prog w) s.heap (typeOf b) (.ref D)) (hne : C ≠ D) (hc : selfFirst K C = true)
    (hs : findIn K (.ref C) (PySem.dunder op.info.2) = some (some (.ref f))) (hf : isFn K (.ref f) = true)
    (hp : plainMro K D = true) (h1 : findIn K (.ref D) (PySem.dunder op.info.2) = some none) (h2 : findIn K (.ref D) (dunderR op.info.2) = some none) (h3 : findIn K (.type "object") (PySem.dunder op.info.2) = some none) (h4 : findIn K (.type "object") (dunderR op.info.2) = some none)
    (h : wpAny (model prog w) A (call (.ref f) [.ref x, b]) (CmpBack Q) E s) : wpAny (model prog w) A (binaryOp op (.ref x) b) Q E s := by
  have X := X₀.keeps F.keep
  obtain ⟨cd, rest, hcd, hm⟩ := ksp_first hc
  have L3 : Looks (model prog w) s.heap (fillsNumberSlot (.ref C) op.info.2) true := fills_K X hcd hm hs
  have L4 : Looks (model prog w) s.heap (fillsNumberSlot (.ref D) op.info.2) false := fills_no X hp h1 h2 h3 h4
  have hn : (Value.ref C == Value.ref D) = false := Bool.eq_false_iff.mpr fun q => hne (Value.ref.inj (beq_iff_eq.mp q))
  have one := ksp_try X I hs hf h
  unfold binaryOp
  refine wpAny_holding (wpAny_bind ?_)
  unfold binaryOp1
  refine wpAny_bind (I.type.here (wpAny_bind (hb.here (wpAny_bind (L3.here ?_)))))
  simp only [hn, Bool.false_eq_true, if_false]
  refine wpAny_bind (L4.here ?_)
  simp only [Bool.and_false, Bool.false_eq_true, if_false, Bool.false_and]
  refine wpAny_bind (wpAny_pure ?_)
  simp only [Bool.false_eq_true, if_false, if_true]
  refine wpAny_bind (m := tryMethod (.ref x) _ b) (wpAny_mono one (fun r s' hr => ?_) fun _ _ e => e)
  obtain ⟨v, rfl, hv⟩ := hr
  exact wpAny_pure (wpAny_pure hv)
theorem fillsI_no {h : Heap} {add : Bool} (X : K.In h) (hp : plainMro K D = true) (h1 : findIn K (.ref D) (dunderI nm) = some none) (h3 : findIn K (.type "object") (dunderI nm) = some none) :
    Looks M h (fillsInplaceSlot (.ref D) nm add) false := by
  intro A Q E s k q
  obtain ⟨cd, hcd, hm⟩ := plain_mro hp
  have Lm := (looks_clsIn (M := M) (X.keeps k) hcd).andThen (f := fun cd => pure cd.mro) .now
  have X' : K.In s.heap := X.keeps k
  have L1 : Looks M s.heap (typeLookup (.ref D) (dunderI nm)) none := looks_findIn X' h1
  have L3 : Looks M s.heap (typeLookup (.type "object") (dunderI nm)) none := looks_findIn X' h3
  unfold fillsInplaceSlot
  refine wpAny_bind (Lm.at ?_)
  rw [hm, List.anyM_cons]
  refine wpAny_bind (wpAny_bind (L1.at (wpAny_pure ?_)))
  rw [if_neg Bool.false_ne_true, List.anyM_cons]
  refine wpAny_bind (wpAny_bind (L3.at (wpAny_pure ?_)))
  rw [if_neg (by decide)]
  exact wpAny_pure q
theorem inplace_K {op : Operator} {b : Value} {Q : Value → Shared → Prop} (F : Fr h₀ L s.heap m) (X₀ : K.In h₀) (I : InstAt s.heap x ox C od) (hb : Looks (model prog w) s.heap (typeOf b) (.ref C)) (hp : plainMro K C = true)
    (hi : findIn K (.ref C) (dunderI op.info.2) = some none) (hi2 : findIn K (.type "object") (dunderI op.info.2) = some none)
    (hs : findIn K (.ref C) (PySem.dunder op.info.2) = some (some (.ref f))) (hf : isFn K (.ref f) = true)
    (h : wpAny (model prog w) A (call (.ref f) [.ref x, b]) (CmpBack Q) E s) : wpAny (model prog w) A (inplaceOp op (.ref x) b) Q E s := by
  have X := X₀.keeps F.keep
  obtain ⟨cd, hcd, hm⟩ := plain_mro hp
  have L3 : Looks (model prog w) s.heap (fillsNumberSlot (.ref C) op.info.2) true := fills_K X hcd hm hs
  have LI : Looks (model prog w) s.heap (fillsInplaceSlot (.ref C) op.info.2 (op == .Add)) false := fillsI_no X hp hi hi2
  have one := ksp_try X I hs hf h
  unfold inplaceOp
  refine wpAny_holding (wpAny_bind (I.type.here (wpAny_bind (LI.here ?_))))
  simp only [Bool.false_eq_true, if_false]
  refine wpAny_bind ?_
  unfold binaryOp1
  refine wpAny_bind (I.type.here (wpAny_bind (hb.here (wpAny_bind (L3.here ?_)))))
  simp only [beq_self_eq_true, if_true]
  refine wpAny_bind (wpAny_pure ?_)
  simp only [Bool.and_false, Bool.false_eq_true, if_false, Bool.false_and]
  refine wpAny_bind (wpAny_pure ?_)
  simp only [Bool.false_eq_true, if_false]
  refine wpAny_bind (m := tryMethod (.ref x) _ b) (wpAny_mono one (fun r s' hr => ?_) fun _ _ e => e)
  obtain ⟨v, rfl, hv⟩ := hr
  exact wpAny_pure (wpAny_pure hv)
end
end PySem.W
namespace Kb
open PySem PySem.Spec PyProof.Rows L2 ClX
/-- the class at C carries the operator -/
structure OpC (K : PySem.W.Frag) (C : Addr) (op : Operator) : Prop where
  sf : PySem.W.selfFirst K C = true
  r : PySem.W.findIn K (.ref C) (dunderR op.info.2) = some none
/-- the class at D doesn't -/
structure OpNo (K : PySem.W.Frag) (D : Addr) (op : Operator) : Prop where
  pm : PySem.W.plainMro K D = true
  h1 : PySem.W.findIn K (.ref D) (PySem.dunder op.info.2) = some none
  h2 : PySem.W.findIn K (.ref D) (dunderR op.info.2) = some none
  h3 : PySem.W.findIn K (.type "object") (PySem.dunder op.info.2) = some none
  h4 : PySem.W.findIn K (.type "object") (dunderR op.info.2) = some none
structure OpInt (K : PySem.W.Frag) (C : Addr) (op : Operator) : Prop where
  h1 : ∃ fo, PySem.W.findIn K (.type "int") (PySem.dunder op.info.2) = some fo
  h2 : ∃ ro, PySem.W.findIn K (.type "int") (dunderR op.info.2) = some ro
  sb : PySem.W.subIn K (.type "int") (.ref C) = some false
structure OpIn (K : PySem.W.Frag) (C : Addr) (op : Operator) : Prop where
  pm : PySem.W.plainMro K C = true
  i1 : PySem.W.findIn K (.ref C) (dunderI op.info.2) = some none
  i2 : PySem.W.findIn K (.type "object") (dunderI op.info.2) = some none
def rBinC (C : Addr) (sp : Sp) : R2 := fun x y H Q => ∃ (a dx : Addr) (fs : List (Str × V)) (b dy : Addr) (gs : List (Str × V)), x = .ref a ∧ y = .ref b ∧ H a = some (.ins C dx fs) ∧ H b = some (.ins C dy gs) ∧ sp [x, y] H Q E0
def rBinD (C D : Addr) (sp : Sp) : R2 := fun x y H Q => ∃ (a dx : Addr) (fs : List (Str × V)) (b dy : Addr) (gs : List (Str × V)), x = .ref a ∧ y = .ref b ∧ H a = some (.ins C dx fs) ∧ H b = some (.ins D dy gs) ∧ sp [x, y] H Q E0
def rBinI (C : Addr) (sp : Sp) : R2 := fun x y H Q => ∃ (a dx : Addr) (fs : List (Str × V)) (n : Int), x = .ref a ∧ y = .int n ∧ H a = some (.ins C dx fs) ∧ sp [x, y] H Q E0
section
variable {X : Cx} {k : Nat} {C D : Addr} {ps : List Str} {sp : Sp} {op : Operator}
theorem run_bin {pins : List (Addr × Obj)} {σ : L2.St} {H : Hp} {s : Shared} {a : Addr} {y : V} {u : Value} {f : Addr} {fd : FuncData} {Q : VK} (I : Inv X pins σ H s) (hf : FnOk X.prog X.w X.K X.mg X.base CX0 k f fd ps sp) (hr : Room k X.A) (hb : Binds X.K fd ps []) (ry : RelV y u) (q : sp [.ref a, y] H Q E0) :
    wpAny (model X.prog X.w) X.A (call (.ref f) [.ref a, u]) (PySem.W.CmpBack (EP X pins σ Q)) X.xe s := by
  refine wpAny_mono (run_fn (us := [.ref a, u]) (vs := [.ref a, y]) hf hr hb .nil pass0 I (.cons rfl (.cons ry .nil)) q) (fun w s' z => ?_) fun _ _ z => z
  obtain ⟨z', H', I', rz, qz⟩ := z
  exact SlX.cmpback rz ⟨z', H', I', rz, qz⟩
theorem op_binC {m : Str} (F : MtC X.prog X.w X.K X.mg X.base CX0 k C m ps sp) (c : OpC X.K C op) (hr : Room k X.A) (hm : PySem.dunder op.info.2 = m := by decide +kernel) : OpR X (binaryOp op) (rBinC C sp) := by
  subst hm
  intro pins s σ H x y v u Q I rx ry h
  obtain ⟨a, dx, fs, b, dy, gs, rfl, rfl, ha, hb', q⟩ := h
  obtain ⟨f, fd, hf, M, hb⟩ := F.ex
  cases (show v = Value.ref a from rx)
  cases (show u = Value.ref b from ry)
  obtain ⟨_, O, _⟩ := ins_get I.hok ha
  obtain ⟨od, J, _⟩ := O.look
  obtain ⟨_, O', _⟩ := ins_get I.hok hb'
  obtain ⟨od', J', _⟩ := O'.look
  obtain ⟨m, hF⟩ := I.fr
  exact PySem.W.binop_K hF I.ok.mod.kin J J'.type c.sf M.at_ M.fn (run_bin (y := .ref b) I hf hr hb (by exact rfl) q)
theorem op_binD {m : Str} (F : MtC X.prog X.w X.K X.mg X.base CX0 k C m ps sp) (c : OpC X.K C op) (d : OpNo X.K D op) (hr : Room k X.A) (hm : PySem.dunder op.info.2 = m := by decide +kernel) : OpR X (binaryOp op) (rBinD C D sp) := by
  subst hm
  intro pins s σ H x y v u Q I rx ry h
  obtain ⟨a, dx, fs, b, dy, gs, rfl, rfl, ha, hb', q⟩ := h
  obtain ⟨f, fd, hf, M, hb⟩ := F.ex
  cases (show v = Value.ref a from rx)
  cases (show u = Value.ref b from ry)
  obtain ⟨_, O, _⟩ := ins_get I.hok ha
  obtain ⟨od, J, _⟩ := O.look
  obtain ⟨_, O', _⟩ := ins_get I.hok hb'
  obtain ⟨od', J', _⟩ := O'.look
  obtain ⟨m, hF⟩ := I.fr
  have hne : C ≠ D := fun e => by
    have h1 := M.at_
    rw [e, d.h1] at h1
    cases h1
  exact PySem.W.binop_KO hF I.ok.mod.kin J J'.type hne c.sf M.at_ M.fn d.pm d.h1 d.h2 d.h3 d.h4 (run_bin (y := .ref b) I hf hr hb (by exact rfl) q)
theorem op_binI {m : Str} (F : MtC X.prog X.w X.K X.mg X.base CX0 k C m ps sp) (c : OpC X.K C op) (d : OpInt X.K C op) (hr : Room k X.A) (hm : PySem.dunder op.info.2 = m := by decide +kernel) : OpR X (binaryOp op) (rBinI C sp) := by
  subst hm
  intro pins s σ H x y v u Q I rx ry h
  obtain ⟨a, dx, fs, n, rfl, rfl, ha, q⟩ := h
  obtain ⟨f, fd, hf, M, hb⟩ := F.ex
  cases (show v = Value.ref a from rx)
  obtain ⟨_, O, _⟩ := ins_get I.hok ha
  obtain ⟨od, J, _⟩ := O.look
  obtain ⟨m, hF⟩ := I.fr
  obtain ⟨fo, h1⟩ := d.h1
  obtain ⟨ro, h2⟩ := d.h2
  obtain ⟨t, rfl⟩ := ry
  exact PySem.W.ksp_binT (T := "int") hF I.ok.mod.kin J rfl c.sf M.at_ M.fn c.r (.inl rfl) h1 h2 d.sb (run_bin (y := .int n) I hf hr hb (by exact ⟨t, rfl⟩) q)
theorem op_inC {m : Str} (F : MtC X.prog X.w X.K X.mg X.base CX0 k C m ps sp) (d : OpIn X.K C op) (hr : Room k X.A) (hm : PySem.dunder op.info.2 = m := by decide +kernel) : OpR X (inplaceOp op) (rBinC C sp) := by
  subst hm
  intro pins s σ H x y v u Q I rx ry h
  obtain ⟨a, dx, fs, b, dy, gs, rfl, rfl, ha, hb', q⟩ := h
  obtain ⟨f, fd, hf, M, hb⟩ := F.ex
  cases (show v = Value.ref a from rx)
  cases (show u = Value.ref b from ry)
  obtain ⟨_, O, _⟩ := ins_get I.hok ha
  obtain ⟨od, J, _⟩ := O.look
  obtain ⟨_, O', _⟩ := ins_get I.hok hb'
  obtain ⟨od', J', _⟩ := O'.look
  obtain ⟨m, hF⟩ := I.fr
  exact PySem.W.inplace_K hF I.ok.mod.kin J J'.type d.pm d.i1 d.i2 M.at_ M.fn (run_bin (y := .ref b) I hf hr hb (by exact rfl) q)
end
/-! ### C.m(), m a classmethod -/
section
variable {X : Cx} {k : Nat} {C : Addr} {x m : Str} {ps : List Str} {sp : Sp} {W : WX} {p pos apos : Pos}
theorem pe_cm0X {CX : CXT} {E : L2.St → XK} {pl : Sem Bool} (F : CmC X.prog X.w X.K X.mg X.base CX k C x m ps sp) (hr : Room k X.A) (hx : ∀ σ, PassesAt CX X σ (E σ)) (hg : Gl X x) (hdb : (x == ("__debug__" : Str)) = false := by decide)
    (ht : eval (.Call (.Attribute (.Name x p) m apos) [] [] pos) X.env = (do
      let ov ← eval (.Name x p) X.env
      standAt apos.atName
      let (f, first) ← holding [ov] (getMethod ov m pl)
      callWith pos f first (backTo pos (starEach [] X.env)) (backToKw pos (keywordEach [] X.env))) := by rfl) :
    PE X (.Call (.Attribute (.Name x p) m apos) [] [] pos) (tCm C sp E tNil) := by
  obtain ⟨f, q, fd, h, r, c, hm, hb⟩ := F.ex
  refine ⟨fun pins s σ H Q I hh => ?_⟩
  refine PySem.W.methodCall_KW (pl := pl) (ld_glob I hg hm ?_ hdb) ht
  refine getmethcm_ok I r c fun s2 I2 => ?_
  refine PySem.W.callWith_M0 (K := X.K) (first := []) ⟨pin_at I2, I2.kIn⟩ c.fi ?_
  have hl : ([Value.ref C] : List Value).length = ps.length := by
    rw [← h.len _ _ _ _ hh]; rfl
  have b := hb s2 [.ref C] I2.kIn (by rw [List.append_nil]; exact hl)
  rw [List.append_nil] at b
  have z : wpAny (model X.prog X.w) X.A (call (.ref s.heap.objs.size) []) (EP X ((s.heap.objs.size, PySem.W.methodObj (.ref f) (.ref C)) :: pins) σ Q) X.xe s2 := by
   refine wpAny_call (PySem.W.method_call (pin_at I2) (codeAny_mono (h.run X.A X.stack s2 H ⟨[.ref C], []⟩ [.ref C] [.ref C] Q (E σ) hr I2.env0 b (.cons rfl .nil) hh) fun r s' hq => ?_))
   cases r with
   | error e => exact hx σ _ H s2 e s' I2 hq
   | ok fl =>
    cases fl with
    | ret u => exact I2.after hq
    | next => exact False.elim hq
    | brk => exact False.elim hq
    | cont => exact False.elim hq
  exact thn z fun _ _ y => unpinE y
theorem pe_cm0C {pl : Sem Bool} (F : CmC X.prog X.w X.K X.mg X.base CX0 k C x m ps sp) (hr : Room k X.A) (hg : Gl X x) (hdb : (x == ("__debug__" : Str)) = false := by decide)
    (ht : eval (.Call (.Attribute (.Name x p) m apos) [] [] pos) X.env = (do
      let ov ← eval (.Name x p) X.env
      standAt apos.atName
      let (f, first) ← holding [ov] (getMethod ov m pl)
      callWith pos f first (backTo pos (starEach [] X.env)) (backToKw pos (keywordEach [] X.env))) := by rfl) :
    PE X (.Call (.Attribute (.Name x p) m apos) [] [] pos) (tCm C sp (fun _ => E0) tNil) := pe_cm0X F hr (fun _ _ _ _ _ _ _ z => (show False from z).elim) hg hdb ht
end
end Kb

/-! ### new objects at an abstract heap, repr of data, what stands in the heap -/
namespace Kb
open PySem PySem.Spec PyProof.Rows L2 ClX
theorem isIte {c A B : Prop} {i : Decidable c} (h : @ite Prop c i A B) : @ite Prop c i A B := h
theorem iteNSI {c A B : Prop} {i : Decidable c} {j : Decidable ((!(@decide c i)) = true)} (hc : c) (h : B) : @ite Prop ((!(@decide c i)) = true) j A B := by
  rw [if_neg (by simp [hc])]; exact h
theorem iteTI {A B : Prop} {j : Decidable (true = true)} (h : A) : @ite Prop (true = true) j A B := by
  rw [if_pos rfl]; exact h
theorem iteFI {A B : Prop} {j : Decidable (false = true)} (h : B) : @ite Prop (false = true) j A B := by
  rw [if_neg Bool.false_ne_true]; exact h
/-- a new object o: whatever heap holds it and all that stood -/
def New (H : Hp) (o : HO) (Q : VK) : Prop := ∀ p H', H p = none → Same H H' → H' p = some o → Q (.ref p) H'
theorem sm_new {H : Hp} {p : Addr} {o : HO} (h : H p = none) : Same H (upd H p o) := fun a u e => by rw [upd_ne (ne_of_none e h)]; exact e
theorem New.at {H : Hp} {o : HO} {Q : VK} (h : New H o Q) {p : Addr} (hp : H p = none) : Q (.ref p) (upd H p o) := h p _ hp (sm_new hp) upd_same
def tTupN (t : TA) : TE := fun σ H Q => t σ H fun xs H1 => xs.length ≤ 1000000 ∧ New H1 (.tup xs) Q
def tLstN (t : TA) : TE := fun σ H Q => t σ H fun xs H1 => xs.length ≤ 1000000 ∧ New H1 (.lst xs) Q
section
variable {X : Cx} {es : List Expr} {t : TA} {pos : Pos}
theorem pe_tupN {x1} (h : PA X es t) : PE X (.Tuple es x1 pos) (tTupN t) := by
  refine ⟨fun pins s σ H Q I hq => ?_⟩
  refine wpAny_Tuple_spliced (thn (h.run pos pins s σ H _ I hq) fun us s1 ⟨xs, H1, I1, r, z, q⟩ => ⟨by rw [← r.length]; exact szl z, ?_⟩)
  have hf : H1 s1.heap.objs.size = none := I1.hok.fresh (Nat.le_refl _)
  refine ⟨.ref s1.heap.objs.size, upd H1 s1.heap.objs.size (.tup xs), I1.laid (t' := s1.toks) (fun b u e => Heap.get?_push_of_some _ e) (Nat.le_refl _) ?_, rfl, q.at hf⟩
  exact ⟨szl z, us, r, ⟨_, Heap.get?_push_size _ rfl, rfl, _, rfl⟩⟩
theorem pe_lstN (h : PA X es t) : PE X (.List es pos) (tLstN t) := by
  refine ⟨fun pins s σ H Q I hq => ?_⟩
  refine wpAny_List_spliced (thn (h.run pos pins s σ H _ I hq) fun us s1 ⟨xs, H1, I1, r, z, q⟩ => ⟨by rw [← r.length]; exact szl z, ?_⟩)
  have hf : H1 s1.heap.objs.size = none := I1.hok.fresh (Nat.le_refl _)
  refine ⟨.ref s1.heap.objs.size, upd H1 s1.heap.objs.size (.lst xs), I1.laid (t' := s1.toks) (fun b u e => Heap.get?_push_of_some _ e) (Nat.le_refl _) ?_, rfl, q.at hf⟩
  exact ⟨szl z, us, 0, r, Heap.get?_push_size _ rfl⟩
end
/-! ### repr -/
structure Shw (d : PyData) (n w : Nat) : Prop where
  a : d.showable = true
  b : d.hasDict = false
  c : d.depth ≤ n
  l : d.leavesShort 1001 = true
  w : d.weight ≤ w
structure ShwL (ds : List PyData) (n w : Nat) : Prop where
  a : PyData.showableAll ds = true
  b : PyData.hasDictAll ds = false
  c : PyData.depthAll ds ≤ n
  l : PyData.leavesShortAll 1001 ds = true
  w : PyData.weightAll ds ≤ w
theorem Shw.int {i : Int} (h : showsI i) : Shw (.int i) 0 1001 := ⟨(show_int h).1, rfl, Nat.le_refl _, (show_int h).2, weight_int h⟩
theorem Shw.bool (b : Bool) : Shw (.bool b) 0 0 := ⟨rfl, rfl, Nat.le_refl _, rfl, Nat.le_refl _⟩
theorem Shw.none : Shw .none 0 0 := ⟨rfl, rfl, Nat.le_refl _, rfl, Nat.le_refl _⟩
theorem Shw.str {z : Str} {m : Nat} (h : z.cps.toList.all (fun c => decide (c < 16 ^ 8)) = true) (hm : z.length ≤ m) : Shw (.str z) 0 m := ⟨rfl, rfl, Nat.le_refl _, h, hm⟩
theorem ShwL.nil : ShwL [] 0 0 := ⟨rfl, rfl, Nat.le_refl _, rfl, Nat.le_refl _⟩
theorem ShwL.cons {d : PyData} {ds : List PyData} {n w n' w' : Nat} (h : Shw d n w) (hs : ShwL ds n' w') : ShwL (d :: ds) (max n n') (w + 1 + w') := by
  refine ⟨?_, ?_, ?_, ?_, ?_⟩
  · show (d.showable && PyData.showableAll ds) = true
    rw [h.a, hs.a]; rfl
  · show (d.hasDict || PyData.hasDictAll ds) = false
    rw [h.b, hs.b]; rfl
  · show max d.depth (PyData.depthAll ds) ≤ _
    have := h.c
    have := hs.c
    omega
  · show (d.leavesShort 1001 && PyData.leavesShortAll 1001 ds) = true
    rw [h.l, hs.l]; rfl
  · show d.weight + 1 + PyData.weightAll ds ≤ _
    have := h.w
    have := hs.w
    omega
theorem Shw.tup {ds : List PyData} {n w : Nat} (h : ShwL ds n w) : Shw (.tuple ds) (n + 1) w := ⟨h.a, h.b, Nat.succ_le_succ h.c, h.l, h.w⟩
theorem Shw.lst {ds : List PyData} {n w : Nat} (h : ShwL ds n w) : Shw (.list ds) (n + 1) w := ⟨h.a, h.b, Nat.succ_le_succ h.c, h.l, h.w⟩
theorem Shw.ok {d : PyData} {n w : Nat} (h : Shw d n w) (hn : n ≤ 100) (hw : 1003 * w + 1001 ≤ 16000000) : ShOk d := shOk h.a h.b (Nat.le_trans h.c hn) h.l (by
  have := h.w
  have e : 1003 * d.weight ≤ 1003 * w := Nat.mul_le_mul_left _ this
  exact Nat.le_trans (show 1003 * d.weight + 1001 ≤ 16000000 by omega) (by decide))
section
variable {X : Cx} {k : Nat}
theorem call_reprW (hg : X.A.guards = some []) (hr : Room k X.A) : CallR X (.builtin "repr") (fun xs H Q => ∃ x d, xs = [x] ∧ Dp X.K H x d ∧ ShOk d ∧ Q (.str d.shown) H) := by
  intro pins s σ H xs us Q I r h
  obtain ⟨x, d, e, hd, hs, q⟩ := h
  exact call_reprD hg hr pins s σ H xs us Q I r ⟨x, d, e, hd, hs.a, hs.b, hs.c, hs.d, q⟩
end
end Kb

/-! ### tuples put together and cut, at an abstract heap -/
namespace Kb
open PySem PySem.Spec PyProof.Rows L2 ClX
def rCatN : R2 := fun x y H Q => ∃ a b xs ys, x = .ref a ∧ y = .ref b ∧ H a = some (.tup xs) ∧ H b = some (.tup ys) ∧ xs.length + ys.length ≤ 1000000 ∧ ∀ p H', Same H H' → H' p = some (.tup (xs ++ ys)) → Q (.ref p) H'
def rSlN : V → Option Int → Option Int → Hp → VK → Prop := fun x lo hi H Q => ∃ a xs, x = .ref a ∧ H a = some (.tup xs) ∧ ∀ p H', Same H H' → H' p = some (.tup (cutV xs lo hi)) → Q (.ref p) H'
section
variable {X : Cx}
theorem op_catN : OpR X (binaryOp .Add) rCatN := by
  intro pins s σ H x y v u Q I rx ry h
  obtain ⟨a, b, xs, ys, e1, e2, ha, hb, hz, q⟩ := h
  refine op_catA pins s σ H x y v u Q I rx ry ⟨a, b, xs, ys, e1, e2, SqT.of ha, SqT.of hb, szl hz, fun e => ?_, fun _ e => ?_, fun _ _ p hp => q p _ (sm_new hp) upd_same⟩
  · refine q b H (Same.refl H) ?_
    rw [hb, e]; rfl
  · refine q a H (Same.refl H) ?_
    rw [ha, e, List.append_nil]
theorem sl_tupN : SlR X rSlN := by
  intro pins s σ H x v vl vu lo hi sl Q I rx hs pl pu h
  obtain ⟨a, xs, e1, ha, q⟩ := h
  refine sl_tupA pins s σ H x v vl vu lo hi sl Q I rx hs pl pu ⟨a, xs, e1, SqT.of ha, fun hw => ?_, fun _ p hp => q p _ (sm_new hp) upd_same⟩
  refine q a H (Same.refl H) ?_
  rw [ha]
  unfold cutV
  rw [hw.1, hw.2]
  simp
end
end Kb

/-! ### NotImplemented told by the left operand's method, the right operand's own reflected operator -/
namespace PySem.W
open PySem PySem.Calls PyProof.Rows
section
variable {prog : Program} {w : World} {M : Model} {A : Around} {E : Value → Shared → Prop} {s : Shared} {K : Frag} {x y C D L f g : Addr} {h₀ : Heap} {m : Str → Option Value} {ox oy : Obj} {od od' : Option Obj} {nm : String}
theorem fills_R {h : Heap} {cd : ClassData} {rest : List Value} (X : K.In h) (hc : clsIn K C = some cd) (hm : cd.mro = .ref C :: rest) (h1 : findIn K (.ref C) (PySem.dunder nm) = some none) (hs : findIn K (.ref C) (dunderR nm) = some (some (.ref f))) : Looks M h (fillsNumberSlot (.ref C) nm) true := by
  intro A Q E s k q
  unfold fillsNumberSlot
  refine wpAny_bind ((looks_clsIn X hc).andThen (f := fun cd => pure cd.mro) .now A _ E s k ?_)
  rw [hm, List.anyM_cons]
  refine wpAny_bind ?_
  show wpAny M A (List.anyM _ [PySem.dunder nm, dunderR nm]) _ _ _
  rw [List.anyM_cons]
  refine wpAny_bind (wpAny_bind (looks_findIn X h1 A _ E s k (wpAny_pure ?_)))
  rw [if_neg Bool.false_ne_true, List.anyM_cons]
  refine wpAny_bind (wpAny_bind (looks_findIn X hs A _ E s k ?_))
  dsimp only
  rw [if_pos (show (!ownNameWrapper (.ref f) (dunderR nm)) = true from rfl)]
  refine wpAny_pure ?_
  rw [if_pos rfl]
  refine wpAny_pure ?_
  rw [if_pos rfl]
  exact wpAny_pure q
theorem inPy_R {h : Heap} (X : K.In h) (h1 : findIn K (.ref C) (PySem.dunder nm) = some none) (hs : findIn K (.ref C) (dunderR nm) = some (some (.ref f))) : Looks M h (numberSlotInPython (.ref C) nm) true := by
  intro A Q E s k q
  obtain ⟨hh, g, d, tt, os⟩ := s
  have X' : K.In hh := X.keeps k
  have L1 : Looks M hh (typeLookup (.ref C) (PySem.dunder nm)) none := looks_findIn X' h1
  have L2 : Looks M hh (typeLookup (.ref C) (dunderR nm)) (some (.ref f)) := looks_findIn X' hs
  unfold numberSlotInPython
  repeat lk
  exact q
theorem try_no {Q : Shared → Prop} {name : Str} {b : Value} (X : K.In s.heap) (I : InstAt s.heap x ox C od) (hs : findIn K (.ref C) name = some (some (.ref f))) (hf : isFn K (.ref f) = true)
    (h : wpAny M A (call (.ref f) [.ref x, b]) (fun v s' => v = .notImplemented ∧ Q s') E s) : wpAny M A (tryMethod (.ref x) name b) (fun r s' => r = none ∧ Q s') E s := by
  unfold tryMethod
  refine wpAny_bind (special_fn X I hs (beq_iff_eq.mp hf) (wpAny_mono h (fun v s' hv => ?_) fun _ _ e => e))
  obtain ⟨rfl, hv⟩ := hv
  exact wpAny_pure ⟨rfl, hv⟩
/-- x op y: the left one's method doesn't know the right one, whose own reflected one answers -/
theorem binop_R {op : Operator} {Q : Value → Shared → Prop} {R : Shared → Prop} (F : Fr h₀ L s.heap m) (X₀ : K.In h₀) (I : InstAt s.heap x ox C od) (J : InstAt s.heap y oy D od') (hne : C ≠ D) (hc : selfFirst K C = true) (hd : selfFirst K D = true) (hsub : subIn K (.ref D) (.ref C) = some false)
    (hs : findIn K (.ref C) (PySem.dunder op.info.2) = some (some (.ref f))) (hf : isFn K (.ref f) = true) (hr : findIn K (.ref C) (dunderR op.info.2) = some none)
    (gs : findIn K (.ref D) (PySem.dunder op.info.2) = some none) (gr : findIn K (.ref D) (dunderR op.info.2) = some (some (.ref g))) (hg : isFn K (.ref g) = true)
    (h : wpAny (model prog w) A (call (.ref f) [.ref x, .ref y]) (fun v s' => v = .notImplemented ∧ R s') E s)
    (h2 : ∀ s', R s' → K.In s'.heap ∧ (∃ ox od, InstAt s'.heap x ox C od) ∧ (∃ oy od', InstAt s'.heap y oy D od') ∧ wpAny (model prog w) A (call (.ref g) [.ref y, .ref x]) (CmpBack Q) E s') : wpAny (model prog w) A (binaryOp op (.ref x) (.ref y)) Q E s := by
  have X := X₀.keeps F.keep
  obtain ⟨cd, rest, hcd, hm⟩ := ksp_first hc
  obtain ⟨ce, rest', hce, hm'⟩ := ksp_first hd
  have hn : (Value.ref C == Value.ref D) = false := Bool.eq_false_iff.mpr fun q => hne (Value.ref.inj (beq_iff_eq.mp q))
  have one := try_no (b := .ref y) (M := model prog w) X I hs hf h
  have L3 : Looks (model prog w) s.heap (fillsNumberSlot (.ref C) op.info.2) true := fills_K X hcd hm hs
  have L4 : Looks (model prog w) s.heap (fillsNumberSlot (.ref D) op.info.2) true := fills_R X hce hm' gs gr
  have L5 : Looks (model prog w) s.heap (isSubtype (.ref D) (.ref C)) false := looks_subIn X hsub
  have L6 : Looks (model prog w) s.heap (numberSlotInPython (.ref C) op.info.2) true := ksp_inPy X hs hr (.inl rfl)
  have L7 : Looks (model prog w) s.heap (numberSlotInPython (.ref D) op.info.2) true := inPy_R X gs gr
  unfold binaryOp
  refine wpAny_holding (wpAny_bind ?_)
  unfold binaryOp1
  refine wpAny_bind (I.type.here (wpAny_bind (J.type.here (wpAny_bind (L3.here ?_)))))
  simp only [hn, Bool.false_eq_true, if_false]
  refine wpAny_bind (L4.here ?_)
  simp only [Bool.and_self, if_true]
  refine wpAny_bind (L5.here ?_)
  simp only [Bool.false_eq_true, if_false]
  refine wpAny_bind (L6.here ?_)
  simp only [if_true]
  refine wpAny_bind (L7.here ?_)
  simp only [Bool.not_true, Bool.false_eq_true, if_false]
  refine wpAny_bind (m := tryMethod (.ref x) _ _) (wpAny_mono one (fun r s' hr => ?_) fun _ _ e => e)
  obtain ⟨rfl, hR⟩ := hr
  obtain ⟨X', ⟨_, _, I'⟩, ⟨_, _, J'⟩, h3⟩ := h2 s' hR
  dsimp only
  have two := ksp_try X' J' gr hg h3
  refine wpAny_bind (I'.type.here (wpAny_bind (J'.type.here ?_)))
  simp only [hn, Bool.false_eq_true, if_false]
  refine wpAny_bind (m := tryMethod (.ref y) _ _) (wpAny_mono two (fun r s' hr => ?_) fun _ _ e => e)
  obtain ⟨v, rfl, hv⟩ := hr
  obtain ⟨hh, gg, d, tt, os⟩ := s'
  ksp_lk
  exact hv
end
end PySem.W
namespace Kb
open PySem PySem.Spec PyProof.Rows L2 ClX
/-- a function that answers NotImplemented and leaves the heap as it was -/
structure FnNi (P : Program) (w : World) (K : PySem.W.Frag) (mg : Str → Option Value) (base : Heap) (k : Nat) (f : Addr) (fd : FuncData) (ps : List Str) (sn : List V → Hp → Prop) : Prop where
  len : ∀ vs H, sn vs H → vs.length = ps.length
  run : ∀ (A : Around) (outer : List Env) (s : Shared) (H : Hp) (args : Args) (us : List Value) (vs : List V), Room k A → Env0 P w K mg base A outer s H → BindsTo s fd args (ps.zip us) → Vals vs us → sn vs H →
    codeAny (model P w) A (.call (.ref f) args) (fun r s' => r = .ok (.ret .notImplemented) ∧ CE outer P w H s (fun _ H' => H' = H) .none s') s
structure PSn (X : Cx) (st : List Stmt) (t : L2.St → Hp → Prop) : Prop where
  run : ∀ (pins : List (Addr × Obj)) (s : Shared) (σ : L2.St) (H : Hp), Inv X pins σ H s → t σ H → wpAny (model X.prog X.w) X.A (execs st X.env) (fun f s' => f = .ret .notImplemented ∧ Inv X pins σ H s') X.xe s
section
variable {X : Cx}
theorem psn_ret {pos p : Pos} (hg : Gl X "NotImplemented") (hm : X.mg "NotImplemented" = none) : PSn X [.Return (some (.Name "NotImplemented" p)) pos] (fun _ _ => True) := by
  refine ⟨fun pins s σ H I _ => ?_⟩
  refine wpAny_execs_cons (wpAny_Return_some (ld_blt I hg hm (show bootBuiltins "NotImplemented" = some .notImplemented by decide +kernel) ⟨rfl, I⟩))
theorem psn_if {c : Expr} {a : List Stmt} {rest : List Stmt} {pos : Pos} {tc : TT} {u : L2.St → Hp → Prop} (hc : PT X c tc) (hr : PSn X rest u) : PSn X (.If c a [] pos :: rest) (fun σ H => tc σ H fun b H1 => b = false ∧ H1 = H ∧ u σ H) := by
  refine ⟨fun pins s σ H I h => ?_⟩
  refine wpAny_execs_cons (wpAny_If (thn (hc.run pins s σ H _ I h) fun d s1 ⟨H1, I1, e, e1, q1⟩ => ?_))
  subst e e1
  exact wpAny_execs_nil (hr.run pins s1 σ _ I1 q1)
end
section
variable {P : Program} {w : World} {K : PySem.W.Frag} {mg : Str → Option Value} {base : Heap}
theorem fn_ofN {k : Nat} {f : Addr} {name qual : Str} {params : Arguments} {body : List Stmt} {scope : Scope} {dV kV doc pm cdv ct oc : Value} {an od : Option Addr} {osl : Array (Option Value)} {N ps : List Str} {sn : List V → Hp → Prop}
    (lk : K.lookup f = some ⟨oc, od, .func (PySem.W.fnOf name qual params body scope dV kV doc pm an cdv ct), osl⟩) (hcd : PySem.W.codeIn K cdv qual = true) (S : FnScope N ps scope) (len : ∀ vs H, sn vs H → vs.length = ps.length)
    (hbody : ∀ (A : Around) (outer : List Env) (s : Shared) (H : Hp) (vs : List V), Room k (A.deeper (envOfC qual scope s.heap.objs.size f cdv)) → sn vs H →
      ∃ t, PSn (cxOf CX0 P w K mg base N qual scope f cdv A outer s H E0).nox body t ∧ t (start N vs) H) :
    FnNi P w K mg base (k + 1) f (PySem.W.fnOf name qual params body scope dV kV doc pm an cdv ct) ps sn := by
  refine ⟨len, fun A outer s H args us vs hr e0 hb r hsp => ?_⟩
  have hl := len _ _ hsp
  have KX : K.In s.heap := e0.mod.kin.keeps fun b o e => (e0.bs b o e).1
  have lim : s.heap.NoLimit := e0.mod.nolimit.keeps fun b o e => (e0.bs b o e).1
  have hkind : ∀ y ∈ ps.zip us, scope.names.lookup y.1 = some .local ∨ (scope.names.lookup y.1 = some .cell ∧ ((cellsFrom (s.heap.objs.size + 1) scope.names []).lookup y.1).isSome = true) := fun ⟨n, v⟩ hy => by
    rcases S.par n (List.of_mem_zip hy).1 with q | q
    · exact .inl q
    · exact .inr ⟨q, PySem.W.cellsFrom_some _ _ _ (.inl q)⟩
  refine codeAny_call_function hr.depth (KX _ _ lk) rfl S.co S.gen rfl (PySem.W.codeRec_of KX hcd) (hb _ _ _ _ ?_)
  refine wpAny_newFunctionEnv_cells S.kind hkind fun env he s1 x => ?_
  subst he
  refine ⟨lim.keeps x.toInCall.keep, codeAny_func ?_⟩
  obtain ⟨t, ht, hq⟩ := hbody A outer s H vs (hr.deeper _) hsp
  have I : Inv (cxOf CX0 P w K mg base N qual scope f cdv A outer s H E0) [] (start N vs) H s1 := inv_start S hr.hd e0 hl r x
  refine wpAny_mono (ht.run [] s1 (start N vs) H (I.wish _) hq) (fun fl s' hs => ?_) fun e s' hs => False.elim hs
  obtain ⟨rfl, J0⟩ := hs
  have J := J0.unwish
  exact ⟨rfl, V.non, _, J.os, J.bare, J.base, J.hok, rfl, rfl⟩
/-- a method that answers NotImplemented -/
structure MtNi (P : Program) (w : World) (K : PySem.W.Frag) (mg : Str → Option Value) (base : Heap) (k : Nat) (C : Addr) (m : Str) (ps : List Str) (sn : List V → Hp → Prop) : Prop where
  ex : ∃ (f : Addr) (fd : FuncData), FnNi P w K mg base k f fd ps sn ∧ Meth K C m f ∧ Binds K fd ps []
theorem Fun.okN {x qual : Str} {st : Stmt} {f : Addr} {fd : FuncData} {N ps : List Str} {k : Nat} {sn : List V → Hp → Prop} (F : Fun K x qual st f fd) (S : FnScope N ps (defScope st)) (len : ∀ vs H, sn vs H → vs.length = ps.length)
    (hbody : ∀ (cdv : Value) (A : Around) (outer : List Env) (s : Shared) (H : Hp) (vs : List V), Room k (A.deeper (envOfC qual (defScope st) s.heap.objs.size f cdv)) → sn vs H →
      ∃ t, PSn (cxOf CX0 P w K mg base N qual (defScope st) f cdv A outer s H E0).nox (defBody st) t ∧ t (start N vs) H) : FnNi P w K mg base (k + 1) f fd ps sn := by
  obtain ⟨oc, od, kV, doc, pm, an, cdv, ct, osl, rfl, lk, hcd⟩ := F.ex
  exact fn_ofN lk hcd S len fun A outer s H vs hr hsp => hbody cdv A outer s H vs hr hsp
end
/-- both classes stand in the order that the reflected operator wants -/
structure OpR2 (K : PySem.W.Frag) (C D : Addr) (op : Operator) : Prop where
  ne : C ≠ D
  sf : PySem.W.selfFirst K C = true
  sg : PySem.W.selfFirst K D = true
  sub : PySem.W.subIn K (.ref D) (.ref C) = some false
  r : PySem.W.findIn K (.ref C) (dunderR op.info.2) = some none
  no : PySem.W.findIn K (.ref D) (PySem.dunder op.info.2) = some none
def rBinR (C D : Addr) (sn : List V → Hp → Prop) (sp : Sp) : R2 := fun x y H Q => ∃ (a dx : Addr) (fs : List (Str × V)) (b dy : Addr) (gs : List (Str × V)), x = .ref a ∧ y = .ref b ∧ H a = some (.ins C dx fs) ∧ H b = some (.ins D dy gs) ∧ sn [x, y] H ∧ sp [y, x] H Q E0
section
variable {X : Cx} {k j : Nat} {C D : Addr} {ps ps' : List Str} {sn : List V → Hp → Prop} {sp : Sp} {op : Operator}
theorem op_binR {m m' : Str} (F : MtNi X.prog X.w X.K X.mg X.base j C m ps' sn) (G : MtC X.prog X.w X.K X.mg X.base CX0 k D m' ps sp) (c : OpR2 X.K C D op) (hr : Room j X.A) (hr' : Room k X.A) (hm : PySem.dunder op.info.2 = m := by decide +kernel) (hm' : dunderR op.info.2 = m' := by decide +kernel) : OpR X (binaryOp op) (rBinR C D sn sp) := by
  subst hm hm'
  intro pins s σ H x y v u Q I rx ry h
  obtain ⟨a, dx, fs, b, dy, gs, rfl, rfl, ha, hb', qn, q⟩ := h
  obtain ⟨f, fd, hf, M, hb⟩ := F.ex
  obtain ⟨g, gd, hg, N, hb2⟩ := G.ex
  cases (show v = Value.ref a from rx)
  cases (show u = Value.ref b from ry)
  obtain ⟨_, O, _⟩ := ins_get I.hok ha
  obtain ⟨od, J, _⟩ := O.look
  obtain ⟨_, O', _⟩ := ins_get I.hok hb'
  obtain ⟨od', J', _⟩ := O'.look
  obtain ⟨m, hF⟩ := I.fr
  refine PySem.W.binop_R hF I.ok.mod.kin J J' c.ne c.sf c.sg c.sub M.at_ M.fn c.r c.no N.at_ N.fn (R := fun s' => Inv X pins σ H s') ?_ fun s' I' => ?_
  · refine wpAny_call (codeAny_mono (hf.run X.A X.stack s H ⟨[.ref a, .ref b], []⟩ [.ref a, .ref b] [.ref a, .ref b] hr I.env0 (by
      have := hb s [.ref a, .ref b] I.kIn (by have := hf.len _ _ qn; exact this)
      rwa [List.append_nil] at this) (.cons rfl (.cons rfl .nil)) qn) fun r s' hq => ?_)
    obtain ⟨rfl, z⟩ := hq
    obtain ⟨_, H', I', _, e⟩ := I.after z
    subst e
    exact ⟨rfl, I'⟩
  · obtain ⟨_, O, _⟩ := ins_get I'.hok ha
    obtain ⟨od, J, _⟩ := O.look
    obtain ⟨_, O', _⟩ := ins_get I'.hok hb'
    obtain ⟨od', J', _⟩ := O'.look
    exact ⟨I'.kIn, ⟨_, _, J⟩, ⟨_, _, J'⟩, run_bin (y := .ref a) I' hg hr' hb2 (by exact rfl) q⟩
end
end Kb
/-! ### the slots made plain -/
namespace Kb
open PySem PySem.Spec PyProof.Rows L2 ClX
abbrev tNrm (t : TS) : TS := fun D σ H => ∀ σ', σ = σ' → t D σ' H
theorem pss_nrm {X : Cx} {st : List Stmt} {t : TS} (h : PSs X st t) : PSs X st (tNrm t) := ⟨fun pins s σ H D I q => h.run pins s σ H D I (q σ rfl)⟩
theorem nrm_of {T : L2.St → Prop} {σ σ' : L2.St} (e : σ = σ') (h : T σ') : ∀ σ'', σ = σ'' → T σ'' := fun _ e' => e' ▸ e ▸ h
end Kb

/-! ### own `in`, own truth, displays of dicts with a tuple as key -/
namespace Kb
open PySem PySem.Spec PyProof.Rows L2 ClX
section
variable {X : Cx} {k : Nat} {m : Str} {C : Addr} {ps : List Str} {sp : Sp} {e : Expr} {te : TE} {pos : Pos}
theorem boolback {P : Bool → Shared → Prop} {z : V} {v : Value} {s' : Shared} {b : Bool} (r : RelV z v) (e : z = .bl b) (h : P b s') : PySem.W.BoolBack P v s' := by
  subst e
  cases (show v = Value.bool b from r)
  exact h
/-- y in x by the class's own def -/
def rOwnIn (C : Addr) (sp : Sp) : R2 := fun y x H Q => ∃ (a dx : Addr) (fs : List (Str × V)), x = .ref a ∧ H a = some (.ins C dx fs) ∧ sp [.ref a, y] H (fun z H' => ∃ b, z = .bl b ∧ Q (.bl b) H') E0
def rOwnNotIn (C : Addr) (sp : Sp) : R2 := fun y x H Q => ∃ (a dx : Addr) (fs : List (Str × V)), x = .ref a ∧ H a = some (.ins C dx fs) ∧ sp [.ref a, y] H (fun z H' => ∃ b, z = .bl b ∧ Q (.bl (!b)) H') E0
theorem op_inO (F : MtC X.prog X.w X.K X.mg X.base CX0 k C "__contains__" ps sp) (hr : Room k X.A) : OpR X (compareOp .In) (rOwnIn C sp) := by
  intro pins s σ H y x u v Q I ry rx h
  obtain ⟨a, dx, fs, rfl, ha, q⟩ := h
  obtain ⟨f, fd, hf, M, hb⟩ := F.ex
  cases (show v = Value.ref a from rx)
  obtain ⟨mA, O, _⟩ := ins_get I.hok ha
  obtain ⟨od, J, _⟩ := O.look
  obtain ⟨m, hF⟩ := I.fr
  refine PySem.W.in_K hF I.ok.mod.kin J M.at_ M.fn ?_
  refine wpAny_mono (run_fn (us := [.ref a, u]) (vs := [.ref a, y]) hf hr hb .nil pass0 I (.cons rfl (.cons ry .nil)) q) (fun w s' z => ?_) fun _ _ z => z
  obtain ⟨z', H', I', rz, b, eb, qz⟩ := z
  subst eb
  cases (show w = Value.bool b from rz)
  exact wpAny_truthy_bool ⟨.bl b, H', I', rfl, qz⟩
theorem op_notInO (F : MtC X.prog X.w X.K X.mg X.base CX0 k C "__contains__" ps sp) (hr : Room k X.A) : OpR X (compareOp .NotIn) (rOwnNotIn C sp) := by
  intro pins s σ H y x u v Q I ry rx h
  obtain ⟨a, dx, fs, rfl, ha, q⟩ := h
  obtain ⟨f, fd, hf, M, hb⟩ := F.ex
  cases (show v = Value.ref a from rx)
  obtain ⟨mA, O, _⟩ := ins_get I.hok ha
  obtain ⟨od, J, _⟩ := O.look
  obtain ⟨m, hF⟩ := I.fr
  refine PySem.W.notIn_K hF I.ok.mod.kin J M.at_ M.fn ?_
  refine wpAny_mono (run_fn (us := [.ref a, u]) (vs := [.ref a, y]) hf hr hb .nil pass0 I (.cons rfl (.cons ry .nil)) q) (fun w s' z => ?_) fun _ _ z => z
  obtain ⟨z', H', I', rz, b, eb, qz⟩ := z
  subst eb
  cases (show w = Value.bool b from rz)
  exact wpAny_truthy_bool ⟨.bl (!b), H', I', rfl, qz⟩
/-- an instance as a test, by its class's own __bool__ -/
def tOwnB (C : Addr) (sp : Sp) (te : TE) : TT := fun σ H Q => te σ H fun x H1 => ∃ (a dx : Addr) (fs : List (Str × V)), x = .ref a ∧ H1 a = some (.ins C dx fs) ∧ sp [.ref a] H1 (fun z H' => ∃ b, z = .bl b ∧ Q b H') E0
theorem pt_ownB (F : MtC X.prog X.w X.K X.mg X.base CX0 k C "__bool__" ps sp) (hr : Room k X.A) (h : PE X e te) (he : ∀ whole, isTrue e X.env whole = (do let v ← whole; standAt e.pos; holding [v] (truthy v)) := by intro _; rfl) : PT X e (tOwnB C sp te) := by
  refine ⟨fun pins s σ H Q I hw => ?_⟩
  refine isTrue_plain (thn (h.run pins s σ H _ I hw) fun v s1 ⟨x, H1, I1, r1, q1⟩ => ?_) (he _)
  obtain ⟨a, dx, fs, rfl, ha, q⟩ := q1
  obtain ⟨f, fd, hf, M, hb⟩ := F.ex
  cases (show v = Value.ref a from r1)
  obtain ⟨mA, O, _⟩ := ins_get I1.hok ha
  obtain ⟨od, J, _⟩ := O.look
  obtain ⟨m, hF⟩ := I1.fr
  refine PySem.W.truthy_K hF I1.ok.mod.kin J M.at_ M.fn ?_
  refine wpAny_mono (run_fn (us := [.ref a]) (vs := [.ref a]) hf hr hb .nil pass0 I1 (.cons rfl .nil) q) (fun w s' z => ?_) fun _ _ z => z
  obtain ⟨z', H', I', rz, b, eb, qz⟩ := z
  exact boolback rz eb ⟨H', I', qz⟩
/-- bool(x) -/
theorem meets_bool_own (prog : Program) (w : World) (x : Addr) : MeetsIn prog w (Builtin.«bool.__new__» ⟨[.type "bool", .ref x], []⟩)
    (fun A R s => wpAny (model prog w) A.in1 (truthy (.ref x)) (fun b s' => R (.ok (.ret (.bool b))) s') (fun e s' => R (.error e) s') s) :=
  .of_wp fun A R s h => by
    have f1 := PySem.F.conv_sub_bool
    unfold Builtin.«bool.__new__»
    repeat (any_goals (first | assumption | (with_reducible refine wpAny_bind (m := truthy (.ref x)) (wpAny_mono h (fun b s' z => ?_) fun _ _ z => z)) | wp_step))
    all_goals first | exact ⟨_, rfl, by assumption⟩ | assumption | skip
def rBoolO (C : Addr) (sp : Sp) : List V → Hp → VK → Prop := fun xs H Q => ∃ (a dx : Addr) (fs : List (Str × V)), xs = [.ref a] ∧ H a = some (.ins C dx fs) ∧ sp [.ref a] H (fun z H' => ∃ b, z = .bl b ∧ Q (.bl b) H') E0
theorem call_boolO (F : MtC X.prog X.w X.K X.mg X.base CX0 k C "__bool__" ps sp) (hr : Room (k + 2) X.A) : CallR X (.type "bool") (rBoolO C sp) := by
  intro pins s σ H xs us Q I r h
  obtain ⟨a, dx, fs, rfl, ha, q⟩ := h
  obtain rfl := Vals.ref1 r
  obtain ⟨f, fd, hf, M, hb⟩ := F.ex
  obtain ⟨mA, O, _⟩ := ins_get I.hok ha
  obtain ⟨od, J, _⟩ := O.look
  obtain ⟨m, hF⟩ := I.fr
  refine callType_newIn (T := "bool") (newId := "bool.__new__") (Bn := Builtin.«bool.__new__») (args := [.ref a]) PySem.F.called_bool PySem.F.newNe_bool (PySem.F.typeCall_bool_1 _) (PySem.F.newCall_bool_1 _) (fun obj => PySem.F.args_object_init_2 obj _) PySem.F.entry_bool_new (meets_bool_own X.prog X.w a) ?_
  show wpAny _ _ (truthy (.ref a)) _ _ _
  refine PySem.W.truthy_K hF I.ok.mod.kin J M.at_ M.fn ?_
  have q' : sp ([V.ref a] ++ []) H (fun z H' => ∃ b, z = .bl b ∧ Q (.bl b) H') E0 := q
  have r2 : Vals ([V.ref a] ++ []) ([Value.ref a] ++ []) := .cons rfl .nil
  have hl : ([Value.ref a] ++ []).length = ps.length := by rw [← r2.length]; exact hf.len _ _ _ _ q'
  have hr2 : Room k X.A.in1.in1 := Room.in1 (Room.in1 (k := k + 1) hr)
  have e3 := I.env0.in1.in1
  have b2 : BindsTo s fd ⟨[Value.ref a], []⟩ (ps.zip ([Value.ref a] ++ [])) := hb s _ I.kIn hl
  have key := hf.run _ _ s H _ _ _ _ E0 hr2 e3 b2 r2 q'
  refine wpAny_call (codeAny_mono key fun r s' hq => ?_)
  cases r with
  | error e => exact (show False from hq).elim
  | ok fl =>
    cases fl with
    | ret w =>
      obtain ⟨z, H', I', rz, b, eb, qz⟩ := I.after hq
      refine boolback rz eb ?_
      exact ⟨rfl, .bl b, H', I', rfl, qz⟩
    | next => exact False.elim hq
    | brk => exact False.elim hq
    | cont => exact False.elim hq
/-! ### {k: v} with a tuple as key -/
def tDisp1T (tk tv : TE) : TE := fun σ H Q => ∀ p, H p = none → tk σ (upd H p (.dT [])) fun x H1 => tv σ H1 fun y H2 => ∃ b key, x = .ref b ∧ H2 b = some (.tup (key.map kV)) ∧ H2 p = some (.dT []) ∧ Q (.ref p) (upd H2 p (.dT [(key, y)]))
theorem pe_disp1T {kx vx : Expr} {tk tv : TE} (hu : X.A.units + 1 < cLine) (hk : PE X kx tk) (hv : PE X vx tv) : PE X (.Dict [some kx] [vx] pos) (tDisp1T tk tv) := by
  refine ⟨fun pins s σ H Q I q => ?_⟩
  have hn := I.hok.fresh (Nat.le_refl s.heap.objs.size)
  have I1 := I.laid (a := s.heap.objs.size) (o := .dT []) (h' := s.heap.push { cls := .type "dict", data := .dict #[] }) (t' := s.toks) (fun _ _ q => Heap.get?_push_of_some _ q) (Nat.le_refl _) (dt_empty s.heap I.big)
  have hz := zip_pairTrees [some kx] [vx] X.env pos rfl rfl
  show wpAny _ _ (eval (.Dict [some kx] [vx] pos) X.env) _ _ _
  rw [arm_eval_Dict, hz, dictDisplay_pairs _ (by simp [pairTrees]) (by simp [pairTrees])]
  refine wpAny_bind (wpAny_standAt (wpAny_bind (wpAny_subDictH (knd := tupleKind (mixKind X.prog X.w)) (Q := fun d s' => wpAny (model X.prog X.w) X.A (pure (Value.ref d)) (EP X pins σ Q) X.xe s') (show (tupleKind (mixKind X.prog X.w)).room X.A from Nat.lt_of_succ_lt hu) (by simp [pairTrees]) ?_)))
  refine pairTrees_cons_walk (thn (hk.run pins _ σ _ _ I1 (q _ hn)) fun u s1 ⟨x, H1, J1, rx, q1⟩ => thn (hv.run pins s1 σ H1 _ J1 q1) fun w2 s2 ⟨y, H2, I2, ry, b, key, ex, hb, hp, q2⟩ => ?_)
  subst ex
  cases (show u = Value.ref b from rx)
  obtain ⟨z, hd, xs, rel, dd⟩ := dt_of I2.hok hp
  cases rel
  refine pairTrees_nil_walk ⟨[(key, b, w2)], ⟨rfl, rfl, key_of I2.hok hb, trivial⟩, dd, fun h' tk dd' hs => wpAny_pure ?_⟩
  obtain ⟨q', es, ep, hq, h2, h3, h4, _, h5⟩ := dd'
  refine ⟨.ref s.heap.objs.size, _, ?_, rfl, q2⟩
  refine d_write I2 (by rw [hp]; exact True.intro) hs ⟨q', hq⟩ ⟨by show 1 ≤ sizeLine; decide, hd, _, .cons ⟨rfl, ?_, ry⟩ .nil, q', es, ep, hq, h2, h3, h4, h5⟩
  rw [upd_ne (ne_of hb hp (fun z => nomatch z))]
  exact hb
/-- len of a dict with tuples as keys -/
theorem call_lenDT : CallR X (.builtin "len") (fun xs H Q => ∃ a kvs, xs = [V.ref a] ∧ H a = some (.dT kvs) ∧ Q (.int kvs.length) H) := by
  intro pins s σ H xs us Q I r h
  obtain ⟨a, kvs, rfl, ha, q⟩ := h
  obtain rfl := Vals.ref1 r
  obtain ⟨z, hd, xs, rel, dd⟩ := dt_of I.hok ha
  have hz : xs.length = kvs.length := (Paired.length rel).symm
  have hm : s.heap.DictKeyed (tupleKind (mixKind X.prog X.w)) a (pairsH xs) := ⟨xs, dd, rfl⟩
  have hl : (pairsH xs).length = kvs.length := by rw [← hz]; simp [pairsH]
  refine PyProof.Rows.call_len_slot (n := ((pairsH xs).length : Int)) hm.typeIs PySem.F.slot_dict_len (fun Q' hq => len_keyed hd hm hq) (by omega) (by rw [sizeLine_eq] at z; omega) ?_
  rw [hl]
  exact ⟨.int kvs.length, H, I.tok _, ⟨_, rfl⟩, q⟩
end
/-! ### for i, x in enumerate(xs) -/
theorem for_enum {K : PySem.W.Frag} {a : Addr} {xs : List V} {g : TG} {tb : TS} {D : Ends} {σ : L2.St} {H : Hp} (Pv : Nat → L2.St → Hp → Prop) (h0 : Pv 0 σ H) (hl : ∀ i σ H, i ≤ xs.length → Pv i σ H → SqL K H a xs)
    (hs : ∀ i x σ H T, xs[i]? = some x → Pv i σ H → H T = none → g (.ref T) σ (upd H T (.tup [.int (i : Nat), x])) fun σ2 H2 => tb { D with nx := Pv (i + 1), ct := Pv (i + 1), bk := D.nx } σ2 H2) (hd : ∀ σ H, Pv xs.length σ H → D.nx σ H) :
    ∃ W : Nat → Nat → L2.St → Hp → Prop, (∃ m, W 0 m σ H) ∧ ∀ i m σ H, W i m σ H →
      ((Ite K a).stop i H ∧ D.nx σ H) ∨ ((Ite K a).go i H ∧ ∃ N : L2.St → Hp → Prop, (∀ σ' H', N σ' H' → ∃ m', m' < m ∧ W (i + 1) m' σ' H') ∧ ∀ x H', (Ite K a).yld i H x H' → g x σ H' fun σ2 H2 => tb { D with nx := N, ct := N, bk := D.nx } σ2 H2) := by
  refine ⟨fun i m σ H => m = xs.length - i ∧ i ≤ xs.length ∧ Pv i σ H, ⟨xs.length, by simp, Nat.zero_le _, h0⟩, ?_⟩
  rintro i m σ H ⟨rfl, hi, p⟩
  have q := hl i σ H hi p
  by_cases hlt : i < xs.length
  · refine .inr ⟨⟨xs, xs[i], q, by simp [hlt]⟩, Pv (i + 1), fun σ' H' p' => ⟨xs.length - (i + 1), by omega, rfl, hlt, p'⟩, fun v H' y => ?_⟩
    obtain ⟨T, x, e1, hT, e2, y⟩ := y
    subst e1
    subst e2
    exact hs i x σ _ T (y xs q) p hT
  · have e : i = xs.length := by omega
    subst e
    exact .inl ⟨⟨xs, q, Nat.le_refl _⟩, hd σ H p⟩
/-! ### x in a tuple of data, a walk over a list or a tuple -/
section
variable {X : Cx}
def rInDT (K : PySem.W.Frag) : R2 := fun x y H Q => ∃ d ds, Dp K H x d ∧ Dp K H y (.tuple ds) ∧ SeqAt.shaped d = true ∧ SeqAt.shaped (.tuple ds) = true ∧ Q (.bl (ds.any fun z => PyData.eqv z d)) H
def rNotInDT (K : PySem.W.Frag) : R2 := fun x y H Q => ∃ d ds, Dp K H x d ∧ Dp K H y (.tuple ds) ∧ SeqAt.shaped d = true ∧ SeqAt.shaped (.tuple ds) = true ∧ Q (.bl (!ds.any fun z => PyData.eqv z d)) H
theorem op_inDT (hu : X.A.units + 65 < cLine) : OpR X (compareOp .In) (rInDT X.K) := by
  intro pins s σ H x y v u Q I rx ry h
  obtain ⟨d, ds, hd, he, sd, se, q⟩ := h
  obtain ⟨as, r1⟩ := Dp.reads I d x v hd rx
  obtain ⟨bs, r2⟩ := Dp.reads I (.tuple ds) y u he ry
  exact SeqAt.in_tuple_reads r2 r1 (SeqAt.canLay_of_shaped se) (SeqAt.canLay_of_shaped sd) (room_in_shaped sd hu) ⟨.bl _, H, I, rfl, q⟩
theorem op_notInDT (hu : X.A.units + 65 < cLine) : OpR X (compareOp .NotIn) (rNotInDT X.K) := by
  intro pins s σ H x y v u Q I rx ry h
  obtain ⟨d, ds, hd, he, sd, se, q⟩ := h
  obtain ⟨as, r1⟩ := Dp.reads I d x v hd rx
  obtain ⟨bs, r2⟩ := Dp.reads I (.tuple ds) y u he ry
  exact SeqAt.notIn_tuple_reads r2 r1 (SeqAt.canLay_of_shaped se) (SeqAt.canLay_of_shaped sd) (room_in_shaped sd hu) ⟨.bl _, H, I, rfl, q⟩
def iSeq (K : PySem.W.Frag) (tl : TE) : TI := fun σ H R => tl σ H fun x H1 => ∃ a, x = .ref a ∧ (((∃ xs, SqL K H1 a xs) ∧ R (Itl K a) H1) ∨ ((∃ xs, SqT K H1 a xs) ∧ R (Itt K a) H1))
theorem pi_seq {tg l : Expr} {tl : TE} (hl : PE X l tl) : PI X tg l (iSeq X.K tl) := by
  refine ⟨fun pins s σ H R I h => ?_⟩
  refine thn (hl.run pins s σ H _ I h) fun v s1 ⟨x, H1, I1, r1, q1⟩ => ?_
  obtain ⟨a, e, q⟩ := q1
  subst e
  cases r1
  rcases q with ⟨⟨xs, hq⟩, q⟩ | ⟨⟨xs, hq⟩, q⟩
  · obtain ⟨its, rv, p, hz⟩ := I1.list hq
    refine wpAny_pyIter_list p.isList ?_
    refine ⟨s1.heap.objs.size, [s1.heap.objs.size], _, _, H1, rfl, I1.kept (t' := s1.toks) fun b o e => Heap.get?_push_of_some _ e, turn_list a _, ⟨_, Heap.get?_push_size _ rfl, rfl, rfl⟩, fun b hb => ?_, q⟩
    have e : b = s1.heap.objs.size := by simpa using hb
    subst e
    exact I1.fpOk (Nat.le_refl _) (I1.hok.fresh (Nat.le_refl _))
  · obtain ⟨its, rv, p, hz⟩ := I1.tuple hq
    refine wpAny_pyIter_tuple (show s1.heap.IsTuple a its.toArray from p) ?_
    refine ⟨s1.heap.objs.size, [s1.heap.objs.size], _, _, H1, rfl, I1.kept (t' := s1.toks) fun b o e => Heap.get?_push_of_some _ e, turn_tuple a _, ⟨_, Heap.get?_push_size _ rfl, rfl, rfl⟩, fun b hb => ?_, q⟩
    have e : b = s1.heap.objs.size := by simpa using hb
    subst e
    exact I1.fpOk (Nat.le_refl _) (I1.hok.fresh (Nat.le_refl _))
theorem pi_seqK {K : PySem.W.Frag} {tg l : Expr} {tl : TE} (h : X.K = K) (hl : PE X l tl) : PI X tg l (iSeq K tl) := h ▸ pi_seq hl
end
theorem lcR_tup {K : PySem.W.Frag} {a : Addr} {xs : List V} {g : TG} {te : TE} {vs : List Nat} {σ : L2.St} {H1 : Hp} {D : Addr} {Qd : Hp → Prop} (M : Nat → Hp → Prop) (h0 : M 0 (upd H1 D (.lst []))) (hl : ∀ i H, i ≤ xs.length → M i H → SqT K H a xs)
    (hs : ∀ i x H, xs[i]? = some x → M i H → g x (wipe σ vs) H fun σ2 H2 => wipe σ2 vs = wipe σ vs ∧ te σ2 H2 fun y H4 => ∃ acc, H4 D = some (.lst acc) ∧ acc.length < sizeLine ∧ M (i + 1) (upd H4 D (.lst (acc ++ [y]))))
    (hm : ∀ x σ H Q Q', (∀ σ2 H2, Q σ2 H2 → Q' σ2 H2) → g x σ H Q → g x σ H Q') (hd : ∀ H, M xs.length H → Qd H) : LcR (Itt K a) g tYes te vs σ H1 D Qd :=
  lc_tup M h0 hl (fun i x H hi m => hm _ _ _ _ _ (fun σ2 H2 z => ⟨z.1, ifT (B := M (i + 1) H2) rfl z.2⟩) (hs i x H hi m)) hd
theorem hu65 {A : Around} {k : Nat} (hr : Room k A) : A.units + 65 < cLine := by have := hr.un; omega
end Kb

/-! ### enumerate of a text, of a tuple -/
namespace Kb
open PySem PySem.Spec PyProof.Rows L2 ClX
/-- one new cell ahead of the enumerate -/
theorem meets_enumerate_new1 {v : Value} {o : Obj} {H : Heap → Prop} (B : Begins v o H) :
    Meets (Builtin.«enumerate.__new__» ⟨[.type "enumerate", v], []⟩) (fun _ R s => H s.heap ∧
      R (.ok (.ret (.ref (s.heap.push o).objs.size))) { s with heap := (s.heap.push o).push { cls := .type "enumerate", data := .fields #[.none, .bool false, .ref s.heap.objs.size, rawInt 0, .none, .none] } }) :=
  .of_wp fun prog w A R s h => by
    obtain ⟨hp, g, d, tk, os⟩ := s; obtain ⟨h1, h⟩ := h
    have hsub := sub_enumerate
    have q1 : ∀ {A' : Around} {E : Value → Shared → Prop} {Q : Value → Shared → Prop}, Q (.ref hp.objs.size) ⟨hp.push o, g, d, tk, os⟩ → wpAny (model prog w) A' (pyIter v) Q E ⟨hp, g, d, tk, os⟩ :=
      fun q => B.iter prog w _ _ ⟨hp, g, d, tk, os⟩ _ h1 q
    wp_walk using q1
    refine wpAny_stack_any fun st => wpAny_pure ?_
    split
    · rename_i c _ _ _ _ _
      cases (c == Value.type "enumerate")
      · wp_walk using q1
        exact ⟨_, rfl, h⟩
      · wp_walk using q1
        exact ⟨_, rfl, h⟩
    · wp_walk using q1
      exact ⟨_, rfl, h⟩
section
variable {prog : Program} {w : World} {A : Around} {E : Value → Shared → Prop} {s : Shared}
theorem enum_begins1 {v : Value} {o : Obj} {H : Heap → Prop} {Q : Value → Shared → Prop} (B : Begins v o H) (h1 : H s.heap)
    (h : ∀ h', IsEnum h' (s.heap.objs.size + 1) s.heap.objs.size 0 .none → h'.get? s.heap.objs.size = some o → h'.objs.size = s.heap.objs.size + 2 →
      (∀ b o, s.heap.get? b = some o → h'.get? b = some o) → Q (.ref (s.heap.objs.size + 1)) { s with heap := h' }) :
    wpAny (model prog w) A (call (.type "enumerate") [v]) Q E s := by
  refine callType_new PySem.F.called_enumerate (by decide) (PySem.F.typeCall_enumerate_1 _) (PySem.F.newCall_enumerate_1 _) (fun obj => PySem.F.args_object_init_2 obj _) PySem.F.entry_enumerate_new
    (meets_enumerate_new1 B) ⟨h1, ?_⟩
  have hz : (s.heap.push o).objs.size = s.heap.objs.size + 1 := Heap.size_push ..
  show _ ∧ _
  rw [hz]
  have he : IsEnum ((s.heap.push o).push { cls := .type "enumerate", data := .fields #[.none, .bool false, .ref s.heap.objs.size, rawInt 0, .none, .none] }) (s.heap.objs.size + 1) s.heap.objs.size 0 .none := by
    have := Heap.get?_push_size (s.heap.push o) (o := { cls := .type "enumerate", data := .fields #[.none, .bool false, .ref s.heap.objs.size, rawInt 0, .none, .none] }) rfl
    rw [hz] at this; exact this
  refine ⟨⟨_, he, rfl⟩, h _ he (Heap.get?_push_of_some _ (Heap.get?_push_size _ B.free)) (by rw [Heap.size_push, hz]) fun b o x => Heap.get?_push_of_some _ (Heap.get?_push_of_some _ x)⟩
end
/-- what stands behind an enumerate: n items, each a new pair -/
def ItE (n : Hp → Nat → Prop) (val : Hp → Nat → V → Prop) : It :=
  ⟨fun i H => ∃ m, n H m ∧ i < m, fun i H v H' => ∃ T x, v = .ref T ∧ H T = none ∧ H' = upd H T (.tup [.int (i : Nat), x]) ∧ val H i x, fun i H => n H i⟩
/-- the items of the iterator within, as the reading has them -/
structure EnD (P : Program) (w : World) (K : PySem.W.Frag) (it : Addr) (n : Hp → Nat → Prop) (val : Hp → Nat → V → Prop) (St : Nat → Heap → Prop) : Prop where
  run : ∀ (X : Cx), X.prog = P → X.w = w → X.K = K → X.calm = true → ∀ (pins : List (Addr × Obj)) (s : Shared) (σ : L2.St) (H : Hp) (m : Nat), Inv X pins σ H s → n H m →
    ∃ (fp : List Addr) (P' : Nat → Value → Prop) (St' : Nat → Heap → Prop), Draws P w X.A.in1 it fp m P' St' ∧ (∀ i, St i s.heap → St' i s.heap) ∧ (∀ i h, St' i h → St i h) ∧ (∀ i u, P' i u → ∃ x, RelV x u ∧ val H i x) ∧ ∀ e, (∃ b old i, IsEnum s.heap e b i old) → e ≠ it → e ∉ fp
theorem turn_enumE {P : Program} {w : World} {K : PySem.W.Frag} {elts : List Expr} {kk : Nat} {tpos : Pos} {n : Hp → Nat → Prop} {val : Hp → Nat → V → Prop} {St : Nat → Heap → Prop} (e it : Addr) (D : EnD P w K it n val St)
    (live : ∀ i h, St i h → ∃ o, h.get? it = some o ∧ ∀ v, o.data ≠ .cell v) (fr1 : ∀ i h h', St i h → (∀ o, h.get? it = some o → h'.get? it = some o) → St i h') :
    Turn P w K (.Tuple elts kk tpos) (ItE n val) [e, it] e (fun i h => (∃ old, IsEnum h e it ((i : Nat) : Int) old) ∧ St i h ∧ e ≠ it) where
  mem := by simp
  obj := fun i h st b hb => by
    obtain ⟨⟨old, he⟩, hs, _⟩ := st
    have e' : b = e ∨ b = it := by simpa using hb
    rcases e' with z | z
    · rw [z]; exact ⟨_, he, fun v q => nomatch q⟩
    · rw [z]; exact live i h hs
  keep := fun i h h' st k => let ⟨⟨old, he⟩, hi, hne⟩ := st; ⟨⟨old, k e (by simp) _ he⟩, fr1 i h h' hi fun o q => k it (by simp) o q, hne⟩
  item := by
    intro X hP hw hK hc i pins s σ H E I hf st hg
    obtain ⟨⟨old, he⟩, hst, hne⟩ := st
    obtain ⟨m, hm, him⟩ := hg
    obtain ⟨fp, P', St', DD, h1, h2, h3, h4⟩ := D.run X hP hw hK hc pins s σ H m I hm
    subst hP hw hK
    have hel : e < s.heap.objs.size := Heap.lt_size he
    have hil : it < s.heap.objs.size := by obtain ⟨_, q, _⟩ := live i _ hst; exact Heap.lt_size q
    refine wpAny_pyNext_enum_itemD DD he (h1 i hst) him hne (h4 e ⟨_, _, _, he⟩ hne) fun u h' tk hPu ho hit' hT hsz hk => ?_
    obtain ⟨x, ru, hv⟩ := h3 i u hPu
    refine ⟨_, rfl, wpAny_letOwnedTupleGo_enum (s := { s with heap := h', toks := tk + 1 }) ho fun h'' he' sb => ?_⟩
    have hT2 : h''.get? s.heap.objs.size = some { cls := .type "tuple", data := .seq #[.int i tk, u] } := (sb.2 _ (Nat.ne_of_gt hel)).trans hT
    have new : ObjOk X.prog X.w (upd H s.heap.objs.size (.tup [.int (i : Nat), x])) h'' s.heap.objs.size (.tup [.int (i : Nat), x]) :=
      ⟨by show 2 ≤ sizeLine; decide, [.int i tk, u], .cons ⟨_, rfl⟩ (.cons ru .nil), ⟨_, hT2, rfl, _, rfl⟩⟩
    have I1 : Inv X pins σ (upd H s.heap.objs.size (.tup [.int (i : Nat), x])) { s with heap := h'', toks := tk + 1 } :=
      I.turnedNew (ch := [e, it]) (fun b ob hb q => (sb.2 b (fun z => hb (by simp [z]))).trans (hk b ob (fun z => hb (by simp [z])) (fun z => hb (by simp [z])) q)) hf (Nat.le_refl _) new
    refine ⟨.ref s.heap.objs.size, _, I1, rfl, ⟨_, x, rfl, I.hok.fresh (Nat.le_refl _), rfl, hv⟩, ⟨⟨u, ?_⟩, fr1 _ _ _ (h2 _ _ hit') (fun o q => (sb.2 it (Ne.symm hne)).trans q), hne⟩, fun b hb => ?_⟩
    · have e1 : ((i + 1 : Nat) : Int) = (i : Int) + 1 := by omega
      rw [e1]; exact he'
    · have hb' : b < s.heap.objs.size := by
        have e' : b = e ∨ b = it := by simpa using hb
        rcases e' with z | z
        · rw [z]; exact hel
        · rw [z]; exact hil
      rw [upd_ne (Nat.ne_of_lt hb')]
      exact (hf b hb).1
  done := by
    intro X hP hw hK hc i pins s σ H E I hf st hg
    obtain ⟨⟨old, he⟩, hst, hne⟩ := st
    obtain ⟨fp, P', St', DD, h1, h2, h3, h4⟩ := D.run X hP hw hK hc pins s σ H i I hg
    subst hP hw hK
    obtain ⟨f0, f1, f2, f3, f4, f5⟩ := hf it (by simp)
    exact wpAny_pyNext_enum_endD DD he (h1 i hst) fun h' eb => ⟨rfl, I.turned (t' := s.toks) (fun b o hb q => eb b o hb q) f0 f1 f3 f4 f5⟩
  self := fun A i s Q E st h => let ⟨⟨_, he⟩, _⟩ := st; wpAny_pyIter_enum he h
/-! texts -/
def nS (z : Str) : Hp → Nat → Prop := fun _ m => m = z.cps.size
def vS (z : Str) : Hp → Nat → V → Prop := fun _ i x => ∃ c, z.cps[i]? = some c ∧ x = .str ⟨#[c]⟩
theorem enD_str {P : Program} {w : World} {K : PySem.W.Frag} (it : Addr) (z : Str) (t : Tok) : EnD P w K it (nS z) (vS z) (fun i h => h.IsStrIter it (strIterType z) z t i) where
  run := by
    intro X hP hw hK hc pins s σ H m I hm
    subst hP hw hK
    cases (show m = z.cps.size from hm)
    refine ⟨[it], _, _, Draws.text (show X.A.in1.handled = none from I.ok.hd hc) it z t, fun i h => h, fun i h q => q, fun i u q => ?_, fun e _ hne h => hne (List.mem_singleton.mp h)⟩
    obtain ⟨c, u', hc', rfl⟩ := q
    exact ⟨.str ⟨#[c]⟩, ⟨_, rfl⟩, c, hc', rfl⟩
def iEnS (ta : TA) : TI := fun σ H R => ta σ H fun vs H1 => ∃ z, vs = [.str z] ∧ R (ItE (nS z) (vS z)) H1
theorem pi_enumS {X : Cx} {e : Expr} {ta : TA} {p pos tpos : Pos} {elts : List Expr} {kk : Nat} (hg : Gl X "enumerate") (hm : X.mg "enumerate" = none) (ha : PA X [e] ta) (hs : starEach [e] X.env = [(false, eval e X.env)] := by rfl) :
    PI X (.Tuple elts kk tpos) (.Call (.Name "enumerate" p) [e] [] pos) (iEnS ta) := by
  refine ⟨fun pins s σ H R I h => ?_⟩
  refine Call_ (ld_blt I hg hm boot_enumerate (PyProof.Rows.callWith_type1 (thn (ha.run pos pins s σ H _ I h) fun us s1 ⟨vs, H1, I1, r1, q1⟩ => ?_) hs rfl))
  obtain ⟨z, ex, q⟩ := q1
  subst ex
  cases r1 with
  | cons r rr =>
    cases rr
    obtain ⟨t, rfl⟩ := r
    refine call_enumerate_str fun h' he hit hsz hk => wpAny_pyIter_enum he ?_
    have I2 : Inv X pins σ H1 { s1 with heap := h' } := I1.kept (t' := s1.toks) hk
    refine ⟨s1.heap.objs.size + 1, [s1.heap.objs.size + 1, s1.heap.objs.size], _, _, H1, rfl, I2, turn_enumE (s1.heap.objs.size + 1) s1.heap.objs.size (enD_str _ z t) (fun i h st => ?_) (fun i h h' st k => ?_), ⟨⟨.none, he⟩, hit, Nat.succ_ne_self _⟩, fun b hb => ?_, q⟩
    · obtain ⟨o, ho, hc, hd⟩ := st
      exact ⟨o, ho, fun v q => by rw [hd] at q; cases q⟩
    · obtain ⟨o, ho, hc, hd⟩ := st
      exact ⟨o, k o ho, hc, hd⟩
    · have e' : b = s1.heap.objs.size + 1 ∨ b = s1.heap.objs.size := by simpa using hb
      have hle : s1.heap.objs.size ≤ b := by
        rcases e' with z | z
        · rw [z]; exact Nat.le_add_right _ _
        · rw [z]; exact Nat.le_refl _
      exact I1.fpOk hle (I1.hok.fresh hle)
/-! tuples -/
def nT (K : PySem.W.Frag) (a : Addr) (xs : List V) : Hp → Nat → Prop := fun H m => SqT K H a xs ∧ m = xs.length
def vT (xs : List V) : Hp → Nat → V → Prop := fun _ i x => xs[i]? = some x
theorem enD_tup {P : Program} {w : World} {K : PySem.W.Frag} (it a : Addr) (xs : List V) : EnD P w K it (nT K a xs) (vT xs) (fun i h => h.IsTupleIter it a i ∧ a ≠ it) where
  run := by
    intro X hP hw hK hc pins s σ H m I hm
    subst hP hw hK
    obtain ⟨hq, rfl⟩ := hm
    obtain ⟨its, rv, p, hz⟩ := I.tuple hq
    by_cases hne : a = it
    · subst hne
      refine ⟨[a], fun _ _ => False, fun _ _ => False, ⟨fun _ _ h => h.elim, fun _ _ _ h => h.elim, fun _ _ _ _ _ h => h.elim, fun _ _ _ h => h.elim⟩, fun i h => absurd rfl h.2, fun i h q => q.elim, fun i u q => q.elim, fun e _ hne h => hne (List.mem_singleton.mp h)⟩
    · have hl : xs.length = its.toArray.size := by rw [List.size_toArray]; exact rv.length
      refine ⟨[it, a], _, _, hl ▸ Draws.tuple (show X.A.in1.handled = none from I.ok.hd hc) it a hne its.toArray, fun i h => ⟨h.1, p⟩, fun i h q => ⟨q.1, hne⟩, fun i u q => ?_, fun e he hne' h => ?_⟩
      · rw [List.getElem?_toArray] at q
        obtain ⟨x, hx⟩ : ∃ x, xs[i]? = some x := by
          have := (List.getElem?_eq_some_iff.mp q).1
          exact ⟨_, List.getElem?_eq_getElem (show i < xs.length by rw [rv.length]; exact this)⟩
        obtain ⟨u', hu, ru⟩ := rv.get hx
        rw [hu] at q
        cases q
        exact ⟨x, ru, hx⟩
      · rcases List.mem_cons.mp h with z | z
        · exact hne' z
        · have z := List.mem_singleton.mp z
          subst z
          obtain ⟨b, old, i, he⟩ := he
          obtain ⟨o, ho, hc', _⟩ := p
          rw [show s.heap.get? e = _ from he] at ho
          cases ho
          injection hc' with z
          exact absurd z (by decide)
def iEnT (K : PySem.W.Frag) (ta : TA) : TI := fun σ H R => ta σ H fun vs H1 => ∃ a xs, vs = [.ref a] ∧ SqT K H1 a xs ∧ R (ItE (nT K a xs) (vT xs)) H1
theorem pi_enumT {X : Cx} {e : Expr} {ta : TA} {p pos tpos : Pos} {elts : List Expr} {kk : Nat} (hg : Gl X "enumerate") (hm : X.mg "enumerate" = none) (ha : PA X [e] ta) (hs : starEach [e] X.env = [(false, eval e X.env)] := by rfl) :
    PI X (.Tuple elts kk tpos) (.Call (.Name "enumerate" p) [e] [] pos) (iEnT X.K ta) := by
  refine ⟨fun pins s σ H R I h => ?_⟩
  refine Call_ (ld_blt I hg hm boot_enumerate (PyProof.Rows.callWith_type1 (thn (ha.run pos pins s σ H _ I h) fun us s1 ⟨vs, H1, I1, r1, q1⟩ => ?_) hs rfl))
  obtain ⟨a, xs, ex, hq, q⟩ := q1
  subst ex
  cases r1 with
  | cons r rr =>
    cases rr
    cases r
    obtain ⟨its, rv, p', hz⟩ := I1.tuple hq
    have hlt : a < s1.heap.objs.size := by obtain ⟨o, ho, _⟩ := p'; exact Heap.lt_size ho
    refine enum_begins1 (begins_tuple a its.toArray) (show s1.heap.IsTuple a its.toArray from p') fun h' he hit hsz hk => wpAny_pyIter_enum he ?_
    have I2 : Inv X pins σ H1 { s1 with heap := h' } := I1.kept (t' := s1.toks) hk
    refine ⟨s1.heap.objs.size + 1, [s1.heap.objs.size + 1, s1.heap.objs.size], _, _, H1, rfl, I2, turn_enumE (s1.heap.objs.size + 1) s1.heap.objs.size (enD_tup _ a xs) (fun i h st => ?_) (fun i h h' st k => ?_), ⟨⟨.none, he⟩, ⟨⟨_, hit, rfl, rfl⟩, Nat.ne_of_lt hlt⟩, Nat.succ_ne_self _⟩, fun b hb => ?_, q⟩
    · obtain ⟨⟨o, ho, hc, hd⟩, _⟩ := st
      exact ⟨o, ho, fun v q => by rw [hd] at q; cases q⟩
    · obtain ⟨⟨o, ho, hc, hd⟩, hne⟩ := st
      exact ⟨⟨o, k o ho, hc, hd⟩, hne⟩
    · have e' : b = s1.heap.objs.size + 1 ∨ b = s1.heap.objs.size := by simpa using hb
      have hle : s1.heap.objs.size ≤ b := by
        rcases e' with z | z
        · rw [z]; exact Nat.le_add_right _ _
        · rw [z]; exact Nat.le_refl _
      exact I1.fpOk hle (I1.hok.fresh hle)
theorem pi_enumTK {X : Cx} {K : PySem.W.Frag} {e : Expr} {ta : TA} {p pos tpos : Pos} {elts : List Expr} {kk : Nat} (hK : X.K = K) (hg : Gl X "enumerate") (hm : X.mg "enumerate" = none) (ha : PA X [e] ta) (hs : starEach [e] X.env = [(false, eval e X.env)] := by rfl) :
    PI X (.Tuple elts kk tpos) (.Call (.Name "enumerate" p) [e] [] pos) (iEnT K ta) := hK ▸ pi_enumT hg hm ha hs
/-- the loop over such an enumerate -/
theorem for_enE {n : Hp → Nat → Prop} {val : Hp → Nat → V → Prop} {g : TG} {tb : TS} {D : Ends} {σ : L2.St} {H : Hp} (m : Nat) (Pv : Nat → L2.St → Hp → Prop) (h0 : Pv 0 σ H) (hn : ∀ i σ H, i ≤ m → Pv i σ H → n H m)
    (hs : ∀ i x σ H T, i < m → val H i x → Pv i σ H → H T = none → g (.ref T) σ (upd H T (.tup [.int (i : Nat), x])) fun σ2 H2 => tb { D with nx := Pv (i + 1), ct := Pv (i + 1), bk := D.nx } σ2 H2) (hd : ∀ σ H, Pv m σ H → D.nx σ H) :
    ∃ W : Nat → Nat → L2.St → Hp → Prop, (∃ m, W 0 m σ H) ∧ ∀ i m σ H, W i m σ H →
      ((ItE n val).stop i H ∧ D.nx σ H) ∨ ((ItE n val).go i H ∧ ∃ N : L2.St → Hp → Prop, (∀ σ' H', N σ' H' → ∃ m', m' < m ∧ W (i + 1) m' σ' H') ∧ ∀ x H', (ItE n val).yld i H x H' → g x σ H' fun σ2 H2 => tb { D with nx := N, ct := N, bk := D.nx } σ2 H2) := by
  refine ⟨fun i k σ H => k = m - i ∧ i ≤ m ∧ Pv i σ H, ⟨m, by simp, Nat.zero_le _, h0⟩, ?_⟩
  rintro i k σ H ⟨rfl, hi, p⟩
  have q := hn i σ H hi p
  by_cases hlt : i < m
  · refine .inr ⟨⟨m, q, hlt⟩, Pv (i + 1), fun σ' H' p' => ⟨m - (i + 1), by omega, rfl, hlt, p'⟩, fun v H' y => ?_⟩
    obtain ⟨T, x, e1, hT, e2, y⟩ := y
    subst e1
    subst e2
    exact hs i x σ _ T hlt y p hT
  · have e : i = m := by omega
    subst e
    exact .inl ⟨q, hd σ H p⟩
end Kb

/-! ### a list of truths: count; a comprehension over an enumerate -/
namespace Kb
open PySem PySem.Spec PyProof.Rows L2 ClX
def eqb (k : Bool) : Value → Bool
  | .bool b => b == k
  | _ => false
theorem bools_eq {k : Bool} : ∀ {us : List Value} {bs : List Bool}, Vals (bs.map V.bl) us → (∀ y ∈ us, ∃ b, y = .bool b) ∧ us.countP (eqb k) = bs.count k
  | _, [], h => by cases h; exact ⟨fun y hy => (nomatch hy), rfl⟩
  | _, b :: bs, h => by
    rw [List.map_cons] at h
    cases h with
    | cons r t =>
      obtain ⟨h1, h2⟩ := bools_eq (k := k) t
      cases r
      refine ⟨fun y hy => ?_, ?_⟩
      · rcases List.mem_cons.mp hy with e | e
        · exact ⟨b, e⟩
        · exact h1 y e
      · rw [List.countP_cons, List.count_cons, h2] <;> rfl
section
variable {X : Cx}
def rCntB (K : PySem.W.Frag) : V → List V → Hp → VK → Prop := fun x xs H Q => ∃ (p : Addr) (bs : List Bool) (k : Bool), x = .ref p ∧ xs = [.bl k] ∧ SqL K H p (bs.map V.bl) ∧ Q (.int (bs.count k : Nat)) H
theorem mt_lcountB : MtR X "list.count" (rCntB X.K) := by
  intro pins s σ H x xs v us Q I rx rxs h
  obtain ⟨p, bs, k, rfl, rfl, hs, q⟩ := h
  cases rx
  obtain ⟨u, rfl, ru⟩ := rxs.one
  cases (show u = Value.bool k from ru)
  obtain ⟨its, rv, ⟨⟨cls, dd, data, sl⟩, n, ho, hc, hdn, hd⟩, hlen⟩ := I.list hs
  simp only at hc hd
  subst hc hd
  obtain ⟨h1, h2⟩ := bools_eq (k := k) rv
  refine call_meets PySem.F.slot_list_count ⟨_, ho, rfl⟩ PySem.F.entry_list_count (PySem.F.args_list_count_2 _ _)
    (SeqAt.list_countAt p its.toArray n dd sl (.bool k) (eqb k)) ⟨ho, fun y hy => ?_, ?_⟩
  · obtain ⟨b, rfl⟩ := h1 y (by simpa using hy)
    exact SeqAt.EqAt.bool_bool b k
  · refine ⟨.int (bs.count k : Nat), H, I.tok _, ⟨s.toks, ?_⟩, q⟩
    show Value.int ((its.toArray.toList.countP (eqb k) : Nat) : Int) s.toks = Value.int ((bs.count k : Nat) : Int) s.toks
    rw [show its.toArray.toList = its from rfl, h2]
end
theorem lcR_enE {n : Hp → Nat → Prop} {val : Hp → Nat → V → Prop} {g : TG} {te : TE} {vs : List Nat} {σ : L2.St} {H1 : Hp} {D : Addr} {Qd : Hp → Prop} (m : Nat) (M : Nat → Hp → Prop) (h0 : M 0 (upd H1 D (.lst []))) (hn : ∀ i H, i ≤ m → M i H → n H m)
    (hs : ∀ i x H T, i < m → val H i x → M i H → H T = none → g (.ref T) (wipe σ vs) (upd H T (.tup [.int (i : Nat), x])) fun σ2 H2 => wipe σ2 vs = wipe σ vs ∧ te σ2 H2 fun y H4 => ∃ acc, H4 D = some (.lst acc) ∧ acc.length < sizeLine ∧ M (i + 1) (upd H4 D (.lst (acc ++ [y]))))
    (hm : ∀ x σ H Q Q', (∀ σ2 H2, Q σ2 H2 → Q' σ2 H2) → g x σ H Q → g x σ H Q') (hd : ∀ H, M m H → Qd H) : LcR (ItE n val) g tYes te vs σ H1 D Qd := by
  refine ⟨fun i k H => k = m - i ∧ i ≤ m ∧ M i H, ⟨m, by simp, Nat.zero_le _, h0⟩, ?_⟩
  rintro i k H ⟨rfl, hi, p⟩
  have q := hn i H hi p
  by_cases hlt : i < m
  · refine .inr ⟨⟨m, q, hlt⟩, M (i + 1), fun H' p' => ⟨m - (i + 1), by omega, rfl, hlt, p'⟩, fun v H' y => ?_⟩
    obtain ⟨T, x, e1, hT, e2, y⟩ := y
    subst e1
    subst e2
    exact hm _ _ _ _ _ (fun σ2 H2 z => ⟨z.1, ifT (B := M (i + 1) H2) rfl z.2⟩) (hs i x _ T hlt y p hT)
  · have e : i = m := by omega
    subst e
    exact .inl ⟨q, hd H p⟩
end Kb

/-! ### is True, is not True -/
namespace Kb
open PySem PySem.Spec PyProof.Rows L2 ClX
section
variable {X : Cx}
theorem op_isT : OpR X (compareOp .Is) (fun x y H Q => ∃ k, y = .bl k ∧ ((x = .non ∧ Q (.bl false) H) ∨ ∃ j, x = .bl j ∧ Q (.bl (decide (j = k))) H)) := by
  intro pins s σ H x y v u Q I rx ry h
  obtain ⟨k, rfl, h⟩ := h
  cases (show u = Value.bool k from ry)
  rcases h with ⟨rfl, q⟩ | ⟨j, rfl, q⟩
  · cases rx
    exact wpAny_is_other rfl (fun z => nomatch z) ⟨.bl false, H, I, rfl, q⟩
  · cases (show v = Value.bool j from rx)
    by_cases e : j = k
    · subst e
      exact wpAny_is_self rfl ⟨.bl true, H, I, rfl, by simpa using q⟩
    · exact wpAny_is_other rfl (fun z => e (Value.bool.inj z)) ⟨.bl false, H, I, rfl, by simpa [e] using q⟩
theorem op_notT : OpR X (compareOp .IsNot) (fun x y H Q => ∃ k, y = .bl k ∧ ((x = .non ∧ Q (.bl true) H) ∨ ∃ j, x = .bl j ∧ Q (.bl (!decide (j = k))) H)) := by
  intro pins s σ H x y v u Q I rx ry h
  obtain ⟨k, rfl, h⟩ := h
  cases (show u = Value.bool k from ry)
  rcases h with ⟨rfl, q⟩ | ⟨j, rfl, q⟩
  · cases rx
    exact wpAny_isNot_other rfl (fun z => nomatch z) ⟨.bl true, H, I, rfl, q⟩
  · cases (show v = Value.bool j from rx)
    by_cases e : j = k
    · subst e
      exact wpAny_isNot_self rfl ⟨.bl false, H, I, rfl, by simpa using q⟩
    · exact wpAny_isNot_other rfl (fun z => e (Value.bool.inj z)) ⟨.bl true, H, I, rfl, by simpa [e] using q⟩
end
end Kb

/-! ### ~x of an own instance; a promise that nothing meets -/
namespace Kb
open PySem PySem.Spec PyProof.Rows L2 ClX
section
variable {X : Cx} {k : Nat} {C : Addr} {ps : List Str} {sp : Sp}
def rOwnU (C : Addr) (sp : Sp) : V → Hp → VK → Prop := fun x H Q => ∃ (a dx : Addr) (fs : List (Str × V)), x = .ref a ∧ H a = some (.ins C dx fs) ∧ sp [.ref a] H Q E0
theorem un_own (F : MtC X.prog X.w X.K X.mg X.base CX0 k C "__invert__" ps sp) (hr : Room k X.A) : UnR X (unaryOp .Invert) (rOwnU C sp) := by
  intro pins s σ H x v Q I rx h
  obtain ⟨a, dx, fs, rfl, ha, q⟩ := h
  obtain ⟨f, fd, hf, M, hb⟩ := F.ex
  cases (show v = Value.ref a from rx)
  obtain ⟨mA, O, _⟩ := ins_get I.hok ha
  obtain ⟨od, J, _⟩ := O.look
  obtain ⟨m, hF⟩ := I.fr
  refine PySem.W.ksp_inv hF I.ok.mod.kin J M.at_ M.fn ?_
  exact run_fn (us := [.ref a]) (vs := [.ref a]) hf hr hb .nil pass0 I (.cons rfl .nil) q
end
theorem fn_false {P : Program} {w : World} {K : PySem.W.Frag} {mg : Str → Option Value} {base : Heap} {CX : CXT} {k : Nat} {f : Addr} {fd : FuncData} {ps : List Str} : FnOk P w K mg base CX k f fd ps (fun _ _ _ _ => False) :=
  ⟨fun _ _ _ _ h => h.elim, fun _ _ _ _ _ _ _ _ _ _ _ _ _ h => h.elim⟩
end Kb

/-! ### rules that name the written part, for blocks of comprehensions -/
namespace Kb
open PySem PySem.Spec PyProof.Rows L2 ClX
section
variable {X : Cx} {K : PySem.W.Frag}
theorem op_in_seqK (h : X.K = K) : OpR X (compareOp .In) (rIn K false) := h ▸ op_in_seq
theorem op_notIn_seqK (h : X.K = K) : OpR X (compareOp .NotIn) (rIn K true) := h ▸ op_notIn_seq
theorem op_eqDK (h : X.K = K) (hu : X.A.units + 64 < cLine) : OpR X (compareOp .Eq) (rEqD K) := h ▸ op_eqD hu
theorem op_neDK (h : X.K = K) (hu : X.A.units + 64 < cLine) : OpR X (compareOp .NotEq) (rNeD K) := h ▸ op_neD hu
end
end Kb

/-! ### a builtin value on the left, an own object on the right whose class has the reflected operator -/
namespace PySem.W
open PySem PySem.Calls PyProof.Rows
section
variable {prog : Program} {w : World} {M : Model} {A : Around} {E : Value → Shared → Prop} {s : Shared} {K : Frag} {y D L g : Addr} {h₀ : Heap} {m : Str → Option Value} {oy : Obj} {od : Option Obj} {nm T : String}
theorem binop_LT {op : Operator} {a : Value} {fo ro : Option Value} {Q : Value → Shared → Prop} (F : Fr h₀ L s.heap m) (X₀ : K.In h₀) (J : InstAt s.heap y oy D od) (ha : typeOf a = pure (.type T)) (hd : selfFirst K D = true)
    (gs : findIn K (.ref D) (PySem.dunder op.info.2) = some none) (gr : findIn K (.ref D) (dunderR op.info.2) = some (some (.ref g))) (hg : isFn K (.ref g) = true)
    (h1 : findIn K (.type T) (PySem.dunder op.info.2) = some fo) (h2 : findIn K (.type T) (dunderR op.info.2) = some ro) (hl : ((fo.isSome && !isSeqSlot fo) || (ro.isSome && !isSeqSlot ro)) = false)
    (h : wpAny (model prog w) A (call (.ref g) [.ref y, a]) (CmpBack Q) E s) : wpAny (model prog w) A (binaryOp op a (.ref y)) Q E s := by
  have X := X₀.keeps F.keep
  obtain ⟨ce, rest', hce, hm'⟩ := ksp_first hd
  have one := ksp_try X J gr hg h
  have L1 : Looks (model prog w) s.heap (typeOf a) (.type T) := Looks.of_pure ha
  have L3 : Looks (model prog w) s.heap (fillsNumberSlot (.type T) op.info.2) false := hl ▸ ksp_fillsT X h1 h2
  have L4 : Looks (model prog w) s.heap (fillsNumberSlot (.ref D) op.info.2) true := fills_R X hce hm' gs gr
  have hn : (Value.type T == Value.ref D) = false := Bool.eq_false_iff.mpr fun q => by cases beq_iff_eq.mp q
  unfold binaryOp
  refine wpAny_holding (wpAny_bind ?_)
  unfold binaryOp1
  refine wpAny_bind (L1.here (wpAny_bind (J.type.here (wpAny_bind (L3.here ?_)))))
  simp only [hn, Bool.false_eq_true, if_false]
  refine wpAny_bind (L4.here ?_)
  simp only [Bool.false_and, Bool.false_eq_true, if_false]
  refine wpAny_bind (wpAny_pure ?_)
  simp only [Bool.not_false, Bool.and_self, if_true, Bool.false_eq_true, if_false]
  refine wpAny_bind (m := tryMethod (.ref y) _ _) (wpAny_mono one (fun r s' hr => ?_) fun _ _ e => e)
  obtain ⟨v, rfl, hv⟩ := hr
  obtain ⟨hh, gg, d, tt, os⟩ := s'
  ksp_lk
  exact hv
theorem int_add_declines {n : Int} {t : Tok} {dx : Addr} {Q : Value → Shared → Prop} (J : s.heap.get? y = some (instObj D dx)) (hq : Q .notImplemented s) :
    wpAny (model prog w) A (Builtin.«int.__add__» ⟨[.int n t, .ref y], []⟩) (fun f s' => ∃ v, f = .done (.ret v) ∧ Q v s') E s := by
  obtain ⟨hp, g, d, tk, os⟩ := s
  unfold Builtin.«int.__add__» Builtin.Int.intBinary
  have L : Looks (model prog w) hp (asInt? (.ref y)) none := by
    intro A Q E s k q
    unfold asInt?
    exact wpAny_bind (wpAny_load (k _ _ J) (wpAny_pure q))
  repeat (first | lk | wp_step)
  exact ⟨_, rfl, hq⟩
/-- a builtin value on the left whose own method declines -/
theorem binop_LN {op : Operator} {a : Value} {Q : Value → Shared → Prop} (Fh : Fr h₀ L s.heap m) (X₀ : K.In h₀) (J : InstAt s.heap y oy D od) (ha : typeOf a = pure (.type T)) (hd : selfFirst K D = true) (hsub : subIn K (.ref D) (.type T) = some false)
    (gs : findIn K (.ref D) (PySem.dunder op.info.2) = some none) (gr : findIn K (.ref D) (dunderR op.info.2) = some (some (.ref g))) (hg : isFn K (.ref g) = true)
    (hfl : fillsNumberSlot (.type T) op.info.2 = pure true)
    (two : wpAny (model prog w) A (tryMethod a (PySem.dunder op.info.2) (.ref y)) (fun r s' => r = none ∧ s' = s) E s)
    (h : wpAny (model prog w) A (call (.ref g) [.ref y, a]) (CmpBack Q) E s) : wpAny (model prog w) A (binaryOp op a (.ref y)) Q E s := by
  have X := X₀.keeps Fh.keep
  obtain ⟨ce, rest', hce, hm'⟩ := ksp_first hd
  have one := ksp_try X J gr hg h
  have L1 : Looks (model prog w) s.heap (typeOf a) (.type T) := Looks.of_pure ha
  have L3 : Looks (model prog w) s.heap (fillsNumberSlot (.type T) op.info.2) true := Looks.of_pure hfl
  have L4 : Looks (model prog w) s.heap (fillsNumberSlot (.ref D) op.info.2) true := fills_R X hce hm' gs gr
  have L5 : Looks (model prog w) s.heap (isSubtype (.ref D) (.type T)) false := looks_subIn X hsub
  have L7 : Looks (model prog w) s.heap (numberSlotInPython (.type T) op.info.2) false := Looks.of_pure rfl
  have hn : (Value.type T == Value.ref D) = false := Bool.eq_false_iff.mpr fun q => by cases beq_iff_eq.mp q
  unfold binaryOp
  refine wpAny_holding (wpAny_bind ?_)
  unfold binaryOp1
  refine wpAny_bind (L1.here (wpAny_bind (J.type.here (wpAny_bind (L3.here ?_)))))
  simp only [hn, Bool.false_eq_true, if_false]
  refine wpAny_bind (L4.here ?_)
  simp only [Bool.and_self, if_true]
  refine wpAny_bind (L5.here ?_)
  simp only [Bool.false_eq_true, if_false]
  refine wpAny_bind (L7.here ?_)
  simp only [Bool.false_eq_true, if_false, if_true]
  refine wpAny_bind (m := tryMethod a _ _) (wpAny_mono two (fun r s' hr => ?_) fun _ _ e => e)
  obtain ⟨rfl, rfl⟩ := hr
  dsimp only
  simp only [Bool.not_false, Bool.and_self, if_true]
  refine wpAny_bind (m := tryMethod (.ref y) _ _) (wpAny_mono one (fun r s' hr => ?_) fun _ _ e => e)
  obtain ⟨v, rfl, hv⟩ := hr
  obtain ⟨hh, gg, d, tt, os⟩ := s'
  ksp_lk
  exact hv
theorem try_int_add {n : Int} {t : Tok} {dx : Addr} (J : s.heap.get? y = some (instObj D dx)) : wpAny (model prog w) A (tryMethod (.int n t) (PySem.dunder "add") (.ref y)) (fun r s' => r = none ∧ s' = s) E s :=
  wpAny_tryMethod_declines (typeIs_int s n t) PySem.F.slot_int_add (wpAny_call_entry PySem.F.slot_int_add (typeIs_int s n t) PySem.F.entry_int_add (int_add_declines J ⟨rfl, rfl, rfl⟩) (PySem.F.args_int_add_2 _ _))
end
end PySem.W

/-! ### the head by one run of the top: the facts are looked at in the run -/
namespace Kb
open PySem PySem.Spec PyProof.Rows L2 ClX
/-- a def: where it stands, its name, qualified name, parameters, body, scope -/
structure FZ where
  at_ : PySem.W.Frag → Addr
  name : Str
  qual : Str
  st : Stmt
def FZ.val (d : FZ) : He.FnV := some (d.name, d.qual, defArgs d.st, .stmts (defBody d.st), defScope d.st, mainGlobals, [], .none, builtinsNs)
def fzObs (K : PySem.W.Frag) (a : Addr) : He.FnV := match K.lookup a with
  | some ⟨_, _, .func fd, _⟩ => some (fd.name, fd.qualname, fd.params, fd.body, fd.scope, fd.globals, fd.closure, fd.defaults, fd.builtins)
  | _ => none
def fzCode (K : PySem.W.Frag) (a : Addr) (q : Str) : Bool := match K.lookup a with
  | some ⟨_, _, .func fd, _⟩ => PySem.W.codeIn K fd.code q
  | _ => false
theorem fz_ok {K : PySem.W.Frag} {d : FZ} (seen : fzObs K (d.at_ K) = d.val) (coded : fzCode K (d.at_ K) d.qual = true) :
    ∃ cl di sl kw dc md an cv cm, K.lookup (d.at_ K) = some ⟨cl, di, .func (PySem.W.fnOf d.name d.qual (defArgs d.st) (defBody d.st) (defScope d.st) .none kw dc md an cv cm), sl⟩ ∧ PySem.W.codeIn K cv d.qual = true := by
  unfold fzCode at coded
  unfold fzObs FZ.val at seen
  split at coded
  · rename_i cl di fun_ sl here
    rw [here] at seen
    cases fun_ with
    | mk nm qn pa bo sc gl clo df kw dc md an cv cm bn =>
      have same := Option.some.inj seen
      simp only [Prod.mk.injEq] at same
      rcases same with ⟨rfl, rfl, rfl, rfl, rfl, rfl, rfl, rfl, rfl⟩
      exact ⟨cl, di, sl, kw, dc, md, an, cv, cm, here, coded⟩
  · cases coded
abbrev AlZ : Type := Bool × List He.FnV
def obsZ (fs : List (PySem.W.Frag → Bool)) (fn : List FZ) (K : PySem.W.Frag) : AlZ := ((fs.all fun f => f K) && fn.all fun d => fzCode K (d.at_ K) d.qual, fn.map fun d => fzObs K (d.at_ K))
def valZ (fn : List FZ) : AlZ := (true, fn.map FZ.val)
def SaysZ (fs : List (PySem.W.Frag → Bool)) (fn : List FZ) (K : PySem.W.Frag) : Prop := obsZ fs fn K = valZ fn
/-- what an object of the text names -/
def refsZ (o : Obj) : List Addr := match o.data with
  | .seq its _ => its.toList.flatMap He.refV
  | .dict es _ => es.toList.flatMap fun e => He.refV e.val
  | .func fd => He.refV fd.code
  | .cls cd => [cd.ns]
  | .fields vs => vs.toList.flatMap He.refV
  | _ => []
def stepZ (g : Addr → Option Obj) (as : List Addr) : List Addr := as.flatMap fun a => match g a with
  | some o => refsZ o
  | none => []
def lvZ (g : Addr → Option Obj) : Nat → List Addr → List Addr
  | 0, as => as
  | n + 1, as => as ++ lvZ g n (stepZ g as)
def asZ (g : Addr → Option Obj) (n : Nat) : List Addr := lvZ g n [mainGlobals] ++ [cStatics]
def obsZG (n : Nat) (fs : List (PySem.W.Frag → Bool)) (fn : List FZ) (g : Addr → Option Obj) : AlZ := obsZ fs fn (He.frG g (asZ g n))
def hookZ (n : Nat) (fs : List (PySem.W.Frag → Bool)) (fn : List FZ) : PySem.W.Hook :=
  ⟨AlZ, fun s => obsZG n fs fn s.heap.get?, fun _ => valZ fn, fun _ h => ∃ F : PySem.W.Frag, F.In h ∧ SaysZ fs fn F, fun _ s z => ⟨He.frG s.heap.get? (asZ s.heap.get? n), He.frG_in, z⟩, fun _ _ _ said more => said.elim fun F z => ⟨F, PySem.W.Frag.In.keeps z.1 more, z.2⟩⟩
theorem obsZG_eq {n : Nat} {fs : List (PySem.W.Frag → Bool)} {fn : List FZ} {g : Addr → Option Obj} {s : Shared} (h : ∀ a, g a = s.heap.get? a) : obsZG n fs fn g = (hookZ n fs fn).obs s := congrArg (obsZG n fs fn) (funext h)
section
variable {fs : List (PySem.W.Frag → Bool)} {fn : List FZ} {K : PySem.W.Frag}
theorem SaysZ.parts (z : SaysZ fs fn K) : (∀ f ∈ fs, f K = true) ∧ (∀ d ∈ fn, fzCode K (d.at_ K) d.qual = true) ∧ ∀ d ∈ fn, fzObs K (d.at_ K) = d.val := by
  obtain ⟨zb, zl⟩ := Prod.mk.inj (show ((fs.all fun f => f K) && fn.all fun d => fzCode K (d.at_ K) d.qual, fn.map fun d => fzObs K (d.at_ K)) = (true, fn.map FZ.val) from z)
  rw [Bool.and_eq_true, List.all_eq_true, List.all_eq_true] at zb
  exact ⟨zb.1, zb.2, fun d hd => List.map_inj_left.mp zl d hd⟩
theorem SaysZ.fact (z : SaysZ fs fn K) (i : Nat) {f : PySem.W.Frag → Bool} (h : fs[i]? = some f) : f K = true := z.parts.1 f (List.mem_iff_getElem?.mpr ⟨i, h⟩)
theorem SaysZ.def_ (z : SaysZ fs fn K) (i : Nat) {d : FZ} (h : fn[i]? = some d) :
    ∃ cl di sl kw dc md an cv cm, K.lookup (d.at_ K) = some ⟨cl, di, .func (PySem.W.fnOf d.name d.qual (defArgs d.st) (defBody d.st) (defScope d.st) .none kw dc md an cv cm), sl⟩ ∧ PySem.W.codeIn K cv d.qual = true :=
  have hd := List.mem_iff_getElem?.mpr ⟨i, h⟩
  fz_ok (z.parts.2.2 d hd) (z.parts.2.1 d hd)
end
/-- the run looked at in parts -/
theorem run_parts {S B : Type} {X : Option S} {lk : S → Bool} {sn : S → B} {Kf : S → PySem.W.Frag} {good : B} {fs : List (PySem.W.Frag → Bool)} {fn fa fb : List FZ} (e : fn = fa ++ fb)
    (h1 : X.map (fun s => (lk s, sn s, fs.all fun f => f (Kf s))) = some (true, good, true)) (h2 : X.map (fun s => (fa.all (fun d => fzCode (Kf s) (d.at_ (Kf s)) d.qual), fa.map fun d => fzObs (Kf s) (d.at_ (Kf s)))) = some (true, fa.map FZ.val))
    (h3 : X.map (fun s => (fb.all (fun d => fzCode (Kf s) (d.at_ (Kf s)) d.qual), fb.map fun d => fzObs (Kf s) (d.at_ (Kf s)))) = some (true, fb.map FZ.val)) :
    X.map (fun s => (lk s, sn s, obsZ fs fn (Kf s))) = some (true, good, valZ fn) := by
  subst e
  cases X with
  | none => cases h1
  | some s =>
    have e1 := Prod.mk.inj (Option.some.inj h1)
    have e2 := Prod.mk.inj e1.2
    have e3 := Prod.mk.inj (Option.some.inj h2)
    have e4 := Prod.mk.inj (Option.some.inj h3)
    show some (lk s, sn s, obsZ fs (fa ++ fb) (Kf s)) = _
    unfold obsZ valZ
    rw [List.all_append, List.map_append, List.map_append, e1.1, e2.1, e2.2, e3.1, e3.2, e4.1, e4.2]
    rfl
/-! addresses and facts by names -/
section
variable {K : PySem.W.Frag}
def gloB (K : PySem.W.Frag) (x : Str) : Bool := match PySem.W.nsIn K mainGlobals x with
  | some (some (.ref _)) => true
  | _ => false
theorem gloB_ok {x : Str} (h : gloB K x = true) : PySem.W.nsIn K mainGlobals x = some (some (.ref (He.ga K x))) := by
  unfold gloB at h
  unfold He.ga
  split at h
  · rename_i a e; rw [e]
  · cases h
def freeB (K : PySem.W.Frag) (x : Str) : Bool := match PySem.W.nsIn K mainGlobals x with
  | some none => true
  | _ => false
theorem freeB_ok {x : Str} (h : freeB K x = true) : PySem.W.nsIn K mainGlobals x = some none := by
  unfold freeB at h
  split at h
  · assumption
  · cases h
def methB (K : PySem.W.Frag) (C : Addr) (m : Str) : Bool := match PySem.W.findIn K (.ref C) m with
  | some (some (.ref _)) => true
  | _ => false
theorem methB_ok {C : Addr} {m : Str} (h : methB K C m = true) : PySem.W.findIn K (.ref C) m = some (some (.ref (He.ma K C m))) := by
  unfold methB at h
  unfold He.ma
  split at h
  · rename_i a e; rw [e]
  · cases h
/-- what a property, a class method holds -/
def rcA (K : PySem.W.Frag) (p : Addr) (T : String) : Addr := match PySem.W.recIn K p T with
  | some (.ref f :: _) => f
  | _ => 0
def rcB (K : PySem.W.Frag) (p : Addr) (T : String) : Bool := match PySem.W.recIn K p T with
  | some (.ref _ :: _) => true
  | _ => false
theorem rcB_ok {p : Addr} {T : String} (h : rcB K p T = true) : ∃ rc, PySem.W.recIn K p T = some (.ref (rcA K p T) :: rc) := by
  unfold rcB at h
  unfold rcA
  split at h
  · rename_i f rc e; exact ⟨rc, by rw [e]⟩
  · cases h
def cmA (K : PySem.W.Frag) (C : Addr) (m : Str) : Addr := match PySem.W.findCls K (.ref C) (.type "type") m with
  | some (.get _ (.ref p) _ _) => p
  | _ => 0
def cmB (K : PySem.W.Frag) (C : Addr) (m : Str) : Bool := match PySem.W.findCls K (.ref C) (.type "type") m with
  | some (.get g (.ref _) o t) => decide (g = .builtin "classmethod.__get__") && (decide (o = .none) && decide (t = .ref C))
  | _ => false
theorem cmB_ok {C : Addr} {m : Str} (h : cmB K C m = true) : PySem.W.findCls K (.ref C) (.type "type") m = some (.get (.builtin "classmethod.__get__") (.ref (cmA K C m)) .none (.ref C)) := by
  unfold cmB at h
  unfold cmA
  split at h
  · rename_i g p o t e
    obtain ⟨h1, h2⟩ := He.ba h
    obtain ⟨h2, h3⟩ := He.ba h2
    have h1 := of_decide_eq_true h1
    have h2 := of_decide_eq_true h2
    have h3 := of_decide_eq_true h3
    subst h1 h2 h3
    rw [e]
  · cases h
def clsB (K : PySem.W.Frag) (C : Addr) (m : Str) (v : Value) : Bool := match PySem.W.findCls K (.ref C) (.type "type") m with
  | some (.val u) => decide (u = v)
  | _ => false
theorem clsB_ok {C : Addr} {m : Str} {v : Value} (h : clsB K C m v = true) : PySem.W.findCls K (.ref C) (.type "type") m = some (.val v) := by
  unfold clsB at h
  split at h
  · rename_i u e; rw [e, of_decide_eq_true h]
  · cases h
/-- a constant tuple: its items -/
def tupIt (K : PySem.W.Frag) (a : Addr) : List Value := match K.lookup a with
  | some ⟨.type _, _, .seq its _, _⟩ => its.toList
  | _ => []
def tupRef (K : PySem.W.Frag) (a : Addr) (i : Nat) : Addr := match (tupIt K a)[i]? with
  | some (.ref b) => b
  | _ => 0
def tupB (K : PySem.W.Frag) (a : Addr) (p : List Value → Bool) : Bool := match K.lookup a with
  | some ⟨.type t, _, .seq its _, _⟩ => decide (t = "tuple") && p its.toList
  | _ => false
theorem tupB_ok {a : Addr} {p : List Value → Bool} (h : tupB K a p = true) : ∃ o n s, K.lookup a = some ⟨.type "tuple", o, .seq (tupIt K a).toArray n, s⟩ ∧ p (tupIt K a) = true := by
  unfold tupB at h
  unfold tupIt
  split at h
  · rename_i t o its n s e
    obtain ⟨h1, h2⟩ := He.ba h
    have h1 := of_decide_eq_true h1
    subst h1
    refine ⟨o, n, s, ?_, ?_⟩
    · rw [e]
    · exact h2
  · cases h
def isInts : List Int → List Value → Bool
  | [], [] => true
  | i :: is, .int j _ :: vs => decide (i = j) && isInts is vs
  | _, _ => false
theorem isInts_cons {i : Int} {is : List Int} {vs : List Value} (h : isInts (i :: is) vs = true) : ∃ t r, vs = .int i t :: r ∧ isInts is r = true := by
  cases vs with
  | nil => cases h
  | cons v vs =>
    cases v <;> first
      | (cases h; done)
      | (rename_i j t
         simp only [isInts, Bool.and_eq_true, decide_eq_true_eq] at h
         obtain ⟨rfl, h⟩ := h
         exact ⟨t, vs, rfl, h⟩)
theorem isInts_nil {vs : List Value} (h : isInts [] vs = true) : vs = [] := by
  cases vs with
  | nil => rfl
  | cons v vs => cases v <;> cases h
theorem isInts2 {i j : Int} {vs : List Value} (h : isInts [i, j] vs = true) : ∃ a b, vs = [.int i a, .int j b] := by
  obtain ⟨a, r1, e1, h1⟩ := isInts_cons h
  obtain ⟨b, r2, e2, h2⟩ := isInts_cons h1
  exact ⟨a, b, by rw [e1, e2, isInts_nil h2]⟩
theorem isInts4 {i j k l : Int} {vs : List Value} (h : isInts [i, j, k, l] vs = true) : ∃ a b c d, vs = [.int i a, .int j b, .int k c, .int l d] := by
  obtain ⟨a, r1, e1, h1⟩ := isInts_cons h
  obtain ⟨b, r2, e2, h2⟩ := isInts_cons h1
  obtain ⟨c, r3, e3, h3⟩ := isInts_cons h2
  obtain ⟨d, r4, e4, h4⟩ := isInts_cons h3
  exact ⟨a, b, c, d, by rw [e1, e2, e3, e4, isInts_nil h4]⟩
def isRef1 : List Value → Bool
  | [.ref _] => true
  | _ => false
def isBR (b : Bool) : List Value → Bool
  | [.bool c, .ref _] => decide (b = c)
  | _ => false
theorem tab_ok {a : Addr} {b : Bool} (h0 : tupB K a isRef1 = true) (h1 : tupB K (tupRef K a 0) (isBR b) = true) (h2 : tupB K (tupRef K (tupRef K a 0) 1) (isInts [0, 0]) = true) :
    ∃ a1 a2 o0 n0 s0 o1 n1 s1 o2 n2 s2 t1 t2, K.lookup a = some ⟨.type "tuple", o0, .seq #[.ref a1] n0, s0⟩ ∧ K.lookup a1 = some ⟨.type "tuple", o1, .seq #[.bool b, .ref a2] n1, s1⟩ ∧ K.lookup a2 = some ⟨.type "tuple", o2, .seq #[.int 0 t1, .int 0 t2] n2, s2⟩ := by
  obtain ⟨o0, n0, s0, e0, p0⟩ := tupB_ok h0
  obtain ⟨o1, n1, s1, e1, p1⟩ := tupB_ok h1
  obtain ⟨o2, n2, s2, e2, p2⟩ := tupB_ok h2
  obtain ⟨x, hx⟩ : ∃ x, tupIt K a = [.ref x] := by
    revert p0; generalize tupIt K a = l
    intro p0
    match l, p0 with
    | [.ref x], _ => exact ⟨x, rfl⟩
  have r0 : tupRef K a 0 = x := by unfold tupRef; rw [hx]; rfl
  rw [r0] at e1 p1 e2 p2
  obtain ⟨y, hy⟩ : ∃ y, tupIt K x = [.bool b, .ref y] := by
    revert p1; generalize tupIt K x = l
    intro p1
    match l, p1 with
    | [.bool c, .ref y], p1 => exact ⟨y, by rw [of_decide_eq_true p1]⟩
  have r1 : tupRef K x 1 = y := by unfold tupRef; rw [hy]; rfl
  rw [r1] at e2 p2
  obtain ⟨t1, t2, hz⟩ := isInts2 p2
  rw [hx] at e0
  rw [hy] at e1
  rw [hz] at e2
  exact ⟨x, y, o0, n0, s0, o1, n1, s1, o2, n2, s2, t1, t2, e0, e1, e2⟩
def isBools (bs : List Bool) (vs : List Value) : Bool := decide (vs = bs.map Value.bool)
theorem rule_ok {a : Addr} {bs : List Bool} (h : tupB K a (isBools bs) = true) : ∃ o n s, K.lookup a = some ⟨.type "tuple", o, .seq (bs.map Value.bool).toArray n, s⟩ := by
  obtain ⟨o, n, s, e, p⟩ := tupB_ok h
  rw [of_decide_eq_true p] at e
  exact ⟨o, n, s, e⟩
theorem ints4_ok {a : Addr} {i j k l : Int} (h : tupB K a (isInts [i, j, k, l]) = true) : ∃ o n s t1 t2 t3 t4, K.lookup a = some ⟨.type "tuple", o, .seq #[.int i t1, .int j t2, .int k t3, .int l t4] n, s⟩ := by
  obtain ⟨o, n, s, e, p⟩ := tupB_ok h
  obtain ⟨t1, t2, t3, t4, hz⟩ := isInts4 p
  rw [hz] at e
  exact ⟨o, n, s, t1, t2, t3, t4, e⟩
/-- an error's class -/
def errB (K : PySem.W.Frag) (C U : Addr) : Bool := match K.lookup C with
  | some ⟨.type t, _, .cls cd, sl⟩ => decide (t = "type") && (decide (cd.mro = [.ref C, .ref U, .type "ValueError", .type "Exception", .type "BaseException", .type "object"]) && (cd.hasDict && (!cd.hasDel && (match sl.toList with
    | [_, _, _, _, some (.builtin n), _] => decide (n = "ValueError.__new__")
    | _ => false))))
  | _ => false
theorem errB_ok {C U : Addr} (h : errB K C U = true) : ∃ nm q N bs sn sub ab col dd m0 m1 m2 m3 m5, K.lookup C = some (excClassObj nm q C N bs [.ref U, .type "ValueError", .type "Exception", .type "BaseException", .type "object"] true sn sub ab col dd m0 m1 m2 m3 m5 "ValueError.__new__") := by
  unfold errB at h
  split at h
  · rename_i t dd cd sl e
    obtain ⟨hA, hB⟩ := He.ba h
    obtain ⟨hC, hD⟩ := He.ba hB
    obtain ⟨hE, hF⟩ := He.ba hD
    obtain ⟨hG, hI⟩ := He.ba hF
    clear h hB hD hF
    have hA := of_decide_eq_true hA
    have hC := of_decide_eq_true hC
    split at hI
    · rename_i k0 k1 k2 k3 n k5 es
      have hJ := of_decide_eq_true hI
      have esl : sl = #[k0, k1, k2, k3, some (.builtin n), k5] := by cases sl; exact congrArg Array.mk es
      obtain ⟨nm, bs, mro, N, q, hd, sn, sub, ab, col, del⟩ := cd
      have hH : (!del) = true := hG
      have hL : del = false := by cases del <;> first | rfl | cases hH
      clear hG hH
      have hE : hd = true := hE
      have hC : mro = _ := hC
      subst hA hJ hC hE hL esl
      exact ⟨nm, q, N, bs, sn, sub, ab, col, dd, k0, k1, k2, k3, k5, e⟩
    · cases hI
  · cases h
end
/-- a law over a head by facts; repr in it -/
theorem walk_ofGE {l : PySem.W.OpenLaw} {n k : Nat} {q : Program} {loose : List Str} {XP : (Str → Option Value) → Heap → Prop} {YP : World → Heap → Prop} {d : DefRec} {x : Str}
    (hn : l.most = some n) (hn2 : n ≤ sizeLine) (hdf : d.params.defaults = []) (hr : Room k callerA)
    (F : ∀ (w : World) (mg : Str → Option Value) (fa : Addr) (h : Heap), YP w h → h.Ns mainGlobals mg → mg d.name = some (.ref fa) →
      ∃ (K : PySem.W.Frag) (fd : FuncData) (sp : Sp), K.In h ∧ (∀ (s : Shared) (u : Value), BindsTo s fd ⟨[u], []⟩ [(x, u)]) ∧
        (∀ (H : Hp) (a : Addr) (ns : List Int), ns.length ≤ n → Only H → SqL K H a (ns.map V.int) → sp [.ref a] H (fun v _ => v = .bl true) E0) ∧
        ∀ base : Heap, K.In base → base.Ns mainGlobals mg → FnOkG l.prog w K mg base CX0 k fa fd [x] sp) :
    PySem.W.WalkO q loose XP YP l.row.toRowW d [] (fun f vs => PySem.call f vs) := by
  refine Att.attach_call hn hdf fun w s₀ s₁ mg mb fa o pm cd doc a vs ns G Y ho hd hcd hmg hobj hints hlen hg => ?_
  obtain ⟨K, fd, sp, KX, hb, hsp, hF⟩ := F w mg fa _ Y G.T.g hmg
  exact lawG KX G.T.g G.T.b G.T.builtins G.T.nolimit hg hobj hints (Nat.le_trans hlen hn2) hr hF hb fun H hO hS => hsp H a ns hlen hO hS
end Kb

/-! ### a method called, a builtin value + an own object, where the def may raise; a value or another by a test -/
namespace PySem.W
open PySem PySem.Calls PyProof.Rows
section
variable {prog : Program} {w : World} {M : Model} {A : Around} {E : Value → Shared → Prop} {s : Shared} {K : Frag} {y D L g : Addr} {h₀ : Heap} {m : Str → Option Value} {oy : Obj} {od : Option Obj} {nm T : String}
theorem binop_LT2 {op : Operator} {a : Value} {fo ro : Option Value} {Q : Value → Shared → Prop} (F : Fr h₀ L s.heap m) (X₀ : K.In h₀) (J : InstAt s.heap y oy D od) (L1 : Looks (model prog w) s.heap (typeOf a) (.type T)) (hd : selfFirst K D = true)
    (gs : findIn K (.ref D) (PySem.dunder op.info.2) = some none) (gr : findIn K (.ref D) (dunderR op.info.2) = some (some (.ref g))) (hg : isFn K (.ref g) = true)
    (h1 : findIn K (.type T) (PySem.dunder op.info.2) = some fo) (h2 : findIn K (.type T) (dunderR op.info.2) = some ro) (hl : ((fo.isSome && !isSeqSlot fo) || (ro.isSome && !isSeqSlot ro)) = false)
    (h : wpAny (model prog w) A (call (.ref g) [.ref y, a]) (CmpBack Q) E s) : wpAny (model prog w) A (binaryOp op a (.ref y)) Q E s := by
  have X := X₀.keeps F.keep
  obtain ⟨ce, rest', hce, hm'⟩ := ksp_first hd
  have one := ksp_try X J gr hg h
  have L3 : Looks (model prog w) s.heap (fillsNumberSlot (.type T) op.info.2) false := hl ▸ ksp_fillsT X h1 h2
  have L4 : Looks (model prog w) s.heap (fillsNumberSlot (.ref D) op.info.2) true := fills_R X hce hm' gs gr
  have hn : (Value.type T == Value.ref D) = false := Bool.eq_false_iff.mpr fun q => by cases beq_iff_eq.mp q
  unfold binaryOp
  refine wpAny_holding (wpAny_bind ?_)
  unfold binaryOp1
  refine wpAny_bind (L1.here (wpAny_bind (J.type.here (wpAny_bind (L3.here ?_)))))
  simp only [hn, Bool.false_eq_true, if_false]
  refine wpAny_bind (L4.here ?_)
  simp only [Bool.false_and, Bool.false_eq_true, if_false]
  refine wpAny_bind (wpAny_pure ?_)
  simp only [Bool.not_false, Bool.and_self, if_true, Bool.false_eq_true, if_false]
  refine wpAny_bind (m := tryMethod (.ref y) _ _) (wpAny_mono one (fun r s' hr => ?_) fun _ _ e => e)
  obtain ⟨v, rfl, hv⟩ := hr
  obtain ⟨hh, gg, d, tt, os⟩ := s'
  ksp_lk
  exact hv
end
end PySem.W
namespace Kb
open PySem PySem.Spec PyProof.Rows L2 ClX
/-- what the class at D must have for a builtin value + its instance -/
structure RaC (K : PySem.W.Frag) (D : Addr) : Prop where
  sf : PySem.W.selfFirst K D = true
  no : PySem.W.findIn K (.ref D) "__add__" = some none
  s1 : PySem.W.findIn K (.type "str") "__add__" = some (some (.builtin "str.__add__"))
  s2 : PySem.W.findIn K (.type "str") "__radd__" = some none
  l1 : PySem.W.findIn K (.type "list") "__add__" = some (some (.builtin "list.__add__"))
  l2 : PySem.W.findIn K (.type "list") "__radd__" = some none
  t1 : PySem.W.findIn K (.type "tuple") "__add__" = some (some (.builtin "tuple.__add__"))
  t2 : PySem.W.findIn K (.type "tuple") "__radd__" = some none
  n1 : PySem.W.findIn K (.type "NoneType") "__add__" = some none
  n2 : PySem.W.findIn K (.type "NoneType") "__radd__" = some none
  si : PySem.W.subIn K (.ref D) (.type "int") = some false
/-- a value that may stand on the left -/
inductive Lf (H : Hp) : V → Prop
  | non : Lf H .non
  | int (i : Int) : Lf H (.int i)
  | str (z : Str) : Lf H (.str z)
  | tup {p : Addr} {xs : List V} (h : H p = some (.tup xs)) : Lf H (.ref p)
  | lst {p : Addr} {xs : List V} (h : H p = some (.lst xs)) : Lf H (.ref p)
section
variable {X : Cx} {CX : CXT} {k : Nat} {C : Addr} {m : Str} {ps : List Str} {sp : Sp} {E : L2.St → XK} {W : WX} {a b o e : Expr} {es : List Expr} {ta tb te : TE} {t : TA} {pos apos : Pos}
def tRadd (C : Addr) (sp : Sp) (E : L2.St → XK) (ta tb : TE) : TE := fun σ H Q => ta σ H fun x H1 => tb σ H1 fun y H2 => ∃ (p dx : Addr) (fs : List (Str × V)), y = .ref p ∧ H2 p = some (.ins C dx fs) ∧ Lf H2 x ∧ sp [.ref p, x] H2 Q (E σ)
theorem pe_raddX (F : MtC X.prog X.w X.K X.mg X.base CX k C "__radd__" ps sp) (R : RaC X.K C) (hr : Room k X.A) (hx : ∀ σ, PassesAt CX X σ (E σ)) (ha : PE X a ta) (hb : PE X b tb) : PE X (.BinOp a .Add b pos) (tRadd C sp E ta tb) := by
  refine ⟨fun pins s σ H Q I h => ?_⟩
  refine wpAny_BinOp (binT ha hb I h fun v u s2 x y H2 I2 rx ry q => ?_)
  obtain ⟨p, dx, fs, rfl, hp, lf, q⟩ := q
  cases (show u = Value.ref p from ry)
  obtain ⟨f, fd, hf, M, hbd⟩ := F.ex
  obtain ⟨mA, O, _⟩ := ins_get I2.hok hp
  obtain ⟨od, J, _⟩ := O.look
  obtain ⟨mm, hF⟩ := I2.fr
  have go : wpAny (model X.prog X.w) X.A (call (.ref f) [.ref p, v]) (PySem.W.CmpBack (EP X pins σ Q)) X.xe s2 := by
    refine wpAny_mono (run_fnSD (us := [.ref p, v]) (vs := [.ref p, x]) (dvs := []) (ds := []) hf hr hbd .nil (hx σ) I2 (.cons rfl (.cons rx .nil)) q) (fun w s' z => ?_) fun _ _ z => z
    obtain ⟨z', H', I', rz, qz⟩ := z
    exact SlX.cmpback rz ⟨z', H', I', rz, qz⟩
  have ty : ∀ {T : String}, TyX X.K H2 x (.type T) → ∀ {fo ro : Option Value}, PySem.W.findIn X.K (.type T) "__add__" = some fo → PySem.W.findIn X.K (.type T) "__radd__" = some ro → ((fo.isSome && !PySem.isSeqSlot fo) || (ro.isSome && !PySem.isSeqSlot ro)) = false → wpAny (model X.prog X.w) X.A (binaryOp .Add v (.ref p)) (EP X pins σ Q) X.xe s2 := fun {T} ht {fo ro} h1 h2 hl => by
    obtain ⟨P, Z, hP, _⟩ := kit_of I2 rx ht
    exact PySem.W.binop_LT2 (op := .Add) (T := T) hF I2.ok.mod.kin J (Z.ty _ _ I2.kIn hP) R.sf R.no M.at_ M.fn h1 h2 hl go
  cases lf with
  | non => exact ty (.base .non) R.n1 R.n2 rfl
  | str z => exact ty (.base (.str z)) R.s1 R.s2 (by decide +kernel)
  | tup h => exact ty (.base (.tup h)) R.t1 R.t2 (by decide +kernel)
  | lst h => exact ty (.base (.lst h)) R.l1 R.l2 (by decide +kernel)
  | int i =>
    obtain ⟨t, rfl⟩ := (show ∃ t, v = Value.int i t from rx)
    exact PySem.W.binop_LN (op := .Add) (T := "int") hF I2.ok.mod.kin J rfl R.sf R.si R.no M.at_ M.fn rfl (PySem.W.try_int_add J.1) go
theorem pe_raddS (F : MtC X.prog X.w X.K X.mg X.base (L2.CX X.prog X.w) k C "__radd__" ps sp) (R : RaC X.K C) (hr : Room k X.A) (tk : Takes X W) (ha : PE X a ta) (hb : PE X b tb) : PE X (.BinOp a .Add b pos) (tRadd C sp (WE W) ta tb) := pe_raddX F R hr (passAt tk) ha hb
theorem pe_raddC (F : MtC X.prog X.w X.K X.mg X.base CX0 k C "__radd__" ps sp) (R : RaC X.K C) (hr : Room k X.A) (ha : PE X a ta) (hb : PE X b tb) : PE X (.BinOp a .Add b pos) (tRadd C sp (fun _ => E0) ta tb) := pe_raddX F R hr (fun _ _ _ _ _ _ _ z => (show False from z).elim) ha hb
/-- x.m(..) -/
def tMethX (C : Addr) (m : Str) (sp : Sp) (E : L2.St → XK) (te : TE) (t : TA) : TE := fun σ H Q => te σ H fun x H1 => ∃ (p dx : Addr) (fs : List (Str × V)), x = .ref p ∧ H1 p = some (.ins C dx fs) ∧ fs.lookup m = none ∧ t σ H1 fun vs H2 => sp (.ref p :: vs) H2 Q (E σ)
theorem pe_methX {pl : Sem Bool} (F : MtC X.prog X.w X.K X.mg X.base CX k C m ps sp) (c : Cls X.K C) (hr : Room k X.A) (hx : ∀ σ, PassesAt CX X σ (E σ)) (he : PE X o te) (ha : PA X (e :: es) t)
    (hst : starEach (e :: es) X.env = (false, eval e X.env) :: starEach es X.env := by rfl) (hpl : (backTo pos (starEach es X.env)).any (·.1) = false := by rfl)
    (ht : eval (.Call (.Attribute o m apos) (e :: es) [] pos) X.env = (do
      let ov ← eval o X.env
      standAt apos.atName
      let (f, first) ← holding [ov] (getMethod ov m pl)
      callWith pos f first (backTo pos (starEach (e :: es) X.env)) (backToKw pos (keywordEach [] X.env))) := by rfl) :
    PE X (.Call (.Attribute o m apos) (e :: es) [] pos) (tMethX C m sp E te t) := by
  obtain ⟨f, fd, hf, M, hb⟩ := F.ex
  refine ⟨fun pins s σ H Q I h => ?_⟩
  refine PySem.W.methodCall_KW (pl := pl) (thn (he.run pins s σ H _ I h) fun u s1 ⟨x, H1, I1, rx, p, dx, fs, ex, ea, l, q⟩ => ?_) ht
  subst ex
  obtain rfl : u = Value.ref p := rx
  refine getmeth_ok I1 ea c M l ?_
  refine PySem.W.callWith_K (first := [.ref p]) (h₀ := X.base) I.ok.mod.kin M.kp (thn (ha.run pos pins s1 σ H1 _ I1 q) fun us s2 ⟨vs, H2, I2, r, q2⟩ => ⟨I2.kIn, ?_⟩) hst hpl
  exact run_fnSD (us := .ref p :: us) (vs := .ref p :: vs) (dvs := []) (ds := []) hf hr hb .nil (hx σ) I2 (.cons rfl r) (by rw [List.append_nil]; exact q2)
theorem pe_methSC {pl : Sem Bool} (F : MtC X.prog X.w X.K X.mg X.base (L2.CX X.prog X.w) k C m ps sp) (c : Cls X.K C) (hr : Room k X.A) (tk : Takes X W) (he : PE X o te) (ha : PA X (e :: es) t)
    (hst : starEach (e :: es) X.env = (false, eval e X.env) :: starEach es X.env := by rfl) (hpl : (backTo pos (starEach es X.env)).any (·.1) = false := by rfl)
    (ht : eval (.Call (.Attribute o m apos) (e :: es) [] pos) X.env = (do
      let ov ← eval o X.env
      standAt apos.atName
      let (f, first) ← holding [ov] (getMethod ov m pl)
      callWith pos f first (backTo pos (starEach (e :: es) X.env)) (backToKw pos (keywordEach [] X.env))) := by rfl) :
    PE X (.Call (.Attribute o m apos) (e :: es) [] pos) (tMethX C m sp (WE W) te t) := pe_methX F c hr (passAt tk) he ha hst hpl ht
end
end Kb

/-! ### x[i] by the class's own `__getitem__` -/
namespace Kb
open PySem PySem.Spec PyProof.Rows L2 ClX
structure IxC (K : PySem.W.Frag) (C : Addr) : Prop where
  ex : ∃ f : Addr, PySem.W.findIn K (.ref C) "__getitem__" = some (some (.ref f)) ∧ PySem.W.fnIn K f = true
theorem ix_c {K : PySem.W.Frag} {C f : Addr} {cl : Value} {di : Option Addr} {fd : FuncData} {sl : Array (Option Value)} (h : PySem.W.findIn K (.ref C) "__getitem__" = some (some (.ref f))) (l : K.lookup f = some ⟨cl, di, .func fd, sl⟩) : IxC K C :=
  ⟨f, h, by unfold PySem.W.fnIn; rw [l]⟩
section
variable {X : Cx} {k : Nat} {C : Addr} {ps : List Str} {sp : Sp} {a b : Expr} {ta tb : TE} {pos : Pos}
def rOwnIx (C : Addr) (sp : Sp) : R2 := fun x y H Q => ∃ (p dx : Addr) (fs : List (Str × V)), x = .ref p ∧ H p = some (.ins C dx fs) ∧ sp [.ref p, y] H Q E0
theorem pe_ixO (F : MtC X.prog X.w X.K X.mg X.base CX0 k C "__getitem__" ps sp) (G : IxC X.K C) (hr : Room (k + 1) X.A) (ha : PE X a ta) (hb : PE X b tb)
    (hs : ∀ o i, subscripted b true o i = runValue (.builtin "lifetime.subscript" ⟨[o, i], []⟩) := by intro _ _; rfl) : PE X (.Subscript a b pos) (tOp (rOwnIx C sp) ta tb) := by
  refine ⟨fun pins s σ H Q I h => ?_⟩
  refine Subscript_ (binT ha hb I h fun v u s2 x y H2 I2 rx ry q => ?_)
  obtain ⟨p, dx, fs, rfl, hp, q⟩ := q
  cases (show v = Value.ref p from rx)
  obtain ⟨f, fd, hf, M, hbd⟩ := F.ex
  obtain ⟨g, hg1, hg2⟩ := G.ex
  obtain ⟨mA, O, _⟩ := ins_get I2.hok hp
  obtain ⟨od, J, _⟩ := O.look
  obtain ⟨m, hF⟩ := I2.fr
  have e : g = f := by rw [M.at_] at hg1; cases hg1; rfl
  subst e
  refine PySem.W.sub_K hF I2.ok.mod.kin J M.at_ hg2 M.fn ?_ (hs _ _)
  have q' : sp ([V.ref p, y] ++ []) H2 Q E0 := q
  have r2 : Vals ([V.ref p, y] ++ []) ([Value.ref p, u] ++ []) := .cons rfl (.cons ry .nil)
  have hl : ([Value.ref p, u] ++ []).length = ps.length := by rw [← r2.length]; exact hf.len _ _ _ _ q'
  have hr2 : Room k X.A.in1 := Room.in1 (k := k) hr
  have e3 := I2.env0.in1
  have b2 : BindsTo s2 fd ⟨[Value.ref p, u], []⟩ (ps.zip ([Value.ref p, u] ++ [])) := hbd s2 _ I2.kIn hl
  have key := hf.run _ _ s2 H2 _ _ _ _ E0 hr2 e3 b2 r2 q'
  refine wpAny_call (codeAny_mono key fun r s' hq => ?_)
  cases r with
  | error e => exact (show False from hq).elim
  | ok fl =>
    cases fl with
    | ret w =>
      obtain ⟨z, H', I', rz, qz⟩ := I2.after hq
      exact ⟨z, H', I', rz, qz⟩
    | next => exact False.elim hq
    | brk => exact False.elim hq
    | cont => exact False.elim hq
end
end Kb

/-! ### an own error with one field; isinstance of a caught error that has fields; x[i] by an own `__getitem__` that may raise -/
namespace Kb
open PySem PySem.Spec PyProof.Rows L2 ClX
def sp_err1 (C : Addr) (fl : Str) : Sp := fun vs H Q _ => ∃ (a : Addr) (v : V), vs = [.ref a, v] ∧ H a = some (exo a C none) ∧ ∀ dx, H dx = none → dx ≠ a → Q .non (upd (upd H dx (exd dx [(fl, v)])) a (exo a C (some dx)))
/-- an own error with one field, made by its name -/
structure Er1 (P : Program) (w : World) (K : PySem.W.Frag) (mg : Str → Option Value) (base : Heap) (x : Str) (C : Addr) (par fl : Str) : Prop where
  ex : ∃ (f : Addr) (fd : FuncData), FnOk P w K mg base CX0 2 f fd ["self", par] (sp_err1 C fl) ∧ OexC K C ∧ PySem.W.findIn K (.ref C) "__init__" = some (some (.ref f)) ∧ PySem.W.typeIn K (.ref f) = some (.type "function") ∧ mg x = some (.ref C) ∧ Binds K fd ["self", par] []
theorem Er1.nm {P : Program} {w : World} {K : PySem.W.Frag} {mg : Str → Option Value} {base : Heap} {x : Str} {C : Addr} {par fl : Str} (F : Er1 P w K mg base x C par fl) : mg x = some (.ref C) := let ⟨_, _, _, _, _, _, h, _⟩ := F.ex; h
theorem pmk_err1 {X : Cx} {C : Addr} {x par fl : Str} {e : Expr} {ta : TA} {p pos : Pos} (F : Er1 X.prog X.w X.K X.mg X.base x C par fl) (hr : Room 3 X.A) (hg : Gl X x) (ha : PA X [e] ta) (hdb : (x == ("__debug__" : Str)) = false := by decide)
    (he : starEach [e] X.env = (false, eval e X.env) :: starEach [] X.env := by rfl) (hpl : (backTo pos (starEach [] X.env)).any (·.1) = false := by rfl) : PMk X (.Call (.Name x p) [e] [] pos) (tMkO C (sp_err1 C fl) [] ta) := by
  obtain ⟨f, fd, F1, T, iC, tI, hm, hb⟩ := F.ex
  exact pmk_oex (ds := []) (dvs := []) T iC tI F1 hr hb .nil (fun _ _ _ _ _ _ _ z => (show False from z).elim) hg hm ha hdb he hpl
theorem ps_raise1 {X : Cx} {W : WX} {C : Addr} {x par fl : Str} {e : Expr} {ta : TA} {p pos pos' : Pos} (F : Er1 X.prog X.w X.K X.mg X.base x C par fl) (hr : Room 3 X.A) (hc : X.calm = true) (tk : Takes X W) (hg : Gl X x) (ha : PA X [e] ta) (hdb : (x == ("__debug__" : Str)) = false := by decide)
    (he : starEach [e] X.env = (false, eval e X.env) :: starEach [] X.env := by rfl) (hpl : (backTo pos (starEach [] X.env)).any (·.1) = false := by rfl) :
    PS X (.Raise (some (.Call (.Name x p) [e] [] pos)) none pos') (fun _ σ H => tMkO C (sp_err1 C fl) [] ta σ H fun c d H' => W c d σ H') := ps_raise hc tk (pmk_err1 F hr hg ha hdb he hpl)
theorem mk_err1H {C : Addr} {fl : Str} {v : V} {H : Hp} {Q : XK} (k : ∀ dd, H dd = none → Q (.ref C) (some dd) (upd H dd (.xd [(fl, v)]))) :
    [v].length ≤ 1000 ∧ ∀ a, H a = none → sp_err1 C fl (.ref a :: ([v] ++ [])) (upd H a (exo a C none))
      (fun u H2 => u = .non ∧ ∃ (d : Addr) (fs : List (Str × V)), H2 a = some (exo a C (some d)) ∧ H2 d = some (exd d fs) ∧ H d = none ∧ Q (.ref C) (some d) (upd (del H2 a) d (.xd fs))) (fun _ _ _ => False) := by
  refine ⟨by show 1 ≤ 1000; decide, fun a hn => ⟨a, v, rfl, upd_same, fun dx hx ne => ⟨rfl, dx, [(fl, v)], upd_same, ?_, ?_, ?_⟩⟩⟩
  · rw [upd_ne ne, upd_same]
  · rw [upd_ne ne] at hx; exact hx
  · have hx' : H dx = none := by rw [upd_ne ne] at hx; exact hx
    have e : upd (del (upd (upd (upd H a (exo a C none)) dx (exd dx [(fl, v)])) a (exo a C (some dx))) a) dx (.xd [(fl, v)]) = upd H dx (.xd [(fl, v)]) := by
      funext b
      by_cases c : b = dx
      · rw [c, upd_same, upd_same]
      · rw [upd_ne c, upd_ne c]
        by_cases c2 : b = a
        · rw [c2, del_same, hn]
        · rw [del_ne c2, upd_ne c2, upd_ne c, upd_ne c2]
    rw [e]
    exact k dx hx'
/-- isinstance(e, c), e the caught error, with its dict -/
def rIsX (K : PySem.W.Frag) (cls : Value) (d : Option Addr) (a : Addr) : List V → Hp → VK → Prop := fun xs H Q => ∃ (D : Addr) (c : V) (cv : Value) (b : Bool) (dd : Addr) (fs : List (Str × V)), cls = .ref D ∧ d = some dd ∧ H dd = some (.xd fs) ∧ ExcC K D ∧ xs = [.ref a, c] ∧ (∀ u, RelV c u → u = cv) ∧ PySem.W.kitOne K (.ref D) cv = some b ∧ Q (.bl b) H
theorem call_isX {X : Cx} {a : Addr} {cls : Value} {d : Option Addr} {oe : Obj} {pn : List (Addr × Obj)} (hz : Zc cls d oe) (hf : ∃ vs, oe.data = .fields vs) : CallR (X.suite a ((a, oe) :: pn)) (.builtin "isinstance") (rIsX X.K cls d a) := by
  intro pins s σ H xs us Q I r h
  obtain ⟨D, c, cv, b, dd, fs, rfl, rfl, hx, C, rfl, hcv, e, q⟩ := h
  obtain ⟨u1, u2, rfl, r1, r2⟩ := vals2 r
  cases (show u1 = Value.ref a from r1)
  have ec := hcv _ r2
  subst ec
  have hget := (I.pin (a, oe) (List.mem_append.mpr (.inl List.mem_cons_self))).1
  have ho : ObjOk X.prog X.w H s.heap dd (.xd fs) := I.hok dd _ hx
  obtain ⟨mA, hns, _⟩ := ho
  obtain ⟨od, hod, _⟩ := lookIn_ns hns
  obtain ⟨vs, hv⟩ := hf
  have J : PySem.W.InstAt s.heap a oe D (some od) := ⟨hget, hz.1, (by unfold PySem.W.notCls; rw [hv] <;> rfl), (by rw [hz.2]; exact hod)⟩
  obtain ⟨cd, hcd, _⟩ := PySem.W.any_some C.hd
  exact PySem.W.kia_one (PySem.W.kitx_exc (by rw [hcd]; rfl) C.hg C.hk C.hs C.ha C.hn C.ht C.hm) I.kIn J e (fun z => nomatch z) fun tk => ⟨.bl b, H, I.kept (t' := tk) fun _ _ z => z, rfl, q⟩
section
variable {X : Cx} {CX : CXT} {k : Nat} {C : Addr} {ps : List Str} {sp : Sp} {E : L2.St → XK} {W : WX} {a b : Expr} {ta tb : TE} {pos : Pos}
def tOwnIx (C : Addr) (sp : Sp) (E : L2.St → XK) (ta tb : TE) : TE := fun σ H Q => ta σ H fun x H1 => tb σ H1 fun y H2 => ∃ (p dx : Addr) (fs : List (Str × V)), x = .ref p ∧ H2 p = some (.ins C dx fs) ∧ sp [.ref p, y] H2 Q (E σ)
theorem pe_ownIxX (F : MtC X.prog X.w X.K X.mg X.base CX k C "__getitem__" ps sp) (G : IxC X.K C) (hr : Room (k + 1) X.A) (hx : ∀ σ, PassesAt CX X σ (E σ)) (ha : PE X a ta) (hb : PE X b tb)
    (hs : ∀ o i, subscripted b true o i = runValue (.builtin "lifetime.subscript" ⟨[o, i], []⟩) := by intro _ _; rfl) : PE X (.Subscript a b pos) (tOwnIx C sp E ta tb) := by
  refine ⟨fun pins s σ H Q I h => ?_⟩
  refine Subscript_ (binT ha hb I h fun v u s2 x y H2 I2 rx ry q => ?_)
  obtain ⟨p, dx, fs, rfl, hp, q⟩ := q
  cases (show v = Value.ref p from rx)
  obtain ⟨f, fd, hf, M, hbd⟩ := F.ex
  obtain ⟨g, hg1, hg2⟩ := G.ex
  obtain ⟨mA, O, _⟩ := ins_get I2.hok hp
  obtain ⟨od, J, _⟩ := O.look
  obtain ⟨m, hF⟩ := I2.fr
  have e : g = f := by rw [M.at_] at hg1; cases hg1; rfl
  subst e
  refine PySem.W.sub_K hF I2.ok.mod.kin J M.at_ hg2 M.fn ?_ (hs _ _)
  have q' : sp ([V.ref p, y] ++ []) H2 Q (E σ) := q
  have r2 : Vals ([V.ref p, y] ++ []) ([Value.ref p, u] ++ []) := .cons rfl (.cons ry .nil)
  have hl : ([Value.ref p, u] ++ []).length = ps.length := by rw [← r2.length]; exact hf.len _ _ _ _ q'
  have hr2 : Room k X.A.in1 := Room.in1 (k := k) hr
  have e3 := I2.env0.in1
  have b2 : BindsTo s2 fd ⟨[Value.ref p, u], []⟩ (ps.zip ([Value.ref p, u] ++ [])) := hbd s2 _ I2.kIn hl
  have key := hf.run _ _ s2 H2 _ _ _ _ (E σ) hr2 e3 b2 r2 q'
  refine wpAny_call (codeAny_mono key fun r s' hq => ?_)
  cases r with
  | error e => exact hx σ pins H2 s2 e s' I2 hq
  | ok fl =>
    cases fl with
    | ret w =>
      obtain ⟨z, H', I', rz, qz⟩ := I2.after hq
      exact ⟨z, H', I', rz, qz⟩
    | next => exact False.elim hq
    | brk => exact False.elim hq
    | cont => exact False.elim hq
theorem pe_ownIxS (F : MtC X.prog X.w X.K X.mg X.base (L2.CX X.prog X.w) k C "__getitem__" ps sp) (G : IxC X.K C) (hr : Room (k + 1) X.A) (tk : Takes X W) (ha : PE X a ta) (hb : PE X b tb)
    (hs : ∀ o i, subscripted b true o i = runValue (.builtin "lifetime.subscript" ⟨[o, i], []⟩) := by intro _ _; rfl) : PE X (.Subscript a b pos) (tOwnIx C sp (WE W) ta tb) := pe_ownIxX F G hr (passAt tk) ha hb hs
end
end Kb

/-! ### data that are alike, by their order -/
namespace Kb
open PySem PySem.Spec PyProof.Rows L2 ClX
section
variable {X : Cx} {K : PySem.W.Frag}
def rGeD (K : PySem.W.Frag) : R2 := fun x y H Q => ∃ d e, Dp K H x d ∧ Dp K H y e ∧ PySem.W.alike d e = true ∧ d ≠ .none ∧ d.depth < 64 ∧ Q (.bl (!PySem.W.dataLt d e)) H
theorem op_geD (hu : X.A.units + 64 < cLine) : OpR X (compareOp .GtE) (rGeD X.K) := by
  intro pins s σ H x y v u Q I rx ry h
  obtain ⟨d, e, hd, he, al, nn, dp, q⟩ := h
  obtain ⟨as, r1⟩ := Dp.reads I d x v hd rx
  obtain ⟨bs, r2⟩ := Dp.reads I e y u he ry
  exact PySem.W.ge_data r1 r2 al nn (by omega) ⟨.bl _, H, I, rfl, q⟩
theorem op_geDK (h : X.K = K) (hu : X.A.units + 64 < cLine) : OpR X (compareOp .GtE) (rGeD K) := h ▸ op_geD hu
end
end Kb

/-! ### sorted(texts, key=str) -/
namespace Kb
open PySem PySem.Spec PyProof.Rows L2 ClX
def sLe (a b : Str) : Bool := !decide (b.cps.toList < a.cps.toList)
section
variable {X : Cx}
def rSortedStr (K : PySem.W.Frag) : List V → List V → Hp → VK → Prop := fun vs zs H Q => ∃ (a : Addr) (ss : List Str), vs = [.ref a] ∧ zs = [.ty "str"] ∧ SqL K H a (ss.map V.str) ∧ ∀ (ys : List Str) (p : Addr), ys.Perm ss → ys.Pairwise (fun x y => sLe x y = true) → H p = none → Q (.ref p) (upd H p (.lst (ys.map V.str)))
theorem each_str : ∀ {us : List Value} {ss : List Str}, Vals (ss.map V.str) us → PySem.W.EachIs (fun v x => ∃ t, v = Value.str x t) us ss := by
  intro us ss
  induction ss generalizing us with
  | nil => intro r; cases r; exact .nil
  | cons a ss ih => intro r; cases r with
    | cons r1 r2 => exact .cons r1 (ih r2)
theorem str_each : ∀ {us : List Value} {ss : List Str}, PySem.W.EachIs (fun v x => ∃ t, v = Value.str x t) us ss → Vals (ss.map V.str) us := by
  intro us ss h
  induction h with
  | nil => exact .nil
  | cons h1 _ ih => exact .cons h1 ih
theorem le_str (a b : Str) : PySem.W.dataLe false (fun x => PyData.str x) a b = sLe a b := by
  show (!lexLt itemOrd [.inr b.cps.toList] [.inr a.cps.toList]) = _
  unfold sLe
  congr 1
  rw [Bool.eq_iff_iff, lex_true]
  show decide (b.cps.toList < a.cps.toList) = true ∨ _ ↔ _
  constructor
  · rintro (h | ⟨_, h⟩)
    · exact h
    · cases h
  · intro h
    exact .inl h
theorem cr_sortedKeyStr (hu : X.A.units + 64 < cLine) : CallRK X (.builtin "sorted") [Str.ofString "key"] (rSortedStr X.K) := by
  intro pins s σ H vs zs us ws Q I r rz h
  obtain ⟨a, ss, rfl, rfl, hs, q⟩ := h
  obtain rfl := Vals.ref1 r
  obtain ⟨w1, rfl, e1⟩ := vals1 rz
  obtain rfl : w1 = Value.type "str" := e1
  obtain ⟨its, rv, hl, hz⟩ := I.list hs
  rw [List.length_map] at hz
  refine PySem.W.sorted_key_data (b := false) (f := .type "str") (R := fun v x => ∃ t, v = Value.str x t) (bs := ss) (fun x => PyData.str x) hl.isList (each_str rv) ?hal (.inr ?hk) hz ?hu (ksk_s1 _ _) (fun _ => ksk_l1 _ _) (fun _ => rfl) ?turn ?fin
  case hal =>
    intro d hd d' hd'
    obtain ⟨x, _, rfl⟩ := List.mem_map.mp hd
    obtain ⟨y, _, rfl⟩ := List.mem_map.mp hd'
    rfl
  case hk =>
    intro d hd
    obtain ⟨x, _, rfl⟩ := List.mem_map.mp hd
    exact ⟨fun z => (nomatch z), fun _ z => (nomatch z)⟩
  case hu =>
    intro x _
    show X.A.units + 2 + 0 < cLine
    omega
  case turn =>
    rintro v x ⟨t, rfl⟩ hx h tk k
    exact PySem.P.str_of_str ⟨h, tk, rfl, fun _ _ q => q, .str x t⟩
  case fin =>
    intro out c h' tk keep fresh hp len each
    have hv := str_each each
    have pm : (ss.mergeSort (PySem.W.dataLe false fun x => PyData.str x)).Perm ss := List.mergeSort_perm _ _
    have tot := PySem.W.sortLe_total (listOrd itemOrd) false fun b : Str => PySem.W.keyToks (PyData.str b)
    have pw : (ss.mergeSort (PySem.W.dataLe false fun x => PyData.str x)).Pairwise (fun x y => sLe x y = true) := (List.pairwise_mergeSort (fun a b c h1 h2 => tot.trans a b c h1 h2) (fun a b => by rw [Bool.or_eq_true]; exact tot.total a b) ss).imp fun {x y} h => by rw [← le_str]; exact h
    refine ⟨.ref _, upd H (s.heap.objs.size + 1) (.lst ((ss.mergeSort (PySem.W.dataLe false fun x => PyData.str x)).map V.str)), I.laid (t' := tk) keep (Nat.le_succ _) ⟨by rw [List.length_map, pm.length_eq]; exact hz, out, c, hv, hp⟩, rfl, q _ _ pm pw (I.hok.fresh (Nat.le_succ _))⟩
end
end Kb

/-! ### != of lists and tuples whose items are equal by an own == -/
namespace Kb.NG
open PySem PySem.SeqAt PySem.Spec PyProof.Rows
open AutoSeq1 (wpAny_loadPart')
open MeetsSeq MeetsSeq2 MeetsSeq3 SeqRoads2
section
variable {prog : Program} {w : World} {A : Around} {R : Result → Shared → Prop}
theorem run_list (l b : Addr) (N : Nat) (I : Nat → Shared → Prop) (hl : GQ.ListI prog w A (fun e s' => R (.error e) s') l b N I) (fin : ∀ s, I N s → R (.ok (.ret (.bool false))) s) (k : Nat) :
    ∀ i : Nat, N - i = k → i ≤ N → ∀ s, I i s → wpAny (model prog w) A.in1 (Builtin.«list.__eq__.loop» ⟨[.ref l, .ref b, rawInt i, rawInt 3], []⟩) (GQ.FinOf prog w A R) (fun e s' => R (.error e) s') s := by
  induction k with
  | zero =>
    intro i hk hi s inv
    obtain ⟨xs, ys, m1, m2, gx, gy, zx, zy, _⟩ := hl _ _ inv
    have eN : i = N := by omega
    have done : R (.ok (.ret (.bool false))) s := fin s (eN ▸ inv)
    obtain ⟨hp, gn, dr, tk, os⟩ := s
    wp_walk using wpAny_loadPart' gx, wpAny_loadPart' gy
    have nx : xs[((i : Nat) : Int).toNat]? = none := by simp; omega
    have ny : ys[((i : Nat) : Int).toNat]? = none := by simp; omega
    rw [nx, ny]
    wp_walk using wpAny_loadPart' gx, wpAny_loadPart' gy
    show R (.ok (.ret (.bool (xs.size != ys.size)))) _
    rw [zx, zy]
    simpa using done
  | succ k ih =>
    intro i hk hi s inv
    obtain ⟨xs, ys, m1, m2, gx, gy, zx, zy, turn⟩ := hl _ _ inv
    have lx : i < xs.size := by omega
    have ly : i < ys.size := by omega
    have tn := turn lx ly
    obtain ⟨hp, gn, dr, tk, os⟩ := s
    wp_walk using wpAny_loadPart' gx, wpAny_loadPart' gy
    have ex : xs[((i : Nat) : Int).toNat]? = some xs[i] := by simp [lx]
    have ey : ys[((i : Nat) : Int).toNat]? = some ys[i] := by simp [ly]
    have ei : ((i : Int) + 1) = ((i + 1 : Nat) : Int) := by omega
    rw [ex, ey]
    refine wpAny_bind (wpAny_mono tn (fun r t ht => ?_) fun _ _ x => x)
    obtain ⟨er, inv2⟩ := ht
    subst er
    have more := ih (i + 1) (by omega) (by omega) t inv2
    obtain ⟨hp2, g2, d2, tk2, os2⟩ := t
    wp_walk
    rw [ei]
    exact ⟨plainId_quiet plain_eq_loop _, codeAny_builtin entry_eq_loop (by rw [Around.under_plainId plain_eq_loop _]; exact more)⟩
theorem ne_list (l b : Addr) (N : Nat) (I : Nat → Shared → Prop) (hl : GQ.ListI prog w A (fun e s' => R (.error e) s') l b N I) (fin : ∀ s, I N s → R (.ok (.ret (.bool false))) s) {s : Shared} (inv : I 0 s) :
    wpAny (model prog w) A.in1 (Builtin.«list.__ne__» ⟨[.ref l, .ref b], []⟩) (GQ.FinOf prog w A R) (fun e s' => R (.error e) s') s := by
  obtain ⟨xs, ys, m1, m2, gx, gy, zx, zy, _⟩ := hl _ _ inv
  have more := run_list (A := A) (R := R) l b N I hl fin _ 0 rfl (Nat.zero_le _) s inv
  obtain ⟨hp, gn, dr, tk, os⟩ := s
  have kd := AutoSeq1.sub_list_list
  have alike : ¬ (xs.size != ys.size) = true := by simp [zx, zy]
  wp_walk using wpAny_loadPart' gx, wpAny_loadPart' gy
  exact ⟨plainId_quiet plain_eq_loop _, codeAny_builtin entry_eq_loop (by rw [Around.under_plainId plain_eq_loop _]; exact more)⟩
theorem ne_tuple (l b : Addr) (xs ys : Array Value) (m1 m2 : Nat) (dx dy : Option Addr) (sx sy : Array (Option Value)) (hz : xs.size = ys.size) (I : Nat → Shared → Prop)
    (turn : ∀ i (h1 : i < xs.size) (h2 : i < ys.size) s, I i s → wpAny (model prog w) A.in1 (eqBool xs[i] ys[i]) (fun r s' => r = true ∧ I (i + 1) s') (fun e s' => R (.error e) s') s) (fin : ∀ s, I xs.size s → R (.ok (.ret (.bool false))) s) {s : Shared}
    (gx : s.heap.get? l = some { cls := .type "tuple", dict := dx, data := .seq xs m1, slots := sx }) (gy : s.heap.get? b = some { cls := .type "tuple", dict := dy, data := .seq ys m2, slots := sy }) (inv : I 0 s) :
    wpAny (model prog w) A.in1 (Builtin.«tuple.__ne__» ⟨[.ref l, .ref b], []⟩) (GQ.FinOf prog w A R) (fun e s' => R (.error e) s') s := by
  have kd := AutoSeq1.sub_tuple_tuple
  have zz : (xs.toList.zip ys.toList).length = xs.size := by simp [hz]
  have inv0 := inv
  obtain ⟨hp, gn, dr, tk, os⟩ := s
  wp_walk using wpAny_loadPart' gx, wpAny_loadPart' gy, wpAny_forIn_list _ (fun todo z t => z.1 = none ∧ ∃ i, todo = (xs.toList.zip ys.toList).drop i ∧ i ≤ xs.size ∧ I i t) _
  case turn =>
    rintro ⟨y, x⟩ todo z t ⟨ez, i, et, hi, iv⟩
    have lz : i < (xs.toList.zip ys.toList).length := by
      rcases Nat.lt_or_ge i (xs.toList.zip ys.toList).length with q | q
      · exact q
      · rw [List.drop_of_length_le q] at et; cases et
    have l1 : i < xs.size := zz ▸ lz
    have l2 : i < ys.size := hz ▸ l1
    rw [List.drop_eq_getElem_cons lz] at et
    injection et with exy er
    have ey : y = xs[i] := by have := congrArg Prod.fst exy; simpa using this
    have ex : x = ys[i] := by have := congrArg Prod.snd exy; simpa using this
    subst ey ex
    refine wpAny_bind (wpAny_mono (turn i l1 l2 t iv) (fun r t2 q => ?_) fun _ _ x => x)
    obtain ⟨e1, q⟩ := q
    subst e1
    wp_walk
    exact ⟨rfl, i + 1, er, l1, q⟩
  case fin =>
    rintro ⟨z1, z2⟩ t ⟨ez, i, et, hi, iv⟩
    simp only at ez
    subst ez
    have ge : xs.size ≤ i := by
      rcases Nat.lt_or_ge i (xs.toList.zip ys.toList).length with q | q
      · rw [List.drop_eq_getElem_cons q] at et; cases et
      · exact zz ▸ q
    have ei : i = xs.size := by omega
    have done : R (.ok (.ret (.bool false))) t := fin t (ei ▸ iv)
    wp_walk
    simpa [Builtin.Tuple.tupleCompareSizes, hz] using done
  case h =>
    exact ⟨rfl, 0, rfl, Nat.zero_le _, inv0⟩
end
section
variable {prog : Program} {w : World} {A : Around} {E : Value → Shared → Prop} {s : Shared}
theorem rc_list {l b : Addr} {N : Nat} {Q : Value → Shared → Prop} (hu : A.units < cLine) (I : Nat → Shared → Prop) (hl : GQ.ListI prog w A E l b N I) (fin : ∀ s, I N s → Q (.bool false) s) (h : I 0 s) : wpAny (model prog w) A (richCompare .NotEq (.ref l) (.ref b)) Q E s := by
  obtain ⟨xs, ys, m1, m2, gx, gy, _, _, _⟩ := hl _ _ h
  refine wpAny_richCompare_same_room (op := .NotEq) ⟨_, gx, rfl⟩ ⟨_, gy, rfl⟩ F.slot_list_ne (GQ.call_here F.slot_list_ne ⟨_, gx, rfl⟩ F.entry_list_ne (F.args_list_ne_2 _ _) ?_) hu
  exact ne_list (R := wants (fun v s' => v ≠ .notImplemented ∧ Q v s') E) l b N I hl (fun t q => ⟨(fun x => nomatch x), fin t q⟩) h
theorem rc_tup {l b : Addr} {xs ys : Array Value} {Q : Value → Shared → Prop} (hz : xs.size = ys.size) (hu : A.units < cLine) (I : Nat → Shared → Prop) (hl : s.heap.IsTuple l xs) (hb : s.heap.IsTuple b ys)
    (turn : ∀ i (h1 : i < xs.size) (h2 : i < ys.size) s, I i s → wpAny (model prog w) A.in1 (eqBool xs[i] ys[i]) (fun r s' => r = true ∧ I (i + 1) s') E s) (fin : ∀ s, I xs.size s → Q (.bool false) s) (h : I 0 s) : wpAny (model prog w) A (richCompare .NotEq (.ref l) (.ref b)) Q E s := by
  obtain ⟨⟨c1, d1, a1, s1⟩, g1, e1, n1, k1⟩ := id hl
  obtain ⟨⟨c2, d2, a2, s2⟩, g2, e2, n2, k2⟩ := id hb
  simp only at e1 k1 e2 k2
  subst e1 k1 e2 k2
  refine wpAny_richCompare_same_room (op := .NotEq) ⟨_, g1, rfl⟩ ⟨_, g2, rfl⟩ F.slot_tuple_ne (GQ.call_here F.slot_tuple_ne ⟨_, g1, rfl⟩ F.entry_tuple_ne (F.args_tuple_ne_2 _ _) ?_) hu
  exact ne_tuple (R := wants (fun v s' => v ≠ .notImplemented ∧ Q v s') E) l b xs ys n1 n2 d1 d2 s1 s2 hz I turn (fun t q => ⟨(fun x => nomatch x), fin t q⟩) g1 g2 h
end
end Kb.NG
namespace Kb
open PySem PySem.Spec PyProof.Rows L2 ClX
section
variable {X : Cx} {n : Nat} {D : Eqv}
def rNeG (D : Eqv) : R2 := fun x y H Q => D x y H ∧ ∀ H', Ext H H' → Q (.bl false) H'
def NeG (X : Cx) (n : Nat) (D : Eqv) : Prop := ∀ (A : Around) (pins : List (Addr × Obj)) (s : Shared) (σ : L2.St) (H : Hp) (x y : V) (u v : Value), Sub X n A → Inv X pins σ H s → RelV x u → RelV y v → D x y H →
  wpAny (model X.prog X.w) A (richCompare .NotEq u v) (fun r s' => r = .bool false ∧ LoopI X pins σ H s') X.xe s
theorem neG_list (hD : Mon D) (h : EqG X n D) : NeG X (n + 1) (DList D) := by
  intro A pins s σ H x y u v sb I rx ry d
  obtain ⟨a, b, xs, ys, rfl, rfl, ha, hb, p⟩ := d
  cases rx
  cases ry
  refine NG.rc_list (N := xs.length) sb.room.units0 (fun _ t => LoopI X pins σ H t) (fun i t q => ?_) (fun t q => ⟨rfl, q⟩) ⟨H, I, Ext.rfl'⟩
  obtain ⟨H1, I1, e1⟩ := id q
  obtain ⟨_, i1, k1, r1, g1⟩ := I1.hok a _ (e1 _ _ ha)
  obtain ⟨_, i2, k2, r2, g2⟩ := I1.hok b _ (e1 _ _ hb)
  exact ⟨i1.toArray, i2.toArray, k1, k2, g1, g2, by rw [List.size_toArray, ← r1.length], by rw [List.size_toArray, ← r2.length, ← p.1], fun h1 h2 => turnG hD h sb p r1 r2 i h1 h2 t q⟩
theorem neG_tup (hD : Mon D) (h : EqG X n D) : NeG X (n + 1) (DTup X.K D) := by
  intro A pins s σ H x y u v sb I rx ry d
  obtain ⟨a, b, xs, ys, rfl, rfl, ha, hb, p⟩ := d
  cases rx
  cases ry
  obtain ⟨i1, r1, g1, z1⟩ := I.tuple ha
  obtain ⟨i2, r2, g2, z2⟩ := I.tuple hb
  have hz : i1.toArray.size = i2.toArray.size := by
    rw [List.size_toArray, List.size_toArray, ← r1.length, ← r2.length]
    exact p.1
  exact NG.rc_tup hz sb.room.units0 (fun _ t => LoopI X pins σ H t) g1 g2 (fun i h1 h2 t q => turnG hD h sb p r1 r2 i h1 h2 t q) (fun t q => ⟨rfl, q⟩) ⟨H, I, Ext.rfl'⟩
theorem op_neG (h : NeG X n D) (hr : Room n X.A) : OpR X (compareOp .NotEq) (rNeG D) := by
  intro pins s σ H x y v u Q I rx ry hq
  obtain ⟨d, q⟩ := hq
  show wpAny (model X.prog X.w) X.A (richCompare .NotEq v u) (EP X pins σ Q) X.xe s
  refine wpAny_mono (h X.A pins s σ H x y v u ⟨hr, rfl⟩ I rx ry d) (fun r t z => ?_) fun _ _ x => x
  obtain ⟨e, H', I', g⟩ := z
  subst e
  exact ⟨.bl false, H', I', rfl, q H' g⟩
theorem eqG_mt {k : Nat} {C : Addr} {ps : List Str} {sp : Sp} {R : Addr → Addr → Hp → Prop} (F : MtC X.prog X.w X.K X.mg X.base CX0 k C "__eq__" ps sp) (hp : ∀ a b H (Q : VK) (E : XK), R a b H → (∀ H', Ext H H' → Q (.bl true) H') → sp [.ref a, .ref b] H Q E) (hk : k ≤ n) : EqG X n (DIns C R) := by
  obtain ⟨f, fd, hf, M, hb⟩ := F.ex
  exact (eqG_ins (R := R) (E := E0) (hf.imp fun vs H Q E h => let ⟨a, b, e, r, q⟩ := h; e ▸ hp a b H Q E r q) M.at_ M.fn hb pass0).mono hk
end
end Kb

namespace Lw
open PySem PySem.Spec PyProof.Rows L2 ClX Kb
def top (i : Nat) : Stmt := PySem.Challenge.pw_unmarked_k28_edges_of_told_ratios.main.body.getD i (.Pass ⟨0, 0, 0, 0⟩)
abbrev S__law_take : Stmt := (top 81)
abbrev N__law_take : List Str := ["_law_box_here", "_law_many", "_law_digit", "_law_one"]
theorem SC__law_take : FnScope N__law_take ["_law_box_here", "_law_many"] (defScope S__law_take) := ⟨rfl, rfl, rfl, by decide +kernel, rfl, by decide +kernel, by decide +kernel⟩
abbrev S__law_box : Stmt := (top 80)
abbrev N__law_box : List Str := ["_law_script", "_law_k", "_law_cell", "_law_seed"]
theorem SC__law_box : FnScope N__law_box ["_law_script", "_law_k"] (defScope S__law_box) := ⟨rfl, rfl, rfl, by decide +kernel, rfl, by decide +kernel, by decide +kernel⟩
abbrev S_is_integer : Stmt := (top 12)
abbrev N_is_integer : List Str := ["value"]
theorem SC_is_integer : FnScope N_is_integer ["value"] (defScope S_is_integer) := ⟨rfl, rfl, rfl, by decide +kernel, rfl, by decide +kernel, by decide +kernel⟩
abbrev S_is_length : Stmt := (top 13)
abbrev N_is_length : List Str := ["value"]
theorem SC_is_length : FnScope N_is_length ["value"] (defScope S_is_length) := ⟨rfl, rfl, rfl, by decide +kernel, rfl, by decide +kernel, by decide +kernel⟩
abbrev S_need_word : Stmt := (top 14)
abbrev N_need_word : List Str := ["value", "letter"]
theorem SC_need_word : FnScope N_need_word ["value"] (defScope S_need_word) := ⟨rfl, rfl, rfl, by decide +kernel, rfl, by decide +kernel, by decide +kernel⟩
abbrev S_common_length : Stmt := (top 17)
abbrev N_common_length : List Str := ["first", "second"]
theorem SC_common_length : FnScope N_common_length ["first", "second"] (defScope S_common_length) := ⟨rfl, rfl, rfl, by decide +kernel, rfl, by decide +kernel, by decide +kernel⟩
abbrev S_word_of_lengths : Stmt := (top 18)
abbrev N_word_of_lengths : List Str := ["first", "second", "parts", "many"]
theorem SC_word_of_lengths : FnScope N_word_of_lengths ["first", "second"] (defScope S_word_of_lengths) := ⟨rfl, rfl, rfl, by decide +kernel, rfl, by decide +kernel, by decide +kernel⟩
abbrev S_InvalidWord__init_ : Stmt := (inClass (top 3) 0)
abbrev N_InvalidWord__init_ : List Str := ["self"]
theorem SC_InvalidWord__init_ : FnScope N_InvalidWord__init_ ["self"] (defScope S_InvalidWord__init_) := ⟨rfl, rfl, rfl, by decide +kernel, rfl, by decide +kernel, by decide +kernel⟩
abbrev S_InvalidRatio__init_ : Stmt := (inClass (top 4) 0)
abbrev N_InvalidRatio__init_ : List Str := ["self"]
theorem SC_InvalidRatio__init_ : FnScope N_InvalidRatio__init_ ["self"] (defScope S_InvalidRatio__init_) := ⟨rfl, rfl, rfl, by decide +kernel, rfl, by decide +kernel, by decide +kernel⟩
abbrev S_Ratio__init_ : Stmt := (inClass (top 19) 0)
abbrev N_Ratio__init_ : List Str := ["self", "first", "second", "unit"]
theorem SC_Ratio__init_ : FnScope N_Ratio__init_ ["self", "first", "second"] (defScope S_Ratio__init_) := ⟨rfl, rfl, rfl, by decide +kernel, rfl, by decide +kernel, by decide +kernel⟩
abbrev S_Ratio_word : Stmt := (inClass (top 19) 3)
abbrev N_Ratio_word : List Str := ["self"]
theorem SC_Ratio_word : FnScope N_Ratio_word ["self"] (defScope S_Ratio_word) := ⟨rfl, rfl, rfl, by decide +kernel, rfl, by decide +kernel, by decide +kernel⟩
abbrev S_Ratio_of_word : Stmt := (inClass (top 19) 1)
abbrev N_Ratio_of_word : List Str := ["cls", "word", "first", "second", "letter"]
theorem SC_Ratio_of_word : FnScope N_Ratio_of_word ["cls", "word"] (defScope S_Ratio_of_word) := ⟨rfl, rfl, rfl, by decide +kernel, rfl, by decide +kernel, by decide +kernel⟩
abbrev S_common : Stmt := (top 28)
abbrev N_common : List Str := ["one", "other"]
theorem SC_common : FnScope N_common ["one", "other"] (defScope S_common) := ⟨rfl, rfl, rfl, by decide +kernel, rfl, by decide +kernel, by decide +kernel⟩
abbrev S_sign_of : Stmt := (top 29)
abbrev N_sign_of : List Str := ["number"]
theorem SC_sign_of : FnScope N_sign_of ["number"] (defScope S_sign_of) := ⟨rfl, rfl, rfl, by decide +kernel, rfl, by decide +kernel, by decide +kernel⟩
abbrev S_sign_with_root : Stmt := (top 31)
abbrev N_sign_with_root : List Str := ["one", "times", "inner", "left", "right"]
theorem SC_sign_with_root : FnScope N_sign_with_root ["one", "times", "inner"] (defScope S_sign_with_root) := ⟨rfl, rfl, rfl, by decide +kernel, rfl, by decide +kernel, by decide +kernel⟩
abbrev S_lowered : Stmt := (top 33)
abbrev N_lowered : List Str := ["a", "b", "c", "side", "factor"]
theorem SC_lowered : FnScope N_lowered ["a", "b", "c", "side"] (defScope S_lowered) := ⟨rfl, rfl, rfl, by decide +kernel, rfl, by decide +kernel, by decide +kernel⟩
abbrev S_inner_of : Stmt := (top 34)
abbrev N_inner_of : List Str := ["root"]
theorem SC_inner_of : FnScope N_inner_of ["root"] (defScope S_inner_of) := ⟨rfl, rfl, rfl, by decide +kernel, rfl, by decide +kernel, by decide +kernel⟩
abbrev S_Edge__init_ : Stmt := (inClass (top 45) 0)
abbrev N_Edge__init_ : List Str := ["self", "place"]
theorem SC_Edge__init_ : FnScope N_Edge__init_ ["self", "place"] (defScope S_Edge__init_) := ⟨rfl, rfl, rfl, by decide +kernel, rfl, by decide +kernel, by decide +kernel⟩
abbrev S_Edge_of : Stmt := (inClass (top 45) 3)
abbrev N_Edge_of : List Str := ["cls", "ratio"]
theorem SC_Edge_of : FnScope N_Edge_of ["cls", "ratio"] (defScope S_Edge_of) := ⟨rfl, rfl, rfl, by decide +kernel, rfl, by decide +kernel, by decide +kernel⟩
abbrev S_Edge__eq_ : Stmt := (inClass (top 45) 12)
abbrev N_Edge__eq_ : List Str := ["self", "other"]
theorem SC_Edge__eq_ : FnScope N_Edge__eq_ ["self", "other"] (defScope S_Edge__eq_) := ⟨rfl, rfl, rfl, by decide +kernel, rfl, by decide +kernel, by decide +kernel⟩
abbrev S_classes_of : Stmt := (top 52)
abbrev N_classes_of : List Str := ["rows", "found", "many", "known", "later", "at", "is_in", "following", "key"]
theorem SC_classes_of : FnScope N_classes_of ["rows"] (defScope S_classes_of) := ⟨rfl, rfl, rfl, by decide +kernel, rfl, by decide +kernel, by decide +kernel⟩
abbrev S_least_table : Stmt := (top 53)
abbrev N_least_table : List Str := ["rows", "classes", "order", "met", "found", "at", "is_in", "following", "later"]
theorem SC_least_table : FnScope N_least_table ["rows"] (defScope S_least_table) := ⟨rfl, rfl, rfl, by decide +kernel, rfl, by decide +kernel, by decide +kernel⟩
abbrev S_walked : Stmt := (top 54)
abbrev N_walked : List Str := ["table", "at", "word", "letter"]
theorem SC_walked : FnScope N_walked ["table", "at", "word"] (defScope S_walked) := ⟨rfl, rfl, rfl, by decide +kernel, rfl, by decide +kernel, by decide +kernel⟩
abbrev S_put_behind : Stmt := (top 58)
abbrev N_put_behind : List Str := ["word", "table", "many", "rows", "at", "letter", "on", "out", "is_in", "left", "right"]
theorem SC_put_behind : FnScope N_put_behind ["word", "table"] (defScope S_put_behind) := ⟨rfl, rfl, rfl, by decide +kernel, rfl, by decide +kernel, by decide +kernel⟩
abbrev S_alive : Stmt := (top 66)
abbrev N_alive : List Str := ["table", "found", "many", "is_in", "following", "at", "row"]
theorem SC_alive : FnScope N_alive ["table"] (defScope S_alive) := ⟨rfl, rfl, rfl, by decide +kernel, rfl, by decide +kernel, by decide +kernel⟩
abbrev S_table_of_words : Stmt := (top 59)
abbrev N_table_of_words : List Str := ["words", "rows", "word", "at", "letter", "side", "is_in", "left", "right"]
theorem SC_table_of_words : FnScope N_table_of_words ["words"] (defScope S_table_of_words) := ⟨rfl, rfl, rfl, by decide +kernel, rfl, by decide +kernel, by decide +kernel⟩
abbrev S_edge_words : Stmt := (top 69)
abbrev N_edge_words : List Str := ["table", "first", "lives", "met", "letters", "at", "side"]
theorem SC_edge_words : FnScope N_edge_words ["table", "first"] (defScope S_edge_words) := ⟨rfl, rfl, rfl, by decide +kernel, rfl, by decide +kernel, by decide +kernel⟩
abbrev S_Ratios__init_ : Stmt := (inClass (top 74) 0)
abbrev N_Ratios__init_ : List Str := ["self", "table"]
theorem SC_Ratios__init_ : FnScope N_Ratios__init_ ["self", "table"] (defScope S_Ratios__init_) := ⟨rfl, rfl, rfl, by decide +kernel, rfl, by decide +kernel, by decide +kernel⟩
abbrev S_Ratios_none : Stmt := (inClass (top 74) 1)
abbrev N_Ratios_none : List Str := ["cls"]
theorem SC_Ratios_none : FnScope N_Ratios_none ["cls"] (defScope S_Ratios_none) := ⟨rfl, rfl, rfl, by decide +kernel, rfl, by decide +kernel, by decide +kernel⟩
abbrev S_Ratios_of : Stmt := (inClass (top 74) 3)
abbrev N_Ratios_of : List Str := ["cls", "some", "ratio"]
theorem SC_Ratios_of : FnScope N_Ratios_of ["cls", "some"] (defScope S_Ratios_of) := ⟨rfl, rfl, rfl, by decide +kernel, rfl, by decide +kernel, by decide +kernel⟩
abbrev S_Ratios__contains_ : Stmt := (inClass (top 74) 28)
abbrev N_Ratios__contains_ : List Str := ["self", "ratio"]
theorem SC_Ratios__contains_ : FnScope N_Ratios__contains_ ["self", "ratio"] (defScope S_Ratios__contains_) := ⟨rfl, rfl, rfl, by decide +kernel, rfl, by decide +kernel, by decide +kernel⟩
abbrev S_told_edge : Stmt := (top 76)
abbrev N_told_edge : List Str := ["found"]
theorem SC_told_edge : FnScope N_told_edge ["found"] (defScope S_told_edge) := ⟨rfl, rfl, rfl, by decide +kernel, rfl, by decide +kernel, by decide +kernel⟩
abbrev S_lower : Stmt := (top 77)
abbrev N_lower : List Str := ["ratios"]
theorem SC_lower : FnScope N_lower ["ratios"] (defScope S_lower) := ⟨rfl, rfl, rfl, by decide +kernel, rfl, by decide +kernel, by decide +kernel⟩
abbrev S_upper : Stmt := (top 78)
abbrev N_upper : List Str := ["ratios"]
theorem SC_upper : FnScope N_upper ["ratios"] (defScope S_upper) := ⟨rfl, rfl, rfl, by decide +kernel, rfl, by decide +kernel, by decide +kernel⟩
abbrev S__law_words : Stmt := (top 82)
abbrev N__law_words : List Str := ["_law_most", "_law_found", "_law_layer", "_law_turn", "_law_longer", "_law_word"]
theorem SC__law_words : FnScope N__law_words ["_law_most"] (defScope S__law_words) := ⟨rfl, rfl, rfl, by decide +kernel, rfl, by decide +kernel, by decide +kernel⟩
abbrev S__law_pair : Stmt := (top 83)
abbrev N__law_pair : List Str := ["_law_word", "_law_first", "_law_second", "_law_letter"]
theorem SC__law_pair : FnScope N__law_pair ["_law_word"] (defScope S__law_pair) := ⟨rfl, rfl, rfl, by decide +kernel, rfl, by decide +kernel, by decide +kernel⟩
abbrev S__law_some_word : Stmt := (top 84)
abbrev N__law_some_word : List Str := ["_law_box_here", "_law_most", "_law_k"]
theorem SC__law_some_word : FnScope N__law_some_word ["_law_box_here", "_law_most"] (defScope S__law_some_word) := ⟨rfl, rfl, rfl, by decide +kernel, rfl, by decide +kernel, by decide +kernel⟩
abbrev S__law_sorted : Stmt := (top 86)
abbrev N__law_sorted : List Str := ["_law_words_here", "_law_word"]
theorem SC__law_sorted : FnScope N__law_sorted ["_law_words_here"] (defScope S__law_sorted) := ⟨rfl, rfl, rfl, by decide +kernel, rfl, by decide +kernel, by decide +kernel⟩
abbrev S__law_due : Stmt := (top 87)
abbrev N__law_due : List Str := ["_law_word", "_law_first", "_law_second"]
theorem SC__law_due : FnScope N__law_due ["_law_word"] (defScope S__law_due) := ⟨rfl, rfl, rfl, by decide +kernel, rfl, by decide +kernel, by decide +kernel⟩
abbrev S_law : Stmt := (top 88)
abbrev N_law : List Str := ["_law_script", "_law_k", "_law_box_here", "_law_words_here", "_law_pairs", "_law_ratios", "_law_turn", "_law_at", "_law_word", "_law_one", "_law_other"]
theorem SC_law : FnScope N_law ["_law_script"] (defScope S_law) := ⟨rfl, rfl, rfl, by decide +kernel, rfl, by decide +kernel, by decide +kernel⟩
structure Txt (K : PySem.W.Frag) (mg : Str → Option Value) : Prop where
  b_ValueError : mg "ValueError" = none
  b_abs : mg "abs" = none
  b_all : mg "all" = none
  b_any : mg "any" = none
  b_bool : mg "bool" = none
  b_enumerate : mg "enumerate" = none
  b_int : mg "int" = none
  b_isinstance : mg "isinstance" = none
  b_len : mg "len" = none
  b_list : mg "list" = none
  b_max : mg "max" = none
  b_min : mg "min" = none
  b_range : mg "range" = none
  b_repr : mg "repr" = none
  b_sorted : mg "sorted" = none
  b_str : mg "str" = none
  b_sum : mg "sum" = none
  b_tuple : mg "tuple" = none
  b_zip : mg "zip" = none
/-! ## words -/
namespace Wd
def cd (b : Bool) : Nat := if b then 114 else 108
/-- the text of a word: true is r -/
def enc (u : List Bool) : Str := ⟨(u.map cd).toArray⟩
theorem enc_cps (u : List Bool) : (enc u).cps.toList = u.map cd := by simp [enc]
theorem enc_len (u : List Bool) : (enc u).length = u.length := by show (u.map cd).toArray.size = _; simp
theorem enc_app (u v : List Bool) : enc u ++ enc v = enc (u ++ v) := by
  show (⟨(enc u).cps ++ (enc v).cps⟩ : Str) = _
  simp [enc]
theorem cd_inj {a b : Bool} (h : cd a = cd b) : a = b := by revert h; cases a <;> cases b <;> decide
theorem map_cd_inj : ∀ {u v : List Bool}, u.map cd = v.map cd → u = v
  | [], [], _ => rfl
  | [], _ :: _, h => by simp at h
  | _ :: _, [], h => by simp at h
  | a :: u, b :: v, h => by
    rw [List.map_cons, List.map_cons, List.cons.injEq] at h
    rw [cd_inj h.1, map_cd_inj h.2]
theorem enc_inj {u v : List Bool} (h : enc u = enc v) : u = v := map_cd_inj (by rw [← enc_cps, ← enc_cps, h])
theorem enc_rev (u : List Bool) : revS (enc u) = enc u.reverse := by
  unfold revS
  rw [enc_cps]
  simp [enc]
theorem enc_rep (b : Bool) (n : Nat) : repS (enc [b]) n = enc (List.replicate n b) := by
  unfold repS
  rw [enc_cps]
  simp only [enc, List.map_replicate, List.map_cons, List.map_nil]
  congr 2
  induction n with
  | zero => rfl
  | succ n ih => rw [List.replicate_succ, List.flatten_cons, ih]; rfl
theorem enc_take (u : List Bool) {k : Int} (h : 0 ≤ k) : cutS (enc u) none (some k) = enc (u.take k.toNat) := by
  unfold cutS
  rw [enc_cps, enc_len]
  have e1 : HT.sIx u.length 0 none = 0 := rfl
  have e2 : HT.sIx u.length u.length (some k) = min k.toNat u.length := by
    unfold HT.sIx
    first | omega | (simp; omega) | (split <;> omega) | (simp only; split <;> omega)
  rw [e1, e2, List.drop_zero, Nat.sub_zero]
  unfold enc
  rw [List.map_take, List.take_eq_take_iff.mpr]
  simp
theorem lit_l : ("l" : Str) = enc [false] := by decide +kernel
theorem lit_r : ("r" : Str) = enc [true] := by decide +kernel
theorem lit_e : ("" : Str) = enc [] := by decide +kernel
theorem lit_lr : ("lr" : Str) = enc [false, true] := by decide +kernel
theorem foldl_cps : ∀ (ps : List Str) (a : Array Nat), (ps.foldl (fun acc p => acc ++ (#[] : Array Nat) ++ p.cps) a).toList = a.toList ++ (ps.map (·.cps.toList)).flatten
  | [], a => by simp
  | p :: ps, a => by
    rw [List.foldl_cons, foldl_cps ps]
    simp
theorem join_cps (ys : List Str) : Txt.join ("" : Str) ys = ⟨(ys.map (·.cps.toList)).flatten.toArray⟩ := by
  cases ys with
  | nil => rfl
  | cons y ys =>
    show (⟨(ys.foldl (fun acc p => acc ++ (#[] : Array Nat) ++ p.cps) y.cps)⟩ : Str) = _
    have e := foldl_cps ys y.cps
    refine congrArg Str.mk (Array.toList_inj.mp ?_)
    rw [e]
    simp
theorem join_enc (us : List (List Bool)) : Txt.join ("" : Str) (us.map enc) = enc us.flatten := by
  rw [join_cps, List.map_map]
  have e : (us.map ((fun y : Str => y.cps.toList) ∘ enc)) = us.map (List.map cd) := List.map_congr_left fun u _ => enc_cps u
  rw [e]
  simp [enc, List.map_flatten]
theorem join_chars (cs : List Nat) : Txt.join ("" : Str) (cs.map fun c => (⟨#[c]⟩ : Str)) = ⟨cs.toArray⟩ := by
  rw [join_cps, List.map_map]
  refine congrArg Str.mk (Array.toList_inj.mp ?_)
  simp only
  induction cs with
  | nil => rfl
  | cons c r ih => simpa using ih
theorem sum_chars (cs : List Nat) : ((cs.map fun c => (⟨#[c]⟩ : Str)).map (·.length)).sum = cs.length := by
  induction cs with
  | nil => rfl
  | cons c r ih => rw [List.map_cons, List.map_cons, List.sum_cons, ih, List.length_cons]; show 1 + r.length = _; omega
theorem empty_len : ("" : Str).length = 0 := by decide +kernel
theorem enc_at {u : List Bool} {i c : Nat} (h : (enc u).cps[i]? = some c) : ∃ b, u[i]? = some b ∧ c = cd b := by
  rw [← Array.getElem?_toList, enc_cps, List.getElem?_map] at h
  cases e : u[i]? with
  | none => rw [e] at h; cases h
  | some b => rw [e] at h; exact ⟨b, rfl, (Option.some.inj h).symm⟩
/-- the lengths of a word -/
def pr : List Bool → Nat × Nat
  | [] => (1, 1)
  | b :: u => if b then ((pr u).1 + (pr u).2, (pr u).2) else ((pr u).1, (pr u).1 + (pr u).2)
theorem pr_pos (u : List Bool) : 0 < (pr u).1 ∧ 0 < (pr u).2 := by
  induction u with
  | nil => decide
  | cons b u ih => unfold pr; cases b <;> simp <;> omega
theorem pr_le (u : List Bool) : (pr u).1 + (pr u).2 ≤ 2 ^ (u.length + 1) := by
  induction u with
  | nil => decide
  | cons b u ih =>
    have := pr_pos u
    have e : 2 ^ (u.length + 1 + 1) = 2 * 2 ^ (u.length + 1) := by rw [Nat.pow_succ]; omega
    cases b <;> simp only [pr, List.length_cons, Bool.false_eq_true, if_false, if_true] <;> omega
end Wd
open Wd

local macro_rules | `(tactic| walk_at "kbs") => `(tactic| first | omega | decide | exact .inl ⟨by omega, by omega⟩ | exact .inr ⟨by omega, by omega⟩ | exact ⟨by omega, by omega⟩ | exact ⟨by decide, by decide, by decide⟩ | assumption | exact szl (by simp only [enc_len, List.length_cons, List.length_nil, List.length_append, List.length_replicate, List.length_take]; omega))
local macro_rules | `(tactic| walk_at "kb1") => `(tactic| first
  | refine ⟨_, rfl, ?_⟩
  | (refine ⟨_, _, rfl, rfl, ?_⟩; try refine And.intro (by walk_at "kbs") ?_)
  | refine ⟨_, _, _, _, rfl, rfl, (by first | assumption | exact SqL.of (by assumption) | exact SqT.of (by assumption)), rfl, ?_⟩
  | refine ⟨_, _, rfl, (show SqL _ _ _ _ ∨ SqT _ _ _ _ from by first | assumption | exact .inl (by assumption) | exact .inr (by assumption) | exact .inl (SqL.of (by assumption)) | exact .inr (SqT.of (by assumption))), ?_⟩
  | refine ⟨_, _, rfl, ?_⟩
  | refine And.intro (show scal _ _ = true from rfl) ?_
  | refine And.intro (by walk_at "kbs") ?_
  | refine And.intro ⟨_, rfl⟩ ?_)
local macro_rules | `(tactic| walk_at "kb") => `(tactic| repeat (walk_at "kb1"))

/-! ## draws -/
namespace Dr
def BoxAt (H : Hp) (b : Addr) : Prop := ∃ c s n : Int, H b = some (.lst [.int c, .int s, .int n]) ∧ 0 ≤ c ∧ 0 ≤ s ∧ s < 4294967296
def Keep (b : Addr) (H H' : Hp) : Prop := ∀ a o, a ≠ b → H a = some o → H' a = some o
theorem Keep.refl (b : Addr) (H : Hp) : Keep b H H := fun _ _ _ h => h
theorem Keep.trans {b : Addr} {H H1 H2 : Hp} (x : Keep b H H1) (y : Keep b H1 H2) : Keep b H H2 := fun a o n h => y a o n (x a o n h)
theorem Keep.same {b : Addr} {H H' : Hp} (x : Same H H') : Keep b H H' := fun a o _ h => x a o h
theorem Keep.upd (b : Addr) (H : Hp) (o : HO) : Keep b H (upd H b o) := fun a u n h => by rw [upd_ne n]; exact h
theorem Keep.new {b p : Addr} {H : Hp} {o : HO} (h : H p = none) : Keep b H (L2.upd H p o) := fun a u n e => by rw [upd_ne (ne_of_none e h)]; exact e
theorem Keep.put {b p : Addr} {H H1 : Hp} {o : HO} (x : Keep b H H1) (h : H p = none) : Keep b H (L2.upd H1 p o) := fun a u n e => by rw [upd_ne (ne_of_none e h)]; exact x a u n e
theorem BoxAt.ne {H : Hp} {b p : Addr} (x : BoxAt H b) (h : H p = none) : p ≠ b := fun e => by
  obtain ⟨c, s, n, q, _⟩ := x
  rw [e, q] at h; cases h
theorem BoxAt.lst {H : Hp} {b : Addr} (x : BoxAt H b) : ∃ xs, H b = some (.lst xs) := let ⟨_, _, _, q, _⟩ := x; ⟨_, q⟩
theorem BoxAt.keep {H H' : Hp} {b : Addr} (x : BoxAt H b) (h : ∀ o, H b = some o → H' b = some o) : BoxAt H' b := by
  obtain ⟨c, s, n, q, z⟩ := x
  exact ⟨c, s, n, h _ q, z⟩
theorem BoxAt.same {H H' : Hp} {b : Addr} (x : BoxAt H b) (h : Same H H') : BoxAt H' b := x.keep fun o => h b o
theorem BoxAt.new {H : Hp} {b p : Addr} {o : HO} (x : BoxAt H b) (h : H p = none) : BoxAt (upd H p o) b := x.keep fun u e => by rw [upd_ne (ne_of_none e h)]; exact e
/-- what stood nowhere ahead stands nowhere behind a smaller heap -/
theorem Keep.free {b p : Addr} {H H' : Hp} (x : Keep b H H') (hb : ∃ o, H' b = some o) (h : H' p = none) : H p = none := by
  cases e : H p with
  | none => rfl
  | some o =>
    by_cases c : p = b
    · obtain ⟨u, hu⟩ := hb
      rw [c, hu] at h; cases h
    · rw [x p o c e] at h; cases h
theorem BoxAt.any {H : Hp} {b : Addr} (x : BoxAt H b) : ∃ o, H b = some o := let ⟨_, q⟩ := x.lst; ⟨_, q⟩

def sp_take : Sp := fun vs H Q _ => ∃ (b : Addr) (m : Int), vs = [.ref b, .int m] ∧ BoxAt H b ∧ 0 < m ∧ m ≤ 1000000000000 ∧ ∀ (d : Int) (H' : Hp), 0 ≤ d → d < m → Keep b H H' → BoxAt H' b → Q (.int d) H'
def sp_pick (K : PySem.W.Frag) : Sp := fun vs H Q _ => ∃ (b l : Addr) (xs : List V), vs = [.ref b, .ref l] ∧ BoxAt H b ∧ l ≠ b ∧ (SqL K H l xs ∨ SqT K H l xs) ∧ 0 < xs.length ∧ xs.length ≤ 100000 ∧ ∀ (d : Nat) (v : V) (H' : Hp), xs[d]? = some v → Keep b H H' → BoxAt H' b → Q v H'
def sp_box (K : PySem.W.Frag) : Sp := fun vs H Q _ => ∃ (a : Addr) (ns : List Int) (k own : Int), vs = [.ref a, .int k, .int own] ∧ SqL K H a (ns.map V.int) ∧ ns.length ≤ 63 ∧ 0 ≤ k ∧ 0 ≤ own ∧ ∀ (p : Addr) (H' : Hp), H p = none → Same H H' → BoxAt H' p → Q (.ref p) H'
def sp_box2 (K : PySem.W.Frag) : Sp := fun vs H Q _ => ∃ (a : Addr) (ns : List Int) (k : Int), vs = [.ref a, .int k] ∧ SqL K H a (ns.map V.int) ∧ ns.length ≤ 63 ∧ 0 ≤ k ∧ ∀ (p : Addr) (H' : Hp), H p = none → Same H H' → BoxAt H' p → Q (.ref p) H'
end Dr
open Dr
section
variable {P : Program} {w : World} {K : PySem.W.Frag} {mg : Str → Option Value} {base : Heap}
theorem ok_take {f : Addr} {fd : FuncData} (F : Fun K "_law_take" "_law_take" S__law_take f fd) (T : Txt K mg) : FnOk P w K mg base CX0 1 f fd ["_law_box_here", "_law_many"] sp_take := by
  refine F.ok SC__law_take (fun vs H Q E h => ?_) (fun cdv A outer s H vs Q E hr h => ?_)
  · obtain ⟨b, m, rfl, _⟩ := h
    rfl
  · obtain ⟨b, m, rfl, ⟨c, sd, n, hb, hc, hs0, hs1⟩, m0, m1, k⟩ := h
    refine ⟨_, (pss_cons (ps_if (pt_cmpR op_gt (pe_ix ix_list (pv 0) pe_int (fun _ _ => rfl)) pe_int (nomark _)) (pss_cons (ps_set (i := 2) SC__law_take.nd rfl (.inl rfl) (pe_op op_mod (pe_callTy call_intI (by rfl) T.b_int (by decide +kernel) (pa_cons (pe_ix ix_list (pv 0) pe_int (fun _ _ => rfl)) pa_nil)) (pv 1)))
      (pss_cons (ps_asg (pe_op op_fdivW (pe_ix ix_list (pv 0) pe_int (fun _ _ => rfl)) (pv 1)) (pg_sub (pv 0) pe_int set_list))
      (pss_one (ps_ret (pv 2))))) pss_nil)
      (pss_cons (ps_asg (pe_op op_add (pe_ix ix_list (pv 0) pe_int (fun _ _ => rfl)) pe_int) (pg_sub (pv 0) pe_int set_list))
      (pss_cons (ps_set (i := 3) SC__law_take.nd rfl (.inl rfl) (pe_op op_mod (pe_callTy call_intI (by rfl) T.b_int (by decide +kernel) (pa_cons (pe_op op_mul (pe_op op_add (pe_ix ix_list (pv 0) pe_int (fun _ _ => rfl)) (pe_op op_mul pe_int (pe_ix ix_list (pv 0) pe_int (fun _ _ => rfl)))) pe_int) pa_nil)) pe_int))
      (pss_cons (ps_asg (pe_op op_add (pe_op op_mod (pe_callTy call_intI (by rfl) T.b_int (by decide +kernel) (pa_cons (pe_op op_add (pe_op op_mul (pv 3) pe_int) pe_int) pa_nil)) pe_int) pe_int) (pg_sub (pv 0) pe_int set_list))
      (pss_one (ps_ret (pe_op op_mod (pe_callTy call_intI (by rfl) T.b_int (by decide +kernel) (pa_cons (pe_op op_fdiv (pe_op op_add (pe_op op_mul (pv 3) pe_int) (pe_ix ix_list (pv 0) pe_int (fun _ _ => rfl))) pe_int) pa_nil)) (pv 1)))))))), ?_⟩
    refine ⟨_, rfl, b, _, 0, _, rfl, rfl, SqL.of hb, rfl, _, _, rfl, rfl, _, rfl, ite2 (fun h => ?_) fun h => ?_⟩
    · have hc0 : 0 < c := of_decide_eq_true h
      refine ⟨_, rfl, b, _, 0, _, rfl, rfl, SqL.of hb, rfl, _, rfl, _, rfl, _, _, rfl, rfl, m0, ?_⟩
      refine ⟨_, rfl, b, _, 0, _, rfl, rfl, SqL.of hb, rfl, _, rfl, _, _, rfl, rfl, ⟨m0, ?_⟩, _, rfl, b, _, 0, 0, rfl, rfl, hb, rfl, ?_⟩
      · have q : m.natAbs < 2 ^ 64 := by omega
        exact Nat.lt_of_lt_of_le (PySem.Flt.log2_lt_of (by decide) q) (by decide)
      · refine ⟨_, rfl, k (c % m) _ (Int.emod_nonneg _ (by omega)) (Int.emod_lt_of_pos _ m0) (Keep.upd _ _ _) ⟨c / m, sd, n, upd_same, Int.ediv_nonneg hc (by omega), hs0, hs1⟩⟩
    · refine ⟨_, rfl, b, _, 2, _, rfl, rfl, SqL.of hb, rfl, _, _, rfl, rfl, _, rfl, b, _, 2, 2, rfl, rfl, hb, rfl, ?_⟩
      have hb1 : (upd H b (.lst ([V.int c, V.int sd, V.int n].set 2 (V.int (n + 1))))) b = some (.lst [.int c, .int sd, .int (n + 1)]) := upd_same
      refine ⟨_, rfl, b, _, 1, _, rfl, rfl, SqL.of hb1, rfl, _, rfl, b, _, 2, _, rfl, rfl, SqL.of hb1, rfl, _, _, rfl, rfl, .inl ⟨by decide, by decide⟩, _, _, rfl, rfl, _, _, rfl, rfl, .inr ⟨by decide, by decide⟩, _, rfl, _, _, rfl, rfl, (by show (0 : Int) < 2147483647; decide), ?_⟩
      refine ⟨_, rfl, _, _, rfl, rfl, .inr ⟨by decide, by decide⟩, _, _, rfl, rfl, _, rfl, _, _, rfl, rfl, (by show (0 : Int) < 2147483629; decide), _, _, rfl, rfl, _, rfl, b, _, 1, 1, rfl, rfl, hb1, rfl, ?_⟩
      have hb2 : ∀ y : Int, (upd (upd H b (.lst ([V.int c, V.int sd, V.int n].set 2 (V.int (n + 1))))) b (.lst ([V.int c, V.int sd, V.int (n + 1)].set 1 (V.int y)))) b = some (.lst [.int c, .int y, .int (n + 1)]) := fun _ => upd_same
      refine ⟨_, rfl, _, _, rfl, rfl, .inr ⟨by decide, by decide⟩, _, rfl, b, _, 1, _, rfl, rfl, SqL.of (hb2 _), rfl, _, _, rfl, rfl, _, _, rfl, rfl, ⟨by decide, by decide⟩, _, rfl, _, rfl, _, _, rfl, rfl, m0, ?_⟩
      exact k _ _ (Int.emod_nonneg _ (by omega)) (Int.emod_lt_of_pos _ m0) ((Keep.upd _ _ _).trans (Keep.upd _ _ _)) ⟨c, _, n + 1, hb2 _, hc, by omega, by omega⟩
theorem ok_box {f : Addr} {fd : FuncData} (F : Fun K "_law_box" "_law_box" S__law_box f fd) (T : Txt K mg) : FnOk P w K mg base CX0 1 f fd ["_law_script", "_law_k"] (sp_box2 K) := by
  refine F.ok SC__law_box (fun vs H Q E h => ?_) (fun cdv A outer s H vs Q E hr h => ?_)
  · obtain ⟨a, ns, k, rfl, _⟩ := h
    rfl
  · obtain ⟨a, ns, k, rfl, hS, hlen, hk, q⟩ := h
    refine ⟨_, (pss_cons (ps_set (i := 2) SC__law_box.nd rfl (.inl rfl) (pe_op op_add (pe_op op_mul pe_int (pv 1)) pe_int))
      (pss_mid (ps_if (pt_cmpR op_lt (pv 1) (pe_callB call_len_seq (by rfl) T.b_len (by decide +kernel) (pa_cons (pv 0) pa_nil)) (nomark _)) (pss_one (ps_set (i := 2) SC__law_box.nd rfl (.inl rfl) (pe_ix ix_list (pv 0) (pv 1) (fun _ _ => rfl)))) (pss_one (ps_if (pt_cmpR op_gt (pe_callB call_len_seq (by rfl) T.b_len (by decide +kernel) (pa_cons (pv 0) pa_nil)) pe_int (nomark _)) (pss_one (ps_set (i := 2) SC__law_box.nd rfl (.inl rfl) (pe_op op_add (pv 2) (pe_op op_mul (pe_op op_mod (pe_callTy call_intI (by rfl) T.b_int (by decide +kernel) (pa_cons (pe_ix ix_list (pv 0) (pe_op op_mod (pe_callTy call_intI (by rfl) T.b_int (by decide +kernel) (pa_cons (pv 1) pa_nil)) (pe_callB call_len_seq (by rfl) T.b_len (by decide +kernel) (pa_cons (pv 0) pa_nil))) (fun _ _ => rfl)) pa_nil)) pe_int) pe_int)))) pss_nil)))
      (pss_cons (ps_set (i := 3) SC__law_box.nd rfl (.inl rfl) (pe_op op_add (pe_op op_mod (pe_callTy call_intI (by rfl) T.b_int (by decide +kernel) (pa_cons (pe_op op_add (pe_op op_add (pe_op op_mul (pe_op op_mod (pe_callTy call_intI (by rfl) T.b_int (by decide +kernel) (pa_cons (pv 2) pa_nil)) pe_int) pe_int) (pe_op op_mul pe_int (pv 1))) pe_int) pa_nil)) pe_int) pe_int))
      (pss_one (ps_ret (pe_lst (pa_cons (pe_ix ix_list (pe_lst (pa_cons pe_int (pa_cons (pv 2) pa_nil))) (pe_callTy call_intB (by rfl) T.b_int (by decide +kernel) (pa_cons (pe_cmpR op_ge (pv 2) (pe_op op_pow pe_int pe_int) (nomark _)) pa_nil)) (fun _ _ => rfl)) (pa_cons (pv 3) (pa_cons pe_int pa_nil))))))))), ?_⟩
    walk_at "kb"
    refine ⟨fun σ' H' => H' = H ∧ ∃ c : Int, σ' = [some (.ref a), some (.int k), some (.int c), none], ?_, fun σ1 H1 z => ?_⟩
    · have hl : ((ns.map V.int).length : Int) = ns.length := by rw [List.length_map]
      walk_at "kb"
      refine ite2 (fun h => ?_) (fun h => ?_)
      · have h1 : k < (ns.length : Int) := by have := of_decide_eq_true h; omega
        have h2 : k.toNat < ns.length := by omega
        refine ⟨_, rfl, _, rfl, a, _, k, _, rfl, rfl, hS, at_of (j := k.toNat) (by omega) (by rw [List.getElem?_map, List.getElem?_eq_getElem h2]; rfl), ?_⟩
        walk_at "kb"
        exact ⟨rfl, _, rfl⟩
      · walk_at "kb"
        refine ite2 (fun h' => ?_) (fun h' => ?_)
        · have h0 : 0 < (ns.length : Int) := by have := of_decide_eq_true h'; omega
          walk_at "kb"
          have m0 := Int.emod_nonneg k (show ((ns.map V.int).length : Int) ≠ 0 by omega)
          have m1 := Int.emod_lt_of_pos k (show (0 : Int) < ((ns.map V.int).length : Int) by omega)
          have h2 : (k % ((ns.map V.int).length : Int)).toNat < ns.length := by omega
          refine ⟨a, _, _, _, rfl, rfl, hS, at_of (j := (k % ((ns.map V.int).length : Int)).toNat) (by omega) (by rw [List.getElem?_map, List.getElem?_eq_getElem h2]; rfl), ?_⟩
          walk_at "kb"
          exact ⟨rfl, _, rfl⟩
        · exact ⟨rfl, _, rfl⟩
    · obtain ⟨rfl, c, rfl⟩ := z
      walk_at "kb"
      intro l hl
      walk_at "kb"
      have hB : SqL K (upd H1 l (.lst [.int 0, .int c])) l [.int 0, .int c] := SqL.of upd_same
      have hi : ∃ v : Int, 0 ≤ v ∧ atI [V.int 0, V.int c] (if decide ((10 : Int) ^ (18 : Int).toNat ≤ c) = true then 1 else 0) = some (.int v) := by
        by_cases hd : (10 : Int) ^ (18 : Int).toNat ≤ c
        · rw [if_pos (decide_eq_true hd)]
          exact ⟨c, Int.le_trans (by decide) hd, atI_nat (j := 1) rfl⟩
        · rw [if_neg fun z => hd (of_decide_eq_true z)]
          exact ⟨0, Int.le_refl 0, atI_nat (j := 0) rfl⟩
      obtain ⟨v, hv, hi⟩ := hi
      refine ⟨l, _, _, _, rfl, rfl, hB, hi, ?_⟩
      walk_at "kb"
      intro p hp
      have hp1 : H1 p = none := by
        have hne : p ≠ l := fun e => by rw [e, upd_same] at hp; cases hp
        rw [upd_ne hne] at hp; exact hp
      refine q p _ hp1 (fun b o e => ?_) ⟨v, _, 0, upd_same, hv, ?_, ?_⟩
      · rw [upd_ne (ne_of_none e hp1), upd_ne (ne_of_none e hl)]; exact e
      · omega
      · omega
end

/-! ## words in order -/
namespace Wd
theorem pr_cop (u : List Bool) : Nat.gcd (pr u).1 (pr u).2 = 1 := by
  induction u with
  | nil => rfl
  | cons b u ih =>
    cases b
    · show Nat.gcd (pr u).1 ((pr u).1 + (pr u).2) = 1
      rw [Nat.gcd_self_add_right]; exact ih
    · show Nat.gcd ((pr u).1 + (pr u).2) (pr u).2 = 1
      rw [Nat.gcd_add_self_left]; exact ih
theorem cross_eq {a b c d : Nat} (h1 : Nat.gcd a b = 1) (h2 : Nat.gcd c d = 1) (h : a * d = c * b) : a = c ∧ b = d := by
  have e1 : a ∣ c := Nat.Coprime.dvd_of_dvd_mul_right h1 (h ▸ Nat.dvd_mul_right a d)
  have e2 : c ∣ a := Nat.Coprime.dvd_of_dvd_mul_right h2 (h ▸ Nat.dvd_mul_right c b)
  have ea : a = c := Nat.dvd_antisymm e1 e2
  have e3 : b ∣ d := Nat.Coprime.dvd_of_dvd_mul_left (Nat.Coprime.symm h1) (h ▸ Nat.dvd_mul_left b c)
  have e4 : d ∣ b := Nat.Coprime.dvd_of_dvd_mul_left (Nat.Coprime.symm h2) (h ▸ Nat.dvd_mul_left d a)
  exact ⟨ea, Nat.dvd_antisymm e3 e4⟩
/-- the sign of a letter in the order of words: the end between l and r -/
def pc (b : Bool) : Nat := if b then 99 else 97
def plcL (u : List Bool) : List Nat := u.map pc ++ [98]
theorem pr_lt (u : List Bool) : ∀ v : List Bool, (pr u).1 * (pr v).2 < (pr v).1 * (pr u).2 ↔ plcL u < plcL v := by
  induction u with
  | nil =>
    intro v
    cases v with
    | nil => decide
    | cons c v =>
      have p := pr_pos v
      cases c <;> simp only [pr, plcL, pc, List.map_nil, List.nil_append, List.map_cons, List.cons_append, List.cons_lt_cons_iff, Bool.false_eq_true, if_false, if_true] <;> omega
  | cons b u ih =>
    intro v
    have q := pr_pos u
    cases v with
    | nil =>
      cases b <;> simp only [pr, plcL, pc, List.map_nil, List.nil_append, List.map_cons, List.cons_append, List.cons_lt_cons_iff, Bool.false_eq_true, if_false, if_true] <;> omega
    | cons c v =>
      have p := pr_pos v
      have ih := ih v
      have same : ∀ b : Bool, plcL (b :: u) < plcL (b :: v) ↔ plcL u < plcL v := fun b => by
        show pc b :: plcL u < pc b :: plcL v ↔ _
        rw [List.cons_lt_cons_iff]
        constructor
        · rintro (h | h)
          · omega
          · exact h.2
        · exact fun h => .inr ⟨rfl, h⟩
      have c1 : (pr u).1 * (pr v).1 = (pr v).1 * (pr u).1 := Nat.mul_comm _ _
      have c2 : (pr u).2 * (pr v).2 = (pr v).2 * (pr u).2 := Nat.mul_comm _ _
      have c3 : (pr u).1 * (pr v).2 = (pr v).2 * (pr u).1 := Nat.mul_comm _ _
      have c4 : (pr u).2 * (pr v).1 = (pr v).1 * (pr u).2 := Nat.mul_comm _ _
      have p1 : 0 < (pr v).1 * (pr u).2 := Nat.mul_pos p.1 q.2
      have p2 : 0 < (pr v).1 * (pr u).1 := Nat.mul_pos p.1 q.1
      cases b <;> cases c
      · rw [same, ← ih]; simp only [pr, Bool.false_eq_true, if_false, Nat.mul_add, Nat.add_mul]; omega
      · simp only [pr, plcL, pc, List.map_cons, List.cons_append, List.cons_lt_cons_iff, Bool.false_eq_true, if_false, if_true, Nat.mul_add, Nat.add_mul]; omega
      · simp only [pr, plcL, pc, List.map_cons, List.cons_append, List.cons_lt_cons_iff, Bool.false_eq_true, if_false, if_true, Nat.mul_add, Nat.add_mul]; omega
      · rw [same, ← ih]; simp only [pr, if_true, Nat.mul_add, Nat.add_mul]; omega
end Wd

/-! ## errors -/
section
variable {P : Program} {w : World} {K : PySem.W.Frag} {mg : Str → Option Value} {base : Heap}
theorem ok_err_InvalidWord {f C U : Addr} {fd : FuncData} (F : Fun K "__init__" "InvalidWord.__init__" S_InvalidWord__init_ f fd) (hU : UeC K U) (hm : mg "UnmarkedError" = some (.ref U)) (O : OexC K C) : FnOk P w K mg base CX0 1 f fd ["self"] (sp_err0 C) := by
  refine F.ok SC_InvalidWord__init_ (fun vs H Q E h => ?_) (fun cdv A outer s H vs Q E hr h => ?_)
  · obtain ⟨a, rfl, _⟩ := h
    rfl
  · obtain ⟨a, rfl, ha, q⟩ := h
    refine ⟨_, (pss_one (ps_expr (pe_uinit hU rfl hm (pa_cons (pv 0) (pa_cons pe_str pa_nil))))), ?_⟩
    exact ⟨_, rfl, a, C, _, rfl, by decide, O, ha, q⟩
theorem ok_err_InvalidRatio {f C U : Addr} {fd : FuncData} (F : Fun K "__init__" "InvalidRatio.__init__" S_InvalidRatio__init_ f fd) (hU : UeC K U) (hm : mg "UnmarkedError" = some (.ref U)) (O : OexC K C) : FnOk P w K mg base CX0 1 f fd ["self"] (sp_err0 C) := by
  refine F.ok SC_InvalidRatio__init_ (fun vs H Q E h => ?_) (fun cdv A outer s H vs Q E hr h => ?_)
  · obtain ⟨a, rfl, _⟩ := h
    rfl
  · obtain ⟨a, rfl, ha, q⟩ := h
    refine ⟨_, (pss_one (ps_expr (pe_uinit hU rfl hm (pa_cons (pv 0) (pa_cons pe_str pa_nil))))), ?_⟩
    exact ⟨_, rfl, a, C, _, rfl, by decide, O, ha, q⟩
end

/-! ## lengths and ratios -/
namespace Rt
def isI : V → Bool | .int _ => true | .bl _ => true | _ => false
def isB : V → Bool | .bl _ => true | _ => false
def isS : V → Bool | .str _ => true | _ => false
def isLen : V → Bool | .int i => decide (1 ≤ i) | _ => false
/-- what isinstance tells of a value against int, bool and str -/
structure Kd (K : PySem.W.Frag) (H : Hp) (x : V) : Prop where
  ex : ∃ t, TyX K H x t ∧ PySem.W.kitOne K t (.type "int") = some (isI x) ∧ PySem.W.kitOne K t (.type "bool") = some (isB x) ∧ PySem.W.kitOne K t (.type "str") = some (isS x)
theorem Kd.int {K : PySem.W.Frag} {H : Hp} (i : Int) : Kd K H (.int i) := ⟨_, .base (.int i), kit_ty (show kitB "int" "int" = some true by decide +kernel), kit_ty (show kitB "int" "bool" = some false by decide +kernel), kit_ty (show kitB "int" "str" = some false by decide +kernel)⟩
theorem Kd.bl {K : PySem.W.Frag} {H : Hp} (i : Bool) : Kd K H (.bl i) := ⟨_, .base (.bl i), kit_ty (show kitB "bool" "int" = some true by decide +kernel), kit_ty (show kitB "bool" "bool" = some true by decide +kernel), kit_ty (show kitB "bool" "str" = some false by decide +kernel)⟩
theorem Kd.str {K : PySem.W.Frag} {H : Hp} (i : Str) : Kd K H (.str i) := ⟨_, .base (.str i), kit_ty (show kitB "str" "int" = some false by decide +kernel), kit_ty (show kitB "str" "bool" = some false by decide +kernel), kit_ty (show kitB "str" "str" = some true by decide +kernel)⟩
theorem Kd.non {K : PySem.W.Frag} {H : Hp} : Kd K H .non := ⟨_, .base .non, kit_ty (show kitB "NoneType" "int" = some false by decide +kernel), kit_ty (show kitB "NoneType" "bool" = some false by decide +kernel), kit_ty (show kitB "NoneType" "str" = some false by decide +kernel)⟩
theorem Kd.lst {K : PySem.W.Frag} {H : Hp} {p : Addr} {xs : List V} (h : H p = some (.lst xs)) : Kd K H (.ref p) := ⟨_, .base (.lst h), kit_ty (show kitB "list" "int" = some false by decide +kernel), kit_ty (show kitB "list" "bool" = some false by decide +kernel), kit_ty (show kitB "list" "str" = some false by decide +kernel)⟩
theorem Kd.tup {K : PySem.W.Frag} {H : Hp} {p : Addr} {xs : List V} (h : H p = some (.tup xs)) : Kd K H (.ref p) := ⟨_, .base (.tup h), kit_ty (show kitB "tuple" "int" = some false by decide +kernel), kit_ty (show kitB "tuple" "bool" = some false by decide +kernel), kit_ty (show kitB "tuple" "str" = some false by decide +kernel)⟩
theorem tyX_at {K : PySem.W.Frag} {H H' : Hp} {x : V} {t : Value} (h : TyX K H x t) (s : ∀ a o, x = .ref a → H a = some o → H' a = some o) : TyX K H' x t := by
  cases h with
  | base h => exact .base (by
      cases h with
      | non => exact .non
      | bl x => exact .bl x
      | int i => exact .int i
      | str x => exact .str x
      | flt x => exact .flt x
      | lst e => exact .lst (s _ _ rfl e)
      | frz e => exact .frz (s _ _ rfl e)
      | tup e => exact .tup (s _ _ rfl e)
      | dK e => exact .dK (s _ _ rfl e)
      | dT e => exact .dT (s _ _ rfl e)
      | ins e cl ha hn htk hm => exact .ins (s _ _ rfl e) cl ha hn htk hm)
  | byt b => exact .byt b
  | set e => exact .set (s _ _ rfl e)
  | kList e c => exact .kList e c
  | kTuple e c => exact .kTuple e c
  | kDict e c => exact .kDict e c
  | fTuple e => exact .fTuple (s _ _ rfl e)
  | fDict e => exact .fDict (s _ _ rfl e)
theorem Kd.at {K : PySem.W.Frag} {H H' : Hp} {x : V} (h : Kd K H x) (s : ∀ a o, x = .ref a → H a = some o → H' a = some o) : Kd K H' x := let ⟨t, ty, r⟩ := h.ex; ⟨t, tyX_at ty s, r⟩
theorem Kd.same {K : PySem.W.Frag} {H H' : Hp} {x : V} (h : Kd K H x) (s : Same H H') : Kd K H' x := h.at fun a o _ => s a o
def sp_isint (K : PySem.W.Frag) : Sp := fun vs H Q _ => ∃ x, vs = [x] ∧ Kd K H x ∧ Q (.bl (isI x && !isB x)) H
def sp_islen (K : PySem.W.Frag) : Sp := fun vs H Q _ => ∃ x, vs = [x] ∧ Kd K H x ∧ Q (.bl (isLen x)) H
def sp_common : Sp := fun vs H Q _ => ∃ i j : Int, vs = [.int i, .int j] ∧ 0 < i ∧ 0 < j ∧ Q (.int (Int.gcd i j)) H
/-- the attributes of a ratio -/
def rf (a b : Int) : List (Str × V) := putF "second" (.int b) (putF "first" (.int a) [])
theorem n_fs : ¬ (("first" : Str) = "second") := by decide +kernel
theorem n_sf : ¬ (("second" : Str) = "first") := by decide +kernel
theorem rf1 (a b : Int) : (rf a b).lookup ("first" : Str) = some (.int a) := by
  unfold rf; rw [lookup_putF, if_neg n_fs, lookup_putF, if_pos rfl]
theorem rf2 (a b : Int) : (rf a b).lookup ("second" : Str) = some (.int b) := by
  unfold rf; rw [lookup_putF, if_pos rfl]
def RatAt (C : Addr) (H : Hp) (p : Addr) (a b : Int) : Prop := ∃ dx, H p = some (.ins C dx (rf a b))
theorem RatAt.same {C : Addr} {H H' : Hp} {p : Addr} {a b : Int} (x : RatAt C H p a b) (s : Same H H') : RatAt C H' p a b := let ⟨d, h⟩ := x; ⟨d, s _ _ h⟩
structure RatT (K : PySem.W.Frag) (mg : Str → Option Value) (C : Addr) : Prop where
  ins : C8.InsC K C
  n1 : NoAttr K C "first"
  n2 : NoAttr K C "second"
  mgC : mg "Ratio" = some (.ref C)
  nf : PySem.W.notFirst K C (.ref C) = true
  ne : PySem.W.findIn K (.ref C) "__ne__" = some (some (.builtin "object.__ne__"))
  so : PySem.W.subIn K (.ref C) (.type "object") = some true
theorem RatT.cl {K : PySem.W.Frag} {mg : Str → Option Value} {C : Addr} (T : RatT K mg C) : Cls K C := T.ins.cl
theorem RatT.ty {K : PySem.W.Frag} {mg : Str → Option Value} {C : Addr} (T : RatT K mg C) {H : Hp} {p dx : Addr} {fs : List (Str × V)} (h : H p = some (.ins C dx fs)) : TyX K H (.ref p) (.ref C) := .base (.ins h T.ins.cl T.ins.ha T.ins.hn T.ins.htk T.ins.hm)
/-- Ratio(first, second): made, or refused -/
def sp_init (C IR : Addr) (K : PySem.W.Frag) : Sp := fun vs H Q E => ∃ (x dx : Addr) (u v : V), vs = [.ref x, u, v] ∧ Kd K H u ∧ Kd K H v ∧ H x = some (.ins C dx []) ∧
  (isLen u = true → isLen v = true → ∃ i j : Int, u = .int i ∧ v = .int j ∧ i.natAbs < 2 ^ 1000 ∧ j.natAbs < 2 ^ 1000 ∧ ∀ H' : Hp, (∀ a o, a ≠ x → H a = some o → H' a = some o) → RatAt C H' x (i / (Int.gcd i j : Nat)) (j / (Int.gcd i j : Nat)) → Q .non H') ∧
  ((isLen u && isLen v) = false → E (.ref IR) none H)
/-- a comparison of two ratios -/
def sp_cmp (C : Addr) (r : Int → Int → Int → Int → Bool) : Sp := fun vs H Q _ => ∃ (p q : Addr) (a b c d : Int), vs = [.ref p, .ref q] ∧ RatAt C H p a b ∧ RatAt C H q c d ∧ a.natAbs < 2 ^ 1000 ∧ b.natAbs < 2 ^ 1000 ∧ c.natAbs < 2 ^ 1000 ∧ d.natAbs < 2 ^ 1000 ∧ Q (.bl (r a b c d)) H
def r_eq (a b c d : Int) : Bool := decide (V.int a = V.int c) && decide (V.int b = V.int d)
def r_lt (a b c d : Int) : Bool := decide (a * d < c * b)
def r_le (a b c d : Int) : Bool := decide (a * d ≤ c * b)
def r_gt (a b c d : Int) : Bool := decide (c * b < a * d)
def r_ge (a b c d : Int) : Bool := decide (c * b ≤ a * d)
theorem gcd_step {x y : Int} (hx : 0 ≤ x) (hy : 0 ≤ y) : Int.gcd y (x % y) = Int.gcd x y := by
  obtain ⟨a, rfl⟩ := Int.eq_ofNat_of_zero_le hx
  obtain ⟨b, rfl⟩ := Int.eq_ofNat_of_zero_le hy
  show Nat.gcd b ((a : Int) % (b : Int)).natAbs = Nat.gcd a b
  have e : ((a : Int) % (b : Int)).natAbs = a % b := by
    rw [← Int.natCast_emod, Int.natAbs_natCast]
  rw [e, Nat.gcd_comm b, ← Nat.gcd_rec, Nat.gcd_comm]
theorem wm {i j : Int} (h1 : i.natAbs < 2 ^ 1000) (h2 : j.natAbs < 2 ^ 1000) : CMulW i j := wide_mul h1 h2 (by decide) (by decide) (by decide)
/-- a text of l and r alone -/
def goodC (z : Str) : Bool := (z.cps.toList.map fun c => decide (c ∈ ("lr" : Str).cps.toList)).all id
def goodW : V → Bool | .str z => goodC z | _ => false
theorem lr_cps : ("lr" : Str).cps.toList = [108, 114] := by decide +kernel
theorem good_enc (u : List Bool) : goodC (enc u) = true := by
  unfold goodC
  rw [enc_cps, List.map_map, List.all_eq_true]
  intro x hx
  obtain ⟨b, _, rfl⟩ := List.mem_map.mp hx
  cases b <;> decide +kernel
theorem good_is {z : Str} (h : goodC z = true) : ∃ u, z = enc u := by
  have hm : ∀ c ∈ z.cps.toList, c = 108 ∨ c = 114 := fun c hc => by
    unfold goodC at h
    rw [List.all_eq_true] at h
    have e := h _ (List.mem_map.mpr ⟨c, hc, rfl⟩)
    have e := of_decide_eq_true (show decide (c ∈ ("lr" : Str).cps.toList) = true from e)
    rw [lr_cps] at e
    simpa using e
  refine ⟨z.cps.toList.map fun c => decide (c = 114), ?_⟩
  obtain ⟨cps⟩ := z
  unfold enc
  rw [List.map_map]
  congr 1
  have : ∀ l : List Nat, (∀ c ∈ l, c = 108 ∨ c = 114) → l.map (cd ∘ fun c => decide (c = 114)) = l := by
    intro l
    induction l with
    | nil => intro _; rfl
    | cons c l ih =>
      intro h
      rw [List.map_cons, ih fun c hc => h c (List.mem_cons_of_mem _ hc)]
      rcases h c (List.mem_cons_self) with rfl | rfl <;> rfl
  rw [this _ hm]
def sp_need (IW : Addr) (K : PySem.W.Frag) : Sp := fun vs H Q E => ∃ x, vs = [x] ∧ Kd K H x ∧ (∀ z, x = .str z → z.length ≤ 100000) ∧ (goodW x = true → ∀ H', Same H H' → Q .non H') ∧ (goodW x = false → ∀ H', Same H H' → E (.ref IW) none H')
/-- the word's ratio, or refused -/
def sp_ofword (C IW : Addr) (K : PySem.W.Frag) : Sp := fun vs H Q E => ∃ x, vs = [.ref C, x] ∧ Kd K H x ∧ (∀ z, x = .str z → z.length ≤ 900) ∧ (∀ u, x = .str (enc u) → ∀ (p : Addr) (H' : Hp), H p = none → Same H H' → RatAt C H' p (pr u).1 (pr u).2 → Q (.ref p) H') ∧ (goodW x = false → ∀ H', Same H H' → E (.ref IW) none H')
def sp_wol : Sp := fun vs H Q _ => ∃ u : List Bool, vs = [.int (pr u).1, .int (pr u).2] ∧ u.length ≤ 900 ∧ ∀ H', Same H H' → Q (.str (enc u)) H'
def sp_word (C : Addr) : Sp := fun vs H Q _ => ∃ (p : Addr) (u : List Bool), vs = [.ref p] ∧ RatAt C H p (pr u).1 (pr u).2 ∧ u.length ≤ 900 ∧ ∀ H', Same H H' → Q (.str (enc u)) H'
theorem pr_small {u : List Bool} (h : u.length ≤ 900) : ((pr u).1 : Int).natAbs < 2 ^ 1000 ∧ ((pr u).2 : Int).natAbs < 2 ^ 1000 := by
  have q := pr_le u
  have p := pr_pos u
  have e : 2 ^ (u.length + 1) ≤ 2 ^ 1000 := Nat.pow_le_pow_right (by decide) (by omega)
  rw [Int.natAbs_natCast, Int.natAbs_natCast]
  omega
theorem pr_div (u : List Bool) : ((pr u).1 : Int) / ((Int.gcd ((pr u).1 : Int) ((pr u).2 : Int) : Nat) : Int) = (pr u).1 ∧ ((pr u).2 : Int) / ((Int.gcd ((pr u).1 : Int) ((pr u).2 : Int) : Nat) : Int) = (pr u).2 := by
  have e : Int.gcd ((pr u).1 : Int) ((pr u).2 : Int) = 1 := pr_cop u
  rw [e]
  simp
theorem pr_eq {u : List Bool} (h : (pr u).1 = (pr u).2) : u = [] := by
  cases u with
  | nil => rfl
  | cons b u => have := pr_pos u; cases b <;> simp only [pr, Bool.false_eq_true, if_false, if_true] at h <;> omega
/-- a run of r ahead -/
theorem pr_run_r (u : List Bool) (h : (pr u).2 < (pr u).1) : ∃ u' : List Bool, u = List.replicate (((pr u).1 - 1) / (pr u).2) true ++ u' ∧ pr u' = ((pr u).1 - (((pr u).1 - 1) / (pr u).2) * (pr u).2, (pr u).2) := by
  induction u with
  | nil => exact absurd h (by decide)
  | cons b u ih =>
    have p := pr_pos u
    cases b with
    | false => simp only [pr, Bool.false_eq_true, if_false] at h; omega
    | true =>
      simp only [pr, if_true] at h ⊢
      generalize hx : (pr u).1 = x at *
      generalize hy : (pr u).2 = y at *
      have d1 : (x + y - 1) / y = (x - 1) / y + 1 := by
        rw [show x + y - 1 = (x - 1) + y by omega, Nat.add_div_right _ p.2]
      by_cases c : y < x
      · obtain ⟨u', e1, e2⟩ := ih c
        refine ⟨u', ?_, ?_⟩
        · rw [d1, List.replicate_succ, List.cons_append, ← e1]
        · rw [d1, e2, Nat.add_mul]
          congr 1
          omega
      · have z : (x - 1) / y = 0 := Nat.div_eq_of_lt (by omega)
        refine ⟨u, ?_, ?_⟩
        · rw [d1, z]; rfl
        · rw [d1, z]
          rw [← hx, ← hy]
          simp
theorem pr_run_l (u : List Bool) (h : (pr u).1 < (pr u).2) : ∃ u' : List Bool, u = List.replicate (((pr u).2 - 1) / (pr u).1) false ++ u' ∧ pr u' = ((pr u).1, (pr u).2 - (((pr u).2 - 1) / (pr u).1) * (pr u).1) := by
  induction u with
  | nil => exact absurd h (by decide)
  | cons b u ih =>
    have p := pr_pos u
    cases b with
    | true => simp only [pr, if_true] at h; omega
    | false =>
      simp only [pr, Bool.false_eq_true, if_false] at h ⊢
      generalize hx : (pr u).1 = x at *
      generalize hy : (pr u).2 = y at *
      have d1 : (x + y - 1) / x = (y - 1) / x + 1 := by
        rw [show x + y - 1 = (y - 1) + x by omega, Nat.add_div_right _ p.1]
      by_cases c : x < y
      · obtain ⟨u', e1, e2⟩ := ih c
        refine ⟨u', ?_, ?_⟩
        · rw [d1, List.replicate_succ, List.cons_append, ← e1]
        · rw [d1, e2, Nat.add_mul]
          congr 1
          omega
      · have z : (y - 1) / x = 0 := Nat.div_eq_of_lt (by omega)
        refine ⟨u, ?_, ?_⟩
        · rw [d1, z]; rfl
        · rw [d1, z]
          rw [← hx, ← hy]
          simp
end Rt
open Rt

section
variable {P : Program} {w : World} {K : PySem.W.Frag} {mg : Str → Option Value} {base : Heap}
theorem ok_isint {f : Addr} {fd : FuncData} (F : Fun K "is_integer" "is_integer" S_is_integer f fd) (T : Txt K mg) : FnOk P w K mg base CX0 1 f fd ["value"] (sp_isint K) := by
  refine F.ok SC_is_integer (fun vs H Q E h => ?_) (fun cdv A outer s H vs Q E hr h => ?_)
  · obtain ⟨x, rfl, _⟩ := h
    rfl
  · obtain ⟨x, rfl, ⟨t, ty, h1, h2, _⟩, q⟩ := h
    refine ⟨_, (pss_one (ps_ret (pe_and (pe_callB call_isi (by rfl) T.b_isinstance (by decide +kernel) (pa_cons (pv 0) (pa_cons (pe_bltn (v := .ty "int") (by rfl) T.b_int boot_int rfl) pa_nil))) (pe_one (pe_not (pe_callB call_isi (by rfl) T.b_isinstance (by decide +kernel) (pa_cons (pv 0) (pa_cons (pe_bltn (v := .ty "bool") (by rfl) T.b_bool boot_bool rfl) pa_nil)))))))), ?_⟩
    refine ⟨_, rfl, x, _, t, _, _, rfl, .ty _, ty, h1, isI x, rfl, ?_⟩
    by_cases c : isI x = true
    · rw [c] at q ⊢
      refine ifT rfl ?_
      refine ⟨_, rfl, x, _, t, _, _, rfl, .ty _, ty, h2, isB x, rfl, q⟩
    · rw [Bool.not_eq_true] at c
      rw [c] at q ⊢
      exact ifF rfl q
theorem ok_islen {f : Addr} {fd : FuncData} (F : Fun K "is_length" "is_length" S_is_length f fd) (T : Txt K mg) (C_isint : FnC P w K mg base CX0 1 "is_integer" ["value"] (sp_isint K)) : FnOk P w K mg base CX0 2 f fd ["value"] (sp_islen K) := by
  refine F.ok SC_is_length (fun vs H Q E h => ?_) (fun cdv A outer s H vs Q E hr h => ?_)
  · obtain ⟨x, rfl, _⟩ := h
    rfl
  · obtain ⟨x, rfl, kd, q⟩ := h
    refine ⟨_, (pss_one (ps_ret (pe_and (pe_callC C_isint hr rfl (pa_cons (pv 0) pa_nil)) (pe_one (pe_cmpR op_ge (pv 0) pe_int (nomark _)))))), ?_⟩
    refine ⟨_, rfl, x, rfl, kd, _, rfl, ?_⟩
    cases x with
    | int i =>
      refine ifT rfl ?_
      walk_at "kb"
      exact q
    | bl b => exact ifF rfl q
    | non => exact ifF rfl q
    | str z => exact ifF rfl q
    | byt z => exact ifF rfl q
    | flt z => exact ifF rfl q
    | ref z => exact ifF rfl q
    | ty z => exact ifF rfl q
theorem ok_common {f : Addr} {fd : FuncData} (F : Fun K "common_length" "common_length" S_common_length f fd) (T : Txt K mg) : FnOk P w K mg base CX0 1 f fd ["first", "second"] sp_common := by
  refine F.ok SC_common_length (fun vs H Q E h => ?_) (fun cdv A outer s H vs Q E hr h => ?_)
  · obtain ⟨i, j, rfl, _⟩ := h
    rfl
  · obtain ⟨i, j, rfl, h1, h2, q⟩ := h
    refine ⟨_, (pss_cons (ps_while PassesOwn.never (pt_cmpR op_ne (pv 1) pe_int (nomark _)) (pss_one (ps_par (i := 0) (j := 1) (by rfl) SC_common_length.nd rfl rfl (by decide) rfl rfl (pa_cons (pv 1) (pa_cons (pe_op op_mod (pv 0) (pv 1)) pa_nil)) (by rfl))))
      (pss_one (ps_ret (pv 0)))), ?_⟩
    refine while_by (fun σ H' => H' = H ∧ ∃ x y : Int, 0 < x ∧ 0 ≤ y ∧ Int.gcd x y = Int.gcd i j ∧ σ = [some (.int x), some (.int y)]) (fun σ _ => match σ with | [_, some (.int y)] => y.toNat | _ => 0)
      ⟨rfl, i, j, h1, Int.le_of_lt h2, rfl, rfl⟩ (fun σ H1 hP => ?_) (fun σ H Q Q' h q => ?_)
    · obtain ⟨rfl, x, y, hx, hy, hg, rfl⟩ := hP
      walk_at "kb"
      refine ite2 (fun h => ?_) (fun h => ?_)
      · have hy0 : y ≠ 0 := fun e => by subst e; exact absurd h (by decide)
        walk_at "kb"
        refine ⟨⟨rfl, y, x % y, by omega, Int.emod_nonneg _ hy0, ?_, rfl⟩, ?_⟩
        · rw [← hg]; exact gcd_step (Int.le_of_lt hx) hy
        · show (x % y).toNat < y.toNat
          have := Int.emod_lt_of_pos x (show 0 < y by omega)
          omega
      · have hy0 : y = 0 := by
          have : decide (V.int y = V.int 0) = true := by simpa using h
          exact V.int.inj (of_decide_eq_true this)
        subst hy0
        refine ⟨_, rfl, ?_⟩
        have e : x = ((Int.gcd i j : Nat) : Int) := by rw [← hg, Int.gcd_zero_right]; omega
        rw [e]
        exact q
    · obtain ⟨v, h1, e, v2, e2, q⟩ := q
      exact ⟨v, h1, e, v2, e2, h _ _ q⟩
theorem ok_init {f C IR : Addr} {fd : FuncData} (F : Fun K "__init__" "Ratio.__init__" S_Ratio__init_ f fd) (T : Txt K mg) (R : RatT K mg C) (E_InvalidRatio : ErC P w K mg base "InvalidRatio" IR) (C_islen : FnC P w K mg base CX0 2 "is_length" ["value"] (sp_islen K)) (C_common : FnC P w K mg base CX0 1 "common_length" ["first", "second"] sp_common) :
    FnOk P w K mg base (L2.CX P w) 4 f fd ["self", "first", "second"] (sp_init C IR K) := by
  refine F.okX SC_Ratio__init_ (fun vs H Q E h => ?_) (fun cdv A outer s H vs Q E hr h => ?_)
  · obtain ⟨x, dx, u, v, rfl, _⟩ := h
    rfl
  · obtain ⟨x, dx, u, v, rfl, ku, kv, hx, ok, bad⟩ := h
    refine ⟨_, (pss_cons (ps_if (PW.pt (pw_or (pt_not (pt_val (pe_callC C_islen (hr.mono (by decide)) rfl (pa_cons (pv 1) pa_nil)))) (pw_or1 (pt_not (pt_val (pe_callC C_islen (hr.mono (by decide)) rfl (pa_cons (pv 2) pa_nil))))))) (pss_one (ps_raise0 E_InvalidRatio (hr.mono (by decide)) rfl (takes_of rfl rfl rfl rfl) rfl)) pss_nil)
      (pss_cons (ps_set (i := 3) SC_Ratio__init_.nd rfl (.inl rfl) (pe_callC C_common (hr.mono (by decide)) rfl (pa_cons (pv 1) (pa_cons (pv 2) pa_nil))))
      (pss_cons (ps_fld (pv 0) (pe_op op_fdivW (pv 1) (pv 3)) rfl)
      (pss_one (ps_fld (pv 0) (pe_op op_fdivW (pv 2) (pv 3)) rfl))))), ?_⟩
    refine ⟨_, rfl, _, rfl, ku, isLen u, rfl, ?_⟩
    by_cases lu : isLen u = true
    · rw [lu]
      refine ifF rfl ⟨_, rfl, _, rfl, kv, isLen v, rfl, ?_⟩
      by_cases lv : isLen v = true
      · rw [lv]
        refine ifF rfl ?_
        obtain ⟨i, j, rfl, rfl, i1, j1, q⟩ := ok lu lv
        have i0 : 0 < i := by have := of_decide_eq_true lu; omega
        have j0 : 0 < j := by have := of_decide_eq_true lv; omega
        have g0 : 0 < ((Int.gcd i j : Nat) : Int) := by have := Int.gcd_pos_of_ne_zero_left j (show i ≠ 0 by omega); omega
        have g1 : ((Int.gcd i j : Nat) : Int) ≤ i := Int.le_of_dvd i0 (Int.gcd_dvd_left _ _)
        have hd : CDivW i ((Int.gcd i j : Nat) : Int) := wide_div (b := 1000) g0 (by omega) (by decide) (by decide)
        have hd2 : CDivW j ((Int.gcd i j : Nat) : Int) := hd
        walk_at "kb"
        refine ⟨x, C, dx, _, rfl, hx, R.ins.cl, R.n1, by show 0 < 1000; decide, ?_⟩
        walk_at "kb"
        refine ⟨x, C, dx, _, rfl, upd_same, R.ins.cl, R.n2, by show 1 < 1000; decide, ?_⟩
        refine q _ (fun a o n e => by rw [upd_ne n, upd_ne n]; exact e) ⟨dx, by rw [upd_same]; rfl⟩
      · rw [Bool.not_eq_true] at lv
        rw [lv]
        refine ifT rfl ?_
        exact bad (by rw [lv, Bool.and_false])
    · rw [Bool.not_eq_true] at lu
      rw [lu]
      refine ifT rfl ?_
      exact bad (by rw [lu]; rfl)
theorem ok_need {f IW : Addr} {fd : FuncData} (F : Fun K "need_word" "need_word" S_need_word f fd) (T : Txt K mg) (E_InvalidWord : ErC P w K mg base "InvalidWord" IW) : FnOk P w K mg base (L2.CX P w) 4 f fd ["value"] (sp_need IW K) := by
  refine F.okX SC_need_word (fun vs H Q E h => ?_) (fun cdv A outer s H vs Q E hr h => ?_)
  · obtain ⟨x, rfl, _⟩ := h
    rfl
  · obtain ⟨x, rfl, ⟨t, ty, _, _, h3⟩, hz, ok, bad⟩ := h
    refine ⟨_, (pss_one (ps_if (PW.pt (pw_or (pt_not (pt_val (pe_callB call_isi (by rfl) T.b_isinstance (by decide +kernel) (pa_cons (pv 0) (pa_cons (pe_bltn (v := .ty "str") (by rfl) T.b_str boot_str rfl) pa_nil))))) (pw_or1 (pt_not (pt_val (pe_callB (cr_all rfl) (by rfl) T.b_all (by decide +kernel) (pa_cons (pe_lc (own := [("letter", 1)]) (g := gName 1) (by rfl) SC_need_word.nd (pi_str (pv 0)) (blkOk_by (own := [("letter", 1)]) (N := N_need_word) (sc := defScope S_need_word) (by decide +kernel)) (fun _ _ _ _ _ => pg_name (i := 1) SC_need_word.nd rfl (Or.inl rfl)) (fun _ _ _ _ _ => pts_nil) (fun _ _ _ _ _ => (pe_cmpR op_in_sign (pv 1) pe_str rfl))) pa_nil))))))) (pss_one (ps_raise0 E_InvalidWord (hr.mono (by decide)) rfl (takes_of rfl rfl rfl rfl) rfl)) pss_nil)), ?_⟩
    refine ⟨_, rfl, x, _, t, _, _, rfl, .ty _, ty, h3, isS x, rfl, ?_⟩
    by_cases c : isS x = true
    · rw [c]
      obtain ⟨z, rfl⟩ : ∃ z, x = .str z := by cases x <;> first | exact ⟨_, rfl⟩ | cases c
      have hl := hz z rfl
      refine ifF rfl ?_
      walk_at "kb"
      intro D hD
      refine lcR_str (z := z) (fun i H' => (∀ b o, b ≠ D → H b = some o → H' b = some o) ∧ H' D = some (.lst (((z.cps.toList.take i).map fun c => decide (c ∈ ("lr" : Str).cps.toList)).map V.bl))) ⟨fun b o n e => by rw [upd_ne n]; exact e, upd_same⟩ (fun i c H1 hi hc m => ?_) (gName_mono _) (fun H1 m => ?_)
      · obtain ⟨kp, hH⟩ := m
        have hc' : z.cps.toList[i]? = some c := by rw [Array.getElem?_toList]; exact hc
        refine ⟨rfl, _, rfl, c, _, rfl, rfl, _, hH, ?_, fun b o n e => by rw [upd_ne n]; exact kp b o n e, ?_⟩
        · rw [List.length_map, List.length_map, List.length_take]
          exact szs (by have : i < z.length := hi; omega)
        · rw [upd_same, List.take_succ, hc', List.map_append, List.map_append]; rfl
      · obtain ⟨kp, hH⟩ := m
        have hz' : z.cps.size = z.cps.toList.length := by simp
        rw [hz', List.take_length] at hH
        have sm : Same H H1 := fun b o e => kp b o (ne_of_none e hD) e
        refine ⟨_, _, rfl, SqL.of hH, _, rfl, ?_⟩
        show if (!(goodC z)) = true then _ else _
        by_cases g : goodC z = true
        · rw [g]
          exact ifF rfl (ok g H1 sm)
        · rw [Bool.not_eq_true] at g
          rw [g]
          exact ifT rfl (bad g H1 sm)
    · rw [Bool.not_eq_true] at c
      rw [c]
      refine ifT rfl ?_
      refine bad ?_ H (Same.refl H)
      cases x <;> first | rfl | cases c
end

namespace Rt
theorem sum_enc (ys : List (List Bool)) : ((ys.map enc).map (·.length)).sum = ys.flatten.length := by
  induction ys with
  | nil => rfl
  | cons y r ih => rw [List.map_cons, List.map_cons, List.sum_cons, ih, enc_len, List.flatten_cons, List.length_append]
theorem wd {i j : Int} (h : 0 < j) (h1 : j.natAbs < 2 ^ 1000) : CDivW i j := wide_div (b := 1000) h h1 (by decide) (by decide)
theorem int_run {a b : Nat} (h : b < a) (hb : 0 < b) : ((a : Int) - 1) / (b : Int) = (((a - 1) / b : Nat) : Int) := by
  rw [show ((a : Int) - 1) = ((a - 1 : Nat) : Int) by omega, ← Int.natCast_ediv]
theorem int_sub {a b : Nat} (h : b < a) : (a : Int) - (((a - 1) / b : Nat) : Int) * (b : Int) = ((a - (a - 1) / b * b : Nat) : Int) := by
  have e : (a - 1) / b * b ≤ a - 1 := Nat.div_mul_le_self _ _
  rw [Int.natCast_sub (by omega), Int.natCast_mul]
theorem run_pos {a b : Nat} (h : b < a) (hb : 0 < b) : 1 ≤ (a - 1) / b := (Nat.le_div_iff_mul_le hb).mpr (by omega)
end Rt
section
variable {P : Program} {w : World} {K : PySem.W.Frag} {mg : Str → Option Value} {base : Heap}
theorem ok_wol {f : Addr} {fd : FuncData} (F : Fun K "word_of_lengths" "word_of_lengths" S_word_of_lengths f fd) (T : Txt K mg) : FnOk P w K mg base CX0 1 f fd ["first", "second"] sp_wol := by
  refine F.ok SC_word_of_lengths (fun vs H Q E h => ?_) (fun cdv A outer s H vs Q E hr h => ?_)
  · obtain ⟨u, rfl, _⟩ := h
    rfl
  · obtain ⟨u, rfl, hu, q⟩ := h
    refine ⟨_, (pss_cons (ps_set (i := 2) SC_word_of_lengths.nd rfl (.inl rfl) (pe_lst pa_nil))
      (pss_cons (ps_while PassesOwn.never (pt_cmpR op_ne (pv 0) (pv 1) (nomark _)) (pss_one (ps_if (pt_cmpR op_gt (pv 0) (pv 1) (nomark _)) (pss_cons (ps_set (i := 3) SC_word_of_lengths.nd rfl (.inl rfl) (pe_op op_fdivW (pe_op op_sub (pv 0) pe_int) (pv 1)))
      (pss_cons (ps_expr (pe_bm PySem.F.plainAttrs_list PySem.F.slot_list_append PySem.F.type_list_append mt_append (pv 2) (pa_cons (pe_op op_mul_str pe_str (pv 3)) pa_nil)))
      (pss_one (ps_set (i := 0) SC_word_of_lengths.nd rfl (.inl rfl) (pe_op op_sub (pv 0) (pe_op op_mulW (pv 3) (pv 1))))))) (pss_cons (ps_set (i := 3) SC_word_of_lengths.nd rfl (.inl rfl) (pe_op op_fdivW (pe_op op_sub (pv 1) pe_int) (pv 0)))
      (pss_cons (ps_expr (pe_bm PySem.F.plainAttrs_list PySem.F.slot_list_append PySem.F.type_list_append mt_append (pv 2) (pa_cons (pe_op op_mul_str pe_str (pv 3)) pa_nil)))
      (pss_one (ps_set (i := 1) SC_word_of_lengths.nd rfl (.inl rfl) (pe_op op_sub (pv 1) (pe_op op_mulW (pv 3) (pv 0))))))))))
      (pss_one (ps_ret (pe_join pe_str (pv 2)))))), ?_⟩
    refine ⟨by show 0 ≤ sizeLine; decide, fun D hD => ?_⟩
    refine while_by (fun σ H' => (∀ b o, b ≠ D → H b = some o → H' b = some o) ∧ ∃ (ys : List (List Bool)) (v : List Bool) (x : Option V), ys.flatten ++ v = u ∧ ys.length + v.length ≤ u.length ∧ H' D = some (.lst (ys.map fun y => V.str (enc y))) ∧ σ = [some (.int (pr v).1), some (.int (pr v).2), some (.ref D), x])
      (fun σ _ => match σ with | [some (.int a), some (.int b), _, _] => (a + b).toNat | _ => 0) ⟨fun b o n e => by rw [upd_ne n]; exact e, [], u, none, rfl, by simp, upd_same, rfl⟩ (fun σ H1 hP => ?_) (fun σ H Q Q' h q => ?_)
    · obtain ⟨kp, ys, v, x, hf, hl, hH, rfl⟩ := hP
      have p := pr_pos v
      have hvl : v.length ≤ 900 := by omega
      have hyl : ys.length ≤ 900 := by omega
      have sm := pr_small hvl
      have n1 : (pr v).1 < 2 ^ 1000 := by have := sm.1; rwa [Int.natAbs_natCast] at this
      have n2 : (pr v).2 < 2 ^ 1000 := by have := sm.2; rwa [Int.natAbs_natCast] at this
      walk_at "kb"
      refine ite2 (fun h => ?_) (fun h => ?_)
      · walk_at "kb"
        refine ite2 (fun h2 => ?_) (fun h2 => ?_)
        · have lt : (pr v).2 < (pr v).1 := by have := of_decide_eq_true h2; omega
          obtain ⟨v', e1, e2⟩ := pr_run_r v lt
          have m1 := run_pos lt p.2
          have ml : ((pr v).1 - 1) / (pr v).2 ≤ v.length := by have := congrArg List.length e1; rw [List.length_append, List.length_replicate] at this; omega
          walk_at "kb"
          refine ⟨wd (by omega) sm.2, _, rfl, .inl ⟨rfl, _, SqL.of hH⟩, ?_⟩
          dsimp only
          rw [int_run lt p.2]
          walk_at "kb"
          refine ⟨by rw [show ("r" : Str).length = 1 by decide +kernel]; omega, ?_⟩
          refine ⟨D, _, _, rfl, rfl, hH, by rw [List.length_map]; exact szs (by omega), ?_⟩
          walk_at "kb"
          refine ⟨wm (by rw [Int.natAbs_natCast]; exact Nat.lt_of_le_of_lt (Nat.le_trans ml hvl) (by decide)) sm.2, ?_⟩
          refine ⟨_, _, rfl, rfl, ?_⟩
          dsimp only
          rw [int_sub lt]
          have l1 : (ys ++ [List.replicate (((pr v).1 - 1) / (pr v).2) true]).length = ys.length + 1 := by rw [List.length_append]; rfl
          have l2 : v.length = ((pr v).1 - 1) / (pr v).2 + v'.length := by have := congrArg List.length e1; rwa [List.length_append, List.length_replicate] at this
          refine ⟨⟨fun b o n e => by rw [upd_ne n]; exact kp b o n e, ys ++ [List.replicate (((pr v).1 - 1) / (pr v).2) true], v', some (.int (((pr v).1 - 1) / (pr v).2 : Nat)), ?_, by omega, ?_, ?_⟩, ?_⟩
          · rw [List.flatten_append, List.flatten_cons, List.flatten_nil, List.append_nil, List.append_assoc, ← e1]; exact hf
          · rw [upd_same, List.map_append, List.map_cons, List.map_nil, ← enc_rep, ← lit_r]; rfl
          · rw [e2]; rfl
          · have e3 : ((pr v).1 - 1) / (pr v).2 * (pr v).2 ≤ (pr v).1 - 1 := Nat.div_mul_le_self _ _
            have e4 : (pr v).2 ≤ ((pr v).1 - 1) / (pr v).2 * (pr v).2 := Nat.le_mul_of_pos_left _ m1
            show (((pr v).1 - ((pr v).1 - 1) / (pr v).2 * (pr v).2 : Nat) + ((pr v).2 : Int)).toNat < (((pr v).1 : Int) + (pr v).2).toNat
            omega
        · have ne : (pr v).1 ≠ (pr v).2 := fun e => by
            rw [e] at h
            simp at h
          have h3 : ¬ ((pr v).2 : Int) < (pr v).1 := fun z => h2 (decide_eq_true z)
          have lt : (pr v).1 < (pr v).2 := by omega
          obtain ⟨v', e1, e2⟩ := pr_run_l v lt
          have m1 := run_pos lt p.1
          have ml : ((pr v).2 - 1) / (pr v).1 ≤ v.length := by have := congrArg List.length e1; rw [List.length_append, List.length_replicate] at this; omega
          walk_at "kb"
          refine ⟨wd (by omega) sm.1, _, rfl, .inl ⟨rfl, _, SqL.of hH⟩, ?_⟩
          dsimp only
          rw [int_run lt p.1]
          walk_at "kb"
          refine ⟨by rw [show ("l" : Str).length = 1 by decide +kernel]; omega, ?_⟩
          refine ⟨D, _, _, rfl, rfl, hH, by rw [List.length_map]; exact szs (by omega), ?_⟩
          walk_at "kb"
          refine ⟨wm (by rw [Int.natAbs_natCast]; exact Nat.lt_of_le_of_lt (Nat.le_trans ml hvl) (by decide)) sm.1, ?_⟩
          refine ⟨_, _, rfl, rfl, ?_⟩
          dsimp only
          rw [int_sub lt]
          have l1 : (ys ++ [List.replicate (((pr v).2 - 1) / (pr v).1) false]).length = ys.length + 1 := by rw [List.length_append]; rfl
          have l2 : v.length = ((pr v).2 - 1) / (pr v).1 + v'.length := by have := congrArg List.length e1; rwa [List.length_append, List.length_replicate] at this
          refine ⟨⟨fun b o n e => by rw [upd_ne n]; exact kp b o n e, ys ++ [List.replicate (((pr v).2 - 1) / (pr v).1) false], v', some (.int (((pr v).2 - 1) / (pr v).1 : Nat)), ?_, by omega, ?_, ?_⟩, ?_⟩
          · rw [List.flatten_append, List.flatten_cons, List.flatten_nil, List.append_nil, List.append_assoc, ← e1]; exact hf
          · rw [upd_same, List.map_append, List.map_cons, List.map_nil, ← enc_rep, ← lit_l]; rfl
          · rw [e2]; rfl
          · have e3 : ((pr v).2 - 1) / (pr v).1 * (pr v).1 ≤ (pr v).2 - 1 := Nat.div_mul_le_self _ _
            have e4 : (pr v).1 ≤ ((pr v).2 - 1) / (pr v).1 * (pr v).1 := Nat.le_mul_of_pos_left _ m1
            show (((pr v).1 : Int) + ((pr v).2 - ((pr v).2 - 1) / (pr v).1 * (pr v).1 : Nat)).toNat < (((pr v).1 : Int) + (pr v).2).toNat
            omega
      · have ev : v = [] := pr_eq (by
          have z : decide (V.int (pr v).1 = V.int (pr v).2) = true := by simpa using h
          have := V.int.inj (of_decide_eq_true z)
          omega)
        subst ev
        walk_at "kb"
        refine ⟨_, _, ys.map enc, rfl, rfl, .inl (SqL.of (by rw [List.map_map]; exact hH)), ?_, ?_⟩
        · rw [sum_enc, empty_len]
          have := congrArg List.length hf
          rw [List.length_append] at this
          simp only [List.length_nil] at this
          omega
        · rw [join_enc]
          rw [List.append_nil] at hf
          rw [hf]
          exact q H1 fun b o e => kp b o (ne_of_none e hD) e
    · obtain ⟨v1, e1, v2, e2, z, b, eb, q⟩ := q
      exact ⟨v1, e1, v2, e2, z, b, eb, h _ _ q⟩
theorem ok_word {f C : Addr} {fd : FuncData} (F : Fun K "word" "Ratio.word" S_Ratio_word f fd) (T : Txt K mg) (R : RatT K mg C) (C_wol : FnC P w K mg base CX0 1 "word_of_lengths" ["first", "second"] sp_wol) : FnOk P w K mg base CX0 2 f fd ["self"] (sp_word C) := by
  refine F.ok SC_Ratio_word (fun vs H Q E h => ?_) (fun cdv A outer s H vs Q E hr h => ?_)
  · obtain ⟨p, u, rfl, _⟩ := h
    rfl
  · obtain ⟨p, u, rfl, ⟨dx, hp⟩, hu, q⟩ := h
    refine ⟨_, (pss_one (ps_ret (pe_callC C_wol hr rfl (pa_cons (pe_fld (pv 0) rfl) (pa_cons (pe_fld (pv 0) rfl) pa_nil))))), ?_⟩
    exact ⟨_, rfl, p, C, dx, _, _, rfl, hp, R.ins.cl, R.n1, rf1 _ _, _, rfl, p, C, dx, _, _, rfl, hp, R.ins.cl, R.n2, rf2 _ _, u, rfl, hu, q⟩
--@ofword
theorem ok_ofword {f C IR IW : Addr} {fd : FuncData} (F : Fun K "of_word" "Ratio.of_word" S_Ratio_of_word f fd) (T : Txt K mg) (C_need : FnC P w K mg base (L2.CX P w) 4 "need_word" ["value"] (sp_need IW K)) (C_ratioX : MkC P w K mg base (L2.CX P w) 4 C "Ratio" ["self", "first", "second"] (sp_init C IR K)) :
    FnOk P w K mg base (L2.CX P w) 6 f fd ["cls", "word"] (sp_ofword C IW K) := by
  refine F.okX SC_Ratio_of_word (fun vs H Q E h => ?_) (fun cdv A outer s H vs Q E hr h => ?_)
  · obtain ⟨x, rfl, _⟩ := h
    rfl
  · obtain ⟨x, rfl, kd, hz, ok, bad⟩ := h
    refine ⟨_, (pss_cons (ps_expr (pe_callSC C_need (hr.mono (by decide)) (takes_of rfl rfl rfl rfl) rfl (pa_cons (pv 1) pa_nil)))
      (pss_cons (ps_asg (pe_tup (pa_cons pe_int (pa_cons pe_int pa_nil))) (pg_tup rfl (pgs_cons (pg_name (i := 2) SC_Ratio_of_word.nd rfl (.inl rfl)) (pgs_cons (pg_name (i := 3) SC_Ratio_of_word.nd rfl (.inl rfl)) pgs_nil))))
      (pss_cons (ps_for (passes_of rfl) rfl (pi_str (pe_revS (pv 1))) (pg_name (i := 4) SC_Ratio_of_word.nd rfl (.inl rfl)) (pss_one (ps_if (pt_cmpR op_eq (pv 4) pe_str (nomark _)) (pss_one (ps_set (i := 3) SC_Ratio_of_word.nd rfl (.inl rfl) (pe_op op_add (pv 3) (pv 2)))) (pss_one (ps_set (i := 2) SC_Ratio_of_word.nd rfl (.inl rfl) (pe_op op_add (pv 2) (pv 3)))))))
      (pss_one (ps_ret (pe_makeL (i := 0) C_ratioX (hr.mono (by decide)) (takes_of rfl rfl rfl rfl) rfl (.inl rfl) (pa_cons (pv 2) (pa_cons (pv 3) pa_nil)))))))), ?_⟩
    refine ⟨_, rfl, x, rfl, kd, fun z e => Nat.le_trans (hz z e) (by decide), fun g H1 sm1 => ?_, fun g H1 sm1 => bad g H1 sm1⟩
    obtain ⟨u, rfl⟩ : ∃ u, x = .str (enc u) := by
      cases x with
      | str z => obtain ⟨u, rfl⟩ := good_is g; exact ⟨u, rfl⟩
      | _ => cases g
    have hu : u.length ≤ 900 := by have := hz _ rfl; rwa [enc_len] at this
    refine ⟨by show 2 ≤ sizeLine; decide, fun p0 hp0 => ⟨p0, _, rfl, SqT.of upd_same, rfl, _, _, rfl, _, _, rfl, rfl, ?_⟩⟩
    have hlr : (enc u.reverse).cps.size = u.length := by show (enc u.reverse).length = _; rw [enc_len, List.length_reverse]
    refine ⟨_, rfl, enc u, rfl, by rw [enc_len]; exact Nat.le_trans hu (by decide), enc u.reverse, congrArg V.str (enc_rev u), for_it (walk_str (z := enc u.reverse)) (fun i σ H' => Same H H' ∧ ∃ x : Option V, σ = [some (.ref C), some (.str (enc u)), some (.int (pr (u.reverse.take i).reverse).1), some (.int (pr (u.reverse.take i).reverse).2), x])
      ⟨fun a o e => by rw [upd_ne (ne_of_none (sm1 a o e) hp0)]; exact sm1 a o e, none, rfl⟩ (fun _ _ _ _ _ => trivial) (fun i v σ H1 H2 hi hP hY => ?_) (fun σ H2 hP => ?_)⟩
    · obtain ⟨sm, x, rfl⟩ := hP
      obtain ⟨rfl, c, hc, rfl⟩ := hY
      have hi' : i < u.reverse.length := by rw [List.length_reverse, ← hlr]; exact hi
      have ec : c = cd u.reverse[i] := by
        rw [← Array.getElem?_toList, enc_cps, List.getElem?_map, List.getElem?_eq_getElem hi'] at hc
        exact (Option.some.inj hc).symm
      have et : (u.reverse.take (i + 1)).reverse = u.reverse[i] :: (u.reverse.take i).reverse := by
        rw [List.take_succ_eq_append_getElem hi', List.reverse_append]; rfl
      generalize u.reverse[i] = y at ec et
      subst ec
      walk_at "kb"
      have step : pr (u.reverse.take (i + 1)).reverse = pr (y :: (u.reverse.take i).reverse) := by rw [et]
      refine ite2 (fun h => ?_) (fun h => ?_)
      · have e := of_decide_eq_true h
        have ey : y = false := by revert e; cases y <;> decide +kernel
        subst ey
        walk_at "kb"
        exact ⟨some (.str ⟨#[cd false]⟩), by rw [step]; simp [pr, Int.add_comm]⟩
      · have e := fun z => h (decide_eq_true z)
        have ey : y = true := by revert e; cases y <;> decide +kernel
        subst ey
        walk_at "kb"
        exact ⟨some (.str ⟨#[cd true]⟩), by rw [step]; simp [pr]⟩
    · obtain ⟨sm, x, rfl⟩ := hP
      rw [hlr]
      have eu : (u.reverse.take u.length).reverse = u := by rw [List.take_of_length_le (by rw [List.length_reverse]; exact Nat.le_refl _), List.reverse_reverse]
      rw [eu]
      have p := pr_pos u
      have sz := pr_small hu
      refine ⟨rfl, _, rfl, _, rfl, fun r dx hr' hdx hne => ?_⟩
      refine ⟨r, dx, _, _, rfl, Kd.int _, Kd.int _, upd_same, fun _ _ => ⟨_, _, rfl, rfl, sz.1, sz.2, fun H4 k4 hR4 => ⟨rfl, ?_⟩⟩, fun b => ?_⟩
      · rw [(pr_div u).1, (pr_div u).2] at hR4
        exact ok u rfl r H4 (sm.free hr') (fun b o e => k4 b o (ne_of_none (sm b o e) hr') (by rw [upd_ne (ne_of_none (sm b o e) hr'), upd_ne (ne_of_none (sm b o e) hdx)]; exact sm b o e)) hR4
      · have b1 : isLen (.int ((pr u).1 : Int)) = true := decide_eq_true (by omega)
        have b2 : isLen (.int ((pr u).2 : Int)) = true := decide_eq_true (by omega)
        rw [b1, b2] at b
        cases b
--@*
end

/-! ## what stands in the heap, kept as a list -/
namespace Wl
structure Wo (B : Addr) (H0 H : Hp) (L : List (Addr × HO)) : Prop where
  box : BoxAt H B
  kp : Keep B H0 H
  at_ : ∀ x ∈ L, x.1 ≠ B ∧ H x.1 = some x.2
structure Ho (H0 H : Hp) (L : List (Addr × HO)) : Prop where
  sm : Same H0 H
  at_ : ∀ x ∈ L, H x.1 = some x.2
section
variable {B p : Addr} {o : HO} {H0 H H' : Hp} {L L' : List (Addr × HO)}
theorem Wo.get (w : Wo B H0 H L) (h : (p, o) ∈ L) : H p = some o := (w.at_ _ h).2
theorem Ho.get (w : Ho H0 H L) (h : (p, o) ∈ L) : H p = some o := w.at_ _ h
theorem Wo.ne (w : Wo B H0 H L) (h : (p, o) ∈ L) : p ≠ B := (w.at_ _ h).1
theorem Wo.same (w : Wo B H0 H L) (s : Same H H') : Wo B H0 H' L := ⟨w.box.same s, w.kp.trans (Keep.same s), fun x h => ⟨(w.at_ x h).1, s _ _ (w.at_ x h).2⟩⟩
theorem Ho.same (w : Ho H0 H L) (s : Same H H') : Ho H0 H' L := ⟨w.sm.trans s, fun x h => s _ _ (w.at_ x h)⟩
theorem Wo.keep (w : Wo B H0 H L) (k : Keep B H H') (b : BoxAt H' B) : Wo B H0 H' L := ⟨b, w.kp.trans k, fun x h => ⟨(w.at_ x h).1, k _ _ (w.at_ x h).1 (w.at_ x h).2⟩⟩
theorem Wo.add (w : Wo B H0 H L) (h : H p = some o) (n : p ≠ B) : Wo B H0 H ((p, o) :: L) := ⟨w.box, w.kp, fun x hx => by
  rcases List.mem_cons.mp hx with rfl | hx
  · exact ⟨n, h⟩
  · exact w.at_ x hx⟩
theorem Ho.add (w : Ho H0 H L) (h : H p = some o) : Ho H0 H ((p, o) :: L) := ⟨w.sm, fun x hx => by
  rcases List.mem_cons.mp hx with rfl | hx
  · exact h
  · exact w.at_ x hx⟩
/-- an object that is no list isn't the box -/
theorem Wo.addN (w : Wo B H0 H L) (h : H p = some o) (n : ∀ xs, o ≠ .lst xs) : Wo B H0 H ((p, o) :: L) := w.add h fun e => by
  obtain ⟨xs, q⟩ := w.box.lst
  rw [← e, h] at q
  exact n xs (Option.some.inj q)
theorem Wo.tup {vs : List V} (w : Wo B H0 H L) (h : H p = some (.tup vs)) : Wo B H0 H ((p, .tup vs) :: L) := w.addN h (fun _ e => nomatch e)
theorem Wo.insA {C dx : Addr} {fs : List (Str × V)} (w : Wo B H0 H L) (h : H p = some (.ins C dx fs)) : Wo B H0 H ((p, .ins C dx fs) :: L) := w.addN h (fun _ e => nomatch e)
theorem Wo.fresh (w : Wo B H0 H L) (h : H p = none) : p ≠ B := w.box.ne h
theorem Wo.call (w : Wo B H0 H L) (hn : H p = none) (s : Same H H') (h : H' p = some o) : Wo B H0 H' ((p, o) :: L) := (w.same s).add h (w.fresh hn)
theorem Ho.call (w : Ho H0 H L) (s : Same H H') (h : H' p = some o) : Ho H0 H' ((p, o) :: L) := (w.same s).add h
theorem Wo.sub (w : Wo B H0 H L) (h : ∀ x ∈ L', x ∈ L) : Wo B H0 H L' := ⟨w.box, w.kp, fun x hx => w.at_ x (h x hx)⟩
theorem Wo.free (w : Wo B H0 H L) (h : H p = none) : H0 p = none := w.kp.free w.box.any h
theorem Wo.nw {Q : VK} (w : Wo B H0 H L) (k : ∀ p H', H0 p = none → Wo B H0 H' ((p, o) :: L) → Q (.ref p) H') : New H o Q := fun p H' hn s h => k p H' (w.free hn) (w.call hn s h)
theorem Ho.nw {Q : VK} (w : Ho H0 H L) (k : ∀ p H', H0 p = none → Ho H0 H' ((p, o) :: L) → Q (.ref p) H') : New H o Q := fun p H' hn s h => k p H' (w.sm.free hn) (w.call s h)
def isLst : HO → Bool
  | .lst _ => true
  | _ => false
theorem of_notLst {o : HO} (h : isLst o = false) : ∀ xs, o ≠ .lst xs := fun xs e => by subst e; cases h
/-- a list of one's own is changed -/
theorem Wo.set {l : Addr} {xs : List V} (w : Wo B H0 H L) (hl : H l = some (.lst xs)) (n : l ≠ B) (hf : H0 l = none) (o : HO) : Wo B H0 (upd H l o) ((l, o) :: L.filter fun x => !isLst x.2) := by
  have ne : ∀ x ∈ L.filter (fun x => !isLst x.2), x.1 ≠ l := fun x hx e => by
    have h1 := (List.mem_filter.mp hx)
    have h2 := (w.at_ x h1.1).2
    rw [e, hl] at h2
    have h3 : isLst x.2 = true := by rw [← Option.some.inj h2]; rfl
    rw [h3] at h1
    cases h1.2
  refine ⟨w.box.keep fun u e => by rw [upd_ne n.symm]; exact e, fun a u na e => by rw [upd_ne (ne_of_none e hf)]; exact w.kp a u na e, fun x hx => ?_⟩
  rcases List.mem_cons.mp hx with rfl | hx
  · exact ⟨n, upd_same⟩
  · refine ⟨(w.at_ x (List.mem_filter.mp hx).1).1, ?_⟩
    rw [upd_ne (ne x hx)]
    exact (w.at_ x (List.mem_filter.mp hx).1).2
theorem Ho.set {l : Addr} {xs : List V} (w : Ho H0 H L) (hl : H l = some (.lst xs)) (hf : H0 l = none) (o : HO) : Ho H0 (upd H l o) ((l, o) :: L.filter fun x => !isLst x.2) := by
  have ne : ∀ x ∈ L.filter (fun x => !isLst x.2), x.1 ≠ l := fun x hx e => by
    have h1 := (List.mem_filter.mp hx)
    have h2 := w.at_ x h1.1
    rw [e, hl] at h2
    have h3 : isLst x.2 = true := by rw [← Option.some.inj h2]; rfl
    rw [h3] at h1
    cases h1.2
  refine ⟨fun a u e => by rw [upd_ne (ne_of_none e hf)]; exact w.sm a u e, fun x hx => ?_⟩
  rcases List.mem_cons.mp hx with rfl | hx
  · exact upd_same
  · rw [upd_ne (ne x hx)]
    exact w.at_ x (List.mem_filter.mp hx).1
theorem Wo.drop2 {x y : Addr × HO} (w : Wo B H0 H (x :: y :: L)) : Wo B H0 H (x :: L) := w.sub fun z hz => by
  rcases List.mem_cons.mp hz with rfl | hz
  · exact .head _
  · exact .tail _ (.tail _ hz)
theorem Ho.drop2 {x y : Addr × HO} (w : Ho H0 H (x :: y :: L)) : Ho H0 H (x :: L) := ⟨w.sm, fun z hz => by
  rcases List.mem_cons.mp hz with rfl | hz
  · exact w.at_ _ (.head _)
  · exact w.at_ _ (.tail _ (.tail _ hz))⟩
theorem Wo.tl {x : Addr × HO} (w : Wo B H0 H (x :: L)) : Wo B H0 H L := w.sub fun _ hx => .tail _ hx
theorem Wo.one {x : Addr × HO} (w : Wo B H0 H (x :: L)) : Wo B H0 H [x] := w.sub fun z hz => by cases List.mem_singleton.mp hz; exact .head _
theorem Wo.nil (w : Wo B H0 H L) : Wo B H0 H [] := w.sub fun z hz => nomatch hz
theorem Ho.one {x : Addr × HO} (w : Ho H0 H (x :: L)) : Ho H0 H [x] := ⟨w.sm, fun z hz => by cases List.mem_singleton.mp hz; exact w.at_ _ (.head _)⟩
theorem Ho.tl {x : Addr × HO} (w : Ho H0 H (x :: L)) : Ho H0 H L := ⟨w.sm, fun z hz => w.at_ _ (.tail _ hz)⟩
theorem Ho.nil (w : Ho H0 H L) : Ho H0 H [] := ⟨w.sm, fun z hz => nomatch hz⟩
theorem filter_not {L : List (Addr × HO)} (h : ∀ x ∈ L, isLst x.2 = false) : (L.filter fun x => !isLst x.2) = L := List.filter_eq_self.mpr fun x hx => by rw [h x hx]; rfl
theorem Wo.set2 {l : Addr} {u : HO} (w : Wo B H0 H ((l, u) :: L)) (hu : isLst u = true) (h : ∀ x ∈ L, isLst x.2 = false) (hf : H0 l = none) (o : HO) : Wo B H0 (upd H l o) ((l, o) :: L) := by
  obtain ⟨xs, rfl⟩ : ∃ xs, u = .lst xs := by
    cases u with
    | lst xs => exact ⟨xs, rfl⟩
    | _ => cases hu
  have e := w.set (w.get (.head _)) (w.ne (.head _)) hf o
  rw [List.filter_cons] at e
  rw [show (!isLst (HO.lst xs)) = false from rfl, filter_not h] at e
  exact e
/-- within a list being made at a new place D -/
theorem Wo.inD {D : Addr} (w : Wo B H0 H L) (hD : H D = none) (k : ∀ b o, b ≠ D → H b = some o → H' b = some o) : Wo B H0 H' L :=
  ⟨w.box.keep fun o e => k _ _ (w.fresh hD).symm e, fun a o n e => k a o (ne_of_none (w.kp a o n e) hD) (w.kp a o n e), fun x h => ⟨(w.at_ x h).1, k _ _ (ne_of_none (w.at_ x h).2 hD) (w.at_ x h).2⟩⟩
theorem Ho.inD {D : Addr} (w : Ho H0 H L) (hD : H D = none) (k : ∀ b o, b ≠ D → H b = some o → H' b = some o) : Ho H0 H' L :=
  ⟨fun a o e => k a o (ne_of_none (w.sm a o e) hD) (w.sm a o e), fun x h => k _ _ (ne_of_none (w.at_ x h) hD) (w.at_ x h)⟩
theorem Ho.start (H : Hp) : Ho H H [] := ⟨Same.refl H, fun _ h => nomatch h⟩
theorem Wo.start (b : BoxAt H B) : Wo B H H [] := ⟨b, Keep.refl _ _, fun _ h => nomatch h⟩
/-- the draws -/
theorem Wo.take {m : Int} {Q : VK} {E : XK} (w : Wo B H0 H L) (m0 : 0 < m) (m1 : m ≤ 1000000000000) (k : ∀ d H', 0 ≤ d → d < m → Wo B H0 H' L → Q (.int d) H') : sp_take [.ref B, .int m] H Q E :=
  ⟨B, m, by rfl, w.box, m0, m1, fun d H' d0 d1 kp hb => k d H' d0 d1 (w.keep kp hb)⟩
theorem Wo.pick {K : PySem.W.Frag} {l : Addr} {xs : List V} {Q : VK} {E : XK} (w : Wo B H0 H L) (hl : H l = some (.lst xs)) (n : l ≠ B) (m0 : 0 < xs.length) (m1 : xs.length ≤ 100000) (k : ∀ (d : Nat) v H', xs[d]? = some v → Wo B H0 H' L → Q v H') : sp_pick K [.ref B, .ref l] H Q E :=
  ⟨B, l, xs, by rfl, w.box, n, .inl (SqL.of hl), m0, m1, fun d v H' hv kp hb => k d v H' hv (w.keep kp hb)⟩
end
end Wl
open Wl

local macro_rules | `(tactic| walk_at "mem") => `(tactic| first | exact List.Mem.head _ | (refine List.Mem.tail _ ?_; walk_at "mem"))
local macro_rules | `(tactic| walk_at "hp") => `(tactic| first | assumption | exact Wo.get (by assumption) (by walk_at "mem") | exact Ho.get (by assumption) (by walk_at "mem") | exact upd_same)
local macro_rules | `(tactic| walk_at "seq") => `(tactic| first | assumption | exact SqL.of (by walk_at "hp") | exact SqT.of (by walk_at "hp"))
local macro_rules | `(tactic| walk_at "sqo") => `(tactic| first | assumption | exact .inl (by walk_at "seq") | exact .inr (by walk_at "seq"))
local macro_rules | `(tactic| walk_at "dp") => `(tactic| first | exact .int _ | exact .str _ | exact .bl _ | exact .non | exact .tup (SqT.of (by walk_at "hp")) (by walk_at "dps") | exact .lst (SqL.of (by walk_at "hp")) (by walk_at "dps"))
local macro_rules | `(tactic| walk_at "dps") => `(tactic| first | exact .nil | exact .cons (by walk_at "dp") (by walk_at "dps"))
local macro_rules | `(tactic| walk_at "shw") => `(tactic| first | exact Shw.int (by assumption) | exact Shw.int (by unfold showsI; decide) | exact Shw.tup (by walk_at "shwl") | exact Shw.lst (by walk_at "shwl") | exact Shw.bool _ | exact Shw.none | exact Shw.str (by decide +kernel) (Nat.le_refl _))
local macro_rules | `(tactic| walk_at "shwl") => `(tactic| first | exact ShwL.nil | exact ShwL.cons (by walk_at "shw") (by walk_at "shwl"))
local macro_rules | `(tactic| walk_at "sho") => `(tactic| first | assumption | (refine' Shw.ok ?shwa ?shwb ?shwc; (case shwa => walk_at "shw"); (case shwb => decide); (case shwc => decide)))
local macro_rules | `(tactic| walk_at "cls") => `(tactic| first | assumption | exact ChT.cl (by assumption) | exact RatT.cl (by assumption))
local macro_rules | `(tactic| walk_at "noat") => `(tactic| first | assumption | exact ChT.n1 (by assumption) | exact ChT.n2 (by assumption) | exact RatT.n1 (by assumption) | exact RatT.n2 (by assumption))
local macro_rules | `(tactic| walk_at "flk") => `(tactic| first | exact cf1 _ _ | exact cf2 _ _ | exact rf1 _ _ | exact rf2 _ _)
local macro_rules | `(tactic| walk_at "new") => `(tactic| first | refine Wo.nw (by assumption) fun _ _ _ _ => ?_ | refine Ho.nw (by assumption) fun _ _ _ _ => ?_)
local macro_rules | `(tactic| walk_at "kws") => `(tactic| first | exact wm (by assumption) (by assumption) | exact Nat.le_of_ble_eq_true rfl | exact szl (by omega) | walk_at "kbs")
local macro_rules | `(tactic| walk_at "kw1") => `(tactic| first
  | refine And.intro (show scal _ _ = true from rfl) ?_
  | refine ⟨_, rfl, ?_⟩
  | (refine ⟨_, _, rfl, rfl, ?_⟩; try refine And.intro (by walk_at "kws") ?_)
  | refine ⟨_, _, _, _, rfl, rfl, (by walk_at "seq"), rfl, ?_⟩
  | refine ⟨_, _, _, _, _, rfl, (by walk_at "hp"), (by walk_at "cls"), (by walk_at "noat"), (by walk_at "flk"), ?_⟩
  | refine ⟨_, _, rfl, (show SqL _ _ _ _ ∨ SqT _ _ _ _ from by walk_at "sqo"), ?_⟩
  | refine ⟨_, _, rfl, (show SqT _ _ _ _ from by walk_at "seq"), rfl, ?_⟩
  | refine ⟨_, _, rfl, (show Dp _ _ _ _ from by walk_at "dp"), (show ShOk _ from by walk_at "sho"), ?_⟩
  | refine ⟨_, _, (show Dp _ _ _ _ from by walk_at "dp"), (show Dp _ _ _ _ from by walk_at "dp"), (by first | rfl | decide +kernel), (by first | rfl | decide +kernel), ?_⟩
  | refine ⟨_, _, rfl, ?_⟩
  | refine And.intro (show _ ≤ 1000000 by walk_at "kws") ?_
  | walk_at "new"
  | refine And.intro (by walk_at "kws") ?_
  | refine And.intro ⟨_, rfl⟩ ?_
  | refine And.intro (show _ = some (some _) from rfl) ?_)
local macro_rules | `(tactic| walk_at "kw") => `(tactic| repeat (first | ((with_reducible refine iteNSI ?_ ?_); (with_reducible rfl)) | (with_reducible refine iteTI ?_) | (with_reducible refine iteFI ?_) | ((fail_if_success (with_reducible refine isIte ?_)); walk_at "kw1")))

local macro_rules | `(tactic| walk_at "kw1") => `(tactic| refine ⟨_, _, rfl, (show SqL _ _ _ _ from by walk_at "seq"), rfl, ?_⟩)
local macro_rules | `(tactic| walk_at "kw1") => `(tactic| ((refine' nrm_of ?nre ?nrg); (case nre => ((try simp only [L2.start, List.map, List.length_cons, List.length_nil, Nat.reduceAdd, Nat.reduceSub, Nat.zero_add, List.reduceReplicate, List.cons_append, List.nil_append, List.set_cons_succ, List.set_cons_zero]); exact rfl))))
local macro_rules | `(tactic| walk_at "nrm") => `(tactic| ((show ∀ sl : L2.St, _ = sl → _); (refine' nrm_of ?nre ?nrg); (case nre => ((try simp only [L2.start, List.map, List.length_cons, List.length_nil, Nat.reduceAdd, Nat.reduceSub, Nat.zero_add, List.reduceReplicate, List.cons_append, List.nil_append, List.set_cons_succ, List.set_cons_zero]); exact rfl))))

namespace Rt
theorem mk_ratH' {H : Hp} {C IR : Addr} {K : PySem.W.Frag} {R : Hp → Prop} {E : XK} {i j : Int} (hi : 1 ≤ i) (hj : 1 ≤ j) (bi : i.natAbs < 2 ^ 1000) (bj : j.natAbs < 2 ^ 1000) {x dx : Addr} (hx : H x = none) (hdx : H dx = none) (hne : dx ≠ x) (k : ∀ H', Same H H' → RatAt C H' x (i / (Int.gcd i j : Nat)) (j / (Int.gcd i j : Nat)) → R H') :
    sp_init C IR K (.ref x :: [.int i, .int j]) (upd (upd H dx (.own x)) x (.ins C dx [])) (fun v H2 => v = .non ∧ R H2) E := by
  have sm : Same H (upd (upd H dx (.own x)) x (.ins C dx [])) := (sm_new hdx).trans (sm_new (by rw [upd_ne (Ne.symm hne)]; exact hx))
  refine ⟨x, dx, _, _, rfl, .int _, .int _, upd_same, fun _ _ => ⟨_, _, rfl, rfl, bi, bj, fun H' k' ch => ⟨rfl, ?_⟩⟩, fun g => ?_⟩
  · exact k H' (fun a o e => k' a o (ne_of_none e hx) (sm a o e)) ch
  · have b1 : isLen (.int i) = true := decide_eq_true hi
    have b2 : isLen (.int j) = true := decide_eq_true hj
    rw [b1, b2] at g
    cases g
theorem Wo.rat {B r C : Addr} {H0 H H' : Hp} {L : List (Addr × HO)} {a b : Int} (w : Wo B H0 H L) (s : Same H H') (c : RatAt C H' r a b) : ∃ dx, Wo B H0 H' ((r, .ins C dx (rf a b)) :: L) := by
  obtain ⟨dx, h1⟩ := c
  exact ⟨dx, (w.same s).insA h1⟩
end Rt

/-! ## how great ints are -/
theorem pe_never {X : Cx} {e : Expr} : PE X e (fun _ _ _ => False) := ⟨fun _ _ _ _ _ _ h => h.elim⟩
namespace Ro
theorem lcR_tp {K : PySem.W.Frag} {a : Addr} {xs : List V} {g : TG} {te : TE} {vs : List Nat} {σ : L2.St} {H1 : Hp} {D : Addr} {Qd : Hp → Prop} (M : Nat → Hp → Prop) (h0 : M 0 (upd H1 D (.lst []))) (hl : ∀ i H, i ≤ xs.length → M i H → SqT K H a xs)
    (hs : ∀ i x H, xs[i]? = some x → M i H → g x (wipe σ vs) H fun σ2 H2 => wipe σ2 vs = wipe σ vs ∧ te σ2 H2 fun y H4 => ∃ acc, H4 D = some (.lst acc) ∧ acc.length < sizeLine ∧ M (i + 1) (upd H4 D (.lst (acc ++ [y]))))
    (hm : ∀ x σ H Q Q', (∀ σ2 H2, Q σ2 H2 → Q' σ2 H2) → g x σ H Q → g x σ H Q') (hd : ∀ H, M xs.length H → Qd H) : LcR (Itt K a) g tYes te vs σ H1 D Qd :=
  lc_it walk_tup M h0 hl (fun i x H H' hi m y => by
    obtain ⟨e, hx⟩ := y
    subst e
    exact hm _ _ _ _ _ (fun σ2 H2 z => ⟨z.1, ifT (B := M (i + 1) H2) rfl z.2⟩) (hs i x _ hx m)) hd
def Bd (n : Nat) (i : Int) : Prop := i.natAbs < 2 ^ n
theorem Bd.mono {n m : Nat} {i : Int} (h : Bd n i) (e : n ≤ m) : Bd m i := Nat.lt_of_lt_of_le h (Nat.pow_le_pow_right (by decide) e)
theorem Bd.lit {i : Int} (h : decide (i.natAbs < 18446744073709551616) = true) : Bd 64 i := Nat.lt_of_lt_of_le (of_decide_eq_true (p := i.natAbs < 18446744073709551616) h) (by decide)
theorem Bd.mul {n m : Nat} {i j : Int} (h : Bd n i) (g : Bd m j) : Bd (n + m) (i * j) := by
  unfold Bd at *
  rw [Int.natAbs_mul, Nat.pow_add]
  exact Nat.mul_lt_mul'' h g
theorem two_max (n m : Nat) : 2 ^ n + 2 ^ m ≤ 2 ^ (max n m + 1) := by
  have h1 : 2 ^ n ≤ 2 ^ max n m := Nat.pow_le_pow_right (by decide) (Nat.le_max_left ..)
  have h2 : 2 ^ m ≤ 2 ^ max n m := Nat.pow_le_pow_right (by decide) (Nat.le_max_right ..)
  rw [Nat.pow_succ]
  omega
theorem Bd.add {n m : Nat} {i j : Int} (h : Bd n i) (g : Bd m j) : Bd (max n m + 1) (i + j) := by
  have := two_max n m
  unfold Bd at *
  generalize 2 ^ n = a at *
  generalize 2 ^ m = b at *
  omega
theorem Bd.sub {n m : Nat} {i j : Int} (h : Bd n i) (g : Bd m j) : Bd (max n m + 1) (i - j) := by
  have := two_max n m
  unfold Bd at *
  generalize 2 ^ n = a at *
  generalize 2 ^ m = b at *
  omega
theorem Bd.neg {n : Nat} {i : Int} (h : Bd n i) : Bd n (-i) := by unfold Bd at *; omega
theorem Bd.gcd {n m : Nat} {i j : Int} (h : Bd n i) (g : Bd m j) : Bd (max n m) ((Int.gcd i j : Nat) : Int) := by
  unfold Bd at *
  rw [Int.natAbs_natCast]
  have h1 : 2 ^ n ≤ 2 ^ max n m := Nat.pow_le_pow_right (by decide) (Nat.le_max_left ..)
  have h2 : 2 ^ m ≤ 2 ^ max n m := Nat.pow_le_pow_right (by decide) (Nat.le_max_right ..)
  by_cases hi : i = 0
  · subst hi
    rw [Int.gcd_zero_left]
    omega
  · have : Int.gcd i j ≤ i.natAbs := Int.gcd_le_natAbs_left _ (by omega)
    omega
theorem Bd.div {n : Nat} {i : Int} (j : Int) (h : Bd n i) : Bd n (i / j) := by
  unfold Bd at *
  exact Nat.lt_of_le_of_lt (Int.natAbs_ediv_le_natAbs _ _) h
theorem Bd.fdiv {n : Nat} {i : Int} (j : Int) (h : Bd n i) : Bd (n + 1) (Int.fdiv i j) := by
  have e := two_max n 0
  have : (Int.fdiv i j).natAbs ≤ i.natAbs + 1 := by
    rw [Int.fdiv_eq_ediv]
    have := Int.natAbs_ediv_le_natAbs i j
    split <;> omega
  unfold Bd at *
  rw [Nat.max_zero] at e
  generalize 2 ^ n = a at *
  generalize 2 ^ (n + 1) = b at *
  omega
theorem Bd.cm {n m : Nat} {i j : Int} (h : Bd n i) (g : Bd m j) (e : n + m ≤ 900000) : CMulW i j := wide_mul (h.mono (Nat.le_succ n)) (g.mono (Nat.le_succ m)) (Nat.succ_pos _) (Nat.succ_pos _) (by omega)
theorem Bd.lg {n : Nat} {j : Int} (g : Bd n j) (e : n ≤ 8999) : j.natAbs.log2 < 9000 := Nat.lt_of_lt_of_le (PySem.Flt.log2_lt_of (Nat.succ_pos n) (g.mono (Nat.le_succ n))) (by omega)
theorem Bd.cd {n : Nat} {i j : Int} (p : 0 < j) (g : Bd n j) (e : n ≤ 8999) : CDivW i j := ⟨p, g.lg e⟩
def CDivG (_ j : Int) : Prop := j ≠ 0 ∧ j.natAbs.log2 < 9000
theorem Bd.cg {n : Nat} {i j : Int} (p : j ≠ 0) (g : Bd n j) (e : n ≤ 8999) : CDivG i j := ⟨p, g.lg e⟩
theorem op_fdivG {X : Cx} : OpR X (binaryOp .FloorDiv) (rI CDivG fun i j => .int (Int.fdiv i j)) := opI fun i j _ _ _ _ _ hc q => floordiv_int hc.1 q (.inl (PyProof.noPylong_of_log2 hc.2))
theorem Bd.sh {n : Nat} {i : Int} (h : Bd n i) (e : n ≤ 1000) : showsI i := h.mono e
/-- the sign of a number, as programs tell it -/
def sg (i : Int) : Int := (if decide (0 < i) = true then 1 else 0) - (if decide (i < 0) = true then 1 else 0)
theorem sg_p {i : Int} (h : 0 < i) : sg i = 1 := by unfold sg; simp [h]; omega
theorem sg_n {i : Int} (h : i < 0) : sg i = -1 := by unfold sg; simp [h]; omega
theorem sg_z : sg 0 = 0 := rfl
theorem sg_c (i : Int) : (0 < i ∧ sg i = 1) ∨ (i = 0 ∧ sg i = 0) ∨ (i < 0 ∧ sg i = -1) := by
  rcases Int.lt_trichotomy i 0 with h | h | h
  · exact .inr (.inr ⟨h, sg_n h⟩)
  · subst h; exact .inr (.inl ⟨rfl, rfl⟩)
  · exact .inl ⟨h, sg_p h⟩
theorem Bd.sg (i : Int) : Bd 2 (sg i) := by
  unfold Bd
  rcases sg_c i with ⟨_, h⟩ | ⟨_, h⟩ | ⟨_, h⟩ <;> rw [h] <;> decide
theorem sg_mul (i j : Int) : sg (i * j) = sg i * sg j := by
  rcases sg_c i with ⟨hi, h⟩ | ⟨hi, h⟩ | ⟨hi, h⟩ <;> rcases sg_c j with ⟨hj, g⟩ | ⟨hj, g⟩ | ⟨hj, g⟩ <;> rw [h, g]
  · exact sg_p (Int.mul_pos hi hj)
  · rw [hj, Int.mul_zero]; rfl
  · exact sg_n (Int.mul_neg_of_pos_of_neg hi hj)
  · rw [hi, Int.zero_mul]; rfl
  · rw [hi, Int.zero_mul]; rfl
  · rw [hi, Int.zero_mul]; rfl
  · exact sg_n (Int.mul_neg_of_neg_of_pos hi hj)
  · rw [hj, Int.mul_zero]; rfl
  · exact sg_p (Int.mul_pos_of_neg_of_neg hi hj)
/-- the sign of one + times * root of inner -/
def swr (a b c : Int) : Int := if sg a = sg b * sg c ∨ sg b * sg c = 0 then sg a else if sg a = 0 then sg b * sg c else sg a * sg (a * a - b * b * c)
theorem Bd.swr (a b c : Int) : Bd 4 (swr a b c) := by
  unfold Ro.swr
  split
  · exact (Bd.sg a).mono (by decide)
  · split
    · exact (Bd.sg b).mul (Bd.sg c)
    · exact (Bd.sg a).mul (Bd.sg _)
end Ro
open Ro

local macro_rules | `(tactic| walk_at "bd") => `(tactic| first | assumption | exact Bd.lit (by decide) | exact Bd.add (by walk_at "bd") (by walk_at "bd") | exact Bd.sub (by walk_at "bd") (by walk_at "bd") | exact Bd.mul (by walk_at "bd") (by walk_at "bd") | exact Bd.neg (by walk_at "bd") | exact Bd.sg _ | exact Bd.swr _ _ _ | exact Bd.gcd (by walk_at "bd") (by walk_at "bd") | exact Bd.div _ (by walk_at "bd") | exact Bd.fdiv _ (by walk_at "bd"))
local macro_rules | `(tactic| walk_at "kw1") => `(tactic| first
  | ((with_reducible refine And.intro (a := CMulW _ _) ?cw ?_); (case cw => exact Bd.cm (by walk_at "bd") (by walk_at "bd") (Nat.le_of_ble_eq_true rfl)))
  | ((with_reducible refine And.intro (a := CDivW _ _) ?cw ?_); (case cw => exact Bd.cd (by first | assumption | omega) (by walk_at "bd") (Nat.le_of_ble_eq_true rfl)))
  | ((with_reducible refine And.intro (a := CDivG _ _) ?cw ?_); (case cw => exact Bd.cg (by first | assumption | omega) (by walk_at "bd") (Nat.le_of_ble_eq_true rfl)))
  | ((refine ⟨_, _, _, rfl, (?cw : Bd _ _), ?_⟩); (case cw => exact Bd.mono (by walk_at "bd") (Nat.le_of_ble_eq_true rfl)))
  | ((refine ⟨_, _, _, _, rfl, (?cw : Bd _ _), ?_⟩); (case cw => exact Bd.mono (by walk_at "bd") (Nat.le_of_ble_eq_true rfl)))
  | ((with_reducible refine And.intro (a := Bd _ _) ?cw ?_); (case cw => exact Bd.mono (by walk_at "bd") (Nat.le_of_ble_eq_true rfl))))

/-! ## numbers with roots -/
namespace Ro
def sp_sign : Sp := fun vs H Q _ => ∃ i : Int, vs = [.int i] ∧ Q (.int (sg i)) H
def sp_com : Sp := fun vs H Q _ => ∃ i j : Int, vs = [.int i, .int j] ∧ Q (.int (Int.gcd i j)) H
def sp_wr : Sp := fun vs H Q _ => ∃ n : Int, vs = [.int n] ∧ 0 ≤ n ∧ Bd 400 n ∧ ∀ s : Int, 0 ≤ s → s * s ≤ n → n < (s + 1) * (s + 1) → Q (.int s) H
def sp_swr : Sp := fun vs H Q _ => ∃ a b c : Int, vs = [.int a, .int b, .int c] ∧ Bd 400 a ∧ Bd 400 b ∧ Bd 400 c ∧ Q (.int (swr a b c)) H
/-- the root of an equation, without a common factor -/
def lwf (a b c : Int) : Int := if a < 0 then 0 - (Int.gcd (Int.gcd a b) c : Int) else (Int.gcd (Int.gcd a b) c : Int)
def lwd (a b c s : Int) : List Int := [Int.fdiv a (lwf a b c), Int.fdiv b (lwf a b c), Int.fdiv c (lwf a b c), s]
def sp_low : Sp := fun vs H Q _ => ∃ a b c s : Int, vs = [.int a, .int b, .int c, .int s] ∧ a ≠ 0 ∧ Bd 800 a ∧ Bd 800 b ∧ Bd 800 c ∧ New H (.tup ((lwd a b c s).map V.int)) Q
def sp_inner (K : PySem.W.Frag) : Sp := fun vs H Q _ => ∃ (p : Addr) (a b c s : Int), vs = [.ref p] ∧ H p = some (.tup [.int a, .int b, .int c, .int s]) ∧ Bd 800 a ∧ Bd 800 b ∧ Bd 800 c ∧ Q (.int (b * b - 4 * a * c)) H
theorem lwf_ne {a b c : Int} (h : a ≠ 0) : lwf a b c ≠ 0 := by
  have g : Int.gcd a b ≠ 0 := fun e => h (Int.gcd_eq_zero_iff.mp e).1
  have g2 : Int.gcd (Int.gcd a b : Int) c ≠ 0 := fun e => by
    have := (Int.gcd_eq_zero_iff.mp e).1
    omega
  unfold lwf
  split <;> omega
theorem root_step {n x y t : Int} (hx : 1 ≤ x) (ht : t = n / x) (hy : y = (x + t) / 2) (hn : 0 ≤ n) : n < (y + 1) * (y + 1) := by
  have h1 : n < (t + 1) * x := by
    have := Int.lt_ediv_add_one_mul_self n (show 0 < x by omega)
    rw [← ht] at this
    exact this
  have h2 : x + t + 1 ≤ 2 * (y + 1) := by omega
  have t0 : 0 ≤ t := by rw [ht]; exact Int.ediv_nonneg hn (by omega)
  have h3 : (x + (t + 1)) * (x + (t + 1)) ≤ (2 * (y + 1)) * (2 * (y + 1)) := Int.mul_le_mul (by omega) (by omega) (by omega) (by omega)
  have h4 : 0 ≤ (x - (t + 1)) * (x - (t + 1)) := by
    rcases Int.le_total 0 (x - (t + 1)) with h | h
    · exact Int.mul_nonneg h h
    · exact Int.mul_nonneg_of_nonpos_of_nonpos h h
  have h5 : (x + (t + 1)) * (x + (t + 1)) = (x - (t + 1)) * (x - (t + 1)) + 4 * ((t + 1) * x) := by grind
  have h6 : (2 * (y + 1)) * (2 * (y + 1)) = 4 * ((y + 1) * (y + 1)) := by grind
  omega
end Ro
section
variable {P : Program} {w : World} {K : PySem.W.Frag} {mg : Str → Option Value} {base : Heap}
theorem ok_sign {f : Addr} {fd : FuncData} (F : Fun K "sign_of" "sign_of" S_sign_of f fd) (T : Txt K mg) : FnOk P w K mg base CX0 1 f fd ["number"] sp_sign := by
  refine F.ok SC_sign_of (fun vs H Q E h => ?_) (fun cdv A outer s H vs Q E hr h => ?_)
  · obtain ⟨i, rfl, _⟩ := h
    rfl
  · obtain ⟨i, rfl, q⟩ := h
    refine ⟨_, (pss_one (ps_ret (pe_op op_sub (pe_callTy call_intB (by rfl) T.b_int (by decide +kernel) (pa_cons (pe_cmpR op_gt (pv 0) pe_int (nomark _)) pa_nil)) (pe_callTy call_intB (by rfl) T.b_int (by decide +kernel) (pa_cons (pe_cmpR op_lt (pv 0) pe_int (nomark _)) pa_nil))))), ?_⟩
    walk_at "kw"
    exact q
theorem ok_com {f : Addr} {fd : FuncData} (F : Fun K "common" "common" S_common f fd) (T : Txt K mg) : FnOk P w K mg base CX0 1 f fd ["one", "other"] sp_com := by
  refine F.ok SC_common (fun vs H Q E h => ?_) (fun cdv A outer s H vs Q E hr h => ?_)
  · obtain ⟨i, j, rfl, _⟩ := h
    rfl
  · obtain ⟨i, j, rfl, q⟩ := h
    refine ⟨_, (pss_cons (ps_par (i := 0) (j := 1) (by rfl) SC_common.nd rfl rfl (by decide) rfl rfl (pa_cons (pe_callB call_abs (by rfl) T.b_abs (by decide +kernel) (pa_cons (pv 0) pa_nil)) (pa_cons (pe_callB call_abs (by rfl) T.b_abs (by decide +kernel) (pa_cons (pv 1) pa_nil)) pa_nil)) (by rfl))
      (pss_cons (ps_while PassesOwn.never (pt_cmpR op_ne (pv 1) pe_int (nomark _)) (pss_one (ps_par (i := 0) (j := 1) (by rfl) SC_common.nd rfl rfl (by decide) rfl rfl (pa_cons (pv 1) (pa_cons (pe_op op_mod (pe_callTy call_intI (by rfl) T.b_int (by decide +kernel) (pa_cons (pv 0) pa_nil)) (pv 1)) pa_nil)) (by rfl))))
      (pss_one (ps_ret (pv 0))))), ?_⟩
    walk_at "kw"
    refine while_by (fun σ H' => H' = H ∧ ∃ x y : Int, 0 ≤ x ∧ 0 ≤ y ∧ Int.gcd x y = Int.gcd i j ∧ σ = [some (.int x), some (.int y)]) (fun σ _ => match σ with | [_, some (.int y)] => y.toNat | _ => 0)
      ⟨rfl, _, _, by omega, by omega, by show Nat.gcd _ _ = Nat.gcd _ _; congr 1 <;> split <;> omega, rfl⟩ (fun σ H1 hP => ?_) (fun σ H Q Q' h q => ?_)
    · obtain ⟨rfl, x, y, hx, hy, hg, rfl⟩ := hP
      walk_at "kw"
      refine ite2 (fun h => ?_) (fun h => ?_)
      · have hy0 : 0 < y := by
          have : y ≠ 0 := fun e => by subst e; exact absurd h (by decide)
          omega
        walk_at "kw"
        refine ⟨⟨rfl, y, x % y, by omega, Int.emod_nonneg _ (by omega), ?_, rfl⟩, ?_⟩
        · rw [← hg]; exact gcd_step hx hy
        · show (x % y).toNat < y.toNat
          have := Int.emod_lt_of_pos x hy0
          omega
      · have hy0 : y = 0 := by
          have : decide (V.int y = V.int 0) = true := by simpa using h
          exact V.int.inj (of_decide_eq_true this)
        subst hy0
        refine ⟨_, rfl, ?_⟩
        have e : x = ((Int.gcd i j : Nat) : Int) := by rw [← hg, Int.gcd_zero_right]; omega
        rw [e]
        exact q
    · obtain ⟨v, h1, e, v2, e2, q⟩ := q
      exact ⟨v, h1, e, v2, e2, h _ _ q⟩
theorem ok_swr {f : Addr} {fd : FuncData} (F : Fun K "sign_with_root" "sign_with_root" S_sign_with_root f fd) (T : Txt K mg) (C_sign : FnC P w K mg base CX0 1 "sign_of" ["number"] sp_sign) : FnOk P w K mg base CX0 2 f fd ["one", "times", "inner"] sp_swr := by
  refine F.ok SC_sign_with_root (fun vs H Q E h => ?_) (fun cdv A outer s H vs Q E hr h => ?_)
  · obtain ⟨a, b, c, rfl, _⟩ := h
    rfl
  · obtain ⟨a, b, c, rfl, ba, bb, bc, q⟩ := h
    refine ⟨_, (pss_cons (ps_par (i := 3) (j := 4) (by rfl) SC_sign_with_root.nd rfl rfl (by decide) rfl rfl (pa_cons (pe_callC C_sign (hr.mono (by decide)) rfl (pa_cons (pv 0) pa_nil)) (pa_cons (pe_op op_mulW (pe_callC C_sign (hr.mono (by decide)) rfl (pa_cons (pv 1) pa_nil)) (pe_callC C_sign (hr.mono (by decide)) rfl (pa_cons (pv 2) pa_nil))) pa_nil)) (by rfl))
      (pss_cons (ps_if (PW.pt (pw_or (pt_cmpR op_eq (pv 3) (pv 4) (nomark _)) (pw_or1 (pt_cmpR op_eq (pv 4) pe_int (nomark _))))) (pss_one (ps_ret (pv 3))) pss_nil)
      (pss_cons (ps_if (pt_cmpR op_eq (pv 3) pe_int (nomark _)) (pss_one (ps_ret (pv 4))) pss_nil)
      (pss_one (ps_ret (pe_op op_mulW (pv 3) (pe_callC C_sign (hr.mono (by decide)) rfl (pa_cons (pe_op op_sub (pe_op op_mulW (pv 0) (pv 0)) (pe_op op_mulW (pe_op op_mulW (pv 1) (pv 1)) (pv 2))) pa_nil)))))))), ?_⟩
    unfold swr at q
    walk_at "kw"
    refine ite2 (fun h => ?_) (fun h => ?_)
    · rw [if_pos (.inl (V.int.inj (of_decide_eq_true h)))] at q
      exact ⟨_, rfl, q⟩
    have n1 : ¬ sg a = sg b * sg c := fun e => h (decide_eq_true (congrArg V.int e))
    walk_at "kw"
    refine ite2 (fun h => ?_) (fun h => ?_)
    · rw [if_pos (.inr (V.int.inj (of_decide_eq_true h)))] at q
      exact ⟨_, rfl, q⟩
    have n2 : ¬ sg b * sg c = 0 := fun e => h (decide_eq_true (congrArg V.int e))
    rw [if_neg (fun z => z.elim n1 n2)] at q
    walk_at "kw"
    refine ite2 (fun h => ?_) (fun h => ?_)
    · rw [if_pos (V.int.inj (of_decide_eq_true h))] at q
      exact ⟨_, rfl, q⟩
    rw [if_neg (fun e => h (decide_eq_true (congrArg V.int e)))] at q
    walk_at "kw"
    exact q
theorem ok_low {f : Addr} {fd : FuncData} (F : Fun K "lowered" "lowered" S_lowered f fd) (T : Txt K mg) (C_com : FnC P w K mg base CX0 1 "common" ["one", "other"] sp_com) : FnOk P w K mg base CX0 2 f fd ["a", "b", "c", "side"] sp_low := by
  refine F.ok SC_lowered (fun vs H Q E h => ?_) (fun cdv A outer s H vs Q E hr h => ?_)
  · obtain ⟨a, b, c, s, rfl, _⟩ := h
    rfl
  · obtain ⟨a, b, c, s, rfl, a0, ba, bb, bc, q⟩ := h
    refine ⟨_, (pss_cons (ps_set (i := 4) SC_lowered.nd rfl (.inl rfl) (pe_callC C_com hr rfl (pa_cons (pe_callC C_com hr rfl (pa_cons (pv 0) (pa_cons (pv 1) pa_nil))) (pa_cons (pv 2) pa_nil))))
      (pss_mid (ps_if (pt_cmpR op_lt (pv 0) pe_int (nomark _)) (pss_one (ps_set (i := 4) SC_lowered.nd rfl (.inl rfl) (pe_op op_sub pe_int (pv 4)))) pss_nil)
      (pss_one (ps_ret (pe_tupN (pa_cons (pe_op op_fdivG (pv 0) (pv 4)) (pa_cons (pe_op op_fdivG (pv 1) (pv 4)) (pa_cons (pe_op op_fdivG (pv 2) (pv 4)) (pa_cons (pv 3) pa_nil))))))))), ?_⟩
    have f0 := lwf_ne (b := b) (c := c) a0
    have bf : Bd 801 (lwf a b c) := by
      have g := Bd.gcd (Bd.gcd ba bb) bc
      unfold lwf
      split
      · exact (Bd.sub (Bd.lit (i := 0) (by decide)) g).mono (by decide)
      · exact g.mono (by decide)


    walk_at "kw"
    refine ⟨fun σ' H' => H' = H ∧ σ' = [some (.int a), some (.int b), some (.int c), some (.int s), some (.int (lwf a b c))], ?_, fun σ1 H1 z => ?_⟩
    · walk_at "kw"
      refine ite2 (fun h => ?_) (fun h => ?_)
      · have h' : a < 0 := of_decide_eq_true h
        walk_at "kw"
        exact ⟨rfl, by unfold lwf; rw [if_pos h']; rfl⟩
      · have h' : ¬ a < 0 := fun e => h (decide_eq_true e)
        exact ⟨rfl, by unfold lwf; rw [if_neg h']; rfl⟩
    obtain ⟨rfl, rfl⟩ := z
    walk_at "kw"
    exact q
theorem ok_inner {f : Addr} {fd : FuncData} (F : Fun K "inner_of" "inner_of" S_inner_of f fd) (T : Txt K mg) : FnOk P w K mg base CX0 1 f fd ["root"] (sp_inner K) := by
  refine F.ok SC_inner_of (fun vs H Q E h => ?_) (fun cdv A outer s H vs Q E hr h => ?_)
  · obtain ⟨p, a, b, c, s, rfl, _⟩ := h
    rfl
  · obtain ⟨p, a, b, c, s, rfl, hp, ba, bb, bc, q⟩ := h
    have W := (Ho.start H).call (Same.refl H) hp
    refine ⟨_, (pss_one (ps_ret (pe_op op_sub (pe_op op_mulW (pe_ix ix_tup (pv 0) pe_int (fun _ _ => rfl)) (pe_ix ix_tup (pv 0) pe_int (fun _ _ => rfl))) (pe_op op_mulW (pe_op op_mulW pe_int (pe_ix ix_tup (pv 0) pe_int (fun _ _ => rfl))) (pe_ix ix_tup (pv 0) pe_int (fun _ _ => rfl)))))), ?_⟩
    walk_at "kw"
    exact q
end

/-! ## edges -/
namespace Ed
structure EdgT (K : PySem.W.Frag) (mg : Str → Option Value) (C : Addr) : Prop where
  ins : C8.InsC K C
  n1 : NoAttr K C "place"
  n2 : NoAttr K C "numbers"
  mgC : mg "Edge" = some (.ref C)
  nf : PySem.W.notFirst K C (.ref C) = true
  ne : PySem.W.findIn K (.ref C) "__ne__" = some (some (.builtin "object.__ne__"))
  so : PySem.W.subIn K (.ref C) (.type "object") = some true
theorem EdgT.cl {K : PySem.W.Frag} {mg : Str → Option Value} {C : Addr} (T : EdgT K mg C) : Cls K C := T.ins.cl
theorem EdgT.ty {K : PySem.W.Frag} {mg : Str → Option Value} {C : Addr} (T : EdgT K mg C) {H : Hp} {p dx : Addr} {fs : List (Str × V)} (h : H p = some (.ins C dx fs)) : TyX K H (.ref p) (.ref C) := .base (.ins h T.ins.cl T.ins.ha T.ins.hn T.ins.htk T.ins.hm)
theorem n_pn : ¬ (("place" : Str) = "numbers") := by decide +kernel
def ef (p n : V) : List (Str × V) := putF "numbers" n (putF "place" p [])
def ef' (p n : V) : List (Str × V) := putF "numbers" n (putF "numbers" .non (putF "place" p []))
theorem ef1 (p n : V) : (ef p n).lookup ("place" : Str) = some p := by unfold ef; rw [lookup_putF, if_neg n_pn, lookup_putF, if_pos rfl]
theorem ef2 (p n : V) : (ef p n).lookup ("numbers" : Str) = some n := by unfold ef; rw [lookup_putF, if_pos rfl]
theorem ef1' (p n : V) : (ef' p n).lookup ("place" : Str) = some p := by unfold ef'; rw [lookup_putF, if_neg n_pn, lookup_putF, if_neg n_pn, lookup_putF, if_pos rfl]
theorem ef2' (p n : V) : (ef' p n).lookup ("numbers" : Str) = some n := by unfold ef'; rw [lookup_putF, if_pos rfl]
/-- the numbers of a place with a root -/
def nmr (a b c s : Int) : List Int := [0 - b, s, b * b - 4 * a * c, 2 * a]
def EdgeAt (CE : Addr) (H : Hp) (e : Addr) : List Int → Prop
  | [a, b] => ∃ (dx t : Addr) (fs : List (Str × V)), H e = some (.ins CE dx fs) ∧ fs.lookup ("place" : Str) = some (.ref t) ∧ fs.lookup ("numbers" : Str) = some .non ∧ H t = some (.tup [.int a, .int b])
  | [a, b, c, s] => ∃ (dx t m : Addr) (fs : List (Str × V)), H e = some (.ins CE dx fs) ∧ fs.lookup ("place" : Str) = some (.ref t) ∧ fs.lookup ("numbers" : Str) = some (.ref m) ∧ H t = some (.tup [.int a, .int b, .int c, .int s]) ∧ H m = some (.tup ((nmr a b c s).map V.int))
  | _ => False
theorem EdgeAt.at {CE : Addr} {H : Hp} {e : Addr} {pl : List Int} (h : EdgeAt CE H e pl) : ∃ (dx t : Addr) (fs : List (Str × V)), H e = some (.ins CE dx fs) ∧ fs.lookup ("place" : Str) = some (.ref t) ∧ H t = some (.tup (pl.map V.int)) := by
  unfold EdgeAt at h
  split at h
  · obtain ⟨dx, t, fs, h1, h2, _, h3⟩ := h
    exact ⟨dx, t, fs, h1, h2, h3⟩
  · obtain ⟨dx, t, m, fs, h1, h2, _, h3, _⟩ := h
    exact ⟨dx, t, fs, h1, h2, h3⟩
  · exact h.elim
theorem EdgeAt.same {CE : Addr} {H H' : Hp} {e : Addr} {pl : List Int} (h : EdgeAt CE H e pl) (s : Same H H') : EdgeAt CE H' e pl := by
  unfold EdgeAt at h ⊢
  split at h
  · obtain ⟨dx, t, fs, h1, h2, h2', h3⟩ := h
    exact ⟨dx, t, fs, s _ _ h1, h2, h2', s _ _ h3⟩
  · obtain ⟨dx, t, m, fs, h1, h2, h2', h3, h4⟩ := h
    exact ⟨dx, t, m, fs, s _ _ h1, h2, h2', s _ _ h3, s _ _ h4⟩
  · exact h.elim
/-- what an edge needs to stand in another heap: its box is none of its objects -/
theorem EdgeAt.keep {CE B : Addr} {H H' : Hp} {e : Addr} {pl : List Int} (h : EdgeAt CE H e pl) (hb : BoxAt H B) (k : Keep B H H') : EdgeAt CE H' e pl := by
  obtain ⟨c, sd, n, hB, _⟩ := hb
  have ne1 : ∀ {a C dx : Addr} {fs : List (Str × V)}, H a = some (.ins C dx fs) → H' a = some (.ins C dx fs) := fun {a C dx fs} q => k a _ (fun e => by rw [e, hB] at q; cases q) q
  have ne2 : ∀ {a : Addr} {xs : List V}, H a = some (.tup xs) → H' a = some (.tup xs) := fun {a xs} q => k a _ (fun e => by rw [e, hB] at q; cases q) q
  unfold EdgeAt at h ⊢
  split at h
  · obtain ⟨dx, t, fs, h1, h2, h2', h3⟩ := h
    exact ⟨dx, t, fs, ne1 h1, h2, h2', ne2 h3⟩
  · obtain ⟨dx, t, m, fs, h1, h2, h2', h3, h4⟩ := h
    exact ⟨dx, t, m, fs, ne1 h1, h2, h2', ne2 h3, ne2 h4⟩
  · exact h.elim
def plOk (pl : List Int) : Prop := (∃ a b, pl = [a, b]) ∨ (∃ a b c s, pl = [a, b, c, s] ∧ Bd 800 a ∧ Bd 800 b ∧ Bd 800 c)
def sp_einit (CE : Addr) : Sp := fun vs H Q _ => ∃ (x dx t : Addr) (pl : List Int), vs = [.ref x, .ref t] ∧ H x = some (.ins CE dx []) ∧ H t = some (.tup (pl.map V.int)) ∧ plOk pl ∧ ∀ H', (∀ a o, a ≠ x → H a = some o → H' a = some o) → EdgeAt CE H' x pl → Q .non H'
def sp_ecm (CE : Addr) (pl : List Int) : Sp := fun vs H Q _ => vs = [.ref CE] ∧ ∀ r H', H r = none → Same H H' → EdgeAt CE H' r pl → Q (.ref r) H'
def sp_eof (C CE : Addr) : Sp := fun vs H Q _ => ∃ (p : Addr) (a b : Int), vs = [.ref CE, .ref p] ∧ RatAt C H p a b ∧ ∀ r H', H r = none → Same H H' → EdgeAt CE H' r [a, b] → Q (.ref r) H'
def sp_eratio (C CE : Addr) : Sp := fun vs H Q _ => ∃ (e : Addr) (pl : List Int), vs = [.ref e] ∧ EdgeAt CE H e pl ∧
  (∀ a b, pl = [a, b] → a ≠ 0 → b ≠ 0 → 1 ≤ a ∧ 1 ≤ b ∧ Bd 1000 a ∧ Bd 1000 b ∧ ∀ r H', H r = none → Same H H' → RatAt C H' r (a / (Int.gcd a b : Nat)) (b / (Int.gcd a b : Nat)) → Q (.ref r) H') ∧
  ((∀ a b, pl = [a, b] → a = 0 ∨ b = 0) → ∀ H', Same H H' → Q .non H')
def sp_eparts2 (CE : Addr) : Sp := fun vs H Q _ => ∃ (e : Addr) (a b : Int), vs = [.ref e] ∧ EdgeAt CE H e [a, b] ∧ Q .non H
def sp_eeq (CE : Addr) : Sp := fun vs H Q _ => ∃ (e g : Addr) (pl pl' : List Int), vs = [.ref e, .ref g] ∧ EdgeAt CE H e pl ∧ EdgeAt CE H g pl' ∧ Q (.bl (decide (pl = pl'))) H
theorem dpIs {K : PySem.W.Frag} {H : Hp} {p : Addr} {ns : List Int} (h : H p = some (.tup (ns.map V.int))) : Dp K H (.ref p) (.tuple (ns.map PyData.int)) := .tup (SqT.of h) (by
  clear h
  induction ns with
  | nil => exact .nil
  | cons n ns ih => exact .cons (.int n) ih)
theorem canIs : ∀ ns : List Int, PyData.canLayAll0 (ns.map PyData.int) = true
  | [] => rfl
  | n :: ns => by
    show ((PyData.int n).canLay0 && PyData.canLayAll0 (ns.map PyData.int)) = true
    rw [canIs ns]; rfl
theorem depIs : ∀ ns : List Int, PyData.depthAll (ns.map PyData.int) = 0
  | [] => rfl
  | n :: ns => by
    show max 0 (PyData.depthAll (ns.map PyData.int)) = 0
    rw [depIs ns]; rfl
theorem shIs (ns : List Int) : SeqAt.shaped (.tuple (ns.map PyData.int)) = true := by
  show (PyData.canLayAll0 (ns.map PyData.int) && decide (PyData.depthAll (ns.map PyData.int) + 1 ≤ 64)) = true
  rw [canIs, depIs]; rfl
theorem eqvIs : ∀ (xs ys : List Int), PyData.eqvAll (xs.map PyData.int) (ys.map PyData.int) = decide (xs = ys)
  | [], [] => rfl
  | [], _ :: _ => rfl
  | _ :: _, [] => rfl
  | x :: xs, y :: ys => by
    show (PyData.eqv (.int x) (.int y) && PyData.eqvAll (xs.map PyData.int) (ys.map PyData.int)) = _
    rw [eqvIs xs ys, Bool.eq_iff_iff]
    simp [PyData.eqv]
theorem eqvT (xs ys : List Int) : PyData.eqv (.tuple (xs.map PyData.int)) (.tuple (ys.map PyData.int)) = decide (xs = ys) := by
  rw [← eqvIs]; rfl
theorem mk_edge {H : Hp} {CE t : Addr} {pl : List Int} {R : Hp → Prop} {E : XK} (ht : H t = some (.tup (pl.map V.int))) (ok : plOk pl) {x dx : Addr} (hx : H x = none) (hdx : H dx = none) (hne : dx ≠ x) (k : ∀ H', Same H H' → EdgeAt CE H' x pl → R H') :
    sp_einit CE (.ref x :: [.ref t]) (upd (upd H dx (.own x)) x (.ins CE dx [])) (fun v H2 => v = .non ∧ R H2) E := by
  have sm : Same H (upd (upd H dx (.own x)) x (.ins CE dx [])) := (sm_new hdx).trans (sm_new (by rw [upd_ne (Ne.symm hne)]; exact hx))
  exact ⟨x, dx, t, pl, rfl, upd_same, sm _ _ ht, ok, fun H' k' h' => ⟨rfl, k H' (fun a o e => k' a o (ne_of_none e hx) (sm a o e)) h'⟩⟩
end Ed
open Ed
section
variable {P : Program} {w : World} {K : PySem.W.Frag} {mg : Str → Option Value} {base : Heap}
theorem ok_einit {f CE : Addr} {fd : FuncData} (F : Fun K "__init__" "Edge.__init__" S_Edge__init_ f fd) (T : Txt K mg) (Re : EdgT K mg CE) (C_inner : FnC P w K mg base CX0 1 "inner_of" ["root"] (sp_inner K)) : FnOk P w K mg base (L2.CX P w) 2 f fd ["self", "place"] (sp_einit CE) := by
  refine F.okX SC_Edge__init_ (fun vs H Q E h => ?_) (fun cdv A outer s H vs Q E hr h => ?_)
  · obtain ⟨x, dx, t, pl, rfl, _⟩ := h
    rfl
  · obtain ⟨x, dx, t, pl, rfl, hx, ht, ok, k⟩ := h
    refine ⟨_, (pss_cons (ps_fld (pv 0) (pv 1) rfl)
      (pss_cons (ps_fld (pv 0) pe_non rfl)
      (pss_one (ps_if (pt_cmpR op_eq (pe_callB call_len_seq (by rfl) T.b_len (by decide +kernel) (pa_cons (pv 1) pa_nil)) pe_int (nomark _)) (pss_one (ps_fld (pv 0) (pe_tupN (pa_cons (pe_op op_sub pe_int (pe_ix ix_tup (pv 1) pe_int (fun _ _ => rfl))) (pa_cons (pe_ix ix_tup (pv 1) pe_int (fun _ _ => rfl)) (pa_cons (pe_callC C_inner (hr.mono (by decide)) rfl (pa_cons (pv 1) pa_nil)) (pa_cons (pe_op op_mul pe_int (pe_ix ix_tup (pv 1) pe_int (fun _ _ => rfl))) pa_nil))))) rfl)) pss_nil)))), ?_⟩
    have ne : t ≠ x := fun e => by rw [e, hx] at ht; cases ht
    walk_at "kb"
    refine ⟨x, CE, dx, _, rfl, hx, Re.ins.cl, Re.n1, by show 0 < 1000; decide, ?_⟩
    walk_at "kb"
    refine ⟨x, CE, dx, _, rfl, upd_same, Re.ins.cl, Re.n2, by show 1 < 1000; decide, ?_⟩
    have ht' : ∀ o1 o2, (upd (upd H x o1) x o2) t = some (.tup (pl.map V.int)) := fun o1 o2 => by rw [upd_ne ne, upd_ne ne]; exact ht
    have kpx : ∀ o1 o2 a o, a ≠ x → H a = some o → (upd (upd H x o1) x o2) a = some o := fun o1 o2 a o n e => by rw [upd_ne n, upd_ne n]; exact e
    refine ⟨_, rfl, t, pl.map V.int, rfl, .inr (SqT.of (ht' _ _)), ?_⟩
    walk_at "kb"
    rcases ok with ⟨a, b, rfl⟩ | ⟨a, b, c, sd, rfl, ba, bb, bc⟩
    · refine ifF rfl ?_
      exact k _ (kpx _ _) ⟨dx, t, _, upd_same, ef1 _ _, ef2 _ _, ht' _ _⟩
    · refine ifT rfl ?_
      have W := (Ho.start (upd (upd H x (.ins CE dx (putF "place" (.ref t) []))) x (.ins CE dx (putF "numbers" .non (putF "place" (.ref t) []))))).call (Same.refl _) (ht' _ _)
      have W2 := W.add (p := x) upd_same
      clear W
      walk_at "kw"
      refine ⟨t, a, b, c, sd, rfl, W2.get (o := .tup [.int a, .int b, .int c, .int sd]) (.tail _ (.head _)), ba, bb, bc, ?_⟩
      walk_at "kw"
      rename_i m H3 f3 W3
      refine ⟨x, CE, dx, _, rfl, W3.get (.tail _ (.head _)), Re.ins.cl, Re.n2, by show 2 < 1000; decide, ?_⟩
      have xm : x ≠ m := fun e => by
        have h1 := W3.get (.head _)
        have h2 := W3.get (.tail _ (.head _))
        rw [← e, h2] at h1
        cases h1
      refine k _ (fun a o n e => by rw [upd_ne n]; exact W3.sm _ _ (kpx _ _ a o n e)) ⟨dx, t, m, _, upd_same, ef1' _ _, ef2' _ _, ?_, ?_⟩
      · rw [upd_ne ne]
        exact W3.get (.tail _ (.tail _ (.head _)))
      · rw [upd_ne (Ne.symm xm)]
        exact W3.get (.head _)
theorem ok_eof {f C CE : Addr} {fd : FuncData} (F : Fun K "of" "Edge.of" S_Edge_of f fd) (T : Txt K mg) (R : RatT K mg C) (C_edgeX : MkC P w K mg base (L2.CX P w) 2 CE "Edge" ["self", "place"] (sp_einit CE)) : FnOk P w K mg base (L2.CX P w) 4 f fd ["cls", "ratio"] (sp_eof C CE) := by
  refine F.okX SC_Edge_of (fun vs H Q E h => ?_) (fun cdv A outer s H vs Q E hr h => ?_)
  · obtain ⟨p, a, b, rfl, _⟩ := h
    rfl
  · obtain ⟨p, a, b, rfl, ⟨dp, hp⟩, k⟩ := h
    refine ⟨_, (pss_one (ps_ret (pe_makeL (i := 0) C_edgeX (hr.mono (by decide)) (takes_of rfl rfl rfl rfl) rfl (.inl rfl) (pa_cons (pe_tupN (pa_cons (pe_fld (pv 1) rfl) (pa_cons (pe_fld (pv 1) rfl) pa_nil))) pa_nil)))), ?_⟩
    refine ⟨rfl, _, rfl, p, C, dp, _, _, rfl, hp, R.ins.cl, R.n1, rf1 _ _, _, rfl, p, C, dp, _, _, rfl, hp, R.ins.cl, R.n2, rf2 _ _, by show 2 ≤ 1000000; decide, fun t H1 ht s1 ht1 => ?_⟩
    exact fun x dx hx hdx hne => mk_edge (pl := [a, b]) ht1 (.inl ⟨_, _, rfl⟩) hx hdx hne fun H' s' h' => k x H' (s1.free hx) (s1.trans s') h'
theorem ok_eeq {f CE : Addr} {fd : FuncData} (F : Fun K "__eq__" "Edge.__eq__" S_Edge__eq_ f fd) (T : Txt K mg) (Re : EdgT K mg CE) : FnOk P w K mg base CX0 1 f fd ["self", "other"] (sp_eeq CE) := by
  refine F.ok SC_Edge__eq_ (fun vs H Q E h => ?_) (fun cdv A outer s H vs Q E hr h => ?_)
  · obtain ⟨e, g, pl, pl', rfl, _⟩ := h
    rfl
  · obtain ⟨e, g, pl, pl', rfl, he, hg, k⟩ := h
    obtain ⟨dx, t, fs, h1, h2, h3⟩ := he.at
    obtain ⟨dy, t', fs', g1, g2, g3⟩ := hg.at
    refine ⟨_, (pss_one (ps_ret (pe_and (pe_callB call_isi (by rfl) T.b_isinstance (by decide +kernel) (pa_cons (pv 1) (pa_cons (pe_glob (v := .ref CE) (by rfl) Re.mgC rfl) pa_nil))) (pe_one (pe_cmpR (op_eqD hr.units) (pe_fld (pv 0) rfl) (pe_fld (pv 1) rfl) (nomark _)))))), ?_⟩
    refine ⟨_, rfl, .ref g, _, .ref CE, _, true, rfl, .own CE, Re.ty g1, Re.ins.me, _, rfl, ifT rfl ?_⟩
    refine ⟨_, rfl, e, CE, dx, _, _, rfl, h1, Re.ins.cl, Re.n1, h2, _, rfl, g, CE, dy, _, _, rfl, g1, Re.ins.cl, Re.n1, g2, ?_⟩
    refine ⟨_, _, dpIs h3, dpIs g3, shIs _, shIs _, ?_⟩
    rw [eqvT]
    exact k
end

local macro_rules | `(tactic| walk_at "flk") => `(tactic| first | assumption)
local macro_rules | `(tactic| walk_at "cls") => `(tactic| first | exact EdgT.cl (by assumption))
local macro_rules | `(tactic| walk_at "noat") => `(tactic| first | exact EdgT.n1 (by assumption) | exact EdgT.n2 (by assumption))

namespace Mc
/-! ## machines that read words: tables -/
abbrev Rw := Bool × Nat × Nat
abbrev Tab := List Rw
def rowAt (t : Tab) (i : Nat) : Rw := (t[i]?).getD (false, 0, 0)
def nx (t : Tab) (i : Nat) (b : Bool) : Nat := if b then (rowAt t i).2.2 else (rowAt t i).2.1
def isn (t : Tab) (i : Nat) : Bool := (rowAt t i).1
def go (t : Tab) (i : Nat) (u : List Bool) : Nat := u.foldl (nx t) i
def acc (t : Tab) (i : Nat) (u : List Bool) : Bool := isn t (go t i u)
structure Wf (t : Tab) : Prop where
  ne : 0 < t.length
  nx : ∀ i b, i < t.length → nx t i b < t.length
theorem rowAt_of {t : Tab} {i : Nat} {r : Rw} (h : t[i]? = some r) : rowAt t i = r := by unfold rowAt; rw [h]; rfl
theorem nx_l {t : Tab} {i : Nat} {r : Rw} (h : t[i]? = some r) : nx t i false = r.2.1 := by unfold nx; rw [rowAt_of h]; rfl
theorem nx_r {t : Tab} {i : Nat} {r : Rw} (h : t[i]? = some r) : nx t i true = r.2.2 := by unfold nx; rw [rowAt_of h]; rfl
theorem isn_of {t : Tab} {i : Nat} {r : Rw} (h : t[i]? = some r) : isn t i = r.1 := by unfold isn; rw [rowAt_of h]
theorem go_cons (t : Tab) (i : Nat) (b : Bool) (u : List Bool) : go t i (b :: u) = go t (nx t i b) u := rfl
theorem acc_cons (t : Tab) (i : Nat) (b : Bool) (u : List Bool) : acc t i (b :: u) = acc t (nx t i b) u := rfl
theorem acc_nil (t : Tab) (i : Nat) : acc t i [] = isn t i := rfl
theorem go_app (t : Tab) (i : Nat) (u v : List Bool) : go t i (u ++ v) = go t (go t i u) v := List.foldl_append
theorem acc_app (t : Tab) (i : Nat) (u v : List Bool) : acc t i (u ++ v) = acc t (go t i u) v := by unfold acc; rw [go_app]
theorem Wf.go {t : Tab} (h : Wf t) : ∀ (u : List Bool) (i : Nat), i < t.length → go t i u < t.length
  | [], _, hi => hi
  | b :: u, i, hi => h.go u _ (h.nx i b hi)
/-! ### rows that tell the same of all words of at most so many letters -/
def Eqk (t : Tab) (k i j : Nat) : Prop := ∀ u : List Bool, u.length ≤ k → acc t i u = acc t j u
def Eqv (t : Tab) (i j : Nat) : Prop := ∀ u : List Bool, acc t i u = acc t j u
theorem eqk_succ {t : Tab} {k i j : Nat} : Eqk t (k + 1) i j ↔ Eqk t k i j ∧ ∀ b, Eqk t k (nx t i b) (nx t j b) := by
  constructor
  · exact fun h => ⟨fun u hu => h u (by omega), fun b u hu => h (b :: u) (by rw [List.length_cons]; omega)⟩
  · intro h u hu
    cases u with
    | nil => exact h.1 [] (Nat.zero_le _)
    | cons b u => exact h.2 b u (by rw [List.length_cons] at hu; omega)
theorem eqk_zero {t : Tab} {i j : Nat} : Eqk t 0 i j ↔ isn t i = isn t j :=
  ⟨fun h => h [] (Nat.le_refl _), fun h u hu => by cases u with
    | nil => exact h
    | cons b u => rw [List.length_cons] at hu; omega⟩
theorem eqk_stable {t : Tab} (w : Wf t) {k : Nat} (h : ∀ i j, i < t.length → j < t.length → Eqk t k i j → Eqk t (k + 1) i j) {i j : Nat} (hi : i < t.length) (hj : j < t.length) (e : Eqk t k i j) : Eqv t i j := by
  have all : ∀ m i j, i < t.length → j < t.length → Eqk t k i j → Eqk t (k + m) i j := by
    intro m
    induction m with
    | zero => exact fun _ _ _ _ e => e
    | succ m ih =>
      intro i j hi hj e
      have e1 := h i j hi hj e
      have e2 := eqk_succ.mp e1
      exact eqk_succ.mpr ⟨ih i j hi hj e, fun b => ih _ _ (w.nx i b hi) (w.nx j b hj) (e2.2 b)⟩
  exact fun u => all u.length i j hi hj e u (by omega)
/-- labels that part rows as words of at most k letters do -/
structure Good (t : Tab) (k : Nat) (c : List Nat) : Prop where
  len : c.length = t.length
  iff : ∀ i j x y, c[i]? = some x → c[j]? = some y → (x = y ↔ Eqk t k i j)
structure Cls (t : Tab) (c : List Nat) : Prop where
  len : c.length = t.length
  iff : ∀ i j x y, c[i]? = some x → c[j]? = some y → (x = y ↔ Eqv t i j)
structure Onto (c : List Nat) (m : Nat) : Prop where
  lt : ∀ x ∈ c, x < m
  all : ∀ a, a < m → a ∈ c
theorem at_lt {α : Type} {xs : List α} {i : Nat} (h : i < xs.length) : ∃ x, xs[i]? = some x := ⟨_, List.getElem?_eq_getElem h⟩
theorem lt_at {α : Type} {xs : List α} {i : Nat} {x : α} (h : xs[i]? = some x) : i < xs.length := (List.getElem?_eq_some_iff.mp h).1
theorem nodup_at {α : Type} {xs : List α} (h : xs.Nodup) {i j : Nat} {x : α} (hi : xs[i]? = some x) (hj : xs[j]? = some x) : i = j := by
  exact (List.getElem?_inj (lt_at hi) h).mp (hi.trans hj.symm)
/-- as many or more labels where they part more -/
theorem onto_le {c d : List Nat} {m n : Nat} (hc : Onto c m) (hd : Onto d n) (hl : c.length = d.length) (ref : ∀ (i j : Nat) (x y : Nat), d[i]? = some x → d[j]? = some x → c[i]? = some y → c[j]? = some y) :
    m ≤ n ∧ (m = n → ∀ (i j x y : Nat), c[i]? = some y → c[j]? = some y → d[i]? = some x → d[j]? = some x) := by
  have rep : ∀ a, a < n → ∃ i y : Nat, d[i]? = some a ∧ c[i]? = some y ∧ y < m := fun a ha => by
    obtain ⟨i, hi⟩ := List.mem_iff_getElem?.mp (hd.all a ha)
    obtain ⟨y, hy⟩ := at_lt (xs := c) (show i < c.length by rw [hl]; exact lt_at hi)
    exact ⟨i, y, hi, hy, hc.lt y (List.mem_iff_getElem?.mpr ⟨i, hy⟩)⟩
  have ex : ∃ f : Nat → Nat, ∀ a, a < n → f a < m ∧ ∃ i : Nat, d[i]? = some a ∧ c[i]? = some (f a) := by
    refine ⟨fun a => if h : a < n then (rep a h).choose_spec.choose else 0, fun a ha => ?_⟩
    have s := (rep a ha).choose_spec.choose_spec
    show (dite _ _ _) < m ∧ ∃ i : Nat, d[i]? = some a ∧ c[i]? = some (dite _ _ _)
    rw [dif_pos ha]
    exact ⟨s.2.2, _, s.1, s.2.1⟩
  obtain ⟨f, hf⟩ := ex
  have fd : ∀ (i x y : Nat), d[i]? = some x → c[i]? = some y → y = f x := fun i x y hi hy => by
    have hx := hd.lt x (List.mem_iff_getElem?.mpr ⟨i, hi⟩)
    obtain ⟨j, h1, h2⟩ := (hf x hx).2
    have := ref i j x y hi h1 hy
    rw [h2] at this
    exact (Option.some.inj this).symm
  have sub : List.range m ⊆ (List.range n).map f := fun y hy => by
    obtain ⟨i, hi⟩ := List.mem_iff_getElem?.mp (hc.all y (List.mem_range.mp hy))
    obtain ⟨x, hx⟩ := at_lt (xs := d) (show i < d.length by rw [← hl]; exact lt_at hi)
    refine List.mem_map.mpr ⟨x, List.mem_range.mpr (hd.lt x (List.mem_iff_getElem?.mpr ⟨i, hx⟩)), (fd i x y hx hi).symm⟩
  have le := List.nodup_range.length_le_of_subset sub
  rw [List.length_map, List.length_range, List.length_range] at le
  refine ⟨le, fun e i j x y hi hj hx => ?_⟩
  obtain ⟨z, hz⟩ := at_lt (xs := d) (show j < d.length by rw [← hl]; exact lt_at hj)
  have e1 := fd i x y hx hi
  have e2 := fd j z y hz hj
  by_cases c1 : x = z
  · rw [c1]; exact hz
  · exfalso
    have hx' := hd.lt x (List.mem_iff_getElem?.mpr ⟨i, hx⟩)
    have hz' := hd.lt z (List.mem_iff_getElem?.mpr ⟨j, hz⟩)
    have sub2 : List.range m ⊆ ((List.range n).erase x).map f := fun y hy => by
      obtain ⟨a, ha, e⟩ := List.mem_map.mp (sub hy)
      by_cases c2 : a = x
      · refine List.mem_map.mpr ⟨z, (List.mem_erase_of_ne (fun q => c1 q.symm)).mpr (List.mem_range.mpr hz'), ?_⟩
        rw [← e, c2, ← e1, ← e2]
      · exact List.mem_map.mpr ⟨a, (List.mem_erase_of_ne c2).mpr ha, e⟩
    have le2 := List.nodup_range.length_le_of_subset sub2
    rw [List.length_map, List.length_erase_of_mem (List.mem_range.mpr hx'), List.length_range, List.length_range] at le2
    omega
/-! ### the least table -/
def flat (t : Tab) : List Nat := (t.map fun r => [r.2.1, r.2.2]).flatten
/-- rows are met in the order of their numbers: n so far -/
inductive Ord : List Nat → Nat → Prop
  | nil : Ord [] 1
  | old {l n x} : Ord l n → l.length < 2 * n → x < n → Ord (l ++ [x]) n
  | new {l n} : Ord l n → l.length < 2 * n → Ord (l ++ [n]) (n + 1)
structure Least (t : Tab) : Prop where
  wf : Wf t
  dist : ∀ i j, i < t.length → j < t.length → Eqv t i j → i = j
  ord : Ord (flat t) t.length
theorem flat_len (t : Tab) : (flat t).length = 2 * t.length := by
  unfold flat
  induction t with
  | nil => rfl
  | cons r t ih => simp only [List.map_cons, List.flatten_cons, List.length_append, List.length_cons, List.length_nil] at *; omega
theorem flat_app (s t : Tab) : flat (s ++ t) = flat s ++ flat t := by unfold flat; rw [List.map_append, List.flatten_append]
theorem flat_at : ∀ (t : Tab) (i : Nat) (b : Bool), i < t.length → (flat t)[2 * i + (if b then 1 else 0)]? = some (nx t i b)
  | r :: t, 0, b, _ => by cases b <;> rfl
  | r :: t, i + 1, b, h => by
    have := flat_at t i b (by rw [List.length_cons] at h; omega)
    have e : flat (r :: t) = r.2.1 :: r.2.2 :: flat t := rfl
    rw [e, show 2 * (i + 1) + (if b then 1 else 0) = (2 * i + (if b then 1 else 0)) + 1 + 1 by omega, List.getElem?_cons_succ, List.getElem?_cons_succ, this]
    rfl
/-- each beginning of the list is in order, too -/
theorem Ord.prefix {l : List Nat} {n : Nat} (h : Ord l n) : ∀ p, p < l.length → ∃ m x, Ord (l.take p) m ∧ p < 2 * m ∧ l[p]? = some x ∧ x ≤ m ∧ m ≤ n ∧ Ord (l.take (p + 1)) (if x = m then m + 1 else m) := by
  induction h with
  | nil => intro p hp; cases hp
  | @old l n x o hl hx ih =>
    intro p hp
    rw [List.length_append, List.length_singleton] at hp
    by_cases c : p < l.length
    · obtain ⟨m, y, h1, h2, h3, h4, h5, h6⟩ := ih p c
      refine ⟨m, y, ?_, h2, ?_, h4, h5, ?_⟩
      · rw [List.take_append_of_le_length (by omega)]; exact h1
      · rw [List.getElem?_append_left c]; exact h3
      · rw [List.take_append_of_le_length (by omega)]; exact h6
    · have e : p = l.length := by omega
      subst e
      refine ⟨n, x, ?_, hl, by simp, by omega, Nat.le_refl _, ?_⟩
      · rw [List.take_left]; exact o
      · rw [if_neg (by omega), List.take_of_length_le (by simp)]; exact o.old hl hx
  | @new l n o hl ih =>
    intro p hp
    rw [List.length_append, List.length_singleton] at hp
    by_cases c : p < l.length
    · obtain ⟨m, y, h1, h2, h3, h4, h5, h6⟩ := ih p c
      refine ⟨m, y, ?_, h2, ?_, h4, by omega, ?_⟩
      · rw [List.take_append_of_le_length (by omega)]; exact h1
      · rw [List.getElem?_append_left c]; exact h3
      · rw [List.take_append_of_le_length (by omega)]; exact h6
    · have e : p = l.length := by omega
      subst e
      refine ⟨n, n, ?_, hl, by simp, Nat.le_refl _, by omega, ?_⟩
      · rw [List.take_left]; exact o
      · rw [if_pos rfl, List.take_of_length_le (by simp)]; exact o.new hl
theorem Ord.one {l : List Nat} {n m : Nat} (h : Ord l n) (h' : Ord l m) : n = m := by
  have key : ∀ {l n}, Ord l n → n = l.foldl (fun a x => if x = a then a + 1 else a) 1 := by
    intro l n h
    induction h with
    | nil => rfl
    | old o _ hx ih => rw [List.foldl_append, ← ih]; show _ = if _ then _ else _; rw [if_neg (by omega)]
    | new o _ ih => rw [List.foldl_append, ← ih]; show _ = if _ then _ else _; rw [if_pos rfl]
  rw [key h, key h']
theorem Ord.pos {l : List Nat} {n : Nat} (h : Ord l n) : 1 ≤ n := by
  induction h with
  | nil => exact Nat.le_refl _
  | old _ _ _ ih => exact ih
  | new _ _ ih => omega
theorem tab_ext {s t : Tab} (hl : s.length = t.length) (h1 : ∀ i, i < s.length → isn s i = isn t i) (h2 : ∀ i b, i < s.length → nx s i b = nx t i b) : s = t := by
  refine List.ext_getElem? fun i => ?_
  by_cases c : i < s.length
  · obtain ⟨r, hr⟩ := at_lt c
    obtain ⟨q, hq⟩ := at_lt (hl ▸ c)
    have a1 := h1 i c
    have a2 := h2 i false c
    have a3 := h2 i true c
    rw [isn_of hr, isn_of hq] at a1
    rw [nx_l hr, nx_l hq] at a2
    rw [nx_r hr, nx_r hq] at a3
    obtain ⟨r1, r2, r3⟩ := r
    obtain ⟨q1, q2, q3⟩ := q
    simp only at a1 a2 a3
    subst a1; subst a2; subst a3
    rw [hr, hq]
  · rw [List.getElem?_eq_none (by omega), List.getElem?_eq_none (by omega)]
theorem Least.take {s t : Tab} (hs : Least s) (ht : Least t) (e : ∀ u, acc s 0 u = acc t 0 u) : ∀ p, p ≤ (flat s).length → p ≤ (flat t).length ∧ (flat s).take p = (flat t).take p ∧ ∃ m, Ord ((flat s).take p) m ∧ ∀ i, i < m → i < s.length ∧ i < t.length ∧ ∀ u, acc s i u = acc t i u := by
  intro p
  induction p with
  | zero =>
    intro _
    refine ⟨Nat.zero_le _, rfl, 1, .nil, fun i hi => ?_⟩
    have : i = 0 := by omega
    subst this
    exact ⟨hs.wf.ne, ht.wf.ne, e⟩
  | succ p ih =>
    intro hp
    obtain ⟨g1, g2, m, g3, g4⟩ := ih (by omega)
    obtain ⟨m', x, o1, o2, o3, o4, o5, o6⟩ := hs.ord.prefix p (by omega)
    have em := o1.one g3
    subst em
    have dv := Nat.div_add_mod p 2
    have md := Nat.mod_lt p (show 0 < 2 by omega)
    obtain ⟨b, hb⟩ : ∃ b : Bool, p = 2 * (p / 2) + (if b then 1 else 0) := by
      by_cases c : p % 2 = 0
      · exact ⟨false, by simp; omega⟩
      · exact ⟨true, by simp; omega⟩
    obtain ⟨js, jt, je⟩ := g4 (p / 2) (by omega)
    have pt : p < (flat t).length := by rw [flat_len]; omega
    obtain ⟨m2, y, q1, q2, q3, q4, q5, q6⟩ := ht.ord.prefix p pt
    have em := (g2 ▸ q1 : Ord ((flat s).take p) m2).one g3
    subst em
    have ex : x = nx s (p / 2) b := by
      have := flat_at s (p / 2) b js
      rw [← hb, o3] at this
      exact Option.some.inj this
    have ey : y = nx t (p / 2) b := by
      have := flat_at t (p / 2) b jt
      rw [← hb, q3] at this
      exact Option.some.inj this
    have xs : x < s.length := ex ▸ hs.wf.nx _ b js
    have yt : y < t.length := ey ▸ ht.wf.nx _ b jt
    have exy : ∀ u, acc s x u = acc t y u := fun u => by rw [ex, ey]; exact je (b :: u)
    have xy : x = y := by
      by_cases c1 : x < m2
      · obtain ⟨_, xt, xe⟩ := g4 x c1
        exact ht.dist x y xt yt fun u => by rw [← xe, exy]
      · by_cases c2 : y < m2
        · obtain ⟨ys, _, ye⟩ := g4 y c2
          exact hs.dist x y xs ys fun u => by rw [exy, ye]
        · omega
    subst xy
    refine ⟨pt, ?_, _, o6, fun i hi => ?_⟩
    · rw [List.take_add_one, List.take_add_one, g2, o3, q3]
    · by_cases c : i < m2
      · exact g4 i c
      · have : i = x := by
          by_cases c3 : x = m2
          · rw [if_pos c3] at hi; omega
          · rw [if_neg c3] at hi; omega
        subst this
        exact ⟨xs, yt, exy⟩
theorem Least.unique {s t : Tab} (hs : Least s) (ht : Least t) (e : ∀ u, acc s 0 u = acc t 0 u) : s = t := by
  have a := hs.take ht e (flat s).length (Nat.le_refl _)
  have b := ht.take hs (fun u => (e u).symm) (flat t).length (Nat.le_refl _)
  have hl : s.length = t.length := by
    have h1 := a.1
    have h2 := b.1
    rw [flat_len, flat_len] at h1 h2
    omega
  obtain ⟨_, fe, m, om, h⟩ := a
  rw [List.take_of_length_le (Nat.le_refl _)] at om fe
  rw [List.take_of_length_le (by rw [flat_len, flat_len]; omega)] at fe
  have em := om.one hs.ord
  subst em
  refine tab_ext hl (fun i hi => ?_) fun i b hi => ?_
  · exact (h i hi).2.2 []
  · have h1 := flat_at s i b hi
    have h2 := flat_at t i b (hl ▸ hi)
    rw [fe, h2] at h1
    exact (Option.some.inj h1).symm
/-! ### the numbering of keys -/
structure Num {κ : Type} (ks dd : List κ) (la : List Nat) : Prop where
  nd : dd.Nodup
  len : la.length = ks.length
  at_ : ∀ (i : Nat) (k : κ), ks[i]? = some k → ∃ x : Nat, la[i]? = some x ∧ dd[x]? = some k
  all : ∀ a, a < dd.length → a ∈ la
theorem Num.nil {κ : Type} : Num ([] : List κ) [] [] := ⟨List.nodup_nil, rfl, fun i k h => (nomatch h), fun a h => (nomatch h)⟩
theorem Num.old {κ : Type} {ks dd : List κ} {la : List Nat} (h : Num ks dd la) {k : κ} {x : Nat} (hx : dd[x]? = some k) : Num (ks ++ [k]) dd (la ++ [x]) := by
  refine ⟨h.nd, by simp [h.len], fun i k' hi => ?_, fun a ha => List.mem_append_left _ (h.all a ha)⟩
  by_cases c : i < ks.length
  · rw [List.getElem?_append_left c] at hi
    obtain ⟨y, h1, h2⟩ := h.at_ i k' hi
    exact ⟨y, by rw [List.getElem?_append_left (lt_at h1)]; exact h1, h2⟩
  · have hl := lt_at hi
    rw [List.length_append, List.length_singleton] at hl
    have e : i = ks.length := by omega
    subst e
    rw [List.getElem?_concat_length] at hi
    cases hi
    exact ⟨x, by rw [← h.len, List.getElem?_concat_length], hx⟩
theorem Num.new {κ : Type} {ks dd : List κ} {la : List Nat} (h : Num ks dd la) {k : κ} (hk : ∀ y ∈ dd, y ≠ k) : Num (ks ++ [k]) (dd ++ [k]) (la ++ [dd.length]) := by
  refine ⟨?_, by simp [h.len], fun i k' hi => ?_, fun a ha => ?_⟩
  · rw [List.nodup_append]
    exact ⟨h.nd, by simp, fun x hx y hy => by cases List.mem_singleton.mp hy; exact hk x hx⟩
  · by_cases c : i < ks.length
    · rw [List.getElem?_append_left c] at hi
      obtain ⟨y, h1, h2⟩ := h.at_ i k' hi
      exact ⟨y, by rw [List.getElem?_append_left (lt_at h1)]; exact h1, by rw [List.getElem?_append_left (lt_at h2)]; exact h2⟩
    · have hl := lt_at hi
      rw [List.length_append, List.length_singleton] at hl
      have e : i = ks.length := by omega
      subst e
      rw [List.getElem?_concat_length] at hi
      cases hi
      exact ⟨dd.length, by rw [← h.len, List.getElem?_concat_length], List.getElem?_concat_length⟩
  · rw [List.length_append, List.length_singleton] at ha
    by_cases c : a < dd.length
    · exact List.mem_append_left _ (h.all a c)
    · have : a = dd.length := by omega
      subst this
      exact List.mem_append_right _ (List.mem_singleton.mpr rfl)
theorem Num.onto {κ : Type} {ks dd : List κ} {la : List Nat} (h : Num ks dd la) : Onto la dd.length := by
  refine ⟨fun x hx => ?_, h.all⟩
  obtain ⟨i, hi⟩ := List.mem_iff_getElem?.mp hx
  obtain ⟨k, hk⟩ := at_lt (xs := ks) (show i < ks.length by rw [← h.len]; exact lt_at hi)
  obtain ⟨y, h1, h2⟩ := h.at_ i k hk
  rw [hi] at h1
  cases h1
  exact lt_at h2
theorem Num.iff {κ : Type} {ks dd : List κ} {la : List Nat} (h : Num ks dd la) {i j x y : Nat} {k l : κ} (hx : la[i]? = some x) (hy : la[j]? = some y) (hk : ks[i]? = some k) (hl : ks[j]? = some l) : x = y ↔ k = l := by
  obtain ⟨x', a1, a2⟩ := h.at_ i k hk
  obtain ⟨y', b1, b2⟩ := h.at_ j l hl
  rw [hx] at a1
  rw [hy] at b1
  cases a1; cases b1
  constructor
  · intro e
    subst e
    rw [a2] at b2
    exact Option.some.inj b2
  · intro e
    subst e
    exact nodup_at h.nd a2 b2
theorem Num.le {κ : Type} {ks dd : List κ} {la : List Nat} (h : Num ks dd la) : dd.length ≤ ks.length := by
  have : List.range dd.length ⊆ la := fun a ha => h.all a (List.mem_range.mp ha)
  have := List.nodup_range.length_le_of_subset this
  rw [List.length_range, h.len] at this
  exact this
/-- the key of a row in one turn -/
def keyOf (t : Tab) (c : List Nat) (i : Nat) : Nat × Nat × Nat := ((c[i]?).getD 0, (c[nx t i false]?).getD 0, (c[nx t i true]?).getD 0)
theorem keys_at (t : Tab) (c : List Nat) {i : Nat} (h : i < t.length) : ((List.range t.length).map (keyOf t c))[i]? = some (keyOf t c i) := by
  rw [List.getElem?_map, List.getElem?_range h]; rfl
theorem getD_at {c : List Nat} {i x : Nat} (h : c[i]? = some x) : (c[i]?).getD 0 = x := by rw [h]; rfl
theorem Good.keys {t : Tab} {c : List Nat} {k : Nat} (w : Wf t) (g : Good t k c) {i j : Nat} (hi : i < t.length) (hj : j < t.length) : keyOf t c i = keyOf t c j ↔ Eqk t (k + 1) i j := by
  have one : ∀ i j, i < t.length → j < t.length → ((c[i]?).getD 0 = (c[j]?).getD 0 ↔ Eqk t k i j) := fun i j hi hj => by
    obtain ⟨x, hx⟩ := at_lt (xs := c) (g.len.symm ▸ hi)
    obtain ⟨y, hy⟩ := at_lt (xs := c) (g.len.symm ▸ hj)
    rw [getD_at hx, getD_at hy]
    exact g.iff i j x y hx hy
  rw [eqk_succ]
  unfold keyOf
  rw [Prod.mk.injEq, Prod.mk.injEq, one i j hi hj, one _ _ (w.nx i false hi) (w.nx j false hj), one _ _ (w.nx i true hi) (w.nx j true hj)]
  constructor
  · exact fun h => ⟨h.1, fun b => match b with | false => h.2.1 | true => h.2.2⟩
  · exact fun h => ⟨h.1, h.2 false, h.2 true⟩
theorem Good.step {t : Tab} {c la : List Nat} {dd : List (Nat × Nat × Nat)} {k : Nat} (w : Wf t) (g : Good t k c) (n : Num ((List.range t.length).map (keyOf t c)) dd la) : Good t (k + 1) la := by
  have hl : la.length = t.length := by rw [n.len, List.length_map, List.length_range]
  refine ⟨hl, fun i j x y hx hy => ?_⟩
  have hi : i < t.length := by rw [← hl]; exact lt_at hx
  have hj : j < t.length := by rw [← hl]; exact lt_at hy
  rw [n.iff hx hy (keys_at t c hi) (keys_at t c hj)]
  exact g.keys w hi hj
theorem Good.zero {t : Tab} {c : List Nat} (h : c = t.map fun r => if r.1 then 1 else 0) : Good t 0 c := by
  subst h
  refine ⟨List.length_map _, fun i j x y hx hy => ?_⟩
  rw [List.getElem?_map] at hx hy
  obtain ⟨r, hr, e⟩ := Option.map_eq_some_iff.mp hx
  obtain ⟨q, hq, e2⟩ := Option.map_eq_some_iff.mp hy
  rw [eqk_zero, isn_of hr, isn_of hq, ← e, ← e2]
  cases r.1 <;> cases q.1 <;> simp
/-- one turn of the numbering: more classes, or the classes that stay -/
theorem Good.turn {t : Tab} {c la : List Nat} {dd : List (Nat × Nat × Nat)} {k m : Nat} (w : Wf t) (g : Good t k c) (o : Onto c m) (n : Num ((List.range t.length).map (keyOf t c)) dd la) : m ≤ dd.length ∧ (m = dd.length → Cls t la) := by
  have g2 := g.step w n
  have key := onto_le o n.onto (by rw [g.len, g2.len]) fun i j x y hi hj hy => by
    have h1 : i < t.length := by rw [← g2.len]; exact lt_at hi
    have h2 : j < t.length := by rw [← g2.len]; exact lt_at hj
    have e := (eqk_succ.mp ((g2.iff i j x x hi hj).mp rfl)).1
    obtain ⟨z, hz⟩ := at_lt (xs := c) (g.len.symm ▸ h2)
    rw [(g.iff i j y z hy hz).mpr e]; exact hz
  refine ⟨key.1, fun e => ?_⟩
  have st : ∀ i j, i < t.length → j < t.length → Eqk t k i j → Eqk t (k + 1) i j := fun i j hi hj h => by
    obtain ⟨y, hy⟩ := at_lt (xs := c) (g.len.symm ▸ hi)
    obtain ⟨z, hz⟩ := at_lt (xs := c) (g.len.symm ▸ hj)
    obtain ⟨x, hx⟩ := at_lt (xs := la) (g2.len.symm ▸ hi)
    have e1 := (g.iff i j y z hy hz).mpr h
    subst e1
    exact (g2.iff i j x x hx (key.2 e i j x y hy hz hx)).mp rfl
  refine ⟨g2.len, fun i j x y hx hy => ?_⟩
  rw [g2.iff i j x y hx hy]
  have hi : i < t.length := by rw [← g2.len]; exact lt_at hx
  have hj : j < t.length := by rw [← g2.len]; exact lt_at hy
  exact ⟨fun h => eqk_stable w st hi hj (eqk_succ.mp h).1, fun h u _ => h u⟩
/-! ### the rows of the least table, as they are met -/
def cl (c : List Nat) (i : Nat) : Nat := (c[i]?).getD 0
theorem Cls.eqv {t : Tab} {c : List Nat} (h : Cls t c) {i j : Nat} (hi : i < t.length) (hj : j < t.length) : cl c i = cl c j ↔ Eqv t i j := by
  obtain ⟨x, hx⟩ := at_lt (xs := c) (h.len.symm ▸ hi)
  obtain ⟨y, hy⟩ := at_lt (xs := c) (h.len.symm ▸ hj)
  unfold cl
  rw [getD_at hx, getD_at hy]
  exact h.iff i j x y hx hy
structure Lt (t : Tab) (c order : List Nat) (found : Tab) : Prop where
  one : order[0]? = some 0
  lt : ∀ x ∈ order, x < t.length
  nd : (order.map (cl c)).Nodup
  le : found.length ≤ order.length
  row : ∀ (j i : Nat), j < found.length → order[j]? = some i → isn found j = isn t i ∧ ∀ b, ∃ i', order[nx found j b]? = some i' ∧ cl c i' = cl c (nx t i b)
  ord : Ord (flat found) order.length
theorem Lt.start {t : Tab} {c : List Nat} (w : Wf t) : Lt t c [0] [] := ⟨rfl, fun x h => (List.mem_singleton.mp h) ▸ w.ne, by simp, Nat.zero_le _, fun j i h => (nomatch h), .nil⟩
/-- a row is looked up, or laid -/
structure Put (c order : List Nat) (x : Nat) (order' : List Nat) (a : Nat) : Prop where
  at_ : ∃ i, order'[a]? = some i ∧ cl c i = cl c x
  or_ : (order' = order ∧ a < order.length) ∨ (order' = order ++ [x] ∧ a = order.length ∧ ∀ y ∈ order, cl c y ≠ cl c x)
theorem Put.old {c order : List Nat} {x a i : Nat} (h : order[a]? = some i) (e : cl c i = cl c x) : Put c order x order a := ⟨⟨i, h, e⟩, .inl ⟨rfl, lt_at h⟩⟩
theorem Put.new {c order : List Nat} {x : Nat} (h : ∀ y ∈ order, cl c y ≠ cl c x) : Put c order x (order ++ [x]) order.length := ⟨⟨x, List.getElem?_concat_length, rfl⟩, .inr ⟨rfl, rfl, h⟩⟩
theorem Put.pre {c order order' : List Nat} {x a : Nat} (p : Put c order x order' a) {j i : Nat} (h : order[j]? = some i) : order'[j]? = some i := by
  rcases p.or_ with ⟨e, _⟩ | ⟨e, _, _⟩
  · rw [e]; exact h
  · rw [e, List.getElem?_append_left (lt_at h)]; exact h
theorem Put.nd {c order order' : List Nat} {x a : Nat} (p : Put c order x order' a) (h : (order.map (cl c)).Nodup) : (order'.map (cl c)).Nodup := by
  rcases p.or_ with ⟨e, _⟩ | ⟨e, _, n⟩
  · rw [e]; exact h
  · rw [e, List.map_append, List.nodup_append]
    refine ⟨h, by simp, fun y hy z hz => ?_⟩
    obtain ⟨i, hi, e1⟩ := List.mem_map.mp hy
    cases List.mem_singleton.mp hz
    rw [← e1]; exact n i hi
theorem Put.lt {c order order' : List Nat} {x a n : Nat} (p : Put c order x order' a) (h : ∀ y ∈ order, y < n) (hx : x < n) : ∀ y ∈ order', y < n := by
  rcases p.or_ with ⟨e, _⟩ | ⟨e, _, _⟩
  · rw [e]; exact h
  · rw [e]
    intro y hy
    rcases List.mem_append.mp hy with q | q
    · exact h y q
    · cases List.mem_singleton.mp q; exact hx
theorem Put.len {c order order' : List Nat} {x a : Nat} (p : Put c order x order' a) : order.length ≤ order'.length := by
  rcases p.or_ with ⟨e, _⟩ | ⟨e, _, _⟩
  · rw [e]; exact Nat.le_refl _
  · rw [e, List.length_append]; omega
theorem Put.ord {c order order' : List Nat} {x a : Nat} (p : Put c order x order' a) {l : List Nat} (o : Ord l order.length) (h : l.length < 2 * order.length) : Ord (l ++ [a]) order'.length := by
  rcases p.or_ with ⟨e, h2⟩ | ⟨e, h2, _⟩
  · rw [e]; exact o.old h h2
  · rw [e, h2, List.length_append]; exact o.new h
theorem row_app_l {t : Tab} {r : Rw} {j : Nat} (h : j < t.length) : rowAt (t ++ [r]) j = rowAt t j := by unfold rowAt; rw [List.getElem?_append_left h]
theorem row_app_r {t : Tab} {r : Rw} : rowAt (t ++ [r]) t.length = r := by unfold rowAt; rw [List.getElem?_concat_length]; rfl
theorem Lt.step {t : Tab} {c order o1 o2 : List Nat} {found : Tab} {i a b : Nat} (w : Wf t) (h : Lt t c order found) (hi : order[found.length]? = some i) (p1 : Put c order (nx t i false) o1 a) (p2 : Put c o1 (nx t i true) o2 b) :
    Lt t c o2 (found ++ [(isn t i, a, b)]) := by
  have il : i < t.length := h.lt i (List.mem_iff_getElem?.mpr ⟨_, hi⟩)
  refine ⟨p2.pre (p1.pre h.one), p2.lt (p1.lt h.lt (w.nx i false il)) (w.nx i true il), p2.nd (p1.nd h.nd), ?_, fun j i' hj hi' => ?_, ?_⟩
  · have := p1.len
    have := p2.len
    have := lt_at hi
    simp
    omega
  · by_cases cj : j < found.length
    · obtain ⟨q, hq⟩ := at_lt (xs := order) (show j < order.length from Nat.lt_of_lt_of_le cj h.le)
      have e : i' = q := by
        have := p2.pre (p1.pre hq)
        rw [hi'] at this
        exact Option.some.inj this
      subst e
      have r := h.row j i' cj hq
      refine ⟨?_, fun b' => ?_⟩
      · rw [← r.1]; unfold isn; rw [row_app_l cj]
      · obtain ⟨k, h1, h2⟩ := r.2 b'
        refine ⟨k, ?_, h2⟩
        have : nx (found ++ [(isn t i, a, b)]) j b' = nx found j b' := by unfold nx; rw [row_app_l cj]
        rw [this]
        exact p2.pre (p1.pre h1)
    · have ej : j = found.length := by
        rw [List.length_append, List.length_singleton] at hj; omega
      subst ej
      have e : i' = i := by
        have := p2.pre (p1.pre hi)
        rw [hi'] at this
        exact Option.some.inj this
      subst e
      refine ⟨by unfold isn; rw [row_app_r], fun b' => ?_⟩
      have : nx (found ++ [(isn t i', a, b)]) found.length b' = if b' then b else a := by unfold nx; rw [row_app_r]
      rw [this]
      cases b'
      · obtain ⟨k, h1, h2⟩ := p1.at_
        exact ⟨k, p2.pre h1, h2⟩
      · exact p2.at_
  · have f : flat (found ++ [(isn t i, a, b)]) = flat found ++ [a] ++ [b] := by rw [flat_app, List.append_assoc]; rfl
    rw [f]
    have l1 := lt_at hi
    have l2 := p1.len
    refine p2.ord (p1.ord h.ord (by rw [flat_len]; omega)) ?_
    rw [List.length_append, flat_len]
    simp
    omega
theorem Lt.nodup {t : Tab} {c order : List Nat} {found : Tab} (h : Lt t c order found) : order.Nodup := (List.pairwise_map.mp h.nd).imp fun h e => h (congrArg _ e)
theorem Lt.len {t : Tab} {c order : List Nat} {found : Tab} (h : Lt t c order found) : order.length ≤ t.length := by
  have : order ⊆ List.range t.length := fun x hx => List.mem_range.mpr (h.lt x hx)
  have := h.nodup.length_le_of_subset this
  rwa [List.length_range] at this
theorem Lt.done {t : Tab} {c order : List Nat} {found : Tab} (w : Wf t) (cc : Cls t c) (h : Lt t c order found) (e : found.length = order.length) : Least found ∧ (∀ u, acc found 0 u = acc t 0 u) ∧ found.length ≤ t.length := by
  have nxl : ∀ j b, j < found.length → nx found j b < found.length := fun j b hj => by
    obtain ⟨i, hi⟩ := at_lt (xs := order) (e ▸ hj)
    obtain ⟨k, h1, _⟩ := (h.row j i hj hi).2 b
    rw [e]; exact lt_at h1
  have ac : ∀ (u : List Bool) (j i : Nat), j < found.length → order[j]? = some i → acc found j u = acc t i u := by
    intro u
    induction u with
    | nil => exact fun j i hj hi => (h.row j i hj hi).1
    | cons b u ih =>
      intro j i hj hi
      obtain ⟨k, h1, h2⟩ := (h.row j i hj hi).2 b
      have il : i < t.length := h.lt i (List.mem_iff_getElem?.mpr ⟨_, hi⟩)
      have kl : k < t.length := h.lt k (List.mem_iff_getElem?.mpr ⟨_, h1⟩)
      rw [acc_cons, acc_cons, ih _ k (nxl j b hj) h1]
      exact (cc.eqv kl (w.nx i b il)).mp h2 u
  have pos : 0 < found.length := by rw [e]; exact lt_at h.one
  refine ⟨⟨⟨pos, nxl⟩, fun i j hi hj q => ?_, e ▸ h.ord⟩, fun u => ac u 0 0 pos h.one, by rw [e]; exact h.len⟩
  obtain ⟨x, hx⟩ := at_lt (xs := order) (e ▸ hi)
  obtain ⟨y, hy⟩ := at_lt (xs := order) (e ▸ hj)
  have xl : x < t.length := h.lt x (List.mem_iff_getElem?.mpr ⟨_, hx⟩)
  have yl : y < t.length := h.lt y (List.mem_iff_getElem?.mpr ⟨_, hy⟩)
  have : cl c x = cl c y := (cc.eqv xl yl).mpr fun u => by rw [← ac u i x hi hx, ← ac u j y hj hy]; exact q u
  refine nodup_at h.nd (x := cl c x) ?_ ?_
  · rw [List.getElem?_map, hx]; rfl
  · rw [List.getElem?_map, hy, this]; rfl
/-! ### rows that are met from state to state -/
section
variable {S : Type}
structure Exp (stp : S → Bool → S) (out : S → Bool) (s0 : S) (order : List S) (rows : Tab) : Prop where
  one : order[0]? = some s0
  nd : order.Nodup
  le : rows.length ≤ order.length
  row : ∀ (j : Nat) (s : S), j < rows.length → order[j]? = some s → isn rows j = out s ∧ ∀ b, order[nx rows j b]? = some (stp s b)
structure PutS (order : List S) (x : S) (order' : List S) (a : Nat) : Prop where
  at_ : order'[a]? = some x
  or_ : (order' = order ∧ a < order.length) ∨ (order' = order ++ [x] ∧ a = order.length ∧ ∀ y ∈ order, y ≠ x)
theorem PutS.old {order : List S} {x : S} {a : Nat} (h : order[a]? = some x) : PutS order x order a := ⟨h, .inl ⟨rfl, lt_at h⟩⟩
theorem PutS.new {order : List S} {x : S} (h : ∀ y ∈ order, y ≠ x) : PutS order x (order ++ [x]) order.length := ⟨List.getElem?_concat_length, .inr ⟨rfl, rfl, h⟩⟩
theorem PutS.pre {order order' : List S} {x : S} {a : Nat} (p : PutS order x order' a) {j : Nat} {i : S} (h : order[j]? = some i) : order'[j]? = some i := by
  rcases p.or_ with ⟨e, _⟩ | ⟨e, _, _⟩
  · rw [e]; exact h
  · rw [e, List.getElem?_append_left (lt_at h)]; exact h
theorem PutS.nd {order order' : List S} {x : S} {a : Nat} (p : PutS order x order' a) (h : order.Nodup) : order'.Nodup := by
  rcases p.or_ with ⟨e, _⟩ | ⟨e, _, n⟩
  · rw [e]; exact h
  · rw [e, List.nodup_append]
    refine ⟨h, by simp, fun y hy z hz => ?_⟩
    cases List.mem_singleton.mp hz
    exact n y hy
theorem PutS.len {order order' : List S} {x : S} {a : Nat} (p : PutS order x order' a) : order.length ≤ order'.length := by
  rcases p.or_ with ⟨e, _⟩ | ⟨e, _, _⟩
  · rw [e]; exact Nat.le_refl _
  · rw [e, List.length_append]; omega
theorem PutS.all {order order' : List S} {x : S} {a : Nat} {P : S → Prop} (p : PutS order x order' a) (h : ∀ y ∈ order, P y) (hx : P x) : ∀ y ∈ order', P y := by
  rcases p.or_ with ⟨e, _⟩ | ⟨e, _, _⟩
  · rw [e]; exact h
  · rw [e]
    intro y hy
    rcases List.mem_append.mp hy with q | q
    · exact h y q
    · cases List.mem_singleton.mp q; exact hx
variable {stp : S → Bool → S} {out : S → Bool} {s0 : S}
theorem Exp.start : Exp stp out s0 [s0] [] := ⟨rfl, by simp, Nat.zero_le _, fun j s h => nomatch h⟩
theorem Exp.step {order o1 o2 : List S} {rows : Tab} {i : S} {a b : Nat} (h : Exp stp out s0 order rows) (hi : order[rows.length]? = some i) (p1 : PutS order (stp i false) o1 a) (p2 : PutS o1 (stp i true) o2 b) : Exp stp out s0 o2 (rows ++ [(out i, a, b)]) := by
  refine ⟨p2.pre (p1.pre h.one), p2.nd (p1.nd h.nd), ?_, fun j s hj hs => ?_⟩
  · have := p1.len
    have := p2.len
    have := lt_at hi
    simp
    omega
  · by_cases cj : j < rows.length
    · obtain ⟨q, hq⟩ := at_lt (xs := order) (show j < order.length from Nat.lt_of_lt_of_le cj h.le)
      have e : s = q := by
        have := p2.pre (p1.pre hq)
        rw [hs] at this
        exact Option.some.inj this
      subst e
      have r := h.row j s cj hq
      refine ⟨?_, fun b' => ?_⟩
      · rw [← r.1]; unfold isn; rw [row_app_l cj]
      · have : nx (rows ++ [(out i, a, b)]) j b' = nx rows j b' := by unfold nx; rw [row_app_l cj]
        rw [this]
        exact p2.pre (p1.pre (r.2 b'))
    · have ej : j = rows.length := by
        rw [List.length_append, List.length_singleton] at hj; omega
      subst ej
      have e : s = i := by
        have := p2.pre (p1.pre hi)
        rw [hs] at this
        exact Option.some.inj this
      subst e
      refine ⟨by unfold isn; rw [row_app_r], fun b' => ?_⟩
      have : nx (rows ++ [(out s, a, b)]) rows.length b' = if b' then b else a := by unfold nx; rw [row_app_r]
      rw [this]
      cases b'
      · exact p2.pre p1.at_
      · exact p2.at_
theorem Exp.done {order : List S} {rows : Tab} (h : Exp stp out s0 order rows) (e : rows.length = order.length) : Wf rows ∧ ∀ u, acc rows 0 u = out (u.foldl stp s0) := by
  have nxl : ∀ j b, j < rows.length → nx rows j b < rows.length := fun j b hj => by
    obtain ⟨i, hi⟩ := at_lt (xs := order) (e ▸ hj)
    rw [e]; exact lt_at ((h.row j i hj hi).2 b)
  have ac : ∀ (u : List Bool) (j : Nat) (i : S), j < rows.length → order[j]? = some i → acc rows j u = out (u.foldl stp i) := by
    intro u
    induction u with
    | nil => exact fun j i hj hi => (h.row j i hj hi).1
    | cons b u ih =>
      intro j i hj hi
      rw [acc_cons, ih _ _ (nxl j b hj) ((h.row j i hj hi).2 b)]
      rfl
  have pos : 0 < rows.length := by rw [e]; exact lt_at h.one
  exact ⟨⟨pos, nxl⟩, fun u => ac u 0 s0 pos h.one⟩
end
end Mc
open Mc

/-! ## tables in the heap -/
namespace Mw
open Mc
def isMu : HO → Bool
  | .lst _ => true
  | .dK _ => true
  | .dT _ => true
  | .ext _ => true
  | _ => false
def isTF : HO → Bool
  | .tup _ => true
  | .frz _ _ => true
  | _ => false
/-- what is a tuple, what is no list and no dict, stays -/
def TT (H H' : Hp) : Prop := ∀ a o, isTF o = true → H a = some o → H' a = some o
def TK (H H' : Hp) : Prop := ∀ a o, isMu o = false → H a = some o → H' a = some o
theorem tf_mu {o : HO} (h : isTF o = true) : isMu o = false := by
  cases o with
  | tup _ => rfl
  | frz _ _ => rfl
  | _ => cases h
theorem TK.tt {H H' : Hp} (t : TK H H') : TT H H' := fun a o h e => t a o (tf_mu h) e
theorem TK.refl (H : Hp) : TK H H := fun _ _ _ h => h
theorem TK.trans {H H1 H2 : Hp} (x : TK H H1) (y : TK H1 H2) : TK H H2 := fun a o m h => y a o m (x a o m h)
theorem TK.same {H H' : Hp} (s : Same H H') : TK H H' := fun a o _ h => s a o h
theorem TK.upd {H : Hp} {p : Addr} {u o : HO} (h : H p = some u) (m : isMu u = true) : TK H (upd H p o) := fun a v n q => by
  have ne : a ≠ p := fun e => by
    subst e
    rw [h] at q; cases q
    rw [m] at n; cases n
  rw [upd_ne ne]; exact q
theorem TK.new {H : Hp} {p : Addr} {o : HO} (h : H p = none) : TK H (L2.upd H p o) := TK.same (sm_new h)
theorem TK.inD {H H' : Hp} {D : Addr} (h : H D = none) (k : ∀ b o, b ≠ D → H b = some o → H' b = some o) : TK H H' := fun a v _ q => k _ _ (ne_of_none q h) q
theorem TK.keep {b : Addr} {H H' : Hp} (hb : BoxAt H b) (s : Keep b H H') : TK H H' := fun a v n q => s a v (fun z => by
  obtain ⟨xs, hx⟩ := hb.lst
  rw [z, hx] at q
  cases q; cases n) q
theorem sqT_tt {K : PySem.W.Frag} {H H' : Hp} {a : Addr} {xs : List V} (t : TT H H') (h : SqT K H a xs) : SqT K H' a xs := h.elim (fun q => .inl (q.elim (fun q => .inl (t _ _ rfl q)) fun ⟨o, q⟩ => .inr ⟨o, t _ _ rfl q⟩)) .inr
theorem sqT_tk {K : PySem.W.Frag} {H H' : Hp} {a : Addr} {xs : List V} (t : TK H H') (h : SqT K H a xs) : SqT K H' a xs := sqT_tt t.tt h
def RowAt (K : PySem.W.Frag) (H : Hp) (v : V) (r : Rw) : Prop := ∃ q f : Addr, v = .ref q ∧ SqT K H q [.bl r.1, .ref f] ∧ SqT K H f [.int (r.2.1 : Nat), .int (r.2.2 : Nat)]
def RowsAt (K : PySem.W.Frag) (H : Hp) (xs : List V) (t : Tab) : Prop := xs.length = t.length ∧ ∀ (i : Nat) (v : V) (r : Rw), xs[i]? = some v → t[i]? = some r → RowAt K H v r
def TabAt (K : PySem.W.Frag) (H : Hp) (p : Addr) (t : Tab) : Prop := ∃ xs, SqT K H p xs ∧ RowsAt K H xs t
theorem RowAt.tt {K : PySem.W.Frag} {H H' : Hp} {v : V} {r : Rw} (t : TT H H') (h : RowAt K H v r) : RowAt K H' v r :=
  let ⟨q, f, e, h1, h2⟩ := h
  ⟨q, f, e, sqT_tt t h1, sqT_tt t h2⟩
theorem RowsAt.tt {K : PySem.W.Frag} {H H' : Hp} {xs : List V} {r : Tab} (t : TT H H') (h : RowsAt K H xs r) : RowsAt K H' xs r := ⟨h.1, fun i v q h1 h2 => (h.2 i v q h1 h2).tt t⟩
theorem TabAt.tt {K : PySem.W.Frag} {H H' : Hp} {p : Addr} {r : Tab} (t : TT H H') (h : TabAt K H p r) : TabAt K H' p r :=
  let ⟨xs, h1, h2⟩ := h
  ⟨xs, sqT_tt t h1, h2.tt t⟩
theorem RowsAt.tk {K : PySem.W.Frag} {H H' : Hp} {xs : List V} {r : Tab} (t : TK H H') (h : RowsAt K H xs r) : RowsAt K H' xs r := h.tt t.tt
theorem TabAt.tk {K : PySem.W.Frag} {H H' : Hp} {p : Addr} {r : Tab} (t : TK H H') (h : TabAt K H p r) : TabAt K H' p r := h.tt t.tt
theorem RowsAt.get {K : PySem.W.Frag} {H : Hp} {xs : List V} {t : Tab} {i : Nat} (h : RowsAt K H xs t) (hi : i < t.length) : ∃ q f : Addr, xs[i]? = some (.ref q) ∧ SqT K H q [.bl (isn t i), .ref f] ∧ SqT K H f [.int (nx t i false : Nat), .int (nx t i true : Nat)] := by
  obtain ⟨r, hr⟩ := at_lt hi
  obtain ⟨v, hv⟩ := at_lt (h.1.symm ▸ hi)
  obtain ⟨q, f, e, h1, h2⟩ := h.2 i v r hv hr
  subst e
  rw [isn_of hr, nx_l hr, nx_r hr]
  exact ⟨q, f, hv, h1, h2⟩
theorem RowsAt.nil {K : PySem.W.Frag} {H : Hp} : RowsAt K H [] [] := ⟨rfl, fun i v r h => (nomatch h)⟩
theorem RowsAt.snoc {K : PySem.W.Frag} {H : Hp} {xs : List V} {t : Tab} {v : V} {r : Rw} (h : RowsAt K H xs t) (q : RowAt K H v r) : RowsAt K H (xs ++ [v]) (t ++ [r]) := by
  refine ⟨by simp [h.1], fun i v' r' h1 h2 => ?_⟩
  by_cases c : i < xs.length
  · rw [List.getElem?_append_left c] at h1
    rw [List.getElem?_append_left (h.1 ▸ c)] at h2
    exact h.2 i v' r' h1 h2
  · have l1 := lt_at h1
    rw [List.length_append, List.length_singleton] at l1
    have e : i = xs.length := by omega
    subst e
    rw [List.getElem?_concat_length] at h1
    rw [h.1, List.getElem?_concat_length] at h2
    cases h1; cases h2
    exact q
/-! ### objects of one's own, all apart -/
structure Hd (H0 H : Hp) (L : List (Addr × HO)) : Prop where
  sm : Same H0 H
  nd : (L.map (·.1)).Nodup
  at_ : ∀ x ∈ L, H0 x.1 = none ∧ H x.1 = some x.2
section
variable {H0 H H' : Hp} {L : List (Addr × HO)} {p : Addr} {o u : HO}
theorem Hd.start (H : Hp) : Hd H H [] := ⟨Same.refl H, List.nodup_nil, fun _ h => (nomatch h)⟩
theorem Hd.get (w : Hd H0 H L) (h : (p, o) ∈ L) : H p = some o := (w.at_ _ h).2
theorem Hd.fr (w : Hd H0 H L) (h : (p, o) ∈ L) : H0 p = none := (w.at_ _ h).1
theorem Hd.call (w : Hd H0 H L) (s : Same H H') : Hd H0 H' L := ⟨w.sm.trans s, w.nd, fun x h => ⟨(w.at_ x h).1, s _ _ (w.at_ x h).2⟩⟩
theorem free_of {H H' : Hp} (s : Same H H') (h : H' p = none) : H p = none := by
  cases e : H p with
  | none => rfl
  | some o => rw [s _ _ e] at h; cases h
theorem Hd.got (w : Hd H0 H L) (n : H p = none) (s : Same H H') (h : H' p = some o) : Hd H0 H' ((p, o) :: L) := by
  refine ⟨w.sm.trans s, List.nodup_cons.mpr ⟨fun m => ?_, w.nd⟩, fun x hx => ?_⟩
  · obtain ⟨x, hx, e⟩ := List.mem_map.mp m
    have := (w.at_ x hx).2
    rw [show x.1 = p from e, n] at this
    cases this
  · rcases List.mem_cons.mp hx with rfl | hx
    · exact ⟨free_of w.sm n, h⟩
    · exact ⟨(w.at_ x hx).1, s _ _ (w.at_ x hx).2⟩
theorem Hd.new (w : Hd H0 H L) (n : H p = none) (o : HO) : Hd H0 (upd H p o) ((p, o) :: L) := w.got n (sm_new n) upd_same
theorem Hd.nw {Q : VK} (w : Hd H0 H L) (k : ∀ p H', H0 p = none → H p = none → Same H H' → Hd H0 H' ((p, o) :: L) → Q (.ref p) H') : New H o Q := fun p H' hn s h => k p H' (free_of w.sm hn) hn s (w.got hn s h)
theorem map_set_fst : ∀ (L : List (Addr × HO)) (i : Nat) (x : Addr × HO), L[i]?.map (·.1) = some x.1 → (L.set i x).map (·.1) = L.map (·.1)
  | [], _, _, h => by cases h
  | y :: L, 0, x, h => by
    have : y.1 = x.1 := Option.some.inj h
    show x.1 :: L.map (·.1) = y.1 :: L.map (·.1)
    rw [this]
  | y :: L, i + 1, x, h => by
    show y.1 :: (L.set i x).map (·.1) = y.1 :: L.map (·.1)
    rw [map_set_fst L i x h]
theorem Hd.set (w : Hd H0 H L) (i : Nat) (h : L[i]? = some (p, u)) (o : HO) : Hd H0 (upd H p o) (L.set i (p, o)) := by
  have hm : (p, u) ∈ L := List.mem_iff_getElem?.mpr ⟨i, h⟩
  have n0 := (w.at_ _ hm).1
  refine ⟨fun a v e => by rw [upd_ne (ne_of_none e n0)]; exact w.sm a v e, ?_, fun x hx => ?_⟩
  · rw [map_set_fst L i (p, o) (by rw [h]; rfl)]; exact w.nd
  · obtain ⟨j, hj⟩ := List.mem_iff_getElem?.mp hx
    by_cases c : i = j
    · subst c
      rw [List.getElem?_set_self (lt_at h)] at hj
      cases hj
      exact ⟨n0, upd_same⟩
    · rw [List.getElem?_set_ne c] at hj
      have hx' := w.at_ x (List.mem_iff_getElem?.mpr ⟨j, hj⟩)
      refine ⟨hx'.1, ?_⟩
      have ne : x.1 ≠ p := fun e => c (by
        have h1 : (L.map (·.1))[i]? = some p := by rw [List.getElem?_map, h]; rfl
        have h2 : (L.map (·.1))[j]? = some p := by rw [List.getElem?_map, hj, ← e]; rfl
        exact nodup_at w.nd h1 h2)
      rw [upd_ne ne]; exact hx'.2
theorem Hd.sub {L' : List (Addr × HO)} (w : Hd H0 H L) (h : L'.Sublist L) : Hd H0 H L' := ⟨w.sm, (h.map _).nodup w.nd, fun x hx => w.at_ x (h.subset hx)⟩
theorem Hd.tl {x : Addr × HO} (w : Hd H0 H (x :: L)) : Hd H0 H L := w.sub (List.sublist_cons_self _ _)
/-- within a list being made at D, one of one's own -/
theorem Hd.inD {D : Addr} (w : Hd H0 H L) (h : H D = none) (k : ∀ b o, b ≠ D → H b = some o → H' b = some o) : Hd H0 H' L :=
  ⟨fun a o e => k a o (ne_of_none (w.sm a o e) h) (w.sm a o e), w.nd, fun x hx => ⟨(w.at_ x hx).1, k _ _ (ne_of_none (w.at_ x hx).2 h) (w.at_ x hx).2⟩⟩
theorem Hd.tk (w : Hd H0 H L) : TK H0 H := TK.same w.sm
end
/-! ### a dict that numbers keys -/
def numd {κ : Type} (ks : List κ) : List (κ × V) := ks.zipIdx.map fun x => (x.1, V.int (x.2 : Nat))
theorem numd_len {κ : Type} (ks : List κ) : (numd ks).length = ks.length := by simp [numd]
theorem numd_snoc {κ : Type} (ks : List κ) (k : κ) : numd (ks ++ [k]) = numd ks ++ [(k, V.int (ks.length : Nat))] := by simp [numd, List.zipIdx_append]
theorem numd_cases {κ : Type} [DecidableEq κ] (k : κ) : ∀ ks : List κ, (valV (numd ks) k = none ∧ ∀ y ∈ ks, y ≠ k) ∨ ∃ i : Nat, ks[i]? = some k ∧ valV (numd ks) k = some (.int (i : Nat)) := by
  intro ks
  have gen : ∀ (ks : List κ) (n : Nat), (valV ((ks.zipIdx n).map fun x => (x.1, V.int (x.2 : Nat))) k = none ∧ ∀ y ∈ ks, y ≠ k) ∨ ∃ i : Nat, ks[i]? = some k ∧ valV ((ks.zipIdx n).map fun x => (x.1, V.int (x.2 : Nat))) k = some (.int ((n + i : Nat) : Nat)) := by
    intro ks
    induction ks with
    | nil => exact fun n => .inl ⟨valV_nil, fun y h => (nomatch h)⟩
    | cons y ys ih =>
      intro n
      rw [List.zipIdx_cons, List.map_cons]
      by_cases c : y = k
      · exact .inr ⟨0, by rw [c]; rfl, valV_pos c⟩
      · rw [valV_neg (p := (y, V.int (n : Nat))) c]
        rcases ih (n + 1) with ⟨h1, h2⟩ | ⟨i, h1, h2⟩
        · exact .inl ⟨h1, fun z hz => by
            rcases List.mem_cons.mp hz with rfl | hz
            · exact c
            · exact h2 z hz⟩
        · exact .inr ⟨i + 1, by rw [List.getElem?_cons_succ]; exact h1, by rw [h2, show n + 1 + i = n + (i + 1) by omega]⟩
  have := gen ks 0
  simp only [Nat.zero_add] at this
  exact this
theorem numd_put {κ : Type} [DecidableEq κ] {ks : List κ} {k : κ} (h : valV (numd ks) k = none) : putK (numd ks) k (.int (ks.length : Nat)) = numd (ks ++ [k]) := by rw [putK_new _ h, numd_snoc]
theorem numd_at {κ : Type} [DecidableEq κ] {ks : List κ} (nd : ks.Nodup) {i : Nat} {k : κ} (h : ks[i]? = some k) : valV (numd ks) k = some (.int (i : Nat)) := by
  rcases numd_cases k ks with ⟨_, hne⟩ | ⟨j, e1, e2⟩
  · exact absurd rfl (hne k (List.mem_iff_getElem?.mpr ⟨i, h⟩))
  · rw [e2, nodup_at nd e1 h]
def kI (n : Nat) : L2.Key := .inl (n : Int)
theorem kI_inj {a b : Nat} (h : kI a = kI b) : a = b := by
  have := Sum.inl.inj h
  omega
def kcs (c order : List Nat) : List L2.Key := order.map fun x => kI (cl c x)
theorem kcs_nd {c order : List Nat} (h : (order.map (cl c)).Nodup) : (kcs c order).Nodup := by
  have e : kcs c order = (order.map (cl c)).map kI := by rw [List.map_map]; rfl
  rw [e]
  exact List.pairwise_map.mpr (h.imp fun ne q => ne (kI_inj q))
theorem kcs_at {c order : List Nat} {a i x : Nat} (h : order[a]? = some i) (e : cl c i = cl c x) : (kcs c order)[a]? = some (kI (cl c x)) := by
  unfold kcs
  rw [List.getElem?_map, h, ← e]; rfl
theorem kcs_len (c order : List Nat) : (kcs c order).length = order.length := by simp [kcs]
theorem kcs_snoc (c order : List Nat) (x : Nat) : kcs c (order ++ [x]) = kcs c order ++ [kI (cl c x)] := by simp [kcs]
def k3 (x : Nat × Nat × Nat) : List L2.Key := [kI x.1, kI x.2.1, kI x.2.2]
theorem k3_inj {a b : Nat × Nat × Nat} (h : k3 a = k3 b) : a = b := by
  obtain ⟨a1, a2, a3⟩ := a
  obtain ⟨b1, b2, b3⟩ := b
  simp only [k3, List.cons.injEq] at h
  rw [kI_inj h.1, kI_inj h.2.1, kI_inj h.2.2.1]
theorem gTup2_mono (K : PySem.W.Frag) (i j : Nat) : ∀ (x : V) (σ : L2.St) (H : Hp) (Q Q' : L2.St → Hp → Prop), (∀ σ2 H2, Q σ2 H2 → Q' σ2 H2) → gTup K 2 (gCons (gName i) (gCons (gName j) gNil)) x σ H Q → gTup K 2 (gCons (gName i) (gCons (gName j) gNil)) x σ H Q' :=
  fun x σ H Q Q' h ⟨a, xs, e, s, l, v, r, e1, v2, r2, e2, e3, q⟩ => ⟨a, xs, e, s, l, v, r, e1, v2, r2, e2, e3, h _ _ q⟩
theorem sqL_inD {K : PySem.W.Frag} {H H' : Hp} {D a : Addr} {xs : List V} (hD : H D = none) (k : ∀ b o, b ≠ D → H b = some o → H' b = some o) (h : SqL K H a xs) : SqL K H' a xs :=
  h.elim (fun q => .inl (q.elim (fun q => .inl (k _ _ (ne_of_none q hD) q)) fun ⟨o, q⟩ => .inr ⟨o, k _ _ (ne_of_none q hD) q⟩)) .inr
theorem at_cl {c : List Nat} {i : Nat} (h : i < c.length) : c[i]? = some (cl c i) := by
  obtain ⟨x, hx⟩ := at_lt h
  unfold cl
  rw [hx]; rfl
theorem same_sqL {K : PySem.W.Frag} {H H' : Hp} {a : Addr} {xs : List V} (s : Same H H') (h : SqL K H a xs) : SqL K H' a xs :=
  h.elim (fun q => .inl (q.elim (fun q => .inl (s _ _ q)) fun ⟨o, q⟩ => .inr ⟨o, s _ _ q⟩)) .inr
theorem atM {c : List Nat} {i x : Nat} (h : c[i]? = some x) : atI (c.map fun n => V.int (n : Nat)) (i : Nat) = some (.int (x : Nat)) := at_of (j := i) (by omega) (by rw [List.getElem?_map, h]; rfl)
theorem big {n : Nat} (h : n ≤ 16000000) : n < sizeLine := Nat.lt_of_le_of_lt h (by decide)
theorem pg_tupK {X : Cx} {K : PySem.W.Frag} {es : List Expr} {k : Nat} {t : TGs} {n : Nat} {pos : Pos} (hK : X.K = K) (hc : X.calm = true) (h : PGs X es t)
    (hn : (assignEach es X.env).length = n := by rfl) (hst : (assignEach es X.env).findIdx? (·.1) = none := by rfl) : PG X (.Tuple es k pos) (gTup K n t) := hK ▸ pg_tup hc h hn hst
end Mw
open Mw

local macro_rules | `(tactic| walk_at "new") => `(tactic| first | refine Hd.nw (by assumption) fun _ _ _ _ _ _ => ?_)
local macro_rules | `(tactic| walk_at "hp") => `(tactic| first | exact Hd.get (by assumption) (by walk_at "mem"))
local macro_rules | `(tactic| walk_at "kw1") => `(tactic| first
  | refine ⟨_, _, rfl, (show SqT _ _ _ _ from by walk_at "seq"), rfl, ?_⟩
  | refine ⟨_, _, rfl, _, _, rfl, rfl, rfl, ?_⟩)

/-! ## objects of one's own beside a box -/
namespace Mw
structure Hb (B : Addr) (H0 H : Hp) (L : List (Addr × HO)) : Prop where
  b0 : BoxAt H0 B
  box : BoxAt H B
  kp : Keep B H0 H
  nd : (L.map (·.1)).Nodup
  at_ : ∀ x ∈ L, H0 x.1 = none ∧ x.1 ≠ B ∧ H x.1 = some x.2
section
variable {B : Addr} {H0 H H' : Hp} {L : List (Addr × HO)} {p : Addr} {o u : HO}
theorem Hb.start (b : BoxAt H B) : Hb B H H [] := ⟨b, b, Keep.refl _ _, List.nodup_nil, fun _ h => (nomatch h)⟩
theorem Hb.get (w : Hb B H0 H L) (h : (p, o) ∈ L) : H p = some o := (w.at_ _ h).2.2
theorem Hb.fr (w : Hb B H0 H L) (h : (p, o) ∈ L) : H0 p = none := (w.at_ _ h).1
theorem Hb.ne (w : Hb B H0 H L) (h : (p, o) ∈ L) : p ≠ B := (w.at_ _ h).2.1
theorem Hb.old (w : Hb B H0 H L) (n : p ≠ B) (h : H0 p = some o) : H p = some o := w.kp p o n h
theorem Hb.free (w : Hb B H0 H L) (h : H p = none) : H0 p = none := w.kp.free w.box.any h
theorem Hb.same (w : Hb B H0 H L) (s : Same H H') : Hb B H0 H' L := ⟨w.b0, w.box.same s, w.kp.trans (Keep.same s), w.nd, fun x h => ⟨(w.at_ x h).1, (w.at_ x h).2.1, s _ _ (w.at_ x h).2.2⟩⟩
theorem Hb.keep (w : Hb B H0 H L) (k : Keep B H H') (b : BoxAt H' B) : Hb B H0 H' L := ⟨w.b0, b, w.kp.trans k, w.nd, fun x h => ⟨(w.at_ x h).1, (w.at_ x h).2.1, k _ _ (w.at_ x h).2.1 (w.at_ x h).2.2⟩⟩
theorem Hb.gotK (w : Hb B H0 H L) (n : H p = none) (k : Keep B H H') (b : BoxAt H' B) (h : H' p = some o) : Hb B H0 H' ((p, o) :: L) := by
  refine ⟨w.b0, b, w.kp.trans k, List.nodup_cons.mpr ⟨fun m => ?_, w.nd⟩, fun x hx => ?_⟩
  · obtain ⟨x, hx, e⟩ := List.mem_map.mp m
    have := (w.at_ x hx).2.2
    rw [show x.1 = p from e, n] at this
    cases this
  · rcases List.mem_cons.mp hx with rfl | hx
    · exact ⟨w.free n, w.box.ne n, h⟩
    · exact ⟨(w.at_ x hx).1, (w.at_ x hx).2.1, k _ _ (w.at_ x hx).2.1 (w.at_ x hx).2.2⟩
theorem Hb.got (w : Hb B H0 H L) (n : H p = none) (s : Same H H') (h : H' p = some o) : Hb B H0 H' ((p, o) :: L) := w.gotK n (Keep.same s) (w.box.same s) h
theorem Hb.new (w : Hb B H0 H L) (n : H p = none) (o : HO) : Hb B H0 (upd H p o) ((p, o) :: L) := w.got n (sm_new n) upd_same
theorem Hb.nw {Q : VK} (w : Hb B H0 H L) (k : ∀ p H', H0 p = none → H p = none → Same H H' → Hb B H0 H' ((p, o) :: L) → Q (.ref p) H') : New H o Q := fun p H' hn s h => k p H' (w.free hn) hn s (w.got hn s h)
theorem Hb.set (w : Hb B H0 H L) (i : Nat) (h : L[i]? = some (p, u)) (o : HO) : Hb B H0 (upd H p o) (L.set i (p, o)) := by
  have hm : (p, u) ∈ L := List.mem_iff_getElem?.mpr ⟨i, h⟩
  obtain ⟨n0, nb, _⟩ := w.at_ _ hm
  refine ⟨w.b0, w.box.keep fun u e => by rw [upd_ne nb.symm]; exact e, fun a v na e => by rw [upd_ne (ne_of_none e n0)]; exact w.kp a v na e, ?_, fun x hx => ?_⟩
  · rw [map_set_fst L i (p, o) (by rw [h]; rfl)]; exact w.nd
  · obtain ⟨j, hj⟩ := List.mem_iff_getElem?.mp hx
    by_cases c : i = j
    · subst c
      rw [List.getElem?_set_self (lt_at h)] at hj
      cases hj
      exact ⟨n0, nb, upd_same⟩
    · rw [List.getElem?_set_ne c] at hj
      have hx' := w.at_ x (List.mem_iff_getElem?.mpr ⟨j, hj⟩)
      refine ⟨hx'.1, hx'.2.1, ?_⟩
      have ne : x.1 ≠ p := fun e => c (by
        have h1 : (L.map (·.1))[i]? = some p := by rw [List.getElem?_map, h]; rfl
        have h2 : (L.map (·.1))[j]? = some p := by rw [List.getElem?_map, hj, ← e]; rfl
        exact nodup_at w.nd h1 h2)
      rw [upd_ne ne]; exact hx'.2.2
theorem Hb.sub {L' : List (Addr × HO)} (w : Hb B H0 H L) (h : L'.Sublist L) : Hb B H0 H L' := ⟨w.b0, w.box, w.kp, (h.map _).nodup w.nd, fun x hx => w.at_ x (h.subset hx)⟩
theorem Hb.tl {x : Addr × HO} (w : Hb B H0 H (x :: L)) : Hb B H0 H L := w.sub (List.sublist_cons_self _ _)
theorem Hb.nil (w : Hb B H0 H L) : Hb B H0 H [] := w.sub (List.nil_sublist _)
theorem Hb.drop2 {x y : Addr × HO} (w : Hb B H0 H (x :: y :: L)) : Hb B H0 H (x :: L) := w.sub (.cons₂ _ (.cons _ (List.Sublist.refl _)))
theorem Hb.inD {D : Addr} (w : Hb B H0 H L) (h : H D = none) (k : ∀ b o, b ≠ D → H b = some o → H' b = some o) : Hb B H0 H' L :=
  ⟨w.b0, w.box.keep fun o e => k _ _ (w.box.ne h).symm e, fun a o n e => k a o (ne_of_none (w.kp a o n e) h) (w.kp a o n e), w.nd, fun x hx => ⟨(w.at_ x hx).1, (w.at_ x hx).2.1, k _ _ (ne_of_none (w.at_ x hx).2.2 h) (w.at_ x hx).2.2⟩⟩
theorem Hb.tk (w : Hb B H0 H L) : TK H0 H := TK.keep w.b0 w.kp
theorem Hb.take {m : Int} {Q : VK} {E : XK} (w : Hb B H0 H L) (m0 : 0 < m) (m1 : m ≤ 1000000000000) (k : ∀ d H', 0 ≤ d → d < m → Hb B H0 H' L → Keep B H H' → Q (.int d) H') : sp_take [.ref B, .int m] H Q E :=
  ⟨B, m, by rfl, w.box, m0, m1, fun d H' d0 d1 kp hb => k d H' d0 d1 (w.keep kp hb) kp⟩
end
end Mw

local macro_rules | `(tactic| walk_at "new") => `(tactic| first | refine Hb.nw (by assumption) fun _ _ _ _ _ _ => ?_)
local macro_rules | `(tactic| walk_at "hp") => `(tactic| first | exact Hb.get (by assumption) (by walk_at "mem"))

namespace Mw
def sp_classes (K : PySem.W.Frag) : Sp := fun vs H Q _ => ∃ (p : Addr) (xs : List V) (t : Tab), vs = [.ref p] ∧ SqL K H p xs ∧ RowsAt K H xs t ∧ Wf t ∧ t.length ≤ 16000000 ∧ ∀ (c : List Nat) (q : Addr) (H' : Hp), Cls t c → H q = none → Same H H' → H' q = some (.lst (c.map fun n => V.int (n : Nat))) → Q (.ref q) H'
def sp_least (K : PySem.W.Frag) : Sp := fun vs H Q _ => ∃ (p : Addr) (xs : List V) (t : Tab), vs = [.ref p] ∧ SqL K H p xs ∧ RowsAt K H xs t ∧ Wf t ∧ t.length ≤ 16000000 ∧ ∀ (T : Tab) (q : Addr) (H' : Hp), Least T → (∀ u, acc T 0 u = acc t 0 u) → T.length ≤ t.length → H q = none → Same H H' → TabAt K H' q T → Q (.ref q) H'
end Mw
open Mw
section
variable {P : Program} {w : World} {K : PySem.W.Frag} {mg : Str → Option Value} {base : Heap}
theorem ok_classes {f : Addr} {fd : FuncData} (F : Fun K "classes_of" "classes_of" S_classes_of f fd) (T : Txt K mg) : FnOk P w K mg base CX0 1 f fd ["rows"] (sp_classes K) := by
  refine F.ok SC_classes_of (fun vs H Q E h => ?_) (fun cdv A outer s H vs Q E hr h => ?_)
  · obtain ⟨p, xs, t, rfl, _⟩ := h
    rfl
  · obtain ⟨p, xs, t, rfl, hp, hx, wf, hb, k⟩ := h
    refine ⟨_, (pss_cons (ps_setLc (i := 1) (own := [("is_in", 6), ("following", 7)])  (by rfl) SC_classes_of.nd rfl rfl (sw_true rfl rfl rfl (by decide +kernel)) (pi_list (pv 0)) (blkOk_by (own := [("is_in", 6), ("following", 7)]) (N := N_classes_of) (sc := defScope S_classes_of) (by decide +kernel)) (fun _ _ _ _ _ => (pg_tupK (K := K) (n := 2) rfl rfl (pgs_cons (pg_name (i := 6) SC_classes_of.nd rfl (.inl rfl)) (pgs_cons (pg_name (i := 7) SC_classes_of.nd rfl (.inl rfl)) pgs_nil)))) (fun _ _ _ _ _ => pts_nil) (fun _ _ _ _ _ => (pe_callTy call_intB (by rfl) T.b_int (by decide +kernel) (pa_cons (pv 6) pa_nil))))
      (pss_cons (ps_set (i := 2) SC_classes_of.nd rfl (.inl rfl) pe_int)
      (pss_one (ps_while PassesOwn.never (pt_val pe_bl) (pss_cons (ps_set (i := 3) SC_classes_of.nd rfl (.inl rfl) pe_dnewT)
      (pss_nrm (pss_cons (ps_set (i := 4) SC_classes_of.nd rfl (.inl rfl) (pe_lstN pa_nil))
      (pss_cons (ps_for PassesOwn.never rfl (pi_enum (by rfl) T.b_enumerate (pa_cons (pv 0) pa_nil)) (pg_tup rfl (pgs_cons (pg_name (i := 5) SC_classes_of.nd rfl (.inl rfl)) (pgs_cons (pg_tup rfl (pgs_cons (pg_name (i := 6) SC_classes_of.nd rfl (.inl rfl)) (pgs_cons (pg_name (i := 7) SC_classes_of.nd rfl (.inl rfl)) pgs_nil))) pgs_nil))) (pss_cons (ps_set (i := 8) SC_classes_of.nd rfl (.inl rfl) (pe_tupN (pa_cons (pe_ix ix_list (pv 1) (pv 5) (fun _ _ => rfl)) (pa_cons (pe_ix ix_list (pv 1) (pe_ix ix_tup (pv 7) pe_int (fun _ _ => rfl)) (fun _ _ => rfl)) (pa_cons (pe_ix ix_list (pv 1) (pe_ix ix_tup (pv 7) pe_int (fun _ _ => rfl)) (fun _ _ => rfl)) pa_nil)))))
      (pss_mid (ps_if (pt_cmp (pc_dnotin (hu_of hr) (pv 8) (pv 3))) (pss_one (ps_dput (hu_of hr) (pv 3) (pv 8) (pe_callB call_lenDT (by rfl) T.b_len (by decide +kernel) (pa_cons (pv 3) pa_nil)) rfl)) pss_nil)
      (pss_one (ps_expr (pe_bm PySem.F.plainAttrs_list PySem.F.slot_list_append PySem.F.type_list_append mt_append (pv 4) (pa_cons (pe_dget (hu_of hr) (pv 3) (pv 8) (fun _ _ => rfl)) pa_nil)))))))
      (pss_cons (ps_if (pt_cmpR op_eq (pe_callB call_lenDT (by rfl) T.b_len (by decide +kernel) (pa_cons (pv 3) pa_nil)) (pv 2) (nomark _)) (pss_one (ps_ret (pv 4))) pss_nil)
      (pss_one (ps_par (i := 1) (j := 2) (by rfl) SC_classes_of.nd rfl rfl (by decide) rfl rfl (pa_cons (pv 4) (pa_cons (pe_callB call_lenDT (by rfl) T.b_len (by decide +kernel) (pa_cons (pv 3) pa_nil)) pa_nil)) (by rfl)))))))))))), ?_⟩
    refine ⟨_, rfl, p, rfl, ⟨xs, hp⟩, fun D hD => ?_⟩
    refine lcR_list (xs := xs) (fun i H' => (∀ b o, b ≠ D → H b = some o → H' b = some o) ∧ H' D = some (.lst ((t.take i).map fun r => V.int (if r.1 then 1 else 0)))) ⟨fun b o n e => by rw [upd_ne n]; exact e, by rw [upd_same]; rfl⟩
      (fun i H' _ m => sqL_inD hD m.1 hp) (fun i x H' hi m => ?_) (gTup2_mono _ _ _) (fun H' m => ?_)
    · obtain ⟨kp, hD'⟩ := m
      have hit : i < t.length := hx.1 ▸ lt_at hi
      obtain ⟨q, fo, e1, h1, h2⟩ := (hx.tk (TK.inD hD kp)).get hit
      rw [hi] at e1
      cases e1
      refine ⟨q, _, rfl, h1, rfl, _, _, rfl, _, _, rfl, rfl, rfl, _, rfl, _, rfl, _, hD', ?_, ?_, ?_⟩
      · rw [List.length_map, List.length_take]
        exact big (by omega)
      · exact fun b o n e => by rw [upd_ne n]; exact kp b o n e
      · rw [upd_same, List.take_add_one, List.map_append]
        obtain ⟨r, hr⟩ := at_lt hit
        rw [hr, isn_of hr]
        rfl
    · obtain ⟨kp, hD'⟩ := m
      have W0 : Hd H H' [(D, .lst ((t.take xs.length).map fun r => V.int (if r.1 then 1 else 0)))] := by
        have := ((Hd.start H).new hD (.lst ((t.take xs.length).map fun r => V.int (if r.1 then 1 else 0))))
        refine ⟨fun b o e => kp b o (ne_of_none e hD) e, by simp, fun x hx => ?_⟩
        cases List.mem_singleton.mp hx
        exact ⟨hD, hD'⟩
      rw [hx.1, List.take_length] at W0
      have g0 : Good t 0 (t.map fun r => if r.1 then 1 else 0) := Good.zero rfl
      rw [show (t.map fun r => V.int (if r.1 = true then 1 else 0)) = (t.map fun r => if r.1 then 1 else 0).map fun n : Nat => V.int (n : Nat) from by rw [List.map_map]; exact List.map_congr_left fun r _ => by cases h : r.1 <;> simp [h]] at W0
      walk_at "kw"
      refine while_by (fun σ H' => ∃ (c : List Nat) (m kk : Nat) (D : Addr) (y3 y4 y5 y6 y7 y8 : Option V), Hd H H' [(D, .lst (c.map fun n => V.int (n : Nat)))] ∧ Good t kk c ∧ (m = 0 ∨ Onto c m) ∧ m ≤ t.length ∧ σ = [some (.ref p), some (.ref D), some (.int (m : Nat)), y3, y4, y5, y6, y7, y8])
        (fun σ _ => match σ with | _ :: _ :: some (.int m) :: _ => t.length - m.toNat | _ => 0) ⟨_, 0, 0, D, _, _, _, _, _, _, W0, g0, .inl rfl, Nat.zero_le _, rfl⟩ (fun σ H1 hP => ?_) (fun σ H Q Q' h q => ?_)
      · obtain ⟨c, m, kk, D, y3, y4, y5, y6, y7, y8, W1, g, on, hm, rfl⟩ := hP
        refine ⟨true, rfl, ifT rfl ?_⟩
        intro Dk hDk
        have W2 := W1.new hDk (.dT [])
        walk_at "kw"
        rename_i L H2 fL nL sL W3
        refine ⟨p, xs, rfl, (same_sqL W3.sm hp), ?_⟩
        refine for_enum (fun i σ H' => ∃ (dd : List (Nat × Nat × Nat)) (la : List Nat) (y5 y6 y7 y8 : Option V), Hd H H' [(L, .lst (la.map fun n => V.int (n : Nat))), (Dk, .dT (numd (dd.map k3))), (D, .lst (c.map fun n => V.int (n : Nat)))] ∧ Num ((List.range i).map (keyOf t c)) dd la ∧ σ = [some (.ref p), some (.ref D), some (.int (m : Nat)), some (.ref Dk), some (.ref L), y5, y6, y7, y8])
          ⟨[], [], _, _, _, _, W3, .nil, rfl⟩ (fun i σ H' _ m => let ⟨_, _, _, _, _, _, W, _⟩ := m; same_sqL W.sm hp) (fun i x σ H3 Tu hi m hT => ?_) (fun σ H3 m => ?_)
        · obtain ⟨dd, la, y5, y6, y7, y8, W4, nm, rfl⟩ := m
          have hit : i < t.length := hx.1 ▸ lt_at hi
          have W5 := W4.call (sm_new (o := .tup [.int (i : Nat), x]) hT)
          obtain ⟨q, fo, e1, h1, h2⟩ := (hx.tk W5.tk).get hit
          rw [hi] at e1
          cases e1
          refine ⟨Tu, _, rfl, SqT.of upd_same, rfl, _, _, rfl, _, _, rfl, ⟨q, _, rfl, h1, rfl, _, _, rfl, _, _, rfl, rfl, rfl, ?_⟩⟩
          have c0 := at_cl (g.len.symm ▸ hit)
          have c1 := at_cl (g.len.symm ▸ wf.nx i false hit)
          have c2 := at_cl (g.len.symm ▸ wf.nx i true hit)
          have hD := W5.get (.tail _ (.tail _ (.head _)))
          refine ⟨_, rfl, _, rfl, D, _, _, _, rfl, rfl, SqL.of hD, atM c0, _, rfl, _, rfl, fo, _, _, _, rfl, rfl, h2, atI_nat (j := 0) rfl, D, _, _, _, rfl, rfl, SqL.of hD, atM c1, _, rfl, _, rfl, fo, _, _, _, rfl, rfl, h2, atI_nat (j := 1) rfl, D, _, _, _, rfl, rfl, SqL.of hD, atM c2, ?_⟩
          walk_at "kw"
          rename_i Kt H5 fK nK sK W6
          have hK : H5 Kt = some (.tup ((k3 (keyOf t c i)).map kV)) := W6.get (.head _)
          refine ⟨fun σ' H' => ∃ (dd : List (Nat × Nat × Nat)) (x : Nat), Hd H H' [(Kt, .tup ((k3 (keyOf t c i)).map kV)), (L, .lst (la.map fun n => V.int (n : Nat))), (Dk, .dT (numd (dd.map k3))), (D, .lst (c.map fun n => V.int (n : Nat)))] ∧ dd[x]? = some (keyOf t c i) ∧ Num ((List.range (i + 1)).map (keyOf t c)) dd (la ++ [x]) ∧
            σ' = [some (.ref p), some (.ref D), some (.int (m : Nat)), some (.ref Dk), some (.ref L), some (.int (i : Nat)), some (.bl (isn t i)), some (.ref fo), some (.ref Kt)], ?_, fun σ1 H6 z => ?_⟩
          · refine ⟨_, rfl, _, rfl, Dk, _, rfl, DGet.t (W6.get (.tail _ (.tail _ (.head _)))) hK, _, rfl, ?_⟩
            have rg : (List.range (i + 1)).map (keyOf t c) = (List.range i).map (keyOf t c) ++ [keyOf t c i] := by rw [List.range_succ, List.map_append]; rfl
            rcases numd_cases (k3 (keyOf t c i)) (dd.map k3) with ⟨hn, hne⟩ | ⟨x, hx1, hx2⟩
            · rw [hn]
              refine ifT rfl ?_
              have dl := nm.le
              rw [List.length_map, List.length_range] at dl
              have gk := W6.get (.tail _ (.tail _ (.head _)))
              refine ⟨_, rfl, Dk, _, rfl, gk, _, rfl, _, rfl, Dk, _, rfl, DPut.t gk hK (by rw [numd_len, List.length_map]; exact big (by omega)), dd ++ [keyOf t c i], dd.length, ?_, List.getElem?_concat_length, ?_, rfl⟩
              · have := W6.set 2 rfl (.dT (numd ((dd ++ [keyOf t c i]).map k3)))
                rw [List.map_append, List.map_singleton, ← numd_put hn, List.length_map] at this
                rw [numd_len, List.length_map, List.map_append, List.map_singleton, ← numd_put hn, List.length_map]
                exact this
              · rw [rg]
                exact nm.new fun y hy e => hne (k3 y) (List.mem_map.mpr ⟨y, hy, rfl⟩) (by rw [e])
            · rw [hx2]
              refine ifF rfl ?_
              rw [List.getElem?_map] at hx1
              obtain ⟨y, hy, e⟩ := Option.map_eq_some_iff.mp hx1
              rw [k3_inj e] at hy
              exact ⟨dd, x, W6, hy, rg ▸ nm.old hy, rfl⟩
          · obtain ⟨dd', x, W7, hx1, nm', rfl⟩ := z
            have hK' := W7.get (.head _)
            have gL := W7.get (.tail _ (.head _))
            have gk := W7.get (.tail _ (.tail _ (.head _)))
            have hv : valV (numd (dd'.map k3)) (k3 (keyOf t c i)) = some (.int (x : Nat)) := by
              rcases numd_cases (k3 (keyOf t c i)) (dd'.map k3) with ⟨_, hne⟩ | ⟨x', e1, e2⟩
              · exact absurd rfl (hne _ (List.mem_map.mpr ⟨_, List.mem_iff_getElem?.mpr ⟨x, hx1⟩, rfl⟩))
              · rw [List.getElem?_map] at e1
                obtain ⟨y, hy, e⟩ := Option.map_eq_some_iff.mp e1
                rw [k3_inj e] at hy
                rw [e2, nodup_at nm'.nd hy hx1]
            have ll := nm'.len
            rw [List.length_map, List.length_range, List.length_append] at ll
            refine ⟨_, rfl, .inl ⟨rfl, _, SqL.of gL⟩, _, rfl, _, rfl, Dk, _, rfl, hv ▸ DGet.t gk hK', L, _, _, rfl, rfl, gL, ?_, dd', la ++ [x], _, _, _, _, ?_, nm', rfl⟩
            · rw [List.length_map]
              exact big (by simp at ll; omega)
            · rw [List.map_append]
              exact (W7.set 1 rfl _).tl
        · obtain ⟨dd, la, y5, y6, y7, y8, W4, nm, rfl⟩ := m
          rw [hx.1] at nm
          have gk := W4.get (.tail _ (.head _))
          walk_at "kw"
          refine ⟨Dk, _, rfl, gk, ?_⟩
          walk_at "kw"
          have hlen : ((numd (dd.map k3)).length : Int) = (dd.length : Nat) := by rw [numd_len, List.length_map]
          have dl := nm.le
          rw [List.length_map, List.length_range] at dl
          have dpos : 0 < dd.length := by
            obtain ⟨x, _, h2⟩ := nm.at_ 0 _ (keys_at t c wf.ne)
            exact Nat.lt_of_le_of_lt (Nat.zero_le _) (lt_at h2)
          have tn : m = 0 ∨ (m ≤ dd.length ∧ (m = dd.length → Cls t la)) := on.imp id fun o => g.turn wf o nm
          refine ite2 (fun e => ?_) (fun e => ?_)
          · have em : dd.length = m := by
              have := V.int.inj (of_decide_eq_true e)
              omega
            have cc : Cls t la := by
              rcases tn with z | z
              · omega
              · exact z.2 em.symm
            refine ⟨_, rfl, k la L H3 cc (W4.fr (.head _)) W4.sm (W4.get (.head _))⟩
          · have nem : dd.length ≠ m := fun z => e (by rw [hlen, z]; exact decide_eq_true rfl)
            refine ⟨_, rfl, _, rfl, Dk, _, rfl, gk, ?_⟩
            rw [hlen]
            refine ⟨_, _, rfl, ⟨la, dd.length, kk + 1, L, _, _, _, _, _, _, ?_, g.step wf nm, .inr nm.onto, by omega, rfl⟩, ?_⟩
            · exact W4.sub (.cons₂ _ (List.nil_sublist _))
            · show t.length - (dd.length : Int).toNat < t.length - (m : Int).toNat
              omega
      · obtain ⟨d, e, q⟩ := q
        exact ⟨d, e, h _ _ q⟩
theorem ok_least {f : Addr} {fd : FuncData} (F : Fun K "least_table" "least_table" S_least_table f fd) (T : Txt K mg) (C_classes : FnC P w K mg base CX0 1 "classes_of" ["rows"] (sp_classes K)) : FnOk P w K mg base CX0 2 f fd ["rows"] (sp_least K) := by
  refine F.ok SC_least_table (fun vs H Q E h => ?_) (fun cdv A outer s H vs Q E hr h => ?_)
  · obtain ⟨p, xs, t, rfl, _⟩ := h
    rfl
  · obtain ⟨p, xs, t, rfl, hp, hx, wf, hb, k⟩ := h
    refine ⟨_, (pss_cons (ps_set (i := 1) SC_least_table.nd rfl (.inl rfl) (pe_callC C_classes (hr.mono (by decide)) rfl (pa_cons (pv 0) pa_nil)))
      (pss_cons (ps_set (i := 2) SC_least_table.nd rfl (.inl rfl) (pe_lstN (pa_cons pe_int pa_nil)))
      (pss_cons (ps_set (i := 3) SC_least_table.nd rfl (.inl rfl) (pe_disp (pps_cons (pe_ix ix_list (pv 1) pe_int (fun _ _ => rfl)) pe_int pps_nil) rfl rfl (by decide) (by decide)))
      (pss_nrm (pss_cons (ps_set (i := 4) SC_least_table.nd rfl (.inl rfl) (pe_lstN pa_nil))
      (pss_cons (ps_set (i := 5) SC_least_table.nd rfl (.inl rfl) pe_int)
      (pss_cons (ps_while PassesOwn.never (pt_cmpR op_lt (pv 5) (pe_callB call_len_seq (by rfl) T.b_len (by decide +kernel) (pa_cons (pv 2) pa_nil)) (nomark _)) (pss_cons (ps_asg (pe_ix ix_list (pv 0) (pe_ix ix_list (pv 2) (pv 5) (fun _ _ => rfl)) (fun _ _ => rfl)) (pg_tup rfl (pgs_cons (pg_name (i := 6) SC_least_table.nd rfl (.inl rfl)) (pgs_cons (pg_name (i := 7) SC_least_table.nd rfl (.inl rfl)) pgs_nil))))
      (pss_cons (ps_for PassesOwn.never rfl (pi_tup (pv 7)) (pg_name (i := 8) SC_least_table.nd rfl (.inl rfl)) (pss_one (ps_if (pt_cmp (pc_dnotin (hu_of hr) (pe_ix ix_list (pv 1) (pv 8) (fun _ _ => rfl)) (pv 3))) (pss_cons (ps_dput (hu_of hr) (pv 3) (pe_ix ix_list (pv 1) (pv 8) (fun _ _ => rfl)) (pe_callB call_len_seq (by rfl) T.b_len (by decide +kernel) (pa_cons (pv 2) pa_nil)) rfl)
      (pss_one (ps_expr (pe_bm PySem.F.plainAttrs_list PySem.F.slot_list_append PySem.F.type_list_append mt_append (pv 2) (pa_cons (pv 8) pa_nil))))) pss_nil)))
      (pss_cons (ps_expr (pe_bm PySem.F.plainAttrs_list PySem.F.slot_list_append PySem.F.type_list_append mt_append (pv 4) (pa_cons (pe_tupN (pa_cons (pv 6) (pa_cons (pe_tupN (pa_cons (pe_dget (hu_of hr) (pv 3) (pe_ix ix_list (pv 1) (pe_ix ix_tup (pv 7) pe_int (fun _ _ => rfl)) (fun _ _ => rfl)) (fun _ _ => rfl)) (pa_cons (pe_dget (hu_of hr) (pv 3) (pe_ix ix_list (pv 1) (pe_ix ix_tup (pv 7) pe_int (fun _ _ => rfl)) (fun _ _ => rfl)) (fun _ _ => rfl)) pa_nil))) pa_nil))) pa_nil)))
      (pss_one (ps_set (i := 5) SC_least_table.nd rfl (.inl rfl) (pe_op op_add (pv 5) pe_int)))))))
      (pss_one (ps_ret (pe_callTy call_tuple_of (by rfl) T.b_tuple (by decide +kernel) (pa_cons (pv 4) pa_nil))))))))))), ?_⟩
    refine ⟨_, rfl, p, xs, t, rfl, hp, hx, wf, hb, fun c q H1 cc hq0 s1 hq => ?_⟩
    have W1 := (Hd.start H).got hq0 s1 hq
    have c0 := at_cl (cc.len.symm ▸ wf.ne)
    walk_at "kw"
    rename_i O H2 fO nO sO W2
    walk_at "kw"
    intro M hM
    have W3 := W2.new hM (.dK [])
    refine ⟨_, rfl, q, _, _, _, rfl, rfl, SqL.of (W3.get (.tail _ (.tail _ (.head _)))), atM c0, upd_same, [(kI (cl c 0), .int 0)], rfl, (by show 1 ≤ 15; decide), ?_⟩
    rw [show mergeK [] [(kI (cl c 0), V.int 0)] = numd (kcs c [0]) from rfl]
    have W4 := W3.set 0 rfl (.dK (numd (kcs c [0])))
    walk_at "kw"
    rename_i F0 H5 fF nF sF W5
    refine while_by (fun σ H' => ∃ (order : List Nat) (found : Tab) (fx : List V) (y6 y7 y8 : Option V), Hd H H' [(F0, .lst fx), (M, .dK (numd (kcs c order))), (O, .lst (order.map fun n => V.int (n : Nat))), (q, .lst (c.map fun n => V.int (n : Nat)))] ∧ RowsAt K H' fx found ∧ Lt t c order found ∧
        σ = [some (.ref p), some (.ref q), some (.ref O), some (.ref M), some (.ref F0), some (.int (found.length : Nat)), y6, y7, y8])
      (fun σ _ => match σ with | _ :: _ :: _ :: _ :: _ :: some (.int m) :: _ => t.length - m.toNat | _ => 0) ⟨[0], [], [], _, _, _, W5, .nil, .start wf, rfl⟩ (fun σ H6 hP => ?_) (fun σ H Q Q' h q => ?_)
    · obtain ⟨order, found, fx, y6, y7, y8, W6, ra, lt, rfl⟩ := hP
      have gO := W6.get (.tail _ (.tail _ (.head _)))
      walk_at "kw"
      refine ite2 (fun e => ?_) (fun e => ?_)
      · have lo : found.length < order.length := by
          have := of_decide_eq_true e
          rw [List.length_map] at this
          omega
        obtain ⟨i, hi⟩ := at_lt lo
        have hit : i < t.length := lt.lt i (List.mem_iff_getElem?.mpr ⟨_, hi⟩)
        obtain ⟨qr, fo, e1, h1, h2⟩ := (hx.tk W6.tk).get hit
        refine ⟨_, rfl, _, rfl, _, rfl, O, _, _, _, rfl, rfl, SqL.of gO, atM hi, p, _, _, _, rfl, rfl, same_sqL W6.sm hp, atI_nat (j := i) e1, qr, _, rfl, h1, rfl, _, _, rfl, _, _, rfl, rfl, ?_⟩
        refine ⟨_, rfl, fo, rfl, ⟨_, h2⟩, ?_⟩
        have ol := lt.len
        refine for_tup (xs := [.int (nx t i false : Nat), .int (nx t i true : Nat)]) (fun j σ H' => ∃ (o' : List Nat) (y8 : Option V), Hd H H' [(F0, .lst fx), (M, .dK (numd (kcs c o'))), (O, .lst (o'.map fun n => V.int (n : Nat))), (q, .lst (c.map fun n => V.int (n : Nat)))] ∧ TK H6 H' ∧ (o'.length ≤ t.length + j) ∧
            σ = [some (.ref p), some (.ref q), some (.ref O), some (.ref M), some (.ref F0), some (.int (found.length : Nat)), some (.bl (isn t i)), some (.ref fo), y8] ∧
            (j = 0 → o' = order) ∧ (j = 1 → ∃ a, Put c order (nx t i false) o' a) ∧ (j = 2 → ∃ o1 a b, Put c order (nx t i false) o1 a ∧ Put c o1 (nx t i true) o' b))
          ⟨order, _, W6, TK.refl _, by omega, rfl, fun _ => rfl, fun z => absurd z (by decide), fun z => absurd z (by decide)⟩ (fun j σ H7 _ m => let ⟨_, _, _, tk, _⟩ := m; sqT_tk tk h2) (fun j x σ H7 hj m => ?_) (fun σ H7 m => ?_)
        · obtain ⟨o', y8, W7, tk, ol', rfl, j0, j1, j2⟩ := m
          have jl : j < 2 := lt_at hj
          obtain ⟨n, ex, hn, en⟩ : ∃ n, x = .int (n : Nat) ∧ n < t.length ∧ n = nx t i (decide (j = 1)) := by
            rcases (show j = 0 ∨ j = 1 by omega) with rfl | rfl
            · cases hj; exact ⟨_, rfl, wf.nx i false hit, rfl⟩
            · cases hj; exact ⟨_, rfl, wf.nx i true hit, rfl⟩
          subst ex
          have cn := at_cl (cc.len.symm ▸ hn)
          have fin : ∀ (o'' : List Nat) (a : Nat), Put c o' n o'' a → (j + 1 = 0 → o'' = order) ∧ (j + 1 = 1 → ∃ a, Put c order (nx t i false) o'' a) ∧ (j + 1 = 2 → ∃ o1 a b, Put c order (nx t i false) o1 a ∧ Put c o1 (nx t i true) o'' b) := fun o'' a pt => by
            rcases (show j = 0 ∨ j = 1 by omega) with rfl | rfl
            · refine ⟨fun z => absurd z (by decide), fun _ => ⟨a, ?_⟩, fun z => absurd z (by decide)⟩
              rw [← j0 rfl, ← show n = nx t i false from en]; exact pt
            · obtain ⟨a1, p1⟩ := j1 rfl
              exact ⟨fun z => absurd z (by decide), fun z => absurd z (by decide), fun _ => ⟨o', a1, a, p1, (show n = nx t i true from en) ▸ pt⟩⟩
          have gC := W7.get (.tail _ (.tail _ (.tail _ (.head _))))
          have gM := W7.get (.tail _ (.head _))
          have gO7 := W7.get (.tail _ (.tail _ (.head _)))
          refine ⟨_, rfl, _, rfl, q, _, _, _, rfl, rfl, SqL.of gC, atM cn, _, rfl, M, _, rfl, DGet.k (k := kI (cl c n)) gM, _, rfl, ?_⟩
          rcases numd_cases (kI (cl c n)) (kcs c o') with ⟨hno, hne⟩ | ⟨a, hx1, hx2⟩
          · rw [hno]
            refine ifT rfl ?_
            have nw : ∀ y ∈ o', cl c y ≠ cl c n := fun y hy e => hne (kI (cl c y)) (List.mem_map.mpr ⟨y, hy, rfl⟩) (by rw [e])
            refine ⟨_, rfl, O, _, rfl, .inl (SqL.of gO7), ?_⟩
            have em : putK (numd (kcs c o')) (kI (cl c n)) (V.int ((o'.map fun n => V.int (n : Nat)).length : Nat)) = numd (kcs c (o' ++ [n])) := by rw [List.length_map, kcs_snoc, ← numd_put hno, kcs_len]
            refine ⟨_, rfl, _, rfl, _, rfl, q, _, _, _, rfl, rfl, SqL.of gC, atM cn, M, _, rfl, DPut.k (k := kI (cl c n)) gM (by rw [numd_len, kcs_len]; exact Nat.lt_of_le_of_lt (show o'.length ≤ 16000002 by omega) (by decide)), ?_⟩
            rw [em]
            have W8 : Hd H _ [(F0, .lst fx), (M, .dK (numd (kcs c (o' ++ [n])))), (O, .lst (o'.map fun n => V.int (n : Nat))), (q, .lst (c.map fun n => V.int (n : Nat)))] := W7.set 1 rfl (.dK (numd (kcs c (o' ++ [n]))))
            have gO8 := W8.get (.tail _ (.tail _ (.head _)))
            refine ⟨_, rfl, .inl ⟨rfl, _, SqL.of gO8⟩, _, rfl, O, _, _, rfl, rfl, gO8, by rw [List.length_map]; exact Nat.lt_of_le_of_lt (show o'.length ≤ 16000002 by omega) (by decide), ?_⟩
            have W9 : Hd H _ [(F0, .lst fx), (M, .dK (numd (kcs c (o' ++ [n])))), (O, .lst ((o' ++ [n]).map fun n => V.int (n : Nat))), (q, .lst (c.map fun n => V.int (n : Nat)))] := W8.set 2 rfl (.lst ((o' ++ [n]).map fun n => V.int (n : Nat)))
            rw [List.map_append] at W9
            refine ⟨o' ++ [n], _, ?_, (tk.trans (TK.upd gM rfl)).trans (TK.upd gO8 rfl), ?_, rfl, fin _ _ (.new nw)⟩
            · rw [List.map_append]; exact W9
            · rw [List.length_append, List.length_singleton]; omega
          · rw [hx2]
            refine ifF rfl ?_
            obtain ⟨y, hy, e⟩ := List.getElem?_map ▸ hx1 |> Option.map_eq_some_iff.mp
            exact ⟨o', _, W7, tk, by omega, rfl, fin o' a (.old hy (kI_inj e))⟩
        · obtain ⟨o2, y8, W7, tk, ol2, rfl, _, _, j2⟩ := m
          obtain ⟨o1, a, b, p1, p2⟩ := j2 rfl
          have gC := W7.get (.tail _ (.tail _ (.tail _ (.head _))))
          have gM := W7.get (.tail _ (.head _))
          have gF := W7.get (.head _)
          have nd2 := kcs_nd (p2.nd (p1.nd lt.nd))
          have h2' := sqT_tk tk h2
          obtain ⟨i1, ha, ea⟩ := p1.at_
          obtain ⟨i2, hb2, eb⟩ := p2.at_
          have va := numd_at nd2 (kcs_at (p2.pre ha) ea)
          have vb := numd_at nd2 (kcs_at hb2 eb)
          have cn1 := at_cl (cc.len.symm ▸ wf.nx i false hit)
          have cn2 := at_cl (cc.len.symm ▸ wf.nx i true hit)
          refine ⟨_, rfl, .inl ⟨rfl, _, SqL.of gF⟩, _, rfl, ?_⟩
          refine ⟨_, rfl, _, rfl, _, rfl, fo, _, _, _, rfl, rfl, h2', atI_nat (j := 0) rfl, q, _, _, _, rfl, rfl, SqL.of gC, atM cn1, M, _, rfl, va ▸ DGet.k gM, ?_⟩
          refine ⟨_, rfl, _, rfl, _, rfl, fo, _, _, _, rfl, rfl, h2', atI_nat (j := 1) rfl, q, _, _, _, rfl, rfl, SqL.of gC, atM cn2, M, _, rfl, vb ▸ DGet.k gM, ?_⟩
          walk_at "kw"
          rename_i T1 H8 fT1 nT1 sT1 W8 T2 H9 fT2 nT2 sT2 W9
          have gF9 := W9.get (.tail _ (.tail _ (.head _)))
          refine ⟨F0, _, _, rfl, rfl, gF9, ?_, ?_⟩
          · rw [ra.1]
            exact big (by omega)
          · have W10 : Hd H _ [(T2, .tup [.bl (isn t i), .ref T1]), (T1, .tup [.int (a : Nat), .int (b : Nat)]), (F0, .lst (fx ++ [.ref T2])), (M, .dK (numd (kcs c o2))), (O, .lst (o2.map fun n => V.int (n : Nat))), (q, .lst (c.map fun n => V.int (n : Nat)))] := W9.set 2 rfl (.lst (fx ++ [.ref T2]))
            have tk9 : TK H6 (upd H9 F0 (.lst (fx ++ [.ref T2]))) := ((tk.trans (TK.same sT1)).trans (TK.same sT2)).trans (TK.upd gF9 rfl)
            have st := lt.step wf hi p1 p2
            have el : (found.length : Int) + 1 = ((found ++ [(isn t i, a, b)]).length : Nat) := by rw [List.length_append]; rfl
            refine ⟨_, rfl, _, _, rfl, rfl, ⟨o2, found ++ [(isn t i, a, b)], fx ++ [.ref T2], some (.bl (isn t i)), some (.ref fo), y8, W10.tl.tl, ?_, st, by rw [← el]; rfl⟩, ?_⟩
            · have tkA := TK.upd gF9 (o := .lst (fx ++ [.ref T2])) rfl
              exact (ra.tk tk9).snoc ⟨T2, T1, rfl, sqT_tk tkA (SqT.of (W9.get (.head _))), sqT_tk tkA (SqT.of (W9.get (.tail _ (.head _))))⟩
            · show t.length - ((found.length : Int) + 1).toNat < t.length - (found.length : Int).toNat
              have := lt.le
              omega
      · have le : found.length = order.length := by
          have h1 := lt.le
          have h2 : ¬ (found.length : Int) < ((order.map fun n => V.int (n : Nat)).length : Nat) := fun z => e (decide_eq_true z)
          rw [List.length_map] at h2
          omega
        obtain ⟨d1, d2, d3⟩ := lt.done wf cc le
        have gF := W6.get (.head _)
        refine ⟨_, rfl, F0, fx, rfl, .inl ⟨SqL.of gF, fun l hl => ?_⟩⟩
        exact k found l _ d1 d2 d3 (free_of W6.sm hl) (W6.sm.trans (sm_new hl)) ⟨fx, SqT.of upd_same, ra.tk (TK.new hl)⟩
    · obtain ⟨v1, e1, v2, e2, p', ys, e3, sq, i, j, e4, e5, b, eb, q⟩ := q
      exact ⟨v1, e1, v2, e2, p', ys, e3, sq, i, j, e4, e5, b, eb, h _ _ q⟩
end

/-! ## tables of words, words ahead -/
namespace Tw
/-- a word, then the words of a set -/
def behind (u : List Bool) (L : List Bool → Bool) (v : List Bool) : Bool := decide (v.take u.length = u) && L (v.drop u.length)
def pbRow (u : List Bool) (out i : Nat) : Rw := if (u[i]?).getD false then (false, out, i + 1) else (false, i + 1, out)
def pbT (u : List Bool) (t : Tab) : Tab := (List.range u.length).map (pbRow u (u.length + t.length)) ++ (t.map (fun r => (r.1, u.length + r.2.1, u.length + r.2.2)) ++ [(false, u.length + t.length, u.length + t.length)])
theorem pb_len (u : List Bool) (t : Tab) : (pbT u t).length = u.length + t.length + 1 := by simp [pbT]; omega
theorem pb_lead (u : List Bool) (t : Tab) {i : Nat} (h : i < u.length) : (pbT u t)[i]? = some (pbRow u (u.length + t.length) i) := by
  unfold pbT
  rw [List.getElem?_append_left (by simp; exact h), List.getElem?_map, List.getElem?_range h]; rfl
theorem pb_tab (u : List Bool) {t : Tab} {j : Nat} {r : Rw} (h : t[j]? = some r) : (pbT u t)[u.length + j]? = some (r.1, u.length + r.2.1, u.length + r.2.2) := by
  unfold pbT
  rw [List.getElem?_append_right (by simp), List.length_map, List.length_range, Nat.add_sub_cancel_left, List.getElem?_append_left (by simp; exact lt_at h), List.getElem?_map, h]; rfl
theorem pb_out (u : List Bool) (t : Tab) : (pbT u t)[u.length + t.length]? = some (false, u.length + t.length, u.length + t.length) := by
  unfold pbT
  rw [List.getElem?_append_right (by simp), List.length_map, List.length_range, Nat.add_sub_cancel_left, List.getElem?_append_right (by simp)]
  simp
theorem pb_dead (u : List Bool) (t : Tab) : ∀ v, acc (pbT u t) (u.length + t.length) v = false
  | [] => by rw [acc_nil, isn_of (pb_out u t)]
  | b :: v => by
    rw [acc_cons]
    cases b
    · rw [nx_l (pb_out u t)]; exact pb_dead u t v
    · rw [nx_r (pb_out u t)]; exact pb_dead u t v
theorem pb_in (u : List Bool) {t : Tab} (w : Wf t) : ∀ (v : List Bool) (j : Nat), j < t.length → acc (pbT u t) (u.length + j) v = acc t j v
  | [], j, h => by
    obtain ⟨r, hr⟩ := at_lt h
    rw [acc_nil, acc_nil, isn_of (pb_tab u hr), isn_of hr]
  | b :: v, j, h => by
    obtain ⟨r, hr⟩ := at_lt h
    rw [acc_cons, acc_cons]
    have e : nx (pbT u t) (u.length + j) b = u.length + nx t j b := by
      cases b
      · rw [nx_l (pb_tab u hr), nx_l hr]
      · rw [nx_r (pb_tab u hr), nx_r hr]
    rw [e]
    exact pb_in u w v _ (w.nx j b h)
theorem pb_wf (u : List Bool) {t : Tab} (w : Wf t) : Wf (pbT u t) := by
  refine ⟨by rw [pb_len]; omega, fun i b hi => ?_⟩
  rw [pb_len] at hi ⊢
  by_cases c : i < u.length
  · have r := pb_lead u t c
    cases b
    · rw [nx_l r]; unfold pbRow; split <;> simp only <;> omega
    · rw [nx_r r]; unfold pbRow; split <;> simp only <;> omega
  · by_cases c2 : i < u.length + t.length
    · obtain ⟨j, rfl⟩ : ∃ j, i = u.length + j := ⟨i - u.length, by omega⟩
      obtain ⟨r, hr⟩ := at_lt (xs := t) (show j < t.length by omega)
      have n1 := w.nx j b (by omega)
      cases b
      · rw [nx_l (pb_tab u hr)]; rw [nx_l hr] at n1; simp only; omega
      · rw [nx_r (pb_tab u hr)]; rw [nx_r hr] at n1; simp only; omega
    · have e : i = u.length + t.length := by omega
      subst e
      cases b
      · rw [nx_l (pb_out u t)]; simp only; omega
      · rw [nx_r (pb_out u t)]; simp only; omega
theorem pb_lead_acc (u : List Bool) {t : Tab} (w : Wf t) : ∀ (v : List Bool) (i : Nat), i ≤ u.length → acc (pbT u t) i v = behind (u.drop i) (acc t 0) v := by
  intro v
  induction v with
  | nil =>
    intro i hi
    by_cases c : i = u.length
    · subst c
      have := pb_in u w [] 0 w.ne
      rw [Nat.add_zero] at this
      rw [this, List.drop_length]
      simp [behind]
    · rw [acc_nil, isn_of (pb_lead u t (show i < u.length by omega))]
      have ne : u.drop i ≠ [] := fun e => by
        have := congrArg List.length e
        rw [List.length_drop] at this
        simp at this
        omega
      have h1 : (pbRow u (u.length + t.length) i).1 = false := by unfold pbRow; split <;> rfl
      rw [h1]
      unfold behind
      rw [List.take_nil, decide_eq_false (fun e => ne e.symm), Bool.false_and]
  | cons b v ih =>
    intro i hi
    by_cases c : i = u.length
    · subst c
      have := pb_in u w (b :: v) 0 w.ne
      rw [Nat.add_zero] at this
      rw [this, List.drop_length]
      simp [behind]
    · have c' : i < u.length := by omega
      obtain ⟨x, hx⟩ := at_lt c'
      have ed : u.drop i = x :: u.drop (i + 1) := by
        rw [List.drop_eq_getElem_cons c']
        congr 1
        have := List.getElem?_eq_getElem c'
        rw [hx] at this
        exact (Option.some.inj this).symm
      rw [acc_cons, ed]
      have r := pb_lead u t c'
      have e : nx (pbT u t) i b = if b = x then i + 1 else u.length + t.length := by
        cases b <;> cases x <;> first | rw [nx_l r] | rw [nx_r r]
        all_goals (unfold pbRow; rw [hx]; simp)
      rw [e]
      by_cases q : b = x
      · rw [if_pos q, ih (i + 1) (by omega), q]
        simp [behind]
      · rw [if_neg q, pb_dead]
        simp [behind, q]
theorem pb_lang (u : List Bool) {t : Tab} (w : Wf t) (v : List Bool) : acc (pbT u t) 0 v = behind u (acc t 0) v := by
  have := pb_lead_acc u w v 0 (Nat.zero_le _)
  rwa [List.drop_zero] at this
/-! ### the tree of words -/
structure Tr (t : Tab) (P : List (List Bool)) (W : List (List Bool)) : Prop where
  len : P.length = t.length
  two : 2 ≤ t.length
  root : P[0]? = some []
  dead : t[1]? = some (false, 1, 1)
  step : ∀ (i : Nat) (p : List Bool) (b : Bool), i ≠ 1 → P[i]? = some p → nx t i b = 1 ∨ (2 ≤ nx t i b ∧ P[nx t i b]? = some (p ++ [b]))
  way : ∀ (j : Nat) (p : List Bool), j ≠ 1 → P[j]? = some p → go t 0 p = j
  isn : ∀ (j : Nat) (p : List Bool), j ≠ 1 → P[j]? = some p → (isn t j = true ↔ p ∈ W)
  all : ∀ v ∈ W, ∃ j, j ≠ 1 ∧ P[j]? = some v
theorem Tr.one {t : Tab} {P W : List (List Bool)} (h : Tr t P W) (v : List Bool) : go t 1 v = 1 := by
  induction v with
  | nil => rfl
  | cons b v ih =>
    rw [go_cons]
    cases b
    · rw [nx_l h.dead]; exact ih
    · rw [nx_r h.dead]; exact ih
theorem Tr.path {t : Tab} {P W : List (List Bool)} (h : Tr t P W) : ∀ (v : List Bool) (i : Nat) (p : List Bool), i ≠ 1 → P[i]? = some p → go t i v = 1 ∨ (go t i v ≠ 1 ∧ P[go t i v]? = some (p ++ v))
  | [], i, p, hi, hp => .inr ⟨hi, by rw [List.append_nil]; exact hp⟩
  | b :: v, i, p, hi, hp => by
    rw [go_cons]
    rcases h.step i p b hi hp with e | ⟨e1, e2⟩
    · rw [e]; exact .inl (h.one v)
    · have := h.path v _ _ (by omega) e2
      rw [List.append_assoc] at this
      exact this
theorem Tr.lang {t : Tab} {P W : List (List Bool)} (h : Tr t P W) (v : List Bool) : acc t 0 v = true ↔ v ∈ W := by
  constructor
  · intro a
    rcases h.path v 0 [] (by decide) h.root with e | ⟨e1, e2⟩
    · unfold acc at a
      rw [e, isn_of h.dead] at a
      cases a
    · exact (h.isn _ _ e1 e2).mp a
  · intro m
    obtain ⟨j, j1, hj⟩ := h.all v m
    unfold acc
    rw [h.way j v j1 hj]
    exact (h.isn j v j1 hj).mpr m
theorem Tr.wf {t : Tab} {P W : List (List Bool)} (h : Tr t P W) : Wf t := by
  refine ⟨by have := h.two; omega, fun i b hi => ?_⟩
  have l2 := h.two
  by_cases c : i = 1
  · subst c
    cases b
    · rw [nx_l h.dead]; simp only; omega
    · rw [nx_r h.dead]; simp only; omega
  · obtain ⟨p, hp⟩ := at_lt (xs := P) (h.len ▸ hi)
    rcases h.step i p b c hp with e | ⟨_, e2⟩
    · omega
    · have := lt_at e2; rw [h.len] at this; exact this
def t0 : Tab := [(false, 1, 1), (false, 1, 1)]
theorem Tr.start : Tr t0 [[], []] [] := by
  refine ⟨rfl, by decide, rfl, rfl, fun i p b hi hp => ?_, fun j p hj hp => ?_, fun j p hj hp => ?_, fun v h => (nomatch h)⟩
  · have := lt_at hp
    simp at this
    have e : i = 0 := by omega
    subst e
    exact .inl (by cases b <;> rfl)
  · have := lt_at hp
    simp at this
    have e : j = 0 := by omega
    subst e
    cases hp
    rfl
  · have := lt_at hp
    simp at this
    have e : j = 0 := by omega
    subst e
    cases hp
    exact ⟨fun h => (by cases h), fun h => (nomatch h)⟩
/-- a row with another end on one side -/
def setN (r : Rw) (b : Bool) (n : Nat) : Rw := if b then (r.1, r.2.1, n) else (r.1, n, r.2.2)
theorem nx_set {t : Tab} {i : Nat} {r : Rw} {b : Bool} {n : Nat} (h : t[i]? = some r) (k : Nat) (c : Bool) : nx (t.set i (setN r b n)) k c = if k = i ∧ c = b then n else nx t k c := by
  by_cases e : k = i
  · subst e
    have hl := lt_at h
    have h2 : (t.set k (setN r b n))[k]? = some (setN r b n) := by rw [List.getElem?_set_self hl]
    cases c <;> cases b <;> first | rw [nx_l h2] | rw [nx_r h2]
    all_goals (unfold setN; simp)
    all_goals first | rw [nx_l h] | rw [nx_r h]
  · have : rowAt (t.set i (setN r b n)) k = rowAt t k := by unfold rowAt; rw [List.getElem?_set_ne (Ne.symm e)]
    have e2 : nx (t.set i (setN r b n)) k c = nx t k c := by unfold nx; rw [this]
    rw [e2, if_neg (fun z => e z.1)]
theorem isn_set {t : Tab} {i : Nat} {r : Rw} {b : Bool} {n : Nat} (h : t[i]? = some r) (k : Nat) : isn (t.set i (setN r b n)) k = isn t k := by
  by_cases e : k = i
  · subst e
    have hl := lt_at h
    have h2 : (t.set k (setN r b n))[k]? = some (setN r b n) := by rw [List.getElem?_set_self hl]
    rw [isn_of h2, isn_of h]
    unfold setN
    split <;> rfl
  · unfold isn rowAt
    rw [List.getElem?_set_ne (Ne.symm e)]
theorem nx_app {t : Tab} {r : Rw} {k : Nat} (h : k < t.length) (c : Bool) : nx (t ++ [r]) k c = nx t k c := by unfold nx; rw [row_app_l h]
theorem isn_app {t : Tab} {r : Rw} {k : Nat} (h : k < t.length) : isn (t ++ [r]) k = isn t k := by unfold isn; rw [row_app_l h]
theorem Tr.fresh {t : Tab} {P W : List (List Bool)} (h : Tr t P W) {i : Nat} {p : List Bool} {b : Bool} (hi : i ≠ 1) (hp : P[i]? = some p) (hb : nx t i b = 1) : ∀ j, j ≠ 1 → P[j]? ≠ some (p ++ [b]) := fun j hj e => by
  have h1 := h.way j _ hj e
  rw [go_app, h.way i p hi hp] at h1
  have : go t i [b] = nx t i b := rfl
  rw [this, hb] at h1
  exact hj h1.symm
theorem Tr.grow {t : Tab} {P W : List (List Bool)} (h : Tr t P W) {i : Nat} {p : List Bool} {b : Bool} {r : Rw} (hi : i ≠ 1) (hp : P[i]? = some p) (hr : t[i]? = some r) (hb : nx t i b = 1) :
    Tr (t.set i (setN r b t.length) ++ [(false, 1, 1)]) (P ++ [p ++ [b]]) W := by
  have fr := h.fresh hi hp hb
  have l2 := h.two
  have il := lt_at hr
  have sl : (t.set i (setN r b t.length)).length = t.length := List.length_set
  have nxo : ∀ k c, k < t.length → nx (t.set i (setN r b t.length) ++ [(false, 1, 1)]) k c = if k = i ∧ c = b then t.length else nx t k c := fun k c hk => by
    rw [nx_app (by rw [sl]; exact hk), nx_set hr]
  have last : (t.set i (setN r b t.length) ++ [(false, 1, 1)])[t.length]? = some (false, 1, 1) := by
    have := List.getElem?_concat_length (l := t.set i (setN r b t.length)) (a := ((false, 1, 1) : Rw))
    rwa [sl] at this
  have old : ∀ k, k < t.length → (P ++ [p ++ [b]])[k]? = P[k]? := fun k hk => List.getElem?_append_left (by rw [h.len]; exact hk)
  have newP : (P ++ [p ++ [b]])[t.length]? = some (p ++ [b]) := by rw [← h.len, List.getElem?_concat_length]
  have cases_ : ∀ j q, (P ++ [p ++ [b]])[j]? = some q → (j < t.length ∧ P[j]? = some q) ∨ (j = t.length ∧ q = p ++ [b]) := fun j q hq => by
    by_cases c : j < t.length
    · rw [old j c] at hq; exact .inl ⟨c, hq⟩
    · have := lt_at hq
      rw [List.length_append, List.length_singleton, h.len] at this
      have e : j = t.length := by omega
      subst e
      rw [newP] at hq
      exact .inr ⟨rfl, (Option.some.inj hq).symm⟩
  have same : ∀ (v : List Bool) (k : Nat) (q : List Bool), k ≠ 1 → P[k]? = some q → go t k v ≠ 1 → go (t.set i (setN r b t.length) ++ [(false, 1, 1)]) k v = go t k v := by
    intro v
    induction v with
    | nil => intro k q _ _ _; rfl
    | cons c v ih =>
      intro k q hk hq hg
      have kl : k < t.length := by rw [← h.len]; exact lt_at hq
      rw [go_cons] at hg ⊢
      rw [go_cons, nxo k c kl]
      by_cases e : k = i ∧ c = b
      · rw [e.1, e.2, hb, h.one] at hg
        exact absurd rfl hg
      · rw [if_neg e]
        rcases h.step k q c hk hq with e1 | ⟨e1, e2⟩
        · rw [e1, h.one] at hg; exact absurd rfl hg
        · exact ih _ _ (by omega) e2 hg
  refine ⟨by simp [h.len], by simp; omega, ?_, ?_, fun k q c hk hq => ?_, fun j q hj hq => ?_, fun j q hj hq => ?_, fun v hv => ?_⟩
  · rw [old 0 (by omega)]; exact h.root
  · rw [List.getElem?_append_left (by rw [sl]; omega), List.getElem?_set_ne hi]; exact h.dead
  · rcases cases_ k q hq with ⟨kl, hq'⟩ | ⟨rfl, rfl⟩
    · rw [nxo k c kl]
      by_cases e : k = i ∧ c = b
      · rw [if_pos e]
        obtain ⟨rfl, rfl⟩ := e
        rw [hp] at hq'
        cases hq'
        exact .inr ⟨l2, newP⟩
      · rw [if_neg e]
        rcases h.step k q c hk hq' with e1 | ⟨e1, e2⟩
        · exact .inl e1
        · refine .inr ⟨e1, ?_⟩
          rw [old _ (by have := lt_at e2; rw [h.len] at this; exact this)]; exact e2
    · left
      cases c
      · rw [nx_l last]
      · rw [nx_r last]
  · rcases cases_ j q hq with ⟨jl, hq'⟩ | ⟨rfl, rfl⟩
    · have := h.way j q hj hq'
      rw [same q 0 [] (by decide) h.root (by rw [this]; exact hj)]; exact this
    · have hw := h.way i p hi hp
      rw [go_app, same p 0 [] (by decide) h.root (by rw [hw]; exact hi), hw]
      show nx _ i b = _
      rw [nxo i b il, if_pos ⟨rfl, rfl⟩]
  · rcases cases_ j q hq with ⟨jl, hq'⟩ | ⟨rfl, rfl⟩
    · rw [isn_app (by rw [sl]; exact jl), isn_set hr]
      exact h.isn j q hj hq'
    · rw [isn_of last]
      refine ⟨fun z => (by cases z), fun m => ?_⟩
      obtain ⟨k, hk, hk2⟩ := h.all _ m
      exact absurd hk2 (fr k hk)
  · obtain ⟨j, hj, hj2⟩ := h.all v hv
    refine ⟨j, hj, ?_⟩
    rw [old j (by have := lt_at hj2; rw [h.len] at this; exact this)]; exact hj2
theorem Tr.put {t : Tab} {P W : List (List Bool)} (h : Tr t P W) {i : Nat} {p : List Bool} {r : Rw} (hi : i ≠ 1) (hp : P[i]? = some p) (hr : t[i]? = some r) : Tr (t.set i (true, r.2)) P (W ++ [p]) := by
  have nxs : ∀ k c, nx (t.set i (true, r.2)) k c = nx t k c := fun k c => by
    by_cases e : k = i
    · subst e
      have h2 : (t.set k (true, r.2))[k]? = some (true, r.2) := by rw [List.getElem?_set_self (lt_at hr)]
      cases c
      · rw [nx_l h2, nx_l hr]
      · rw [nx_r h2, nx_r hr]
    · unfold nx rowAt; rw [List.getElem?_set_ne (Ne.symm e)]
  have gos : ∀ v k, go (t.set i (true, r.2)) k v = go t k v := fun v => by
    induction v with
    | nil => exact fun _ => rfl
    | cons c v ih => intro k; rw [go_cons, go_cons, nxs, ih]
  refine ⟨by rw [List.length_set]; exact h.len, by rw [List.length_set]; exact h.two, h.root, by rw [List.getElem?_set_ne hi]; exact h.dead, fun k q c hk hq => by rw [nxs]; exact h.step k q c hk hq, fun j q hj hq => by rw [gos]; exact h.way j q hj hq, fun j q hj hq => ?_, fun v hv => ?_⟩
  · by_cases e : j = i
    · subst e
      have h2 : (t.set j (true, r.2))[j]? = some (true, r.2) := by rw [List.getElem?_set_self (lt_at hr)]
      rw [isn_of h2]
      rw [hp] at hq
      cases hq
      exact ⟨fun _ => List.mem_append_right _ (List.mem_singleton.mpr rfl), fun _ => rfl⟩
    · have e1 : Mc.isn (t.set i (true, r.2)) j = Mc.isn t j := by unfold Mc.isn rowAt; rw [List.getElem?_set_ne (Ne.symm e)]
      rw [e1, h.isn j q hj hq, List.mem_append]
      refine ⟨.inl, fun z => z.elim id fun m => ?_⟩
      have := List.mem_singleton.mp m
      subst this
      have e2 := h.way j _ hj hq
      rw [h.way i _ hi hp] at e2
      exact absurd e2.symm e
  · rcases List.mem_append.mp hv with m | m
    · exact h.all v m
    · cases List.mem_singleton.mp m
      exact ⟨i, hi, hp⟩
/-! ### rows from which a word goes on -/
def cnt (f : List Bool) : Nat := f.count true
theorem cnt_le : ∀ (f : List Bool), cnt f ≤ f.length := fun f => List.count_le_length
theorem cnt_mono : ∀ (f g : List Bool), f.length = g.length → (∀ i : Nat, f[i]? = some true → g[i]? = some true) → cnt f ≤ cnt g ∧ (cnt f = cnt g → f = g)
  | [], [], _, _ => ⟨Nat.le_refl _, fun _ => rfl⟩
  | [], _ :: _, h, _ => by simp at h
  | _ :: _, [], h, _ => by simp at h
  | a :: f, b :: g, h, m => by
    have ih := cnt_mono f g (by simpa using h) (fun i hi => by have := m (i + 1) (by rw [List.getElem?_cons_succ]; exact hi); rwa [List.getElem?_cons_succ] at this)
    have m0 : a = true → b = true := fun e => by have := m 0 (by rw [e]; rfl); simpa using this
    unfold cnt at ih ⊢
    rw [List.count_cons, List.count_cons]
    cases a <;> cases b
    · simp only [beq_iff_eq, Bool.false_eq_true, if_false, Nat.add_zero]
      exact ⟨ih.1, fun e => by rw [ih.2 e]⟩
    · have := ih.1
      refine ⟨?_, fun e => ?_⟩
      · simp; omega
      · simp at e; omega
    · exact absurd (m0 rfl) (by decide)
    · simp only [beq_self_eq_true, if_true]
      exact ⟨by omega, fun e => by rw [ih.2 (by omega)]⟩
/-- sound so far -/
structure Alv (t : Tab) (f : List Bool) : Prop where
  len : f.length = t.length
  snd : ∀ i, f[i]? = some true → ∃ u, acc t i u = true
  own : ∀ i, i < t.length → isn t i = true → f[i]? = some true
def nxt (t : Tab) (f : List Bool) (i : Nat) : Bool := (f[i]?).getD false || ((f[nx t i false]?).getD false || (f[nx t i true]?).getD false)
theorem getD_true {f : List Bool} {i : Nat} (h : (f[i]?).getD false = true) : f[i]? = some true := by
  cases e : f[i]? with
  | none => rw [e] at h; cases h
  | some b => rw [e] at h; exact congrArg some h
theorem Alv.start {t : Tab} : Alv t (t.map (·.1)) := by
  refine ⟨List.length_map _, fun i h => ⟨[], ?_⟩, fun i hi h => ?_⟩
  · rw [List.getElem?_map] at h
    obtain ⟨r, hr, e⟩ := Option.map_eq_some_iff.mp h
    rw [acc_nil, isn_of hr]; exact e
  · obtain ⟨r, hr⟩ := at_lt hi
    rw [isn_of hr] at h
    rw [List.getElem?_map, hr, ← h]; rfl
theorem Alv.step {t : Tab} {f : List Bool} (h : Alv t f) : Alv t ((List.range t.length).map (nxt t f)) ∧ cnt f ≤ cnt ((List.range t.length).map (nxt t f)) ∧ (cnt f = cnt ((List.range t.length).map (nxt t f)) → f = (List.range t.length).map (nxt t f)) := by
  have at_ : ∀ i, i < t.length → ((List.range t.length).map (nxt t f))[i]? = some (nxt t f i) := fun i hi => by rw [List.getElem?_map, List.getElem?_range hi]; rfl
  have mono : ∀ i : Nat, f[i]? = some true → ((List.range t.length).map (nxt t f))[i]? = some true := fun i hi => by
    rw [at_ i (by rw [← h.len]; exact lt_at hi)]
    unfold nxt
    rw [hi]; rfl
  refine ⟨⟨by simp, fun i hi => ?_, fun i hi e => mono i (h.own i hi e)⟩, cnt_mono _ _ (by simp [h.len]) mono⟩
  have il := lt_at hi
  rw [List.length_map, List.length_range] at il
  rw [at_ i il] at hi
  have hi := Option.some.inj hi
  unfold nxt at hi
  rcases Bool.or_eq_true_iff.mp hi with e | e
  · exact h.snd i (getD_true e)
  · rcases Bool.or_eq_true_iff.mp e with e | e
    · obtain ⟨u, hu⟩ := h.snd _ (getD_true e)
      exact ⟨false :: u, hu⟩
    · obtain ⟨u, hu⟩ := h.snd _ (getD_true e)
      exact ⟨true :: u, hu⟩
theorem Alv.done {t : Tab} (w : Wf t) {f : List Bool} (h : Alv t f) (e : f = (List.range t.length).map (nxt t f)) {i : Nat} (hi : i < t.length) : f[i]? = some true ↔ ∃ u, acc t i u = true := by
  have at_ : ∀ i, i < t.length → f[i]? = some (nxt t f i) := fun i hi => by
    have := congrArg (·[i]?) e
    rw [this, List.getElem?_map, List.getElem?_range hi]; rfl
  have gen : ∀ (u : List Bool) (i : Nat), i < t.length → acc t i u = true → f[i]? = some true := by
    intro u
    induction u with
    | nil => exact fun i hi hu => h.own i hi hu
    | cons b u ih =>
      intro i hi hu
      have q := ih _ (w.nx i b hi) hu
      rw [at_ i hi]
      unfold nxt
      cases b
      · rw [q]; simp
      · rw [q]; simp
  exact ⟨h.snd i, fun ⟨u, hu⟩ => gen u i hi hu⟩
/-- each row of a least table is met -/
theorem ord_par {l : List Nat} {n : Nat} (h : Ord l n) : ∀ k, 0 < k → k < n → ∃ p, p < l.length ∧ l[p]? = some k ∧ p < 2 * k := by
  induction h with
  | nil => intro k h1 h2; omega
  | @old l n x o hl hx ih =>
    intro k h1 h2
    obtain ⟨p, a, b, c⟩ := ih k h1 h2
    exact ⟨p, by rw [List.length_append]; omega, by rw [List.getElem?_append_left a]; exact b, c⟩
  | @new l n o hl ih =>
    intro k h1 h2
    by_cases c : k < n
    · obtain ⟨p, a, b, c⟩ := ih k h1 c
      exact ⟨p, by rw [List.length_append]; omega, by rw [List.getElem?_append_left a]; exact b, c⟩
    · have e : k = n := by omega
      subst e
      exact ⟨l.length, by simp, List.getElem?_concat_length, hl⟩
theorem least_met {t : Tab} (h : Least t) : ∀ k, k < t.length → ∃ u, go t 0 u = k := by
  intro k
  induction k using Nat.strongRecOn with
  | _ k ih =>
    intro hk
    by_cases c : k = 0
    · exact ⟨[], c.symm⟩
    · obtain ⟨p, p1, p2, p3⟩ := ord_par h.ord k (by omega) hk
      rw [flat_len] at p1
      obtain ⟨b, hb⟩ : ∃ b : Bool, p = 2 * (p / 2) + (if b then 1 else 0) := by
        have dv := Nat.div_add_mod p 2
        have md := Nat.mod_lt p (show 0 < 2 by omega)
        by_cases c : p % 2 = 0
        · exact ⟨false, by simp; omega⟩
        · exact ⟨true, by simp; omega⟩
      have hj : p / 2 < t.length := by omega
      obtain ⟨u, hu⟩ := ih (p / 2) (by omega) hj
      have e := flat_at t (p / 2) b hj
      rw [← hb, p2] at e
      refine ⟨u ++ [b], ?_⟩
      rw [go_app, hu]
      exact (Option.some.inj e).symm
theorem least_some {t : Tab} (h : Least t) {f : List Bool} (hf : ∀ i, i < t.length → (f[i]? = some true ↔ ∃ u, acc t i u = true)) (hl : f.length = t.length) : (f.any id) = true ↔ ∃ u, acc t 0 u = true := by
  constructor
  · intro a
    obtain ⟨x, hx, e⟩ := List.any_eq_true.mp a
    obtain ⟨i, hi⟩ := List.mem_iff_getElem?.mp hx
    have il : i < t.length := by rw [← hl]; exact lt_at hi
    obtain ⟨u, hu⟩ := (hf i il).mp (by rw [hi, show x = true from e])
    obtain ⟨v, hv⟩ := least_met h i il
    exact ⟨v ++ u, by rw [acc_app, hv]; exact hu⟩
  · intro a
    have := (hf 0 h.wf.ne).mpr a
    exact List.any_eq_true.mpr ⟨true, List.mem_iff_getElem?.mpr ⟨0, this⟩, rfl⟩
end Tw
open Tw

/-! ## words ahead, tables of words, rows alive -/
namespace Mw
theorem pg_lstK {X : Cx} {K : PySem.W.Frag} {es : List Expr} {k : Nat} {t : TGs} {n : Nat} {pos : Pos} (hK : X.K = K) (hc : X.calm = true) (h : PGs X es t)
    (hn : (assignEach es X.env).length = n := by rfl) (hst : (assignEach es X.env).findIdx? (·.1) = none := by rfl) : PG X (.Tuple es k pos) (gLst K n t) := hK ▸ pg_lst hc h hn hst
theorem add_row {K : PySem.W.Frag} {H : Hp} {R T1 T2 : Addr} {fx : List V} {pre : Tab} (r : Rw) {x y : Int} (hR : H R = some (.lst fx)) (h2 : H T2 = some (.tup [.bl r.1, .ref T1])) (h1 : H T1 = some (.tup [.int x, .int y])) (ex : x = (r.2.1 : Nat)) (ey : y = (r.2.2 : Nat)) (ra : RowsAt K H fx pre) :
    RowsAt K (upd H R (.lst (fx ++ [.ref T2]))) (fx ++ [.ref T2]) (pre ++ [r]) := by
  subst ex; subst ey
  have tk := TK.upd hR (o := .lst (fx ++ [.ref T2])) rfl
  exact (ra.tk tk).snoc ⟨T2, T1, rfl, sqT_tk tk (SqT.of h2), sqT_tk tk (SqT.of h1)⟩
theorem RowsAt.app {K : PySem.W.Frag} {H : Hp} {xs : List V} {s : Tab} (h1 : RowsAt K H xs s) : ∀ {ys : List V} {t : Tab}, RowsAt K H ys t → RowsAt K H (xs ++ ys) (s ++ t) := by
  intro ys t h2
  refine ⟨by rw [List.length_append, List.length_append, h1.1, h2.1], fun i v r hv hr => ?_⟩
  by_cases c : i < xs.length
  · rw [List.getElem?_append_left c] at hv
    rw [List.getElem?_append_left (h1.1 ▸ c)] at hr
    exact h1.2 i v r hv hr
  · rw [List.getElem?_append_right (by omega)] at hv
    rw [List.getElem?_append_right (by rw [← h1.1]; omega), ← h1.1] at hr
    exact h2.2 _ v r hv hr
theorem gTup3_mono (K : PySem.W.Frag) (i j k : Nat) : ∀ (x : V) (σ : L2.St) (H : Hp) (Q Q' : L2.St → Hp → Prop), (∀ σ2 H2, Q σ2 H2 → Q' σ2 H2) → gTup K 2 (gCons (gName i) (gCons (gTup K 2 (gCons (gName j) (gCons (gName k) gNil))) gNil)) x σ H Q → gTup K 2 (gCons (gName i) (gCons (gTup K 2 (gCons (gName j) (gCons (gName k) gNil))) gNil)) x σ H Q' :=
  fun x σ H Q Q' h ⟨a, xs, e, s, l, v, r, e1, v2, r2, e2, a3, xs3, e3, s3, l3, v4, r4, e4, v5, r5, e5, e6, e7, q⟩ => ⟨a, xs, e, s, l, v, r, e1, v2, r2, e2, a3, xs3, e3, s3, l3, v4, r4, e4, v5, r5, e5, e6, e7, h _ _ q⟩
theorem atB {f : List Bool} {i : Nat} (h : i < f.length) : atI (f.map V.bl) (i : Nat) = some (.bl ((f[i]?).getD false)) := by
  obtain ⟨b, hb⟩ := at_lt h
  exact at_of (j := i) (by omega) (by rw [List.getElem?_map, hb]; rfl)
def sp_put (K : PySem.W.Frag) : Sp := fun vs H Q _ => ∃ (p : Addr) (u : List Bool) (t : Tab), vs = [.str (enc u), .ref p] ∧ u.length ≤ 1000 ∧ TabAt K H p t ∧ Wf t ∧ t.length ≤ 15000000 ∧ ∀ (T : Tab) (q : Addr) (H' : Hp), Least T → (∀ v, acc T 0 v = behind u (acc t 0) v) → T.length ≤ u.length + t.length + 1 → H q = none → Same H H' → TabAt K H' q T → Q (.ref q) H'
def sp_alive (K : PySem.W.Frag) : Sp := fun vs H Q _ => ∃ (p : Addr) (t : Tab), vs = [.ref p] ∧ TabAt K H p t ∧ Wf t ∧ t.length ≤ 16000000 ∧ ∀ (f : List Bool) (q : Addr) (H' : Hp), f.length = t.length → (∀ i, i < t.length → (f[i]? = some true ↔ ∃ u, acc t i u = true)) → H q = none → Same H H' → H' q = some (.lst (f.map V.bl)) → Q (.ref q) H'
end Mw
open Mw
section
variable {P : Program} {w : World} {K : PySem.W.Frag} {mg : Str → Option Value} {base : Heap}
theorem ok_put {f : Addr} {fd : FuncData} (F : Fun K "put_behind" "put_behind" S_put_behind f fd) (T : Txt K mg) (C_least : FnC P w K mg base CX0 2 "least_table" ["rows"] (sp_least K)) : FnOk P w K mg base CX0 3 f fd ["word", "table"] (sp_put K) := by
  refine F.ok SC_put_behind (fun vs H Q E h => ?_) (fun cdv A outer s H vs Q E hr h => ?_)
  · obtain ⟨p, u, t, rfl, _⟩ := h
    rfl
  · obtain ⟨p, u, t, rfl, hu, hp, wf, tb, k⟩ := h
    refine ⟨_, (pss_cons (ps_set (i := 2) SC_put_behind.nd rfl (.inr rfl) (pe_callB call_len_str (by rfl) T.b_len (by decide +kernel) (pa_cons (pv 0) pa_nil)))
      (pss_cons (ps_set (i := 3) SC_put_behind.nd rfl (.inl rfl) (pe_lstN pa_nil))
      (pss_cons (ps_for PassesOwn.never rfl (pi_enumS (by rfl) T.b_enumerate (pa_cons (pv 0) pa_nil)) (pg_tup rfl (pgs_cons (pg_name (i := 4) SC_put_behind.nd rfl (.inl rfl)) (pgs_cons (pg_name (i := 5) SC_put_behind.nd rfl (.inl rfl)) pgs_nil))) (pss_mid (ps_par (i := 6) (j := 7) (by rfl) SC_put_behind.nd rfl rfl (by decide) rfl rfl (pa_cons (pe_op op_add (pv 4) pe_int) (pa_cons (pe_op op_add (pv 2) (pe_callB call_len_seq (by rfl) T.b_len (by decide +kernel) (pa_cons (pv 1) pa_nil))) pa_nil)) (by rfl))
      (pss_one (ps_expr (pe_bm PySem.F.plainAttrs_list PySem.F.slot_list_append PySem.F.type_list_append mt_append (pv 3) (pa_cons (pe_tupN (pa_cons pe_bl (pa_cons (pe_ifExp (pt_cmpR op_eq (pv 5) pe_str (nomark _)) (pe_tupN (pa_cons (pv 6) (pa_cons (pv 7) pa_nil))) (pe_tupN (pa_cons (pv 7) (pa_cons (pv 6) pa_nil)))) pa_nil))) pa_nil))))))
      (pss_cons (ps_expr (pe_bm PySem.F.plainAttrs_list PySem.F.slot_list_extend PySem.F.type_list_extend mt_extend (pv 3) (pa_cons (pe_lc (own := [("is_in", 8), ("left", 9), ("right", 10)])  (by rfl) SC_put_behind.nd (pi_tup (pv 1)) (blkOk_by (own := [("is_in", 8), ("left", 9), ("right", 10)]) (N := N_put_behind) (sc := defScope S_put_behind) (by decide +kernel)) (fun _ _ _ _ _ => (pg_tupK (K := K) (n := 2) rfl rfl (pgs_cons (pg_name (i := 8) SC_put_behind.nd rfl (.inl rfl)) (pgs_cons (pg_tupK (K := K) (n := 2) rfl rfl (pgs_cons (pg_name (i := 9) SC_put_behind.nd rfl (.inl rfl)) (pgs_cons (pg_name (i := 10) SC_put_behind.nd rfl (.inl rfl)) pgs_nil))) pgs_nil)))) (fun _ _ _ _ _ => pts_nil) (fun _ _ _ _ _ => (pe_tupN (pa_cons (pv 8) (pa_cons (pe_tupN (pa_cons (pe_op op_add (pv 2) (pv 9)) (pa_cons (pe_op op_add (pv 2) (pv 10)) pa_nil))) pa_nil))))) pa_nil)))
      (pss_cons (ps_expr (pe_bm PySem.F.plainAttrs_list PySem.F.slot_list_append PySem.F.type_list_append mt_append (pv 3) (pa_cons (pe_tupN (pa_cons pe_bl (pa_cons (pe_tupN (pa_cons (pe_op op_add (pv 2) (pe_callB call_len_seq (by rfl) T.b_len (by decide +kernel) (pa_cons (pv 1) pa_nil))) (pa_cons (pe_op op_add (pv 2) (pe_callB call_len_seq (by rfl) T.b_len (by decide +kernel) (pa_cons (pv 1) pa_nil))) pa_nil))) pa_nil))) pa_nil)))
      (pss_one (ps_ret (pe_callC C_least (hr.mono (by decide)) rfl (pa_cons (pv 3) pa_nil))))))))), ?_⟩
    have W0 := Hd.start H
    walk_at "kw"
    rename_i R H1 f1 n1 s1 W1
    obtain ⟨xs, hp, hx⟩ := hp
    have hz : (enc u).length = u.length := enc_len u
    rw [hz]
    refine for_enE u.length (fun i σ H' => ∃ (fx : List V) (y4 y5 y6 y7 y8 y9 y10 : Option V), Hd H H' [(R, .lst fx)] ∧ RowsAt K H' fx ((pbT u t).take i) ∧ σ = [some (.str (enc u)), some (.ref p), some (.int (u.length : Nat)), some (.ref R), y4, y5, y6, y7, y8, y9, y10])
      ⟨[], _, _, _, _, _, _, _, W1, .nil, rfl⟩ (fun i σ H2 _ _ => (enc_len u).symm) (fun i x σ H2 T1 hi hv m hT => ?_) (fun σ H2 m => ?_)
    · obtain ⟨fx, y4, y5, y6, y7, y8, y9, y10, W2, ra, rfl⟩ := m
      obtain ⟨c, hc, rfl⟩ := hv
      obtain ⟨b, hb, rfl⟩ := enc_at hc
      have W3 := W2.call (sm_new (o := .tup [.int (i : Nat), .str ⟨#[cd b]⟩]) hT)
      have ra3 := ra.tk (TK.new (o := .tup [.int (i : Nat), .str ⟨#[cd b]⟩]) hT)
      refine ⟨T1, _, rfl, SqT.of upd_same, rfl, _, _, rfl, _, _, rfl, rfl, ?_⟩
      have hp3 := sqT_tk W3.tk hp
      have lt_ : xs.length = t.length := hx.1
      refine ⟨fun σ' H' => Hd H H' [(R, .lst fx)] ∧ RowsAt K H' fx ((pbT u t).take i) ∧ σ' = [some (.str (enc u)), some (.ref p), some (.int (u.length : Nat)), some (.ref R), some (.int (i : Nat)), some (.str ⟨#[cd b]⟩), some (.int ((i + 1 : Nat) : Nat)), some (.int ((u.length + t.length : Nat) : Nat)), y8, y9, y10], ?_, fun σ1 H4 z => ?_⟩
      · walk_at "kw"
        rw [lt_]
        show ([some (.str (enc u)), some (.ref p), some (.int (u.length : Nat)), some (.ref R), some (.int (i : Nat)), some (.str ⟨#[cd b]⟩), some (.int ((i : Int) + 1)), some (.int ((u.length : Int) + t.length)), y8, y9, y10] : List (Option V)) = _
        rw [show (i : Int) + 1 = ((i + 1 : Nat) : Int) by omega, show (u.length : Int) + t.length = ((u.length + t.length : Nat) : Int) by omega]
      · obtain ⟨W4, ra4, rfl⟩ := z
        have gR := W4.get (.head _)
        have len : fx.length < sizeLine := by
          rw [ra4.1, List.length_take]
          exact big (by omega)
        have hrow := pb_lead u t hi
        have et : (pbT u t).take (i + 1) = (pbT u t).take i ++ [pbRow u (u.length + t.length) i] := by rw [List.take_add_one, hrow]; rfl
        refine ⟨_, rfl, .inl ⟨rfl, _, SqL.of gR⟩, ?_⟩
        walk_at "kw"
        refine ite2 (fun h => ?_) (fun h => ?_)
        · have eb : b = false := by have e := of_decide_eq_true h; revert e; cases b <;> decide +kernel
          subst eb
          walk_at "kw"
          rename_i Ta Ha fa na sa Wa Tb Hb fb nb sb Wb
          have gR2 := Wb.get (.tail _ (.tail _ (.head _)))
          refine ⟨R, _, _, rfl, rfl, gR2, len, fx ++ [.ref Tb], _, _, _, _, _, _, _, ?_, ?_, rfl⟩
          · have W' : Hd H _ [(Tb, _), (Ta, _), (R, .lst (fx ++ [.ref Tb]))] := Wb.set 2 rfl (.lst (fx ++ [.ref Tb]))
            exact W'.tl.tl
          · rw [et]
            refine add_row (pbRow u (u.length + t.length) i) gR2 (T1 := Ta) ?_ (Wb.get (.tail _ (.head _))) ?_ ?_ ((ra4.tk (TK.same sa)).tk (TK.same sb))
            all_goals (unfold pbRow; rw [hb])
            · exact Wb.get (.head _)
            · rfl
            · rfl
        · have eb : b = true := by have e := fun z => h (decide_eq_true z); revert e; cases b <;> decide +kernel
          subst eb
          walk_at "kw"
          rename_i Ta Ha fa na sa Wa Tb Hb fb nb sb Wb
          have gR2 := Wb.get (.tail _ (.tail _ (.head _)))
          refine ⟨R, _, _, rfl, rfl, gR2, len, fx ++ [.ref Tb], _, _, _, _, _, _, _, ?_, ?_, rfl⟩
          · have W' : Hd H _ [(Tb, _), (Ta, _), (R, .lst (fx ++ [.ref Tb]))] := Wb.set 2 rfl (.lst (fx ++ [.ref Tb]))
            exact W'.tl.tl
          · rw [et]
            refine add_row (pbRow u (u.length + t.length) i) gR2 (T1 := Ta) ?_ (Wb.get (.tail _ (.head _))) ?_ ?_ ((ra4.tk (TK.same sa)).tk (TK.same sb))
            all_goals (unfold pbRow; rw [hb])
            · exact Wb.get (.head _)
            · rfl
            · rfl
    · obtain ⟨fx, y4, y5, y6, y7, y8, y9, y10, W2, ra, rfl⟩ := m
      have gR := W2.get (.head _)
      have pl := pb_len u t
      have lt_ : xs.length = t.length := hx.1
      have hp2 := sqT_tk W2.tk hp
      have fl : fx.length = u.length := by rw [ra.1, List.length_take]; omega
      refine ⟨_, rfl, .inl ⟨rfl, _, SqL.of gR⟩, _, rfl, p, rfl, ⟨_, hp2⟩, fun D hD => ?_⟩
      refine lcR_tup (xs := xs) (fun j H' => (∀ b o, b ≠ D → H2 b = some o → H' b = some o) ∧ ∃ gx, H' D = some (.lst gx) ∧ RowsAt K H' gx ((t.map fun r => (r.1, u.length + r.2.1, u.length + r.2.2)).take j)) ⟨fun b o n e => by rw [upd_ne n]; exact e, [], upd_same, .nil⟩
        (fun j H' _ q => sqT_tk (TK.inD hD q.1) hp2) (fun j v H' hj q => ?_) (gTup3_mono _ _ _ _) (fun H' q => ?_)
      · obtain ⟨kp, gx, hD', rg⟩ := q
        have jt : j < t.length := by rw [← lt_]; exact lt_at hj
        obtain ⟨r, hr⟩ := at_lt jt
        obtain ⟨q, fo, ev, h1, h2⟩ := (hx.tk (W2.tk.trans (TK.inD hD kp))).2 j v r hj hr
        subst ev
        refine ⟨q, _, rfl, h1, rfl, _, _, rfl, _, _, rfl, ⟨fo, _, rfl, h2, rfl, _, _, rfl, _, _, rfl, rfl, rfl, rfl, ?_⟩⟩
        refine ⟨_, rfl, _, rfl, _, rfl, _, _, rfl, rfl, _, rfl, _, rfl, _, _, rfl, rfl, (by show 2 ≤ 1000000; decide), fun Ta Ha na sa ha => ⟨by show 2 ≤ 1000000; decide, fun Tb Hb nb sb hb => ?_⟩⟩
        have hDb := sb _ _ (sa _ _ hD')
        have gl : gx.length < sizeLine := by
          rw [rg.1, List.length_take, List.length_map]
          exact big (by omega)
        refine ⟨gx, hDb, gl, fun b o n e => by rw [upd_ne n]; exact sb _ _ (sa _ _ (kp b o n e)), gx ++ [.ref Tb], upd_same, ?_⟩
        rw [List.take_add_one, List.getElem?_map, hr]
        exact add_row (r.1, u.length + r.2.1, u.length + r.2.2) hDb hb (sb _ _ ha) (by show (u.length : Int) + r.2.1 = ((u.length + r.2.1 : Nat) : Int); omega) (by show (u.length : Int) + r.2.2 = ((u.length + r.2.2 : Nat) : Int); omega) ((rg.tk (TK.same sa)).tk (TK.same sb))
      · obtain ⟨kp, gx, hD', rg⟩ := q
        rw [lt_, List.take_of_length_le (by rw [List.length_map]; exact Nat.le_refl _)] at rg
        have gl : gx.length = t.length := by rw [rg.1, List.length_map]
        have gR' := kp _ _ (ne_of_none gR hD) gR
        have W3 := W2.inD hD kp
        refine ⟨R, D, _, _, rfl, rfl, gR', hD', by rw [fl, gl]; exact Nat.le_of_lt (big (by omega)), ?_⟩
        have tkR := TK.upd gR' (o := .lst (fx ++ gx)) rfl
        have W4 : Hd H _ [(R, .lst (fx ++ gx))] := W3.set 0 rfl (.lst (fx ++ gx))
        have rA := ((ra.tk (TK.inD hD kp)).app rg).tk tkR
        have gR4 := W4.get (.head _)
        refine ⟨_, rfl, .inl ⟨rfl, _, SqL.of gR4⟩, ?_⟩
        have hp4 := sqT_tk W4.tk hp
        walk_at "kw"
        rename_i Ta Ha fa na sa Wa Tb Hb fb nb sb Wb
        have gR5 := Wb.get (.tail _ (.tail _ (.head _)))
        refine ⟨R, _, _, rfl, rfl, gR5, by rw [List.length_append, fl, gl]; exact big (by omega), ?_⟩
        have W5 : Hd H _ [(Tb, _), (Ta, _), (R, .lst (fx ++ gx ++ [.ref Tb]))] := Wb.set 2 rfl (.lst (fx ++ gx ++ [.ref Tb]))
        have rB := add_row (false, u.length + t.length, u.length + t.length) gR5 (Wb.get (.head _)) (Wb.get (.tail _ (.head _))) (by rw [lt_]; show (u.length : Int) + t.length = ((u.length + t.length : Nat) : Int); omega) (by rw [lt_]; show (u.length : Int) + t.length = ((u.length + t.length : Nat) : Int); omega) ((rA.tk (TK.same sa)).tk (TK.same sb))
        have eP : (pbT u t).take u.length ++ (t.map fun r => (r.1, u.length + r.2.1, u.length + r.2.2)) ++ [(false, u.length + t.length, u.length + t.length)] = pbT u t := by
          have : (pbT u t).take u.length = (List.range u.length).map (pbRow u (u.length + t.length)) := by
            unfold pbT
            rw [List.take_append_of_le_length (by simp), List.take_of_length_le (by simp)]
          rw [this]
          unfold pbT
          rw [List.append_assoc]
        rw [eP] at rB
        refine ⟨_, rfl, R, _, pbT u t, rfl, SqL.of (W5.get (.tail _ (.tail _ (.head _)))), rB, pb_wf u wf, by omega, fun T q H9 lT aT lt hq s9 hT => ?_⟩
        exact k T q H9 lT (fun v => by rw [aT, pb_lang u wf]) (by omega) (free_of W5.sm hq) (W5.sm.trans s9) hT
theorem ok_alive {f : Addr} {fd : FuncData} (F : Fun K "alive" "alive" S_alive f fd) (T : Txt K mg) : FnOk P w K mg base CX0 1 f fd ["table"] (sp_alive K) := by
  refine F.ok SC_alive (fun vs H Q E h => ?_) (fun cdv A outer s H vs Q E hr h => ?_)
  · obtain ⟨p, t, rfl, _⟩ := h
    rfl
  · obtain ⟨p, t, rfl, ⟨xs, hp, hx⟩, wf, tb, k⟩ := h
    refine ⟨_, (pss_cons (ps_set (i := 1) SC_alive.nd rfl (.inr rfl) (pe_lc (own := [("is_in", 3), ("following", 4)])  (by rfl) SC_alive.nd (pi_tup (pv 0)) (blkOk_by (own := [("is_in", 3), ("following", 4)]) (N := N_alive) (sc := defScope S_alive) (by decide +kernel)) (fun _ _ _ _ _ => (pg_tupK (K := K) (n := 2) rfl rfl (pgs_cons (pg_name (i := 3) SC_alive.nd rfl (.inl rfl)) (pgs_cons (pg_name (i := 4) SC_alive.nd rfl (.inl rfl)) pgs_nil)))) (fun _ _ _ _ _ => pts_nil) (fun _ _ _ _ _ => (pv 3))))
      (pss_cons (ps_set (i := 2) SC_alive.nd rfl (.inl rfl) (pe_un un_neg pe_int))
      (pss_cons (ps_while PassesOwn.never (pt_cmpR op_ne (pv 2) (pe_bm PySem.F.plainAttrs_list PySem.F.slot_list_count PySem.F.type_list_count mt_lcountB (pv 1) (pa_cons pe_bl pa_nil)) (nomark _)) (pss_cons (ps_set (i := 2) SC_alive.nd rfl (.inl rfl) (pe_bm PySem.F.plainAttrs_list PySem.F.slot_list_count PySem.F.type_list_count mt_lcountB (pv 1) (pa_cons pe_bl pa_nil)))
      (pss_one (ps_set (i := 1) SC_alive.nd rfl (.inr rfl) (pe_lc (own := [("at", 5), ("row", 6)])  (by rfl) SC_alive.nd (pi_enumT (by rfl) T.b_enumerate (pa_cons (pv 0) pa_nil)) (blkOk_by (own := [("at", 5), ("row", 6)]) (N := N_alive) (sc := defScope S_alive) (by decide +kernel)) (fun _ _ _ _ _ => (pg_tupK (K := K) (n := 2) rfl rfl (pgs_cons (pg_name (i := 5) SC_alive.nd rfl (.inl rfl)) (pgs_cons (pg_name (i := 6) SC_alive.nd rfl (.inl rfl)) pgs_nil)))) (fun _ _ _ _ _ => pts_nil) (fun _ _ _ _ _ => (pe_or (pe_ix (ix_listK (K := K) rfl) (pv 1) (pv 5) (fun _ _ => rfl)) (pe_or (pe_ix (ix_listK (K := K) rfl) (pv 1) (pe_ix (ix_tupK (K := K) rfl) (pe_ix (ix_tupK (K := K) rfl) (pv 6) pe_int (fun _ _ => rfl)) pe_int (fun _ _ => rfl)) (fun _ _ => rfl)) (pe_one (pe_ix (ix_listK (K := K) rfl) (pv 1) (pe_ix (ix_tupK (K := K) rfl) (pe_ix (ix_tupK (K := K) rfl) (pv 6) pe_int (fun _ _ => rfl)) pe_int (fun _ _ => rfl)) (fun _ _ => rfl)))))))))))
      (pss_one (ps_ret (pv 1)))))), ?_⟩
    have lt_ : xs.length = t.length := hx.1
    refine ⟨_, rfl, p, rfl, ⟨xs, hp⟩, fun D hD => ?_⟩
    refine lcR_tup (xs := xs) (fun i H' => (∀ b o, b ≠ D → H b = some o → H' b = some o) ∧ H' D = some (.lst (((t.map (·.1)).take i).map V.bl))) ⟨fun b o n e => by rw [upd_ne n]; exact e, by rw [upd_same]; rfl⟩
      (fun i H' _ m => sqT_tk (TK.inD hD m.1) hp) (fun i x H' hi m => ?_) (gTup2_mono _ _ _) (fun H' m => ?_)
    · obtain ⟨kp, hD'⟩ := m
      have hit : i < t.length := hx.1 ▸ lt_at hi
      obtain ⟨q, fo, e1, h1, h2⟩ := (hx.tk (TK.inD hD kp)).get hit
      rw [hi] at e1
      cases e1
      refine ⟨q, _, rfl, h1, rfl, _, _, rfl, _, _, rfl, rfl, rfl, _, rfl, _, hD', ?_, ?_, ?_⟩
      · rw [List.length_map, List.length_take, List.length_map]
        exact big (by omega)
      · exact fun b o n e => by rw [upd_ne n]; exact kp b o n e
      · rw [upd_same, List.take_add_one, List.map_append]
        obtain ⟨r, hr⟩ := at_lt hit
        rw [List.getElem?_map, hr, isn_of hr]
        rfl
    · obtain ⟨kp, hD'⟩ := m
      rw [lt_, List.take_of_length_le (by rw [List.length_map]; exact Nat.le_refl _)] at hD'
      have W0 : Hd H H' [(D, .lst ((t.map (·.1)).map V.bl))] := by
        refine ⟨fun b o e => kp b o (ne_of_none e hD) e, by simp, fun x hx => ?_⟩
        cases List.mem_singleton.mp hx
        exact ⟨hD, hD'⟩
      walk_at "kw"
      refine while_by (fun σ H' => ∃ (f : List Bool) (m : Int) (D : Addr) (y3 y4 y5 y6 : Option V), Hd H H' [(D, .lst (f.map V.bl))] ∧ Alv t f ∧ m ≤ Tw.cnt f ∧ -1 ≤ m ∧ (m = Tw.cnt f → f = (List.range t.length).map (nxt t f)) ∧ σ = [some (.ref p), some (.ref D), some (.int m), y3, y4, y5, y6])
        (fun σ _ => match σ with | _ :: _ :: some (.int m) :: _ => ((t.length : Int) - m).toNat | _ => 0) ⟨t.map (·.1), -1, D, _, _, _, _, W0, .start, by omega, by omega, fun e => by omega, rfl⟩ (fun σ H1 hP => ?_) (fun σ H Q Q' h q => ?_)
      · obtain ⟨fd, m, D, y3, y4, y5, y6, W1, al, m1, m2, m3, rfl⟩ := hP
        have gD := W1.get (.head _)
        refine ⟨_, rfl, _, rfl, .inl ⟨rfl, _, SqL.of gD⟩, D, fd, true, rfl, rfl, SqL.of gD, ?_⟩
        walk_at "kw"
        refine ite2 (fun h => ?_) (fun h => ?_)
        · have ne : m ≠ (Tw.cnt fd : Nat) := fun e => by
            rw [e] at h
            simp [Tw.cnt] at h
          refine ⟨_, rfl, .inl ⟨rfl, _, SqL.of gD⟩, D, fd, true, rfl, rfl, SqL.of gD, ?_⟩
          have hp1 := sqT_tk W1.tk hp
          refine ⟨_, rfl, p, xs, rfl, hp1, fun D2 hD2 => ?_⟩
          refine lcR_enE t.length (fun i H' => (∀ b o, b ≠ D2 → H1 b = some o → H' b = some o) ∧ H' D2 = some (.lst ((((List.range t.length).map (nxt t fd)).take i).map V.bl))) ⟨fun b o n e => by rw [upd_ne n]; exact e, by rw [upd_same]; rfl⟩
            (fun i H' _ q => ⟨sqT_tk (TK.inD hD2 q.1) hp1, lt_.symm⟩) (fun i x H' T1 hi hv q hT => ?_) (gTup2_mono _ _ _) (fun H' q => ?_)
          · obtain ⟨kp, hD'⟩ := q
            refine ⟨T1, _, rfl, SqT.of upd_same, rfl, _, _, rfl, _, _, rfl, rfl, rfl, ?_⟩
            have snT := sm_new (o := .tup [.int (i : Nat), x]) hT
            have gDT := snT _ _ (kp _ _ (ne_of_none gD hD2) gD)
            have hD4 := snT _ _ hD'
            obtain ⟨qa, fo, e1, h1, h2⟩ := (((hx.tk W1.tk).tk (TK.inD hD2 kp)).tk (TK.same snT)).get hi
            have hv : xs[i]? = some x := hv
            rw [e1] at hv
            cases hv
            have v0 := atB (f := fd) (i := i) (by rw [al.len]; exact hi)
            have v1 := atB (f := fd) (i := nx t i false) (by rw [al.len]; exact wf.nx i false hi)
            have v2 := atB (f := fd) (i := nx t i true) (by rw [al.len]; exact wf.nx i true hi)
            have fin : ∀ y, y = V.bl (nxt t fd i) → ∃ acc, upd H' T1 (.tup [.int (i : Nat), .ref qa]) D2 = some (HO.lst acc) ∧ acc.length < sizeLine ∧ (∀ b o, b ≠ D2 → H1 b = some o → upd (upd H' T1 (.tup [.int (i : Nat), .ref qa])) D2 (.lst (acc ++ [y])) b = some o) ∧ upd (upd H' T1 (.tup [.int (i : Nat), .ref qa])) D2 (.lst (acc ++ [y])) D2 = some (.lst ((((List.range t.length).map (nxt t fd)).take (i + 1)).map V.bl)) := fun y ey => by
              refine ⟨_, hD4, ?_, fun b o n e => by rw [upd_ne n]; exact snT _ _ (kp b o n e), ?_⟩
              · rw [List.length_map, List.length_take, List.length_map, List.length_range]
                exact big (by omega)
              · rw [upd_same, List.take_add_one, List.map_append, List.getElem?_map, List.getElem?_range hi, ey]
                rfl
            refine ⟨_, rfl, _, rfl, D, _, _, _, rfl, rfl, SqL.of gDT, v0, _, rfl, ?_⟩
            refine ite2 (fun c => fin _ (by unfold nxt; rw [c, Bool.true_or])) (fun c => ?_)
            have c : (fd[i]?).getD false = false := by simpa using c
            refine ⟨_, rfl, _, rfl, qa, _, _, _, rfl, rfl, h1, atI_nat (j := 1) rfl, fo, _, _, _, rfl, rfl, h2, atI_nat (j := 0) rfl, D, _, _, _, rfl, rfl, SqL.of gDT, v1, _, rfl, ?_⟩
            refine ite2 (fun c2 => fin _ (by unfold nxt; rw [c, c2]; rfl)) (fun c2 => ?_)
            have c2 : (fd[nx t i false]?).getD false = false := by simpa using c2
            refine ⟨_, rfl, _, rfl, qa, _, _, _, rfl, rfl, h1, atI_nat (j := 1) rfl, fo, _, _, _, rfl, rfl, h2, atI_nat (j := 1) rfl, D, _, _, _, rfl, rfl, SqL.of gDT, v2, ?_⟩
            exact fin _ (by unfold nxt; rw [c, c2]; rfl)
          · obtain ⟨kp, hD'⟩ := q
            rw [List.take_of_length_le (by rw [List.length_map, List.length_range]; exact Nat.le_refl _)] at hD'
            obtain ⟨al2, c1, c2⟩ := al.step
            have mlt : m < (Tw.cnt fd : Nat) := by omega
            have cl := cnt_le fd
            rw [al.len] at cl
            have W2 : Hd H H' [(D2, .lst (((List.range t.length).map (nxt t fd)).map V.bl))] := by
              refine ⟨fun b o e => kp b o (ne_of_none (W1.sm b o e) hD2) (W1.sm b o e), by simp, fun x hx => ?_⟩
              cases List.mem_singleton.mp hx
              exact ⟨free_of W1.sm hD2, hD'⟩
            refine ⟨⟨_, _, D2, _, _, _, _, W2, al2, ?_, ?_, fun e => ?_, rfl⟩, ?_⟩
            · show ((fd.count true : Nat) : Int) ≤ _
              exact Int.ofNat_le.mpr c1
            · show -1 ≤ ((fd.count true : Nat) : Int)
              omega
            · have e2 := c2 (Int.ofNat.inj e)
              rw [← e2]; exact e2
            · show ((t.length : Int) - ((Tw.cnt fd : Nat) : Int)).toNat < ((t.length : Int) - m).toNat
              omega
        · have e : m = (Tw.cnt fd : Nat) := by
            by_cases e : m = (Tw.cnt fd : Nat)
            · exact e
            · exact absurd (by simp [Tw.cnt] at e ⊢; exact e) h
          refine ⟨_, rfl, k fd D H1 al.len (fun i hi => al.done wf (m3 e) hi) (W1.fr (.head _)) W1.sm gD⟩
      · obtain ⟨v, e, v1, e1, ty, p1, bs, k1, e2, e3, hs, q⟩ := q
        refine ⟨v, e, v1, e1, ty, p1, bs, k1, e2, e3, hs, ?_⟩
        obtain ⟨q1, k2, e4, q2⟩ := q
        exact ⟨q1, k2, e4, h _ _ q2⟩
end

/-! ## sets: their tables as data, the class -/
namespace St
structure SetT (K : PySem.W.Frag) (mg : Str → Option Value) (C : Addr) : Prop where
  ins : C8.InsC K C
  n1 : NoAttr K C "table"
  mgC : mg "Ratios" = some (.ref C)
  nf : PySem.W.notFirst K C (.ref C) = true
  ne : PySem.W.findIn K (.ref C) "__ne__" = some (some (.builtin "object.__ne__"))
  so : PySem.W.subIn K (.ref C) (.type "object") = some true
theorem SetT.ty {K : PySem.W.Frag} {mg : Str → Option Value} {C : Addr} (T : SetT K mg C) {H : Hp} {p dx : Addr} {fs : List (Str × V)} (h : H p = some (.ins C dx fs)) : TyX K H (.ref p) (.ref C) := .base (.ins h T.ins.cl T.ins.ha T.ins.hn T.ins.htk T.ins.hm)
def tf (t : Addr) : List (Str × V) := putF "table" (.ref t) []
theorem tf1 (t : Addr) : (tf t).lookup ("table" : Str) = some (.ref t) := by
  unfold tf; rw [lookup_putF, if_pos rfl]
/-- a set: its table is the least one -/
def SetAt (K : PySem.W.Frag) (CS : Addr) (H : Hp) (e : Addr) (t : Tab) : Prop := ∃ dx p, H e = some (.ins CS dx (tf p)) ∧ TabAt K H p t ∧ Least t ∧ t.length ≤ 16000000
theorem SetAt.tk {K : PySem.W.Frag} {CS : Addr} {H H' : Hp} {e : Addr} {t : Tab} (x : SetAt K CS H e t) (k : TK H H') : SetAt K CS H' e t :=
  let ⟨dx, p, h1, h2, h3⟩ := x
  ⟨dx, p, k _ _ rfl h1, h2.tk k, h3⟩
theorem SetAt.same {K : PySem.W.Frag} {CS : Addr} {H H' : Hp} {e : Addr} {t : Tab} (x : SetAt K CS H e t) (s : Same H H') : SetAt K CS H' e t := x.tk (TK.same s)
def rowD (r : Rw) : PyData := .tuple [.bool r.1, .tuple [.int (r.2.1 : Nat), .int (r.2.2 : Nat)]]
def tabD (t : Tab) : PyData := .tuple (t.map rowD)
theorem dpRow {K : PySem.W.Frag} {H : Hp} {v : V} {r : Rw} (h : RowAt K H v r) : Dp K H v (rowD r) := by
  obtain ⟨q, f, rfl, h1, h2⟩ := h
  exact .tup h1 (.cons (.bl _) (.cons (.tup h2 (.cons (.int _) (.cons (.int _) .nil))) .nil))
theorem dpRows {K : PySem.W.Frag} {H : Hp} : ∀ {xs : List V} {t : Tab}, RowsAt K H xs t → DpAll K H xs (t.map rowD)
  | [], [], _ => .nil
  | [], _ :: _, h => by have := h.1; simp at this
  | _ :: _, [], h => by have := h.1; simp at this
  | x :: xs, r :: t, h => .cons (dpRow (h.2 0 x r rfl rfl)) (dpRows ⟨by have := h.1; simpa using this, fun i v q h1 h2 => h.2 (i + 1) v q (by rw [List.getElem?_cons_succ]; exact h1) (by rw [List.getElem?_cons_succ]; exact h2)⟩)
theorem dpTab {K : PySem.W.Frag} {H : Hp} {p : Addr} {t : Tab} (h : TabAt K H p t) : Dp K H (.ref p) (tabD t) := let ⟨_, h1, h2⟩ := h; .tup h1 (dpRows h2)
theorem canTab : ∀ t : Tab, PyData.canLayAll0 (t.map rowD) = true
  | [] => rfl
  | n :: ns => by
    show ((rowD n).canLay0 && PyData.canLayAll0 (ns.map rowD)) = true
    rw [canTab ns]; rfl
theorem depTab : ∀ t : Tab, PyData.depthAll (t.map rowD) ≤ 2
  | [] => Nat.zero_le _
  | n :: ns => by
    show max (rowD n).depth (PyData.depthAll (ns.map rowD)) ≤ 2
    exact Nat.max_le.mpr ⟨Nat.le_refl 2, depTab ns⟩
theorem shTab (t : Tab) : SeqAt.shaped (tabD t) = true := by
  show (PyData.canLayAll0 (t.map rowD) && decide (PyData.depthAll (t.map rowD) + 1 ≤ 64)) = true
  rw [canTab]
  have := depTab t
  exact decide_eq_true (by omega)
theorem eqvRow (r s : Rw) : PyData.eqv (rowD r) (rowD s) = decide (r = s) := by
  obtain ⟨a, b, c⟩ := r
  obtain ⟨a', b', c'⟩ := s
  rw [Bool.eq_iff_iff]
  simp only [rowD, PyData.eqv, PyData.eqvAll, decide_eq_true_eq, Prod.mk.injEq, Bool.and_eq_true, Bool.and_true]
  cases a <;> cases a' <;> simp [PyData.eqv] <;> omega
theorem eqvTabs : ∀ (xs ys : Tab), PyData.eqvAll (xs.map rowD) (ys.map rowD) = decide (xs = ys)
  | [], [] => rfl
  | [], _ :: _ => rfl
  | _ :: _, [] => rfl
  | x :: xs, y :: ys => by
    show (PyData.eqv (rowD x) (rowD y) && PyData.eqvAll (xs.map rowD) (ys.map rowD)) = _
    rw [eqvTabs xs ys, eqvRow, Bool.eq_iff_iff]
    simp
theorem eqvTab (xs ys : Tab) : PyData.eqv (tabD xs) (tabD ys) = decide (xs = ys) := by
  rw [← eqvTabs]; rfl
theorem occ_lr (b : Bool) : Builtin.Str.occurrences (enc [false, true]) (enc [b]) 0 (enc [false, true]).length 1 = [if b then 1 else 0] := by
  cases b <;> decide +kernel
def sp_walked (K : PySem.W.Frag) : Sp := fun vs H Q _ => ∃ (p : Addr) (i : Nat) (u : List Bool) (t : Tab), vs = [.ref p, .int (i : Nat), .str (enc u)] ∧ TabAt K H p t ∧ Wf t ∧ i < t.length ∧ u.length ≤ 100000 ∧ Q (.int (go t i u : Nat)) H
def sp_rsinit (K : PySem.W.Frag) (CS : Addr) : Sp := fun vs H Q _ => ∃ (x dx p : Addr) (t : Tab), vs = [.ref x, .ref p] ∧ H x = some (.ins CS dx []) ∧ TabAt K H p t ∧ Least t ∧ t.length ≤ 16000000 ∧ ∀ H', (∀ a o, a ≠ x → H a = some o → H' a = some o) → SetAt K CS H' x t → Q .non H'
def sp_in (K : PySem.W.Frag) (C CS : Addr) : Sp := fun vs H Q _ => ∃ (s r : Addr) (u : List Bool) (t : Tab), vs = [.ref s, .ref r] ∧ SetAt K CS H s t ∧ RatAt C H r (pr u).1 (pr u).2 ∧ u.length ≤ 900 ∧ ∀ H', Same H H' → Q (.bl (acc t 0 u)) H'
def sp_rseq (K : PySem.W.Frag) (CS : Addr) : Sp := fun vs H Q _ => ∃ (s r : Addr) (t t' : Tab), vs = [.ref s, .ref r] ∧ SetAt K CS H s t ∧ SetAt K CS H r t' ∧ Q (.bl (decide (t = t'))) H
/-- a table of one row -/
def oneT (b : Bool) : Tab := [(b, 0, 0)]
theorem oneT_at (b b' : Bool) : nx (oneT b) 0 b' = 0 := by cases b' <;> rfl
theorem oneT_acc (b : Bool) : ∀ u, acc (oneT b) 0 u = b
  | [] => rfl
  | x :: u => by rw [acc_cons, oneT_at]; exact oneT_acc b u
theorem oneT_least (b : Bool) : Least (oneT b) := by
  refine ⟨⟨Nat.one_pos, fun i b' h => ?_⟩, fun i j hi hj _ => ?_, ?_⟩
  · have : i = 0 := by simp [oneT] at h; exact h
    subst this
    rw [oneT_at]; exact Nat.one_pos
  · simp [oneT] at hi hj
    omega
  · have h1 : Ord ([] ++ [0]) 1 := Ord.nil.old (by decide) (by decide)
    exact h1.old (by decide) Nat.one_pos
def sp_one (K : PySem.W.Frag) (CS : Addr) (b : Bool) : Sp := fun vs H Q _ => vs = [.ref CS] ∧ ∀ e H', H e = none → Same H H' → SetAt K CS H' e (oneT b) → Q (.ref e) H'
structure GTab (K : PySem.W.Frag) (mg : Str → Option Value) (x : Str) (t : Tab) : Prop where
  ex : ∃ a, mg x = some (.ref a) ∧ ∀ H, TabAt K H a t
theorem gtab_one {K : PySem.W.Frag} {mg : Str → Option Value} {x : Str} {b : Bool} {a q f : Addr} {o o1 o2 : Obj} {i0 i1 i2 : Array Value} {n0 n1 n2 : Nat} (h : mg x = some (.ref a)) (l0 : K.lookup a = some o) (c0 : o.cls = .type "tuple") (d0 : o.data = .seq i0 n0) (z0 : i0.size ≤ sizeLine) (v0 : Vals [.ref q] i0.toList)
    (l1 : K.lookup q = some o1) (c1 : o1.cls = .type "tuple") (d1 : o1.data = .seq i1 n1) (z1 : i1.size ≤ sizeLine) (v1 : Vals [.bl b, .ref f] i1.toList) (l2 : K.lookup f = some o2) (c2 : o2.cls = .type "tuple") (d2 : o2.data = .seq i2 n2) (z2 : i2.size ≤ sizeLine) (v2 : Vals [.int 0, .int 0] i2.toList) : GTab K mg x (oneT b) :=
  ⟨a, h, fun _ => ⟨_, .inr ⟨o, i0, n0, l0, c0, d0, z0, v0⟩, rfl, fun i v r h1 h2 => by
    cases i with
    | zero => cases h1; cases h2; exact ⟨q, f, rfl, .inr ⟨o1, i1, n1, l1, c1, d1, z1, v1⟩, .inr ⟨o2, i2, n2, l2, c2, d2, z2, v2⟩⟩
    | succ i => cases h1⟩⟩
theorem mk_set {H : Hp} {K : PySem.W.Frag} {CS p : Addr} {t : Tab} {R : Hp → Prop} {E : XK} (hp : TabAt K H p t) (l : Least t) (b : t.length ≤ 16000000) {x dx : Addr} (hx : H x = none) (hdx : H dx = none) (hne : dx ≠ x) (k : ∀ H', Same H H' → SetAt K CS H' x t → R H') :
    sp_rsinit K CS (.ref x :: [.ref p]) (upd (upd H dx (.own x)) x (.ins CS dx [])) (fun v H2 => v = .non ∧ R H2) E := by
  have sm : Same H (upd (upd H dx (.own x)) x (.ins CS dx [])) := (sm_new hdx).trans (sm_new (by rw [upd_ne (Ne.symm hne)]; exact hx))
  exact ⟨x, dx, p, t, rfl, upd_same, hp.tk (TK.same sm), l, b, fun H' k' h' => ⟨rfl, k H' (fun a o e => k' a o (ne_of_none e hx) (sm a o e)) h'⟩⟩
end St
open St
section
variable {P : Program} {w : World} {K : PySem.W.Frag} {mg : Str → Option Value} {base : Heap}
theorem ok_walked {f : Addr} {fd : FuncData} (F : Fun K "walked" "walked" S_walked f fd) (T : Txt K mg) : FnOk P w K mg base CX0 1 f fd ["table", "at", "word"] (sp_walked K) := by
  refine F.ok SC_walked (fun vs H Q E h => ?_) (fun cdv A outer s H vs Q E hr h => ?_)
  · obtain ⟨p, i, u, t, rfl, _⟩ := h
    rfl
  · obtain ⟨p, i, u, t, rfl, hp, wf, hi, hu, k⟩ := h
    obtain ⟨xs, hp, hx⟩ := hp
    refine ⟨_, (pss_cons (ps_for PassesOwn.never rfl (pi_str (pv 2)) (pg_name (i := 3) SC_walked.nd rfl (.inl rfl)) (pss_one (ps_set (i := 1) SC_walked.nd rfl (.inl rfl) (pe_ix ix_tup (pe_ix ix_tup (pe_ix ix_tup (pv 0) (pv 1) (fun _ _ => rfl)) pe_int (fun _ _ => rfl)) (pe_bm PySem.F.plainAttrs_str PySem.F.slot_str_index PySem.F.type_str_index mt_sindex pe_str (pa_cons (pv 3) pa_nil)) (fun _ _ => rfl)))))
      (pss_one (ps_ret (pv 1)))), ?_⟩
    have hz : (enc u).cps.size = u.length := enc_len u
    refine ⟨_, rfl, enc u, rfl, for_it (walk_str (z := enc u)) (fun j σ H' => H' = H ∧ ∃ y : Option V, σ = [some (.ref p), some (.int (go t i (u.take j) : Nat)), some (.str (enc u)), y])
      ⟨rfl, none, rfl⟩ (fun _ _ _ _ _ => trivial) (fun j v σ H1 H2 hj hP hY => ?_) (fun σ H1 hP => ?_)⟩
    · obtain ⟨rfl, y, rfl⟩ := hP
      obtain ⟨rfl, c, hc, rfl⟩ := hY
      obtain ⟨b, hb, rfl⟩ := enc_at hc
      have gl := wf.go (u.take j) i hi
      obtain ⟨q, fo, e1, h1, h2⟩ := hx.get gl
      have e3 : go t i (u.take (j + 1)) = nx t (go t i (u.take j)) b := by
        rw [List.take_add_one, hb, go_app]; rfl
      refine ⟨_, rfl, _, rfl, p, _, _, _, rfl, rfl, hp, atI_nat e1, q, _, _, _, rfl, rfl, h1, atI_nat (j := 1) rfl, rfl, _, rfl, _, _, _, _, rfl, rfl, lit_lr ▸ occ_lr b, ?_⟩
      refine ⟨fo, _, _, _, rfl, rfl, h2, atI_nat (j := if b then 1 else 0) (v := .int (nx t (go t i (u.take j)) b : Nat)) (by cases b <;> rfl), rfl, _, by rw [e3]; rfl⟩
    · obtain ⟨rfl, y, rfl⟩ := hP
      rw [hz, List.take_of_length_le (Nat.le_refl _)]
      exact ⟨_, rfl, k⟩
theorem ok_rsinit {f CS : Addr} {fd : FuncData} (F : Fun K "__init__" "Ratios.__init__" S_Ratios__init_ f fd) (T : Txt K mg) (Rs : SetT K mg CS) : FnOk P w K mg base (L2.CX P w) 2 f fd ["self", "table"] (sp_rsinit K CS) := by
  refine F.okX SC_Ratios__init_ (fun vs H Q E h => ?_) (fun cdv A outer s H vs Q E hr h => ?_)
  · obtain ⟨x, dx, p, t, rfl, _⟩ := h
    rfl
  · obtain ⟨x, dx, p, t, rfl, hx, hp, l, b, k⟩ := h
    refine ⟨_, (pss_one (ps_fld (pv 0) (pv 1) rfl)), ?_⟩
    have tk : ∀ o, TT H (upd H x o) := fun o a v n q => by
      have ne : a ≠ x := fun e => by
        subst e
        rw [hx] at q; cases q; cases n
      rw [upd_ne ne]; exact q
    exact ⟨_, rfl, _, rfl, x, CS, dx, _, rfl, hx, Rs.ins.cl, Rs.n1, by show 0 < 1000; decide, k _ (fun a o n e => by rw [upd_ne n]; exact e) ⟨dx, p, upd_same, hp.tt (tk _), l, b⟩⟩
theorem ok_none {f CS : Addr} {fd : FuncData} (F : Fun K "none" "Ratios.none" S_Ratios_none f fd) (T : Txt K mg) (G_NOTHING : GTab K mg "NOTHING" (oneT false)) (C_rs : MkC P w K mg base (L2.CX P w) 2 CS "Ratios" ["self", "table"] (sp_rsinit K CS)) : FnOk P w K mg base (L2.CX P w) 4 f fd ["cls"] (sp_one K CS false) := by
  refine F.okX SC_Ratios_none (fun vs H Q E h => ?_) (fun cdv A outer s H vs Q E hr h => ?_)
  · obtain ⟨rfl, _⟩ := h
    rfl
  · obtain ⟨rfl, k⟩ := h
    obtain ⟨a, ma, ha⟩ := G_NOTHING.ex
    refine ⟨_, (pss_one (ps_ret (pe_makeL (i := 0) C_rs (hr.mono (by decide)) (takes_of rfl rfl rfl rfl) rfl (.inl rfl) (pa_cons (pe_glob (v := .ref a) (by rfl) ma rfl) pa_nil)))), ?_⟩
    refine ⟨rfl, ?_⟩
    exact fun x dx hx hdx hne => mk_set (ha _) (oneT_least _) (Nat.le_of_ble_eq_true rfl) hx hdx hne fun H' s' h' => k x H' hx s' h'
theorem ok_in {f C CS : Addr} {fd : FuncData} (F : Fun K "__contains__" "Ratios.__contains__" S_Ratios__contains_ f fd) (T : Txt K mg) (Rs : SetT K mg CS) (P_word : PrC P w K mg base 2 C "word" (sp_word C)) (C_walked : FnC P w K mg base CX0 1 "walked" ["table", "at", "word"] (sp_walked K)) : FnOk P w K mg base CX0 4 f fd ["self", "ratio"] (sp_in K C CS) := by
  refine F.ok SC_Ratios__contains_ (fun vs H Q E h => ?_) (fun cdv A outer s H vs Q E hr h => ?_)
  · obtain ⟨s, r, u, t, rfl, _⟩ := h
    rfl
  · obtain ⟨sa, r, u, t, rfl, ⟨dx, p, hs, hp, l, hb⟩, hr', hu, k⟩ := h
    refine ⟨_, (pss_one (ps_ret (pe_ix ix_tup (pe_ix ix_tup (pe_fld (pv 0) rfl) (pe_callC C_walked (hr.mono (by decide)) rfl (pa_cons (pe_fld (pv 0) rfl) (pa_cons pe_int (pa_cons (pe_propC P_word (hr.mono (by decide)) (pv 1)) pa_nil)))) (fun _ _ => rfl)) pe_int (fun _ _ => rfl)))), ?_⟩
    refine ⟨_, rfl, sa, CS, dx, _, _, rfl, hs, Rs.ins.cl, Rs.n1, tf1 _, _, rfl, sa, CS, dx, _, _, rfl, hs, Rs.ins.cl, Rs.n1, tf1 _, ?_⟩
    obtain ⟨dr, hr2⟩ := hr'
    refine ⟨_, rfl, r, dr, _, rfl, hr2, r, u, rfl, ⟨dr, hr2⟩, hu, fun H1 s1 => ?_⟩
    have hp1 := hp.tk (TK.same s1)
    refine ⟨p, 0, u, t, rfl, hp1, l.wf, l.wf.ne, by omega, ?_⟩
    obtain ⟨xs, sq, ra⟩ := hp1
    obtain ⟨q, fo, e1, h1, h2⟩ := ra.get (l.wf.go u 0 l.wf.ne)
    exact ⟨p, _, _, _, rfl, rfl, sq, atI_nat e1, q, _, _, _, rfl, rfl, h1, atI_nat (j := 0) rfl, k H1 s1⟩
end

/-! ## the table of some words -/
namespace Tw
theorem Hd.perm {H0 H : Hp} {L L' : List (Addr × HO)} (w : Hd H0 H L) (h : L.Perm L') : Hd H0 H L' :=
  ⟨w.sm, (h.map _).nodup_iff.mp w.nd, fun x hx => w.at_ x (h.mem_iff.mpr hx)⟩
def r3 (r : Rw) : HO := .lst [.bl r.1, .int (r.2.1 : Nat), .int (r.2.2 : Nat)]
def R3 (ads : List Addr) (t : Tab) : List (Addr × HO) := List.zipWith (fun a r => (a, r3 r)) ads t
theorem R3_at {ads : List Addr} {t : Tab} {i : Nat} {a : Addr} {r : Rw} (ha : ads[i]? = some a) (hr : t[i]? = some r) : (R3 ads t)[i]? = some (a, r3 r) := by
  unfold R3
  rw [List.getElem?_zipWith, ha, hr]
theorem R3_set : ∀ (ads : List Addr) (t : Tab) (i : Nat) (a : Addr) (r : Rw), ads[i]? = some a → (R3 ads t).set i (a, r3 r) = R3 ads (t.set i r)
  | [], _, _, _, _, h => by simp at h
  | _ :: _, [], _, _, _, _ => rfl
  | b :: ads, q :: t, 0, a, r, h => by
    cases (show some b = some a from h)
    rfl
  | b :: ads, q :: t, i + 1, a, r, h => by
    have := R3_set ads t i a r (by rw [List.getElem?_cons_succ] at h; exact h)
    show (b, r3 q) :: (R3 ads t).set i (a, r3 r) = (b, r3 q) :: R3 ads (t.set i r)
    rw [this]
structure Mr (H0 H : Hp) (R : Addr) (ads : List Addr) (t : Tab) : Prop where
  len : ads.length = t.length
  hd : Hd H0 H ((R, .lst (ads.map V.ref)) :: R3 ads t)
theorem Mr.rows {H0 H : Hp} {R : Addr} {ads : List Addr} {t : Tab} (m : Mr H0 H R ads t) : H R = some (.lst (ads.map V.ref)) := m.hd.get (.head _)
theorem Mr.row {H0 H : Hp} {R : Addr} {ads : List Addr} {t : Tab} (m : Mr H0 H R ads t) {i : Nat} {r : Rw} (hr : t[i]? = some r) : ∃ a, ads[i]? = some a ∧ H a = some (r3 r) := by
  obtain ⟨a, ha⟩ := at_lt (xs := ads) (m.len.symm ▸ lt_at hr)
  exact ⟨a, ha, m.hd.get (.tail _ (List.mem_iff_getElem?.mpr ⟨i, R3_at ha hr⟩))⟩
theorem Mr.set {H0 H : Hp} {R : Addr} {ads : List Addr} {t : Tab} (m : Mr H0 H R ads t) {i : Nat} {a : Addr} {r r' : Rw} (ha : ads[i]? = some a) (hr : t[i]? = some r) : Mr H0 (upd H a (r3 r')) R ads (t.set i r') := by
  refine ⟨by rw [m.len, List.length_set], ?_⟩
  have := m.hd.set (i + 1) (p := a) (u := r3 r) (by rw [List.getElem?_cons_succ]; exact R3_at ha hr) (r3 r')
  rw [List.set_cons_succ, R3_set _ _ _ _ _ ha] at this
  exact this
theorem Mr.app {H0 H H' : Hp} {R a : Addr} {ads : List Addr} {t : Tab} (m : Mr H0 H R ads t) {r : Rw} (n : H a = none) (s : Same H H') (ha : H' a = some (r3 r)) : Mr H0 (upd H' R (.lst (ads.map V.ref ++ [.ref a]))) R (ads ++ [a]) (t ++ [r]) := by
  refine ⟨by rw [List.length_append, List.length_append, m.len]; rfl, ?_⟩
  have w := (m.hd.got n s ha).set 1 (p := R) rfl (.lst (ads.map V.ref ++ [.ref a]))
  have e : R3 (ads ++ [a]) (t ++ [r]) = R3 ads t ++ [(a, r3 r)] := by
    unfold R3
    rw [List.zipWith_append m.len]
    rfl
  rw [e, List.map_append]
  refine Hd.perm w ?_
  show ((a, r3 r) :: (R, HO.lst (ads.map V.ref ++ [.ref a])) :: R3 ads t).Perm ((R, _) :: (R3 ads t ++ [(a, r3 r)]))
  refine (List.Perm.swap _ _ _).trans (List.Perm.cons _ ?_)
  exact (List.perm_append_singleton _ _).symm
end Tw
open Tw
namespace Tw
theorem gLst3_mono (K : PySem.W.Frag) (i j k : Nat) : ∀ (x : V) (σ : L2.St) (H : Hp) (Q Q' : L2.St → Hp → Prop), (∀ σ2 H2, Q σ2 H2 → Q' σ2 H2) → gLst K 3 (gCons (gName i) (gCons (gName j) (gCons (gName k) gNil))) x σ H Q → gLst K 3 (gCons (gName i) (gCons (gName j) (gCons (gName k) gNil))) x σ H Q' :=
  fun x σ H Q Q' h ⟨a, xs, e, s, l, v, r, e1, v2, r2, e2, v3, r3, e3, e4, q⟩ => ⟨a, xs, e, s, l, v, r, e1, v2, r2, e2, v3, r3, e3, e4, h _ _ q⟩
def RatsAt (C : Addr) (H : Hp) (xs : List V) (ws : List (List Bool)) : Prop := xs.length = ws.length ∧ ∀ (i : Nat) (v : V) (u : List Bool), xs[i]? = some v → ws[i]? = some u → ∃ r : Addr, v = .ref r ∧ RatAt C H r (pr u).1 (pr u).2
theorem RatsAt.same {C : Addr} {H H' : Hp} {xs : List V} {ws : List (List Bool)} (h : RatsAt C H xs ws) (s : Same H H') : RatsAt C H' xs ws := ⟨h.1, fun i v u h1 h2 => let ⟨r, e, q⟩ := h.2 i v u h1 h2; ⟨r, e, q.same s⟩⟩
theorem RatsAt.tk {C : Addr} {H H' : Hp} {xs : List V} {ws : List (List Bool)} (h : RatsAt C H xs ws) (s : TK H H') : RatsAt C H' xs ws := ⟨h.1, fun i v u h1 h2 => let ⟨r, e, dx, q⟩ := h.2 i v u h1 h2; ⟨r, e, dx, s _ _ rfl q⟩⟩
theorem RatsAt.snoc {C : Addr} {H : Hp} {xs : List V} {ws : List (List Bool)} {r : Addr} {u : List Bool} (h : RatsAt C H xs ws) (q : RatAt C H r (pr u).1 (pr u).2) : RatsAt C H (xs ++ [.ref r]) (ws ++ [u]) := by
  refine ⟨by simp [h.1], fun i v u' h1 h2 => ?_⟩
  by_cases c : i < xs.length
  · rw [List.getElem?_append_left c] at h1
    rw [List.getElem?_append_left (h.1 ▸ c)] at h2
    exact h.2 i v u' h1 h2
  · have l1 := lt_at h1
    rw [List.length_append, List.length_singleton] at l1
    have e : i = xs.length := by omega
    subst e
    rw [List.getElem?_concat_length] at h1
    rw [h.1, List.getElem?_concat_length] at h2
    cases h1; cases h2
    exact ⟨r, rfl, q⟩
theorem pr_unit (u : List Bool) {m : Int} (h : 1 ≤ m) : ((pr u).1 : Int) * m / (Int.gcd ((pr u).1 * m) ((pr u).2 * m) : Nat) = (pr u).1 ∧ ((pr u).2 : Int) * m / (Int.gcd ((pr u).1 * m) ((pr u).2 * m) : Nat) = (pr u).2 := by
  have g : Int.gcd ((pr u).1 : Int) ((pr u).2 : Int) = 1 := pr_cop u
  rw [Int.gcd_mul_right, g, Nat.one_mul, Int.natAbs_of_nonneg (by omega)]
  exact ⟨Int.mul_ediv_cancel _ (by omega), Int.mul_ediv_cancel _ (by omega)⟩
def sp_tow (K : PySem.W.Frag) : Sp := fun vs H Q _ => ∃ (p : Addr) (ws : List (List Bool)), vs = [.ref p] ∧ H p = some (.lst (ws.map fun u => .str (enc u))) ∧ (∀ u ∈ ws, u.length ≤ 900) ∧ ws.length ≤ 1000 ∧ ∀ (T : Tab) (q : Addr) (H' : Hp), Least T → (∀ v, acc T 0 v = decide (v ∈ ws)) → T.length ≤ 1000 * ws.length + 2 → H q = none → Same H H' → TabAt K H' q T → Q (.ref q) H'
def sp_of (K : PySem.W.Frag) (C CS : Addr) : Sp := fun vs H Q _ => ∃ (p : Addr) (xs : List V) (ws : List (List Bool)), vs = [.ref CS, .ref p] ∧ (SqL K H p xs ∨ SqT K H p xs) ∧ RatsAt C H xs ws ∧ (∀ u ∈ ws, u.length ≤ 900) ∧ ws.length ≤ 1000 ∧ ∀ (e : Addr) (H' : Hp) (t : Tab), H e = none → Same H H' → SetAt K CS H' e t → (∀ u, acc t 0 u = decide (u ∈ ws)) → Q (.ref e) H'
def sp_begin (K : PySem.W.Frag) (IW CS : Addr) : Sp := fun vs H Q E => ∃ x, vs = [.ref CS, x] ∧ Kd K H x ∧ (∀ z, x = .str z → z.length ≤ 900) ∧ (∀ u, x = .str (enc u) → ∀ (e : Addr) (H' : Hp) (t : Tab), H e = none → Same H H' → SetAt K CS H' e t → (∀ v, acc t 0 v = decide (v.take u.length = u)) → Q (.ref e) H') ∧ (goodW x = false → ∀ H', Same H H' → E (.ref IW) none H')
def sp_bool (K : PySem.W.Frag) (CS : Addr) : Sp := fun vs H Q _ => ∃ (s : Addr) (t : Tab) (b : Bool), vs = [.ref s] ∧ SetAt K CS H s t ∧ (b = true ↔ ∃ u, acc t 0 u = true) ∧ ∀ H', Same H H' → Q (.bl b) H'
end Tw
open Tw
section
variable {P : Program} {w : World} {K : PySem.W.Frag} {mg : Str → Option Value} {base : Heap}
theorem ok_rsof {f C CS : Addr} {fd : FuncData} (F : Fun K "of" "Ratios.of" S_Ratios_of f fd) (T : Txt K mg) (P_word : PrC P w K mg base 2 C "word" (sp_word C)) (C_tow : FnC P w K mg base CX0 3 "table_of_words" ["words"] (sp_tow K)) (C_rs : MkC P w K mg base (L2.CX P w) 2 CS "Ratios" ["self", "table"] (sp_rsinit K CS)) : FnOk P w K mg base (L2.CX P w) 5 f fd ["cls", "some"] (sp_of K C CS) := by
  refine F.okX SC_Ratios_of (fun vs H Q E h => ?_) (fun cdv A outer s H vs Q E hr h => ?_)
  · obtain ⟨p, xs, ws, rfl, _⟩ := h
    rfl
  · obtain ⟨p, xs, ws, rfl, hp, hx, hw, hl, k⟩ := h
    refine ⟨_, (pss_one (ps_ret (pe_makeL (i := 0) C_rs (hr.mono (by decide)) (takes_of rfl rfl rfl rfl) rfl (.inl rfl) (pa_cons (pe_callC C_tow (hr.mono (by decide)) rfl (pa_cons (pe_lc (own := [("ratio", 2)]) (g := gName 2) (by rfl) SC_Ratios_of.nd (pi_seq (pv 1)) (blkOk_by (own := [("ratio", 2)]) (N := N_Ratios_of) (sc := defScope S_Ratios_of) (by decide +kernel)) (fun _ _ _ _ _ => pg_name (i := 2) SC_Ratios_of.nd rfl (Or.inl rfl)) (fun _ _ _ _ _ => pts_nil) (fun _ _ _ _ _ => (pe_propC P_word (hr.mono (by decide)) (pv 2)))) pa_nil)) pa_nil)))), ?_⟩
    refine ⟨rfl, _, rfl, p, rfl, ?_⟩
    rcases hp with hp | hp
    · refine .inl ⟨⟨_, hp⟩, fun D hD => ?_⟩
      refine lcR_list (xs := xs) (fun i H' => (∀ b o, b ≠ D → H b = some o → H' b = some o) ∧ H' D = some (.lst ((ws.take i).map fun u => V.str (enc u)))) ⟨fun b o n e => by rw [upd_ne n]; exact e, by rw [upd_same]; rfl⟩
        (fun i H' _ m => sqL_inD hD m.1 hp) (fun i x H' hi m => ?_) (gName_mono _) (fun H' m => ?_)
      · obtain ⟨kp, hD'⟩ := m
        obtain ⟨u, hu⟩ := at_lt (xs := ws) (i := i) (by rw [← hx.1]; exact lt_at hi)
        obtain ⟨r, rfl, dr, hr2⟩ := hx.2 i x u hi hu
        have hr3 := kp _ _ (ne_of_none hr2 hD) hr2
        refine ⟨rfl, _, rfl, r, dr, _, rfl, hr3, r, u, rfl, ⟨dr, hr3⟩, hw u (List.mem_iff_getElem?.mpr ⟨_, hu⟩), fun H2 s2 => ?_⟩
        refine ⟨_, s2 _ _ hD', ?_, fun b o n e => by rw [upd_ne n]; exact s2 _ _ (kp b o n e), by rw [upd_same, List.take_add_one, hu, List.map_append]; rfl⟩
        rw [List.length_map, List.length_take]
        exact big (by omega)
      · obtain ⟨kp, hD'⟩ := m
        rw [hx.1, List.take_length] at hD'
        refine ⟨D, ws, rfl, hD', hw, hl, fun T q H2 lt at_ bt hq s2 ht => ?_⟩
        have sm : Same H H2 := fun a o e => s2 _ _ (kp a o (ne_of_none e hD) e)
        exact fun x dx hx hdx hne => mk_set ht lt (by omega) hx hdx hne fun H3 s3 h3 => k x H3 T (free_of sm hx) (sm.trans s3) h3 at_
    · refine .inr ⟨⟨_, hp⟩, fun D hD => ?_⟩
      refine lcR_tup (xs := xs) (fun i H' => (∀ b o, b ≠ D → H b = some o → H' b = some o) ∧ H' D = some (.lst ((ws.take i).map fun u => V.str (enc u)))) ⟨fun b o n e => by rw [upd_ne n]; exact e, by rw [upd_same]; rfl⟩
        (fun i H' _ m => sqT_tk (TK.inD hD m.1) hp) (fun i x H' hi m => ?_) (gName_mono _) (fun H' m => ?_)
      · obtain ⟨kp, hD'⟩ := m
        obtain ⟨u, hu⟩ := at_lt (xs := ws) (i := i) (by rw [← hx.1]; exact lt_at hi)
        obtain ⟨r, rfl, dr, hr2⟩ := hx.2 i x u hi hu
        have hr3 := kp _ _ (ne_of_none hr2 hD) hr2
        refine ⟨rfl, _, rfl, r, dr, _, rfl, hr3, r, u, rfl, ⟨dr, hr3⟩, hw u (List.mem_iff_getElem?.mpr ⟨_, hu⟩), fun H2 s2 => ?_⟩
        refine ⟨_, s2 _ _ hD', ?_, fun b o n e => by rw [upd_ne n]; exact s2 _ _ (kp b o n e), by rw [upd_same, List.take_add_one, hu, List.map_append]; rfl⟩
        rw [List.length_map, List.length_take]
        exact big (by omega)
      · obtain ⟨kp, hD'⟩ := m
        rw [hx.1, List.take_length] at hD'
        refine ⟨D, ws, rfl, hD', hw, hl, fun T q H2 lt at_ bt hq s2 ht => ?_⟩
        have sm : Same H H2 := fun a o e => s2 _ _ (kp a o (ne_of_none e hD) e)
        exact fun x dx hx hdx hne => mk_set ht lt (by omega) hx hdx hne fun H3 s3 h3 => k x H3 T (free_of sm hx) (sm.trans s3) h3 at_
theorem ok_tow {f : Addr} {fd : FuncData} (F : Fun K "table_of_words" "table_of_words" S_table_of_words f fd) (T : Txt K mg) (C_least : FnC P w K mg base CX0 2 "least_table" ["rows"] (sp_least K)) : FnOk P w K mg base CX0 3 f fd ["words"] (sp_tow K) := by
  refine F.ok SC_table_of_words (fun vs H Q E h => ?_) (fun cdv A outer s H vs Q E hr h => ?_)
  · obtain ⟨p, ws, rfl, _⟩ := h
    rfl
  · obtain ⟨p, ws, rfl, hp, hw, hl, k⟩ := h
    refine ⟨_, (pss_cons (ps_set (i := 1) SC_table_of_words.nd rfl (.inl rfl) (pe_lstN (pa_cons (pe_lstN (pa_cons pe_bl (pa_cons pe_int (pa_cons pe_int pa_nil)))) (pa_cons (pe_lstN (pa_cons pe_bl (pa_cons pe_int (pa_cons pe_int pa_nil)))) pa_nil))))
      (pss_cons (ps_for PassesOwn.never rfl (pi_list (pv 0)) (pg_name (i := 2) SC_table_of_words.nd rfl (.inl rfl)) (pss_cons (ps_set (i := 3) SC_table_of_words.nd rfl (.inl rfl) pe_int)
      (pss_cons (ps_for PassesOwn.never rfl (pi_str (pv 2)) (pg_name (i := 4) SC_table_of_words.nd rfl (.inl rfl)) (pss_cons (ps_set (i := 5) SC_table_of_words.nd rfl (.inl rfl) (pe_op op_add pe_int (pe_bm PySem.F.plainAttrs_str PySem.F.slot_str_index PySem.F.type_str_index mt_sindex pe_str (pa_cons (pv 4) pa_nil))))
      (pss_mid (ps_if (pt_cmpR op_eq (pe_ix ix_list (pe_ix ix_list (pv 1) (pv 3) (fun _ _ => rfl)) (pv 5) (fun _ _ => rfl)) pe_int (nomark _)) (pss_cons (ps_asg (pe_callB call_len_seq (by rfl) T.b_len (by decide +kernel) (pa_cons (pv 1) pa_nil)) (pg_sub (pe_ix ix_list (pv 1) (pv 3) (fun _ _ => rfl)) (pv 5) set_list))
      (pss_one (ps_expr (pe_bm PySem.F.plainAttrs_list PySem.F.slot_list_append PySem.F.type_list_append mt_append (pv 1) (pa_cons (pe_lstN (pa_cons pe_bl (pa_cons pe_int (pa_cons pe_int pa_nil)))) pa_nil))))) pss_nil)
      (pss_one (ps_set (i := 3) SC_table_of_words.nd rfl (.inl rfl) (pe_ix ix_list (pe_ix ix_list (pv 1) (pv 3) (fun _ _ => rfl)) (pv 5) (fun _ _ => rfl)))))))
      (pss_one (ps_asg pe_bl (pg_sub (pe_ix ix_list (pv 1) (pv 3) (fun _ _ => rfl)) pe_int set_list))))))
      (pss_one (ps_ret (pe_callC C_least (hr.mono (by decide)) rfl (pa_cons (pe_lc (own := [("is_in", 6), ("left", 7), ("right", 8)])  (by rfl) SC_table_of_words.nd (pi_list (pv 1)) (blkOk_by (own := [("is_in", 6), ("left", 7), ("right", 8)]) (N := N_table_of_words) (sc := defScope S_table_of_words) (by decide +kernel)) (fun _ _ _ _ _ => (pg_lstK (K := K) (n := 3) rfl rfl (pgs_cons (pg_name (i := 6) SC_table_of_words.nd rfl (.inl rfl)) (pgs_cons (pg_name (i := 7) SC_table_of_words.nd rfl (.inl rfl)) (pgs_cons (pg_name (i := 8) SC_table_of_words.nd rfl (.inl rfl)) pgs_nil))))) (fun _ _ _ _ _ => pts_nil) (fun _ _ _ _ _ => (pe_tupN (pa_cons (pv 6) (pa_cons (pe_tupN (pa_cons (pv 7) (pa_cons (pv 8) pa_nil))) pa_nil))))) pa_nil)))))), ?_⟩
    have W0 := Hd.start H
    walk_at "kw"
    rename_i A1 H1 f1 n1 s1 W1 A2 H2 f2 n2 s2 W2 R H3 f3 n3 s3 W3
    have m3 : Mr H H3 R [A1, A2] t0 := ⟨rfl, Hd.perm W3 (List.Perm.cons _ (List.Perm.swap _ _ _))⟩
    refine ⟨⟨_, SqL.of (m3.hd.sm _ _ hp)⟩, ?_⟩
    refine for_list (xs := ws.map fun u => V.str (enc u)) (fun i σ H' => ∃ (ads : List Addr) (t : Tab) (P : List (List Bool)) (y2 y3 y4 y5 y6 y7 y8 : Option V), Mr H H' R ads t ∧ Tr t P (ws.take i) ∧ t.length ≤ 2 + 900 * i ∧ σ = [some (.ref p), some (.ref R), y2, y3, y4, y5, y6, y7, y8])
      ⟨_, _, _, none, none, none, none, none, none, none, m3, Tr.start, by decide, rfl⟩ (fun i σ H' _ q => let ⟨_, _, _, _, _, _, _, _, _, _, m, _⟩ := q; SqL.of (m.hd.sm _ _ hp)) (fun i x σ H4 hi q => ?_) (fun σ H4 q => ?_)
    · obtain ⟨ads, t, Pf, y2, y3, y4, y5, y6, y7, y8, m, tr, tl, rfl⟩ := q
      rw [List.getElem?_map] at hi
      obtain ⟨u, hu, rfl⟩ := Option.map_eq_some_iff.mp hi
      have iw := lt_at hu
      have ul := hw u (List.mem_iff_getElem?.mpr ⟨_, hu⟩)
      have hz : (enc u).cps.size = u.length := enc_len u
      walk_at "kw"
      refine for_it (walk_str (z := enc u)) (fun j σ H' => ∃ (ads : List Addr) (t : Tab) (P : List (List Bool)) (a : Nat) (y4 y5 y6 y7 y8 : Option V), Mr H H' R ads t ∧ Tr t P (ws.take i) ∧ t.length ≤ 2 + 900 * i + j ∧ a ≠ 1 ∧ P[a]? = some (u.take j) ∧ σ = [some (.ref p), some (.ref R), some (.str (enc u)), some (.int (a : Nat)), y4, y5, y6, y7, y8])
        ⟨ads, t, Pf, 0, y4, y5, y6, y7, y8, m, tr, tl, by decide, tr.root, rfl⟩ (fun _ _ _ _ _ => trivial) (fun j v σ H5 H6 hj hP hY => ?_) (fun σ H5 q => ?_)
      · obtain ⟨ads, t, Pf, a, y4, y5, y6, y7, y8, m, tr, tl, a1, ha, rfl⟩ := hP
        obtain ⟨rfl, c, hc, rfl⟩ := hY
        obtain ⟨b, hb, rfl⟩ := enc_at hc
        have jl := lt_at hb
        have al : a < t.length := by rw [← tr.len]; exact lt_at ha
        obtain ⟨r, hr⟩ := at_lt al
        obtain ⟨ad, had, hrow⟩ := m.row hr
        have hadv : (ads.map V.ref)[a]? = some (.ref ad) := by rw [List.getElem?_map, had]; rfl
        have atS : ∀ (r : Rw) (k : Nat), (if b then r.2.2 else r.2.1) = k → atI [V.bl r.1, V.int (r.2.1 : Nat), V.int (r.2.2 : Nat)] ((1 : Int) + ((if b then 1 else 0 : Nat) : Int)) = some (.int (k : Nat)) := fun r k e => by
          subst e
          cases b
          · exact atI_nat (j := 1) rfl
          · exact atI_nat (j := 2) rfl
        have en : (if b then r.2.2 else r.2.1) = nx t a b := by cases b; exact (nx_l hr).symm; exact (nx_r hr).symm
        refine ⟨rfl, _, rfl, _, _, _, _, rfl, rfl, lit_lr ▸ occ_lr b, ?_⟩
        refine ⟨_, _, rfl, rfl, ?_⟩
        refine ⟨fun σ' H' => ∃ (ads : List Addr) (t : Tab) (P : List (List Bool)) (y6 y7 y8 : Option V), Mr H H' R ads t ∧ Tr t P (ws.take i) ∧ t.length ≤ 2 + 900 * i + (j + 1) ∧ P[a]? = some (u.take j) ∧ nx t a b ≠ 1 ∧ σ' = [some (.ref p), some (.ref R), some (.str (enc u)), some (.int (a : Nat)), some (.str ⟨#[cd b]⟩), some (.int ((1 : Int) + ((if b then 1 else 0 : Nat) : Int))), y6, y7, y8], ?_, fun σ1 H7 z => ?_⟩
        · refine ⟨_, rfl, _, rfl, R, _, _, _, rfl, rfl, SqL.of m.rows, atI_nat hadv, _, rfl, ad, _, _, _, rfl, rfl, SqL.of hrow, atS r _ en, rfl, _, rfl, ?_⟩
          refine ite2 (fun h => ?_) (fun h => ?_)
          · have e1 : nx t a b = 1 := by
              have := of_decide_eq_true h
              have := V.int.inj this
              omega
            refine ⟨_, rfl, R, _, rfl, .inl (SqL.of m.rows), _, rfl, _, rfl, R, _, _, _, rfl, rfl, SqL.of m.rows, atI_nat hadv, _, rfl, ad, _, _, (if b then 2 else 1), rfl, rfl, hrow, by cases b <;> rfl, ?_⟩
            have e2 : HO.lst ([V.bl r.1, V.int (r.2.1 : Nat), V.int (r.2.2 : Nat)].set (if b then 2 else 1) (V.int ((ads.map V.ref).length : Nat))) = r3 (setN r b t.length) := by rw [List.length_map, m.len]; cases b <;> rfl
            rw [e2]
            have m2 := m.set (r' := setN r b t.length) had hr
            refine ⟨_, rfl, .inl ⟨rfl, _, SqL.of m2.rows⟩, ?_⟩
            have W7 := m2.hd
            walk_at "kw"
            rename_i A H8 f8 f8' s8 W8
            have gR8 := s8 _ _ m2.rows
            have g8 : H8 A = some (r3 (false, 1, 1)) := W8.get (.head _)
            have i2 : i ≤ 1000 := by omega
            refine ⟨R, _, _, rfl, rfl, gR8, ?_, ?_⟩
            · rw [List.length_map, m.len]
              exact big (by omega)
            refine ⟨_, _, _, _, _, _, m2.app f8' s8 g8, tr.grow a1 ha hr e1, ?_, ?_, ?_, rfl⟩
            · rw [List.length_append, List.length_set, List.length_singleton]; omega
            · rw [List.getElem?_append_left (lt_at ha)]; exact ha
            · rw [nx_app (by rw [List.length_set]; exact al), nx_set hr, if_pos ⟨rfl, rfl⟩]
              have := tr.two
              omega
          · have e1 : nx t a b ≠ 1 := fun e => h (by rw [e]; exact decide_eq_true rfl)
            refine ⟨ads, t, Pf, _, _, _, m, tr, by omega, ha, e1, rfl⟩
        · obtain ⟨ads, t, Pf, y6, y7, y8, m, tr, tl, ha, e1, rfl⟩ := z
          have al : a < t.length := by rw [← tr.len]; exact lt_at ha
          obtain ⟨r, hr⟩ := at_lt al
          obtain ⟨ad, had, hrow⟩ := m.row hr
          have hadv : (ads.map V.ref)[a]? = some (.ref ad) := by rw [List.getElem?_map, had]; rfl
          have en : (if b then r.2.2 else r.2.1) = nx t a b := by cases b; exact (nx_l hr).symm; exact (nx_r hr).symm
          refine ⟨_, rfl, _, rfl, R, _, _, _, rfl, rfl, SqL.of m.rows, atI_nat hadv, _, rfl, ad, _, _, _, rfl, rfl, SqL.of hrow, atS r _ en, ?_⟩
          rcases tr.step a _ b a1 ha with e | ⟨e2, e3⟩
          · exact absurd e e1
          · refine ⟨ads, t, Pf, nx t a b, _, _, _, _, _, m, tr, tl, by omega, ?_, rfl⟩
            rw [e3, List.take_add_one, hb]; rfl
      · obtain ⟨ads, t, Pf, a, y4, y5, y6, y7, y8, m, tr, tl, a1, ha, rfl⟩ := q
        rw [hz] at tl ha
        rw [List.take_length] at ha
        have al : a < t.length := by rw [← tr.len]; exact lt_at ha
        obtain ⟨r, hr⟩ := at_lt al
        obtain ⟨ad, had, hrow⟩ := m.row hr
        have hadv : (ads.map V.ref)[a]? = some (.ref ad) := by rw [List.getElem?_map, had]; rfl
        refine ⟨_, rfl, _, rfl, R, _, _, _, rfl, rfl, SqL.of m.rows, atI_nat hadv, ad, _, _, 0, rfl, rfl, hrow, rfl, ?_⟩
        refine ⟨ads, _, Pf, _, _, _, _, _, _, _, m.set (r' := (true, r.2)) had hr, ?_, ?_, rfl⟩
        · rw [List.take_add_one, hu]
          exact tr.put a1 ha hr
        · rw [List.length_set]; omega
    · obtain ⟨ads, t, Pf, y2, y3, y4, y5, y6, y7, y8, m, tr, tl, rfl⟩ := q
      rw [List.length_map, List.take_length] at tr
      rw [List.length_map] at tl
      have gR := m.rows
      refine ⟨_, rfl, R, rfl, ⟨_, SqL.of gR⟩, fun D hD => ?_⟩
      refine lcR_list (xs := ads.map V.ref) (fun j H' => (∀ b o, b ≠ D → H4 b = some o → H' b = some o) ∧ ∃ gx, H' D = some (.lst gx) ∧ RowsAt K H' gx (t.take j)) ⟨fun b o n e => by rw [upd_ne n]; exact e, [], upd_same, .nil⟩
        (fun j H' _ q => SqL.of (q.1 _ _ (ne_of_none gR hD) gR)) (fun j v H' hj q => ?_) (gLst3_mono _ _ _ _) (fun H' q => ?_)
      · obtain ⟨kp, gx, hD', rg⟩ := q
        have jt : j < t.length := by rw [← m.len, ← List.length_map (f := V.ref)]; exact lt_at hj
        obtain ⟨r, hr⟩ := at_lt jt
        obtain ⟨ad, had, hrow⟩ := m.row hr
        rw [List.getElem?_map, had] at hj
        cases hj
        have hrow' := kp _ _ (ne_of_none hrow hD) hrow
        refine ⟨ad, _, rfl, SqL.of hrow', rfl, _, _, rfl, _, _, rfl, _, _, rfl, rfl, rfl, ?_⟩
        refine ⟨_, rfl, _, rfl, _, rfl, (by show 2 ≤ 1000000; decide), fun Ta Ha na sa ha => ⟨by show 2 ≤ 1000000; decide, fun Tb Hb nb sb hb => ?_⟩⟩
        have hDb := sb _ _ (sa _ _ hD')
        have gl : gx.length < sizeLine := by
          rw [rg.1, List.length_take]
          exact big (by omega)
        refine ⟨gx, hDb, gl, fun b o n e => by rw [upd_ne n]; exact sb _ _ (sa _ _ (kp b o n e)), gx ++ [.ref Tb], upd_same, ?_⟩
        rw [List.take_add_one, hr]
        exact add_row r hDb hb (sb _ _ ha) rfl rfl ((rg.tk (TK.same sa)).tk (TK.same sb))
      · obtain ⟨kp, gx, hD', rg⟩ := q
        rw [List.length_map, m.len, List.take_length] at rg
        refine ⟨D, gx, t, rfl, SqL.of hD', rg, tr.wf, by omega, fun T q H9 lT aT lt hq s9 hT => ?_⟩
        have sm : Same H H9 := fun a o e => s9 _ _ (kp a o (ne_of_none (m.hd.sm a o e) hD) (m.hd.sm a o e))
        refine k T q H9 lT (fun v => ?_) (by omega) (free_of (fun a o e => kp a o (ne_of_none (m.hd.sm a o e) hD) (m.hd.sm a o e)) hq) sm hT
        rw [aT, Bool.eq_iff_iff, tr.lang, decide_eq_true_eq]
end

/-! ## the law's own words -/
namespace Lv
def lay : Nat → List (List Bool)
  | 0 => [[]]
  | k + 1 => ((lay k).map fun u => [u ++ [false], u ++ [true]]).flatten
def allW : Nat → List (List Bool)
  | 0 => [[]]
  | k + 1 => allW k ++ lay (k + 1)
theorem lay_len (k : Nat) : (lay k).length = 2 ^ k := by
  induction k with
  | zero => rfl
  | succ k ih =>
    have gen : ∀ l : List (List Bool), ((l.map fun u => [u ++ [false], u ++ [true]]).flatten).length = 2 * l.length := fun l => by
      induction l with
      | nil => rfl
      | cons u l ih => simp only [List.map_cons, List.flatten_cons, List.length_append, List.length_cons, List.length_nil, ih]; omega
    unfold lay
    rw [gen, ih, Nat.pow_succ, Nat.mul_comm]
theorem allW_len (k : Nat) : (allW k).length < 2 ^ (k + 1) := by
  induction k with
  | zero => decide
  | succ k ih =>
    unfold allW
    rw [List.length_append, lay_len, Nat.pow_succ 2 (k + 1)]
    omega
theorem lay_mem : ∀ (k : Nat) (u : List Bool), u ∈ lay k ↔ u.length = k
  | 0, u => by
    constructor
    · intro h; cases List.mem_singleton.mp h; rfl
    · intro h; rw [List.eq_nil_of_length_eq_zero h]; exact .head _
  | k + 1, u => by
    unfold lay
    rw [List.mem_flatten]
    constructor
    · rintro ⟨l, hl, hu⟩
      obtain ⟨v, hv, rfl⟩ := List.mem_map.mp hl
      have := (lay_mem k v).mp hv
      rcases List.mem_cons.mp hu with rfl | hu
      · simp [this]
      · cases List.mem_singleton.mp hu; simp [this]
    · intro h
      have ne : u ≠ [] := fun e => by rw [e] at h; cases h
      have e := List.dropLast_concat_getLast ne
      refine ⟨[u.dropLast ++ [false], u.dropLast ++ [true]], List.mem_map.mpr ⟨u.dropLast, (lay_mem k _).mpr (by rw [List.length_dropLast]; omega), rfl⟩, ?_⟩
      cases q : u.getLast ne with
      | false => rw [q] at e; exact List.mem_cons.mpr (.inl e.symm)
      | true => rw [q] at e; exact List.mem_cons.mpr (.inr (List.mem_singleton.mpr e.symm))
theorem allW_mem (k : Nat) (u : List Bool) : u ∈ allW k ↔ u.length ≤ k := by
  induction k with
  | zero =>
    constructor
    · intro h; cases List.mem_singleton.mp h; exact Nat.le_refl _
    · intro h; rw [List.eq_nil_of_length_eq_zero (Nat.le_zero.mp h)]; exact .head _
  | succ k ih =>
    unfold allW
    rw [List.mem_append, ih, lay_mem]
    omega
def sE (u : List Bool) : V := .str (enc u)
theorem join_b (bits : List Bool) : Txt.join ("" : Str) (bits.map fun x => enc [x]) = enc bits := by
  have h := join_enc (bits.map fun x => [x])
  have e : (bits.map fun x => [x]).flatten = bits := by induction bits with
    | nil => rfl
    | cons x r ih => rw [List.map_cons, List.flatten_cons, ih (join_enc _)]; rfl
  rw [List.map_map, e] at h
  exact h
theorem sum_b (bits : List Bool) : ((bits.map fun x => enc [x]).map (·.length)).sum = bits.length := by
  induction bits with
  | nil => rfl
  | cons x r ih => rw [List.map_cons, List.map_cons, List.sum_cons, ih, enc_len]; simp; omega
theorem at_lr (c : Bool) : atI ("lr" : Str).cps.toList ((if c = true then 1 else 0 : Nat) : Int) = some (cd c) := by cases c <;> decide +kernel
theorem lr_len : ("lr" : Str).length ≤ sizeLine := by decide +kernel
def sp_words (K : PySem.W.Frag) : Sp := fun vs H Q _ => ∃ k : Nat, vs = [.int (k : Nat)] ∧ k ≤ 12 ∧ ∀ (p : Addr) (H' : Hp), H p = none → Same H H' → H' p = some (.lst ((allW k).map sE)) → Q (.ref p) H'
def sp_lsome : Sp := fun vs H Q _ => ∃ (b : Addr) (most : Int), vs = [.ref b, .int most] ∧ BoxAt H b ∧ 0 ≤ most ∧ most ≤ 800 ∧ ∀ (u : List Bool) (H' : Hp), (u.length : Int) ≤ most → Keep b H H' → BoxAt H' b → Q (.str (enc u)) H'
def sp_pair : Sp := fun vs H Q _ => ∃ u : List Bool, vs = [.str (enc u)] ∧ u.length ≤ 100000 ∧ ∀ (p : Addr) (H' : Hp), H p = none → Same H H' → H' p = some (.tup [.int (pr u).1, .int (pr u).2]) → Q (.ref p) H'
def sp_has (K : PySem.W.Frag) (CS : Addr) : Sp := fun vs H Q _ => ∃ (e : Addr) (u : List Bool) (t : Tab), vs = [.ref e, .str (enc u)] ∧ SetAt K CS H e t ∧ u.length ≤ 900 ∧ ∀ H', Same H H' → Q (.bl (acc t 0 u)) H'
end Lv
open Lv
section
variable {P : Program} {w : World} {K : PySem.W.Frag} {mg : Str → Option Value} {base : Heap}
theorem ok_words {f : Addr} {fd : FuncData} (F : Fun K "_law_words" "_law_words" S__law_words f fd) (T : Txt K mg) : FnOk P w K mg base CX0 1 f fd ["_law_most"] (sp_words K) := by
  refine F.ok SC__law_words (fun vs H Q E h => ?_) (fun cdv A outer s H vs Q E hr h => ?_)
  · obtain ⟨k, rfl, _⟩ := h
    rfl
  · obtain ⟨n, rfl, hn, k⟩ := h
    refine ⟨_, (pss_cons (ps_par (i := 1) (j := 2) (by rfl) SC__law_words.nd rfl rfl (by decide) rfl rfl (pa_cons (pe_lstN (pa_cons pe_str pa_nil)) (pa_cons (pe_lstN (pa_cons pe_str pa_nil)) pa_nil)) (by rfl))
      (pss_cons (ps_for PassesOwn.never rfl (pi_range1 (by rfl) T.b_range (pa_cons (pv 0) pa_nil)) (pg_name (i := 3) SC__law_words.nd rfl (.inl rfl)) (pss_cons (ps_set (i := 4) SC__law_words.nd rfl (.inl rfl) (pe_lstN pa_nil))
      (pss_cons (ps_for PassesOwn.never rfl (pi_list (pv 2)) (pg_name (i := 5) SC__law_words.nd rfl (.inl rfl)) (pss_one (ps_expr (pe_bm PySem.F.plainAttrs_list PySem.F.slot_list_extend PySem.F.type_list_extend mt_extend (pv 4) (pa_cons (pe_lstN (pa_cons (pe_op op_add_str (pv 5) pe_str) (pa_cons (pe_op op_add_str (pv 5) pe_str) pa_nil))) pa_nil)))))
      (pss_one (ps_par (i := 1) (j := 2) (by rfl) SC__law_words.nd rfl rfl (by decide) rfl rfl (pa_cons (pe_op op_cat (pv 1) (pv 4)) (pa_cons (pv 4) pa_nil)) (by rfl))))))
      (pss_one (ps_ret (pv 1))))), ?_⟩
    have W0 := Hd.start H
    walk_at "kw"
    rename_i F H1 f1 n1 s1 W1 L H2 f2 n2 s2 W2
    rw [lit_e] at W2
    rw [Int.toNat_natCast]
    refine for_range (lo := 0) (fun i σ H' => ∃ (F L : Addr) (y3 y4 y5 : Option V), Hd H H' [(L, .lst ((lay i).map sE)), (F, .lst ((allW i).map sE))] ∧ σ = [some (.int (n : Nat)), some (.ref F), some (.ref L), y3, y4, y5])
      ⟨F, L, _, _, _, W2, rfl⟩ (fun i σ H3 hi q => ?_) (fun σ H3 q => ?_)
    · obtain ⟨F, L, y3, y4, y5, W3, rfl⟩ := q
      walk_at "kw"
      rename_i G H4 f4 n4 s4 W4
      have ln := lay_len i
      have an := allW_len i
      have pw : 2 ^ i ≤ 2 ^ 12 := Nat.pow_le_pow_right (by decide) (by omega)
      have p12 : 2 ^ 12 = 4096 := by decide
      have pw2 : 2 ^ (i + 1) = 2 * 2 ^ i := by rw [Nat.pow_succ, Nat.mul_comm]
      refine ⟨⟨_, SqL.of (W4.get (.tail _ (.head _)))⟩, ?_⟩
      refine for_list (xs := (lay i).map sE) (fun j σ H' => ∃ (y5 : Option V), Hd H H' [(G, .lst ((((lay i).take j).map fun u => [u ++ [false], u ++ [true]]).flatten.map sE)), (L, .lst ((lay i).map sE)), (F, .lst ((allW i).map sE))] ∧ σ = [some (.int (n : Nat)), some (.ref F), some (.ref L), some (.int (0 + (i : Int))), some (.ref G), y5])
        ⟨_, W4, rfl⟩ (fun j σ H5 _ q => let ⟨_, W, _⟩ := q; SqL.of (W.get (.tail _ (.head _)))) (fun j x σ H5 hj q => ?_) (fun σ H5 q => ?_)
      · obtain ⟨y5, W5, rfl⟩ := q
        rw [List.getElem?_map] at hj
        obtain ⟨u, hu, rfl⟩ := Option.map_eq_some_iff.mp hj
        have hul := (lay_mem i u).mp (List.mem_iff_getElem?.mpr ⟨_, hu⟩)
        have tl : (((lay i).take j).map fun u => [u ++ [false], u ++ [true]]).flatten.length ≤ 2 * (lay i).length := by
          have gen : ∀ l : List (List Bool), ((l.map fun u => [u ++ [false], u ++ [true]]).flatten).length = 2 * l.length := fun l => by
            induction l with
            | nil => rfl
            | cons u l ih => simp only [List.map_cons, List.flatten_cons, List.length_append, List.length_cons, List.length_nil, ih]; omega
          rw [gen, List.length_take]
          omega
        have gG := W5.get (.head _)
        refine ⟨_, rfl, .inl ⟨rfl, _, SqL.of gG⟩, ?_⟩
        have e1 : enc u ++ ("l" : Str) = enc (u ++ [false]) := by rw [lit_l, enc_app]
        have e2 : enc u ++ ("r" : Str) = enc (u ++ [true]) := by rw [lit_r, enc_app]
        have l1 : (enc u).length + ("l" : Str).length ≤ 16777216 := by rw [lit_l, enc_len, enc_len]; simp; omega
        have l2 : (enc u).length + ("r" : Str).length ≤ 16777216 := by rw [lit_r, enc_len, enc_len]; simp; omega
        walk_at "kw"
        rename_i B H6 f6 n6 s6 W6
        rw [e1, e2] at W6
        have gB := W6.get (.head _)
        have gG6 := W6.get (.tail _ (.head _))
        refine ⟨G, B, _, _, rfl, rfl, gG6, gB, ?_, ?_⟩
        · rw [List.length_map]
          exact Nat.le_trans (show _ ≤ 16384 by show _ + 2 ≤ _; omega) (by decide)
        · have e3 : ((((lay i).take (j + 1)).map fun u => [u ++ [false], u ++ [true]]).flatten.map sE) = ((((lay i).take j).map fun u => [u ++ [false], u ++ [true]]).flatten.map sE) ++ [V.str (enc (u ++ [false])), V.str (enc (u ++ [true]))] := by
            rw [List.take_add_one, hu, List.map_append, List.flatten_append, List.map_append]; rfl
          rw [e3]
          exact ⟨_, (W6.set 1 rfl _).tl, rfl⟩
      · obtain ⟨y5, W5, rfl⟩ := q
        rw [List.length_map, List.take_length] at W5
        have gG := W5.get (.head _)
        have gF := W5.get (.tail _ (.tail _ (.head _)))
        refine ⟨_, rfl, _, rfl, F, G, _, _, rfl, rfl, gF, gG, ?_, fun p hp => ?_⟩
        · have e : (((lay i).map fun u => [u ++ [false], u ++ [true]]).flatten.map sE).length = (lay (i + 1)).length := by rw [List.length_map]; rfl
          rw [e, List.length_map, lay_len]
          exact Nat.le_trans (show _ ≤ 16384 by omega) (by decide)
        · have W6 := W5.new hp (.lst ((allW i).map sE ++ (((lay i).map fun u => [u ++ [false], u ++ [true]]).flatten.map sE)))
          refine ⟨_, rfl, _, _, rfl, p, G, _, _, _, ?_, rfl⟩
          have W7 := W6.sub (L' := [(p, _), (G, _)]) (.cons₂ _ (.cons₂ _ (.cons _ (.cons _ .slnil))))
          have e : (allW (i + 1)).map sE = (allW i).map sE ++ (((lay i).map fun u => [u ++ [false], u ++ [true]]).flatten.map sE) := by show (allW i ++ lay (i + 1)).map sE = _; rw [List.map_append]; rfl
          rw [e]
          exact ⟨W7.sm, by have := W7.nd; simp at this ⊢; exact fun z => this z.symm, fun x hx => W7.at_ x (by
            rcases List.mem_cons.mp hx with rfl | hx
            · exact .tail _ (.head _)
            · cases List.mem_singleton.mp hx; exact .head _)⟩
    · obtain ⟨F, L, y3, y4, y5, W3, rfl⟩ := q
      exact ⟨_, rfl, k F H3 (W3.fr (.tail _ (.head _))) W3.sm (W3.get (.tail _ (.head _)))⟩
theorem ok_lsome {f : Addr} {fd : FuncData} (F : Fun K "_law_some_word" "_law_some_word" S__law_some_word f fd) (T : Txt K mg) (C_take : FnC P w K mg base CX0 1 "_law_take" ["_law_box_here", "_law_many"] sp_take) : FnOk P w K mg base CX0 2 f fd ["_law_box_here", "_law_most"] sp_lsome := by
  refine F.ok SC__law_some_word (fun vs H Q E h => ?_) (fun cdv A outer s H vs Q E hr h => ?_)
  · obtain ⟨b, most, rfl, _⟩ := h
    rfl
  · obtain ⟨b, most, rfl, hb, m0, m1, k⟩ := h
    refine ⟨_, (pss_one (ps_ret (pe_join pe_str (pe_lc (own := [("_law_k", 2)]) (g := gName 2) (by rfl) SC__law_some_word.nd (pi_range1 (by rfl) T.b_range (pa_cons (pe_callC C_take (hr.mono (by decide)) rfl (pa_cons (pv 0) (pa_cons (pe_op op_add (pv 1) pe_int) pa_nil))) pa_nil)) (blkOk_by (own := [("_law_k", 2)]) (N := N__law_some_word) (sc := defScope S__law_some_word) (by decide +kernel)) (fun _ _ _ _ _ => pg_name (i := 2) SC__law_some_word.nd rfl (Or.inl rfl)) (fun _ _ _ _ _ => pts_nil) (fun _ _ _ _ _ => (pe_ix ix_str pe_str (pe_callC C_take (hr.mono (by decide)) rfl (pa_cons (pv 0) (pa_cons pe_int pa_nil))) (fun _ _ => rfl))))))), ?_⟩
    walk_at "kw"
    intro d H1 d0 d1 kp hb1
    walk_at "kw"
    intro D hD
    have hDb : D ≠ b := hb1.ne hD
    refine lcR_range (lo := 0) (fun i H' => Keep b H1 H' ∧ BoxAt H' b ∧ ∃ us : List Bool, us.length = i ∧ H' D = some (.lst (us.map fun x => sE [x])))
      ⟨Keep.new hD, hb1.new hD, [], rfl, upd_same⟩ (fun i H3 hi m => ?_) (gName_mono _) (fun H3 m => ?_)
    · obtain ⟨kp3, hb3, us, hl, hH⟩ := m
      refine ⟨rfl, _, rfl, b, 2, rfl, hb3, by decide, by decide, fun x H4 x0 x1 kp4 hb4 => ?_⟩
      have hH4 := kp4 D _ hDb hH
      obtain ⟨c, hc⟩ : ∃ c : Bool, x = (if c then 1 else 0 : Nat) := by
        rcases (show x = 0 ∨ x = 1 by omega) with rfl | rfl
        · exact ⟨false, rfl⟩
        · exact ⟨true, rfl⟩
      subst hc
      refine ⟨_, _, _, rfl, rfl, lr_len, at_lr c, ?_⟩
      refine ⟨_, hH4, by rw [List.length_map]; exact Nat.lt_of_le_of_lt (show us.length ≤ 1000 by omega) (by decide), fun a o n e => by rw [upd_ne (ne_of_none e hD)]; exact (kp3.trans kp4) a o n e, hb4.keep fun o e => by rw [upd_ne hDb.symm]; exact e, us ++ [c], by simp [hl], by rw [upd_same, List.map_append]; rfl⟩
    · obtain ⟨kp3, hb3, us, hl, hH⟩ := m
      refine ⟨"", D, us.map fun x => enc [x], rfl, rfl, .inl (SqL.of (by rw [List.map_map]; exact hH)), ?_, ?_⟩
      · rw [sum_b, empty_len]
        omega
      · rw [join_b]
        exact k us H3 (by omega) (kp.trans kp3) hb3
theorem ok_pair {f : Addr} {fd : FuncData} (F : Fun K "_law_pair" "_law_pair" S__law_pair f fd) (T : Txt K mg) : FnOk P w K mg base CX0 1 f fd ["_law_word"] sp_pair := by
  refine F.ok SC__law_pair (fun vs H Q E h => ?_) (fun cdv A outer s H vs Q E hr h => ?_)
  · obtain ⟨u, rfl, _⟩ := h
    rfl
  · obtain ⟨u, rfl, hu, k⟩ := h
    refine ⟨_, (pss_cons (ps_asg (pe_tupN (pa_cons pe_int (pa_cons pe_int pa_nil))) (pg_tup rfl (pgs_cons (pg_name (i := 1) SC__law_pair.nd rfl (.inl rfl)) (pgs_cons (pg_name (i := 2) SC__law_pair.nd rfl (.inl rfl)) pgs_nil))))
      (pss_cons (ps_for PassesOwn.never rfl (pi_str (pe_revS (pv 0))) (pg_name (i := 3) SC__law_pair.nd rfl (.inl rfl)) (pss_one (ps_asg (pe_ifExp (pt_cmpR op_eq (pv 3) pe_str (nomark _)) (pe_tupN (pa_cons (pv 1) (pa_cons (pe_op op_add (pv 1) (pv 2)) pa_nil))) (pe_tupN (pa_cons (pe_op op_add (pv 1) (pv 2)) (pa_cons (pv 2) pa_nil)))) (pg_tup rfl (pgs_cons (pg_name (i := 1) SC__law_pair.nd rfl (.inl rfl)) (pgs_cons (pg_name (i := 2) SC__law_pair.nd rfl (.inl rfl)) pgs_nil))))))
      (pss_one (ps_ret (pe_tupN (pa_cons (pv 1) (pa_cons (pv 2) pa_nil))))))), ?_⟩
    have W0 := Hd.start H
    walk_at "kw"
    rename_i T0 H1 f1 n1 s1 W1
    rw [enc_rev]
    have hz : (enc u.reverse).cps.size = u.length := by show (enc u.reverse).length = _; rw [enc_len, List.length_reverse]
    refine for_it (walk_str (z := enc u.reverse)) (fun i σ H' => Hd H H' [] ∧ ∃ x : Option V, σ = [some (.str (enc u)), some (.int (pr (u.reverse.take i).reverse).1), some (.int (pr (u.reverse.take i).reverse).2), x])
      ⟨W1.tl, none, rfl⟩ (fun _ _ _ _ _ => trivial) (fun i v σ H1 H2 hi hP hY => ?_) (fun σ H1 hP => ?_)
    · obtain ⟨W2, x, rfl⟩ := hP
      obtain ⟨rfl, c, hc, rfl⟩ := hY
      obtain ⟨b, hb, rfl⟩ := enc_at hc
      have e3 : (u.reverse.take (i + 1)).reverse = b :: (u.reverse.take i).reverse := by rw [List.take_add_one, hb]; simp
      rw [e3]
      walk_at "kw"
      refine ite2 (fun h => ?_) (fun h => ?_)
      · have e := of_decide_eq_true h
        have ey : b = false := by revert e; cases b <;> decide +kernel
        subst ey
        walk_at "kw"
        rename_i T1 H3 f3 n3 s3 W3
        refine ⟨W3.tl, some (.str ⟨#[cd false]⟩), ?_⟩
        simp [pr]
      · have e := fun z => h (decide_eq_true z)
        have ey : b = true := by revert e; cases b <;> decide +kernel
        subst ey
        walk_at "kw"
        rename_i T1 H3 f3 n3 s3 W3
        refine ⟨W3.tl, some (.str ⟨#[cd true]⟩), ?_⟩
        simp [pr]
    · obtain ⟨W2, x, rfl⟩ := hP
      rw [hz, List.take_of_length_le (by rw [List.length_reverse]; exact Nat.le_refl _), List.reverse_reverse]
      walk_at "kw"
      rename_i p H3 f3 n3 s3 W3
      exact k p H3 f3 W3.sm (W3.get (.head _))
end

/-! ## the least and the greatest word of finitely many -/
namespace Ew
/-- the signs of a word with its end between l and r -/
def mL (u : List Bool) : List Nat := u.map cd ++ [109]
/-- u does not lie ahead of w, read from the side f -/
def nB (f : Bool) (u w : List Bool) : Prop := if f then ¬ mL w < mL u else ¬ mL u < mL w
def ew (t : Tab) (al : Nat → Bool) (f : Bool) : Nat → Nat → List Bool
  | 0, _ => []
  | n + 1, i => if al (nx t i f) then f :: ew t al f n (nx t i f) else if isn t i then [] else (!f) :: ew t al f n (nx t i (!f))
theorem same_lt (a : Nat) (x y : List Nat) : a :: x < a :: y ↔ x < y := by
  rw [List.cons_lt_cons_iff]
  constructor
  · rintro (h | h)
    · exact absurd h (Nat.lt_irrefl _)
    · exact h.2
  · exact fun h => .inr ⟨rfl, h⟩
theorem diff_nlt {a b : Nat} (h : b < a) (x y : List Nat) : ¬ (a :: x < b :: y) := by
  rw [List.cons_lt_cons_iff]
  rintro (z | z)
  · omega
  · omega
theorem nB_refl (f : Bool) (u : List Bool) : nB f u u := by
  unfold nB
  cases f
  · exact List.lt_irrefl _
  · exact List.lt_irrefl _
theorem nB_cons {f b : Bool} {u w : List Bool} (h : nB f u w) : nB f (b :: u) (b :: w) := by
  cases f
  · show ¬ (cd b :: mL u < cd b :: mL w)
    rw [same_lt]; exact h
  · show ¬ (cd b :: mL w < cd b :: mL u)
    rw [same_lt]; exact h
theorem nB_end (f : Bool) (w : List Bool) : nB f [] (f :: w) := by
  cases f
  · exact diff_nlt (a := 109) (b := 108) (by decide) _ _
  · exact diff_nlt (a := 114) (b := 109) (by decide) _ _
theorem nB_end' (f : Bool) (w : List Bool) : nB f ((!f) :: w) [] := by
  cases f
  · exact diff_nlt (a := 114) (b := 109) (by decide) _ _
  · exact diff_nlt (a := 109) (b := 108) (by decide) _ _
theorem nB_diff (f : Bool) (u w : List Bool) : nB f ((!f) :: u) (f :: w) := by
  cases f
  · exact diff_nlt (a := 114) (b := 108) (by decide) _ _
  · exact diff_nlt (a := 114) (b := 108) (by decide) _ _
theorem ew_least {t : Tab} {al : Nat → Bool} (ha : ∀ i, al i = true ↔ ∃ u, acc t i u = true) (f : Bool) : ∀ (n i : Nat), (∀ u, acc t i u = true → u.length ≤ n) → (∃ u, acc t i u = true) → acc t i (ew t al f (n + 1) i) = true ∧ ∀ u, acc t i u = true → nB f u (ew t al f (n + 1) i)
  | n, i, hn, ⟨u0, h0⟩ => by
    have stepn : ∀ b, (∃ u, acc t (nx t i b) u = true) → ∃ m, n = m + 1 ∧ ∀ u, acc t (nx t i b) u = true → u.length ≤ m := fun b ⟨u, hu⟩ => by
      have h1 := hn (b :: u) hu
      cases n with
      | zero => simp at h1
      | succ m => exact ⟨m, rfl, fun v hv => by have := hn (b :: v) hv; simp at this; omega⟩
    unfold ew
    by_cases c : al (nx t i f) = true
    · rw [if_pos c]
      have ex := (ha _).mp c
      obtain ⟨m, rfl, hm⟩ := stepn f ex
      obtain ⟨g1, g2⟩ := ew_least ha f m (nx t i f) hm ex
      refine ⟨g1, fun u hu => ?_⟩
      cases u with
      | nil => exact nB_end f _
      | cons b u =>
        by_cases e : b = f
        · subst e
          exact nB_cons (g2 u hu)
        · have e : b = !f := by cases b <;> cases f <;> simp_all
          subst e
          exact nB_diff f _ _
    · rw [if_neg c]
      have dead : ∀ u, acc t i (f :: u) = true → False := fun u hu => c ((ha _).mpr ⟨u, hu⟩)
      by_cases d : isn t i = true
      · rw [if_pos d]
        refine ⟨d, fun u hu => ?_⟩
        cases u with
        | nil => exact nB_refl f _
        | cons b u =>
          by_cases e : b = f
          · subst e
            exact (dead u hu).elim
          · have e : b = !f := by cases b <;> cases f <;> simp_all
            subst e
            exact nB_end' f _
      · rw [if_neg d]
        have turn : ∀ u, acc t i u = true → ∃ v, u = (!f) :: v := fun u hu => by
          cases u with
          | nil => exact absurd hu d
          | cons b u =>
            by_cases e : b = f
            · subst e
              exact (dead u hu).elim
            · have e : b = !f := by cases b <;> cases f <;> simp_all
              exact ⟨u, by rw [e]⟩
        obtain ⟨v0, rfl⟩ := turn u0 h0
        obtain ⟨m, rfl, hm⟩ := stepn (!f) ⟨v0, h0⟩
        obtain ⟨g1, g2⟩ := ew_least ha f m (nx t i (!f)) hm ⟨v0, h0⟩
        refine ⟨g1, fun u hu => ?_⟩
        obtain ⟨v, rfl⟩ := turn u hu
        exact nB_cons (g2 v hu)
noncomputable def alC (t : Tab) (i : Nat) : Bool := @decide (∃ u, acc t i u = true) (Classical.propDecidable _)
theorem alC_iff (t : Tab) (i : Nat) : alC t i = true ↔ ∃ u, acc t i u = true := by unfold alC; exact @decide_eq_true_iff _ (Classical.propDecidable _)
structure Bdd (t : Tab) (n i : Nat) : Prop where
  le : ∀ u, acc t i u = true → u.length ≤ n
  ex : ∃ u, acc t i u = true
theorem Bdd.nx {t : Tab} {n i : Nat} (h : Bdd t n i) {b : Bool} (e : ∃ u, acc t (nx t i b) u = true) : ∃ m, n = m + 1 ∧ Bdd t m (nx t i b) := by
  obtain ⟨u, hu⟩ := e
  have h1 := h.le (b :: u) hu
  cases n with
  | zero => simp at h1
  | succ m => exact ⟨m, rfl, fun v hv => by have := h.le (b :: v) hv; simp at this; omega, ⟨u, hu⟩⟩
/-- a step of the walk -/
theorem ew_step {t : Tab} {n i : Nat} (f : Bool) (h : Bdd t n i) :
    (alC t (nx t i f) = true ∧ ∃ m, n = m + 1 ∧ ew t (alC t) f (n + 1) i = f :: ew t (alC t) f (m + 1) (nx t i f) ∧ Bdd t m (nx t i f)) ∨
    (alC t (nx t i f) = false ∧ isn t i = true ∧ ew t (alC t) f (n + 1) i = []) ∨
    (alC t (nx t i f) = false ∧ isn t i = false ∧ ∃ m, n = m + 1 ∧ ew t (alC t) f (n + 1) i = (!f) :: ew t (alC t) f (m + 1) (nx t i (!f)) ∧ Bdd t m (nx t i (!f))) := by
  cases c : alC t (nx t i f) with
  | true =>
    obtain ⟨m, rfl, hm⟩ := h.nx ((alC_iff _ _).mp c)
    exact .inl ⟨rfl, m, rfl, by rw [ew, if_pos c], hm⟩
  | false =>
    have c' : ¬ alC t (nx t i f) = true := by rw [c]; decide
    cases d : isn t i with
    | true => exact .inr (.inl ⟨rfl, rfl, by rw [ew, if_neg c', if_pos d]⟩)
    | false =>
      have d' : ¬ isn t i = true := by rw [d]; decide
      obtain ⟨u, hu⟩ := h.ex
      have e : ∃ v, acc t (Mc.nx t i (!f)) v = true := by
        cases u with
        | nil => exact absurd hu d'
        | cons b u =>
          by_cases e : b = f
          · subst e
            exact absurd ((alC_iff _ _).mpr ⟨u, hu⟩) c'
          · have e : b = !f := by cases b <;> cases f <;> simp_all
            subst e
            exact ⟨u, hu⟩
      obtain ⟨m, rfl, hm⟩ := h.nx e
      exact .inr (.inr ⟨rfl, rfl, m, rfl, by rw [ew, if_neg c', if_neg d'], hm⟩)
/-- no state comes twice where there are finitely many words -/
theorem go_rep {t : Tab} {s : Nat} {v : List Bool} (h : go t s v = s) (x : List Bool) (hx : acc t s x = true) : ∀ m, ∃ y : List Bool, acc t s y = true ∧ m * v.length ≤ y.length
  | 0 => ⟨x, hx, by omega⟩
  | m + 1 => by
    obtain ⟨y, hy, hl⟩ := go_rep h x hx m
    refine ⟨v ++ y, by rw [acc_app, h]; exact hy, ?_⟩
    rw [List.length_append, Nat.succ_mul]; omega
theorem once {t : Tab} {N : Nat} (hN : ∀ u, acc t 0 u = true → u.length ≤ N) {w : List Bool} (hw : acc t 0 w = true) {i j : Nat} (hij : i < j) (hj : j ≤ w.length) : go t 0 (w.take i) ≠ go t 0 (w.take j) := fun e => by
  have e1 : w.take j = w.take i ++ (w.drop i).take (j - i) := by
    have h := List.take_append_drop i (w.take j)
    rw [List.take_take, Nat.min_eq_left (Nat.le_of_lt hij), List.drop_take] at h
    exact h.symm
  have loop : go t (go t 0 (w.take i)) ((w.drop i).take (j - i)) = go t 0 (w.take i) := by
    rw [← go_app, ← e1, e]
  have hx : acc t (go t 0 (w.take i)) (w.drop i) = true := by rw [← acc_app, List.take_append_drop]; exact hw
  obtain ⟨y, hy, hl⟩ := go_rep loop _ hx (N + 1)
  have := hN (w.take i ++ y) (by rw [acc_app]; exact hy)
  have lv : ((w.drop i).take (j - i)).length = j - i := by rw [List.length_take, List.length_drop]; omega
  rw [lv] at hl
  rw [List.length_append] at this
  have : (N + 1) * 1 ≤ (N + 1) * (j - i) := Nat.mul_le_mul_left _ (by omega)
  omega
def ks (t : Tab) (u : List Bool) : List L2.Key := (List.range u.length).map fun j => kI (go t 0 (u.take j))
theorem ks_snoc (t : Tab) (u : List Bool) (b : Bool) : ks t (u ++ [b]) = ks t u ++ [kI (go t 0 u)] := by
  unfold ks
  rw [List.length_append, List.length_singleton, List.range_succ, List.map_append]
  have e : u ++ [b] = u ++ [b] := rfl
  congr 1
  · exact List.map_congr_left fun j hj => by
      have := List.mem_range.mp hj
      rw [List.take_append_of_le_length (Nat.le_of_lt this)]
  · show [kI (go t 0 ((u ++ [b]).take u.length))] = _
    rw [List.take_left]
theorem ks_new {t : Tab} {N : Nat} (hN : ∀ u, acc t 0 u = true → u.length ≤ N) {u v : List Bool} (hw : acc t 0 (u ++ v) = true) : valV (numd (ks t u)) (kI (go t 0 u)) = none := by
  rcases numd_cases (kI (go t 0 u)) (ks t u) with ⟨h, _⟩ | ⟨a, h, _⟩
  · exact h
  · unfold ks at h
    rw [List.getElem?_map] at h
    obtain ⟨j, hj, e⟩ := Option.map_eq_some_iff.mp h
    have la := (List.getElem?_eq_some_iff.mp hj).1
    rw [List.length_range] at la
    rw [List.getElem?_range la] at hj
    cases hj
    have e := kI_inj e
    have e1 : u.take a = (u ++ v).take a := by rw [List.take_append_of_le_length (Nat.le_of_lt la)]
    have e2 : u = (u ++ v).take u.length := by rw [List.take_left]
    rw [e1] at e
    exact absurd (e.trans (congrArg (go t 0) e2)) (once hN hw la (by rw [List.length_append]; omega))
theorem at_fo (t : Tab) (i : Nat) (b : Bool) : atI [V.int (nx t i false : Nat), V.int (nx t i true : Nat)] ((if b = true then 1 else 0 : Nat) : Int) = some (.int (nx t i b : Nat)) := by cases b <;> rfl
theorem go_lt {t : Tab} (wf : Wf t) : ∀ (u : List Bool) (i : Nat), i < t.length → go t i u < t.length
  | [], _, h => h
  | b :: u, i, h => go_lt wf u _ (wf.nx i b h)
def sp_ew (K : PySem.W.Frag) : Sp := fun vs H Q _ => ∃ (p : Addr) (t : Tab) (f : Bool), vs = [.ref p, .int (if f then 1 else 0 : Nat)] ∧ TabAt K H p t ∧ Wf t ∧ t.length ≤ 16000000 ∧
  (((∀ u, acc t 0 u = false) ∧ ∀ H', Same H H' → Q .non H') ∨ (∃ N, N ≤ 900 ∧ Bdd t N 0 ∧ ∀ (w : List Bool) (q : Addr) (H' : Hp), acc t 0 w = true → (∀ u, acc t 0 u = true → nB f u w) → w.length ≤ N → Same H H' → H' q = some (.tup [.str (enc w)]) → Q (.ref q) H'))
end Ew
open Ew
section
variable {P : Program} {w : World} {K : PySem.W.Frag} {mg : Str → Option Value} {base : Heap}
theorem ok_ew {f : Addr} {fd : FuncData} (F : Fun K "edge_words" "edge_words" S_edge_words f fd) (T : Txt K mg) (C_alive : FnC P w K mg base CX0 1 "alive" ["table"] (sp_alive K)) : FnOk P w K mg base CX0 2 f fd ["table", "first"] (sp_ew K) := by
  refine F.ok SC_edge_words (fun vs H Q E h => ?_) (fun cdv A outer s H vs Q E hr h => ?_)
  · obtain ⟨p, t, f, rfl, _⟩ := h
    rfl
  · obtain ⟨p, t, f, rfl, hp, wf, tl, k⟩ := h
    refine ⟨_, (pss_cons (ps_set (i := 2) SC_edge_words.nd rfl (.inl rfl) (pe_callC C_alive (hr.mono (by decide)) rfl (pa_cons (pv 0) pa_nil)))
      (pss_cons (ps_if (pt_not (pt_val (pe_ix ix_list (pv 2) pe_int (fun _ _ => rfl)))) (pss_one (ps_ret pe_non)) pss_nil)
      (pss_cons (ps_set (i := 3) SC_edge_words.nd rfl (.inl rfl) pe_dnewK)
      (pss_cons (ps_set (i := 4) SC_edge_words.nd rfl (.inl rfl) (pe_lstN pa_nil))
      (pss_nrm (pss_cons (ps_set (i := 5) SC_edge_words.nd rfl (.inl rfl) pe_int)
      (pss_cons (ps_while PassesOwn.never (pt_cmp (pc_dnotin (hu_of hr) (pv 5) (pv 3))) (pss_cons (ps_dput (hu_of hr) (pv 3) (pv 5) (pe_callB call_len_seq (by rfl) T.b_len (by decide +kernel) (pa_cons (pv 4) pa_nil)) rfl)
      (pss_cons (ps_set (i := 6) SC_edge_words.nd rfl (.inl rfl) (pv 1))
      (pss_mid (ps_if (pt_not (pt_val (pe_ix ix_list (pv 2) (pe_ix ix_tup (pe_ix ix_tup (pe_ix ix_tup (pv 0) (pv 5) (fun _ _ => rfl)) pe_int (fun _ _ => rfl)) (pv 1) (fun _ _ => rfl)) (fun _ _ => rfl)))) (pss_cons (ps_if (pt_val (pe_ix ix_tup (pe_ix ix_tup (pv 0) (pv 5) (fun _ _ => rfl)) pe_int (fun _ _ => rfl))) (pss_one (ps_ret (pe_tupN (pa_cons (pe_join pe_str (pv 4)) pa_nil)))) pss_nil)
      (pss_one (ps_set (i := 6) SC_edge_words.nd rfl (.inl rfl) (pe_op op_sub pe_int (pv 1))))) pss_nil)
      (pss_cons (ps_expr (pe_bm PySem.F.plainAttrs_list PySem.F.slot_list_append PySem.F.type_list_append mt_append (pv 4) (pa_cons (pe_ix ix_str pe_str (pv 6) (fun _ _ => rfl)) pa_nil)))
      (pss_one (ps_set (i := 5) SC_edge_words.nd rfl (.inl rfl) (pe_ix ix_tup (pe_ix ix_tup (pe_ix ix_tup (pv 0) (pv 5) (fun _ _ => rfl)) pe_int (fun _ _ => rfl)) (pv 6) (fun _ _ => rfl)))))))))
      (pss_one ps_never)))))))), ?_⟩
    refine ⟨_, rfl, p, t, rfl, hp, wf, tl, fun fl q H1 fll fla nq s1 hq => ?_⟩
    have al : ∀ i, i < t.length → fl[i]? = some (alC t i) := fun i hi => by
      have e := List.getElem?_eq_getElem (l := fl) (i := i) (by omega)
      rw [e]
      have h := fla i hi
      rw [e] at h
      cases c : alC t i with
      | true => exact h.mpr ((alC_iff t i).mp c)
      | false =>
        cases d : fl[i] with
        | false => rfl
        | true => rw [(alC_iff t i).mpr (h.mp (by rw [d]))] at c; cases c
    have atb : ∀ i, i < t.length → atI (fl.map V.bl) (i : Nat) = some (.bl (alC t i)) := fun i hi => atI_nat (by rw [List.getElem?_map, al i hi]; rfl)
    have W1 : Hd H H1 [(q, .lst (fl.map V.bl))] := (Hd.start H).got nq s1 hq
    refine ⟨_, rfl, q, _, _, _, rfl, rfl, SqL.of hq, atb 0 wf.ne, _, rfl, ?_⟩
    refine ite2 (fun e => ?_) (fun e => ?_)
    · rcases k with ⟨_, k⟩ | ⟨N, _, bd, _⟩
      · exact k H1 s1
      · rw [(alC_iff t 0).mpr bd.ex] at e
        cases e
    rcases k with ⟨k, _⟩ | ⟨N, hN, bd, k⟩
    · cases c : alC t 0 with
      | false => rw [c] at e; exact absurd rfl e
      | true =>
        obtain ⟨u, hu⟩ := (alC_iff t 0).mp c
        rw [k u] at hu; cases hu
    intro M hM
    have W2 := W1.new hM (.dK [])
    walk_at "kw"
    rename_i L H3 fL nL sL W3
    obtain ⟨fin, least⟩ := ew_least (alC_iff t) f N 0 bd.le bd.ex
    have hl := bd.le _ fin
    obtain ⟨xs, hp, hx⟩ := id hp
    have key : ∀ (u : List Bool), go t 0 u < t.length := fun u => go_lt wf u 0 wf.ne
    walk_at "kw"
    refine while_by (fun σ H' => ∃ (pre : List Bool) (n : Nat) (y6 : Option V), Hd H H' [(L, .lst (pre.map fun b => V.str (enc [b]))), (M, .dK (numd (ks t pre))), (q, .lst (fl.map V.bl))] ∧ ew t (alC t) f (N + 1) 0 = pre ++ ew t (alC t) f (n + 1) (go t 0 pre) ∧ Bdd t n (go t 0 pre) ∧
        σ = [some (.ref p), some (.int (if f then 1 else 0 : Nat)), some (.ref q), some (.ref M), some (.ref L), some (.int (go t 0 pre : Nat)), y6])
      (fun _ H' => match H' L with | some (.lst xs) => 1000 - xs.length | _ => 0) ⟨[], N, _, W3, rfl, bd, rfl⟩ (fun σ H6 hP => ?_) (fun σ H Q Q' h q => ?_)
    · obtain ⟨pre, n, y6, W6, ep, bn, rfl⟩ := hP
      have gL := W6.get (.head _)
      have gM := W6.get (.tail _ (.head _))
      have fin' : acc t 0 (pre ++ ew t (alC t) f (n + 1) (go t 0 pre)) = true := ep ▸ fin
      have lp : pre.length ≤ N := by
        have := bd.le _ fin'
        rw [List.length_append] at this; omega
      have hno := ks_new bd.le fin'
      have kl : (ks t pre).length = pre.length := by unfold ks; rw [List.length_map, List.length_range]
      have hat := key pre
      obtain ⟨qr, fo, e1, r1, r2⟩ := (hx.tk W6.tk).get hat
      have hp6 := sqT_tk W6.tk hp
      refine ⟨_, rfl, _, rfl, M, _, rfl, DGet.k (k := kI (go t 0 pre)) gM, _, rfl, ?_⟩
      rw [hno]
      refine ifT rfl ?_
      have em : putK (numd (ks t pre)) (kI (go t 0 pre)) (V.int ((pre.map fun b => V.str (enc [b])).length : Nat)) = numd (ks t pre ++ [kI (go t 0 pre)]) := by rw [List.length_map, ← kl, numd_put hno]
      refine ⟨_, rfl, L, _, rfl, .inl (SqL.of gL), _, rfl, _, rfl, M, _, rfl, DPut.k (k := kI (go t 0 pre)) gM (by rw [numd_len, kl]; exact Nat.lt_of_le_of_lt (show pre.length ≤ 16000002 by omega) (by decide)), ?_⟩
      rw [em]
      have W7 := W6.set 1 rfl (.dK (numd (ks t pre ++ [kI (go t 0 pre)])))
      refine ⟨_, rfl, ?_⟩
      have tk7 : TK H6 (upd H6 M (.dK (numd (ks t pre ++ [kI (go t 0 pre)])))) := TK.upd gM rfl
      have hp7 := sqT_tk tk7 hp6
      have r17 := sqT_tk tk7 r1
      have r27 := sqT_tk tk7 r2
      have gq7 := W7.get (.tail _ (.tail _ (.head _)))
      have gL7 := W7.get (.head _)
      refine ⟨fun σ' H' => ∃ (b : Bool) (m : Nat), n = m + 1 ∧ ew t (alC t) f (n + 1) (go t 0 pre) = b :: ew t (alC t) f (m + 1) (nx t (go t 0 pre) b) ∧ Bdd t m (nx t (go t 0 pre) b) ∧ H' = (upd H6 M (.dK (numd (ks t pre ++ [kI (go t 0 pre)])))) ∧ σ' = [some (.ref p), some (.int (if f then 1 else 0 : Nat)), some (.ref q), some (.ref M), some (.ref L), some (.int (go t 0 pre : Nat)), some (.int (if b then 1 else 0 : Nat))], ?_, fun σ1 H8 z => ?_⟩
      · refine ⟨_, rfl, _, rfl, _, rfl, p, _, _, _, rfl, rfl, hp7, atI_nat (j := go t 0 pre) e1, qr, _, _, _, rfl, rfl, r17, atI_nat (j := 1) rfl, _, rfl, fo, _, _, _, rfl, rfl, r27, at_fo t _ f, q, _, _, _, rfl, rfl, SqL.of gq7, atb _ (wf.nx _ f hat), _, rfl, ?_⟩
        rcases ew_step f bn with ⟨ca, m, hm, he, hb⟩ | ⟨ca, ci, he⟩ | ⟨ca, ci, m, hm, he, hb⟩
        · rw [ca]
          refine ifF rfl ?_
          exact ⟨f, m, hm, he, hb, rfl, rfl⟩
        · rw [ca]
          refine ifT rfl ?_
          refine ⟨_, rfl, _, rfl, p, _, _, _, rfl, rfl, hp7, atI_nat (j := go t 0 pre) e1, qr, _, _, _, rfl, rfl, r17, atI_nat (j := 0) rfl, _, rfl, ?_⟩
          rw [ci]
          refine ifT rfl ?_
          have ee : ew t (alC t) f (N + 1) 0 = pre := by rw [ep, he, List.append_nil]
          rw [ee] at fin least
          refine ⟨⟨_, rfl⟩, _, rfl, _, _, pre.map fun b => enc [b], rfl, rfl, .inl (SqL.of (by rw [List.map_map]; exact gL7)), by rw [sum_b, empty_len, List.length_map]; omega, by show 1 ≤ 1000000; decide, fun T H8 nT sT hT => ?_⟩
          rw [join_b] at hT
          exact k pre T H8 fin least lp (W7.sm.trans sT) hT
        · rw [ca]
          refine ifT rfl ?_
          refine ⟨_, rfl, _, rfl, p, _, _, _, rfl, rfl, hp7, atI_nat (j := go t 0 pre) e1, qr, _, _, _, rfl, rfl, r17, atI_nat (j := 0) rfl, _, rfl, ?_⟩
          rw [ci]
          refine ifF rfl ?_
          refine ⟨_, rfl, _, _, rfl, rfl, ?_⟩
          exact ⟨!f, m, hm, he, hb, rfl, by cases f <;> rfl⟩
      · obtain ⟨b, m, rfl, he, hb, rfl, rfl⟩ := z
        refine ⟨_, rfl, .inl ⟨rfl, _, SqL.of gL7⟩, _, rfl, _, _, _, rfl, rfl, lr_len, at_lr b, L, _, _, rfl, rfl, gL7, by rw [List.length_map]; exact Nat.lt_of_le_of_lt (show pre.length ≤ 16000002 by omega) (by decide), ?_⟩
        have W8 := W7.set 0 rfl (.lst (pre.map (fun b => V.str (enc [b])) ++ [V.str ⟨#[cd b]⟩]))
        have tk8 : TK (upd H6 M (.dK (numd (ks t pre ++ [kI (go t 0 pre)])))) _ := TK.upd (o := .lst (pre.map (fun b => V.str (enc [b])) ++ [V.str ⟨#[cd b]⟩])) gL7 rfl
        refine ⟨_, rfl, _, rfl, p, _, _, _, rfl, rfl, sqT_tk tk8 hp7, atI_nat (j := go t 0 pre) e1, qr, _, _, _, rfl, rfl, sqT_tk tk8 r17, atI_nat (j := 1) rfl, _, rfl, fo, _, _, _, rfl, rfl, sqT_tk tk8 r27, at_fo t _ b, ?_⟩
        have g1 : go t 0 (pre ++ [b]) = nx t (go t 0 pre) b := by rw [go_app]; rfl
        refine ⟨⟨pre ++ [b], m, _, ?_, ?_, g1.symm ▸ hb, by rw [g1]; rfl⟩, ?_⟩
        · rw [ks_snoc, List.map_append]
          exact W8
        · rw [ep, he, g1, List.append_assoc]; rfl
        · have e2 : (upd (upd H6 M (.dK (numd (ks t pre ++ [kI (go t 0 pre)])))) L (.lst (pre.map (fun b => V.str (enc [b])) ++ [V.str ⟨#[cd b]⟩]))) L = some (.lst (pre.map (fun b => V.str (enc [b])) ++ [V.str ⟨#[cd b]⟩])) := upd_same
          rw [e2, gL]
          show 1000 - (pre.map (fun b => V.str (enc [b])) ++ [V.str ⟨#[cd b]⟩]).length < 1000 - (pre.map (fun b => V.str (enc [b]))).length
          rw [List.length_append, List.length_map, List.length_singleton]
          omega
    · obtain ⟨x, hx1, y, hy1, a, o, e, g, c, ec, q⟩ := q
      exact ⟨x, hx1, y, hy1, a, o, e, g, c, ec, h _ _ q⟩
end

/-! ## lists of words as data -/
namespace Lv
def wD (u : List Bool) : PyData := .str (enc u)
theorem dpWs {K : PySem.W.Frag} {H : Hp} : ∀ (ws : List (List Bool)), DpAll K H (ws.map sE) (ws.map wD)
  | [] => .nil
  | u :: ws => .cons (.str (enc u)) (dpWs ws)
theorem dpW {K : PySem.W.Frag} {H : Hp} {p : Addr} {ws : List (List Bool)} (h : SqL K H p (ws.map sE)) : Dp K H (.ref p) (.list (ws.map wD)) := .lst h (dpWs ws)
theorem okEnc (u : List Bool) : PyData.strOk (enc u) = true := by
  unfold PyData.strOk
  rw [← Array.all_toList, List.all_eq_true]
  intro c hc
  rw [enc_cps] at hc
  obtain ⟨b, _, rfl⟩ := List.mem_map.mp hc
  cases b <;> decide +kernel
theorem canWs : ∀ ws : List (List Bool), PyData.canLayAll0 (ws.map wD) = true
  | [] => rfl
  | u :: ws => by
    show (PyData.strOk (enc u) && PyData.canLayAll0 (ws.map wD)) = true
    rw [canWs ws, okEnc]; rfl
theorem depWs : ∀ ws : List (List Bool), PyData.depthAll (ws.map wD) = 0
  | [] => rfl
  | u :: ws => by
    show max 0 (PyData.depthAll (ws.map wD)) = 0
    rw [depWs ws]; rfl
theorem shWs (ws : List (List Bool)) : SeqAt.shaped (.list (ws.map wD)) = true := by
  show (PyData.canLayAll0 (ws.map wD) && decide (PyData.depthAll (ws.map wD) + 1 ≤ 64)) = true
  rw [canWs, depWs]; rfl
theorem eqvW1 (u v : List Bool) : PyData.eqv (wD u) (wD v) = decide (u = v) := by
  show decide (enc u = enc v) = decide (u = v)
  rw [Bool.eq_iff_iff, decide_eq_true_eq, decide_eq_true_eq]
  exact ⟨enc_inj, fun e => by rw [e]⟩
theorem eqvWs : ∀ ws vs : List (List Bool), PyData.eqvAll (ws.map wD) (vs.map wD) = decide (ws = vs)
  | [], [] => rfl
  | [], _ :: _ => rfl
  | _ :: _, [] => rfl
  | u :: ws, v :: vs => by
    show (PyData.eqv (wD u) (wD v) && PyData.eqvAll (ws.map wD) (vs.map wD)) = _
    rw [eqvWs ws vs, eqvW1, Bool.eq_iff_iff]
    simp
theorem eqvW (ws vs : List (List Bool)) : PyData.eqv (.list (ws.map wD)) (.list (vs.map wD)) = decide (ws = vs) := eqvWs ws vs
theorem flatWs (ws : List (List Bool)) : (ws.map sE).all flatV = true := by
  rw [List.all_eq_true]
  intro x hx
  obtain ⟨u, _, rfl⟩ := List.mem_map.mp hx
  rfl
theorem inWs (u : List Bool) (ws : List (List Bool)) : inV (sE u) (ws.map sE) = decide (u ∈ ws) := by
  induction ws with
  | nil => rfl
  | cons v ws ih =>
    show (enc v == enc u || inV (sE u) (ws.map sE)) = _
    rw [ih, Bool.eq_iff_iff, Bool.or_eq_true, decide_eq_true_eq, decide_eq_true_eq, List.mem_cons, beq_iff_eq]
    exact or_congr_left ⟨fun e => (enc_inj e).symm, fun e => by rw [e]⟩
theorem decE (u v : List Bool) : decide (V.str (enc u) = V.str (enc v)) = decide (u = v) := by
  rw [Bool.eq_iff_iff, decide_eq_true_eq, decide_eq_true_eq]
  exact ⟨fun e => enc_inj (V.str.inj e), fun e => by rw [e]⟩
theorem cutW (ws : List (List Bool)) {k : Int} (h : 0 ≤ k) : cutV (ws.map sE) none (some k) = (ws.take k.toNat).map sE := by
  unfold cutV
  rw [List.length_map]
  have e1 : HT.sIx ws.length 0 none = 0 := rfl
  have e2 : HT.sIx ws.length ws.length (some k) = min k.toNat ws.length := by
    unfold HT.sIx
    first | omega | (simp; omega) | (split <;> omega) | (simp only; split <;> omega)
  rw [e1, e2, List.drop_zero, ← List.map_take, Nat.sub_zero]
  congr 1
  rw [Nat.min_def]
  split
  · rfl
  · rw [List.take_of_length_le (Nat.le_refl _), List.take_of_length_le (by omega)]
end Lv

/-! ## expressions that come to values, lists -/
namespace Sx
def VE (te : TE) (σ : L2.St) (H0 : Hp) (v : V) : Prop := ∀ H, Same H0 H → ∀ Q : VK, (∀ H', Same H H' → Q v H') → te σ H Q
def BE (tt : TT) (σ : L2.St) (H0 : Hp) (b : Bool) : Prop := ∀ H, Same H0 H → ∀ Q : Bool → Hp → Prop, (∀ H', Same H H' → Q b H') → tt σ H Q
theorem sameD {D : Addr} {H H' : Hp} (hD : H D = none) (kp : ∀ b o, b ≠ D → H b = some o → H' b = some o) : Same H H' := fun b o e => kp b o (ne_of_none e hD) e
def VL (te : TE) (σ : L2.St) (H0 : Hp) (xs : List V) : Prop := ∀ H, Same H0 H → ∀ Q : VK, (∀ (D : Addr) (H' : Hp), Same H H' → H' D = some (.lst xs) → Q (.ref D) H') → te σ H Q
def VN (te : TE) (σ : L2.St) (H0 : Hp) (xs : List V) : Prop := ∀ H, Same H0 H → ∀ Q : VK, (∀ (D : Addr) (H' : Hp), H D = none → Same H H' → H' D = some (.lst xs) → Q (.ref D) H') → te σ H Q
section
variable {K : PySem.W.Frag} {σ : L2.St} {H0 H1 : Hp} {ta tb te : TE} {tt tu : TT} {xs ys : List V} {p : Addr} {i j : Nat} {vs : List Nat}
theorem VE.grow {v : V} (h : VE ta σ H0 v) (s : Same H0 H1) : VE ta σ H1 v := fun H s1 => h H (s.trans s1)
theorem BE.grow {b : Bool} (h : BE tt σ H0 b) (s : Same H0 H1) : BE tt σ H1 b := fun H s1 => h H (s.trans s1)
theorem BE.val {b : Bool} (h : VE ta σ H0 (.bl b)) : BE (tTest ta) σ H0 b := fun H s Q q => h H s _ fun H' s' => ⟨b, rfl, q H' s'⟩
theorem BE.valB {b : Bool} (h : VE ta σ H0 (.bl b)) : BE (tB ta) σ H0 b := fun H s Q q => h H s _ fun H' s' => ⟨b, rfl, q H' s'⟩
theorem BE.or {a b : Bool} (h : BE tt σ H0 a) (g : BE tu σ H0 b) : BE (tOr tt tu) σ H0 (a || b) := fun H s Q q => h H s _ fun H' s' => by
  cases a with
  | true => exact ifT rfl (q H' s')
  | false => exact ifF rfl (g H' (s.trans s') _ fun H'' s'' => q H'' (s'.trans s''))
theorem BE.and {a b : Bool} (h : BE tt σ H0 a) (g : BE tu σ H0 b) : BE (tAnd tt tu) σ H0 (a && b) := fun H s Q q => h H s _ fun H' s' => by
  cases a with
  | true => exact ifT rfl (g H' (s.trans s') _ fun H'' s'' => q H'' (s'.trans s''))
  | false => exact ifF rfl (q H' s')
theorem BE.or2 (h : BE tt σ H0 false) (g : BE tu σ H0 false) : BE (tOr tt tu) σ H0 false := BE.or h g
theorem BE.not {b : Bool} (h : BE tt σ H0 b) : BE (tNot tt) σ H0 (!b) := fun H s Q q => h H s _ fun H' s' => q H' s'
theorem BE.to {b c : Bool} (h : BE tt σ H0 b) (e : b = c) : BE tt σ H0 c := e ▸ h
theorem VE.to {v w : V} (h : VE ta σ H0 v) (e : v = w) : VE ta σ H0 w := e ▸ h
theorem VE.var {i : Nat} {v : V} (hσ : σ[i]? = some (some v)) : VE (tVar i) σ H0 v := fun H s Q q => ⟨_, hσ, q H (Same.refl H)⟩
theorem VE.c {v : V} : VE (tC v) σ H0 v := fun H s Q q => q H (Same.refl H)
theorem VE.not {b : Bool} (h : VE ta σ H0 (.bl b)) : VE (tNotV ta) σ H0 (.bl (!b)) := fun H s Q q => h H s _ fun H' s' => ⟨b, rfl, q H' s'⟩
theorem VE.and {a b : Bool} (h : VE ta σ H0 (.bl a)) (g : VE tb σ H0 (.bl b)) : VE (tAndV ta tb) σ H0 (.bl (a && b)) := fun H s Q q => h H s _ fun H' s' => ⟨a, rfl, by
  cases a with
  | true => exact ifT rfl (g H' (s.trans s') _ fun H'' s'' => q H'' (s'.trans s''))
  | false => exact ifF rfl (q H' s')⟩
theorem VE.neI {a b : Int} (h : VE ta σ H0 (.int a)) (g : VE tb σ H0 (.int b)) : VE (tOp rNe ta tb) σ H0 (.bl (!decide (a = b))) := fun H s Q q => h H s _ fun H' s' => g H' (s.trans s') _ fun H'' s'' => ⟨rfl, by
  rw [show decide (V.int a = V.int b) = decide (a = b) from by rw [Bool.eq_iff_iff, decide_eq_true_eq, decide_eq_true_eq]; exact ⟨V.int.inj, fun e => by rw [e]⟩]
  exact q H'' (s'.trans s'')⟩
theorem VE.add {a b : Int} (h : VE ta σ H0 (.int a)) (g : VE tb σ H0 (.int b)) : VE (tOp (rI0 fun i j => V.int (i + j)) ta tb) σ H0 (.int (a + b)) := fun H s Q q => h H s _ fun H' s' => g H' (s.trans s') _ fun H'' s'' => ⟨_, _, rfl, rfl, q H'' (s'.trans s'')⟩
theorem if_skip {c : TT} {t u : TS} {D : Ends} {H : Hp} (h : BE c σ H0 false) (s : Same H0 H) (k : ∀ H', Same H H' → u D σ H') : tIfS c t u D σ H := h H s _ fun H' s' => ifF rfl (k H' s')
theorem if_next {c : TT} {t : TS} {D : Ends} {H : Hp} (h : BE c σ H0 false) (s : Same H0 H) (k : ∀ H', Same H H' → D.nx σ H') : tIfS c t tNext D σ H := h H s _ fun H' s' => ifF rfl (k H' s')
theorem seq_if {c : TT} {t u : TS} {D : Ends} {H : Hp} (h : BE c σ H0 false) (s : Same H0 H) (k : ∀ H', Same H H' → u D σ H') : tSeq (tIfS c t tNext) u D σ H := h H s _ fun H' s' => ifF rfl (k H' s')
theorem seq_set {te : TE} {i : Nat} {v : V} {u : TS} {D : Ends} {H : Hp} (h : VE te σ H0 v) (s : Same H0 H) (k : ∀ H', Same H H' → u D (σ.set i (some v)) H') : tSeq (tAsg te (gName i)) u D σ H := h H s _ fun H' s' => k H' s'
theorem VN.vl (h : VN te σ H0 xs) : VL te σ H0 xs := fun H s Q q => h H s Q fun D H' _ s' hD => q D H' s' hD
theorem VN.to (h : VN te σ H0 xs) (e : xs = ys) : VN te σ H0 ys := e ▸ h
theorem VL.grow (h : VL te σ H0 xs) (s : Same H0 H1) : VL te σ H1 xs := fun H s1 => h H (s.trans s1)
theorem VL.to (h : VL te σ H0 xs) (e : xs = ys) : VL te σ H0 ys := e ▸ h
theorem VL.var (hσ : σ[i]? = some (some (.ref p))) (hp : H0 p = some (.lst xs)) : VL (tVar i) σ H0 xs := fun H s Q q => ⟨_, hσ, q p H (Same.refl H) (s _ _ hp)⟩
theorem VN.rng {n : Nat} (f : Nat → V) (h : VE te σ H0 (.int (n : Nat))) (hn : n ≤ 1000000) (hw : ∀ x : V, wipe ((wipe σ vs).set j (some x)) vs = wipe σ vs)
    (turn : ∀ k, k < n → VE tb ((wipe σ vs).set j (some (.int (0 + (k : Int))))) H0 (f k)) : VN (tLc (iRng1 (tCons te tNil)) (gName j) tYes tb vs) σ H0 ((List.range n).map f) := fun H s Q q =>
  h H s _ fun H1 s1 => ⟨_, rfl, by omega, by omega, fun D hD => by
    rw [Int.toNat_natCast]
    refine lcR_range (lo := 0) (fun k H' => (∀ b o, b ≠ D → H1 b = some o → H' b = some o) ∧ H' D = some (.lst ((List.range k).map f))) ⟨fun b o n e => by rw [upd_ne n]; exact e, upd_same⟩ (fun k H' hk m => ?_) (gName_mono _) (fun H' m => ?_)
    · obtain ⟨kp, g⟩ := m
      refine ⟨hw _, turn k hk H' ((s.trans s1).trans (sameD hD kp)) _ fun H2 s2 => ?_⟩
      refine ⟨_, s2 _ _ g, by rw [List.length_map, List.length_range]; exact big (by omega), fun b o n e => by rw [upd_ne n]; exact s2 _ _ (kp b o n e), ?_⟩
      rw [upd_same, List.range_succ, List.map_append]; rfl
    · exact q D H' (free_of s1 hD) (s1.trans (sameD hD m.1)) m.2⟩
theorem VN.mapL {α : Type} (g : α → V) {l : List α} (f : α → V) (h : VL te σ H0 (l.map g)) (hn : l.length ≤ 1000000) (hw : ∀ x : V, wipe ((wipe σ vs).set j (some x)) vs = wipe σ vs)
    (turn : ∀ x ∈ l, VE tb ((wipe σ vs).set j (some (g x))) H0 (f x)) : VN (tLc (iList K te) (gName j) tYes tb vs) σ H0 (l.map f) := fun H s Q q =>
  h H s _ fun L H1 s1 hL => ⟨L, rfl, ⟨_, SqL.of hL⟩, fun D hD => by
    refine lcR_list (xs := l.map g) (fun k H' => (∀ b o, b ≠ D → H1 b = some o → H' b = some o) ∧ H' D = some (.lst ((l.take k).map f))) ⟨fun b o n e => by rw [upd_ne n]; exact e, upd_same⟩ (fun k H' _ m => sqL_inD hD m.1 (SqL.of hL)) (fun k v H' hk m => ?_) (gName_mono _) (fun H' m => ?_)
    · obtain ⟨kp, gd⟩ := m
      rw [List.getElem?_map] at hk
      obtain ⟨x, hx, rfl⟩ := Option.map_eq_some_iff.mp hk
      refine ⟨hw _, turn x (List.mem_iff_getElem?.mpr ⟨_, hx⟩) H' ((s.trans s1).trans (sameD hD kp)) _ fun H2 s2 => ?_⟩
      refine ⟨_, s2 _ _ gd, by rw [List.length_map, List.length_take]; exact big (by omega), fun b o n e => by rw [upd_ne n]; exact s2 _ _ (kp b o n e), ?_⟩
      rw [upd_same, List.take_add_one, hx, List.map_append]; rfl
    · obtain ⟨kp, gd⟩ := m
      rw [List.length_map, List.take_length] at gd
      exact q D H' (free_of s1 hD) (s1.trans (sameD hD kp)) gd⟩
theorem VE.neSame {v : V} (h : VE ta σ H0 v) (g : VE tb σ H0 v) (sc : scal v v = true) : VE (tOp rNe ta tb) σ H0 (.bl false) := fun H s Q q => h H s _ fun H' s' => g H' (s.trans s') _ fun H'' s'' => ⟨sc, by
  rw [decide_eq_true rfl]
  exact q H'' (s'.trans s'')⟩
theorem VE.eqV {v w : V} (h : VE ta σ H0 v) (g : VE tb σ H0 w) (sc : scal v w = true) : VE (tOp rEq ta tb) σ H0 (.bl (decide (v = w))) := fun H s Q q => h H s _ fun H' s' => g H' (s.trans s') _ fun H'' s'' => ⟨sc, q H'' (s'.trans s'')⟩
theorem VE.neV {v w : V} (h : VE ta σ H0 v) (g : VE tb σ H0 w) (sc : scal v w = true) : VE (tOp rNe ta tb) σ H0 (.bl (!decide (v = w))) := fun H s Q q => h H s _ fun H' s' => g H' (s.trans s') _ fun H'' s'' => ⟨sc, q H'' (s'.trans s'')⟩
theorem VE.intI {a : Int} (h : VE te σ H0 (.int a)) : VE (tCB (fun xs H Q => ∃ i, xs = [V.int i] ∧ Q (V.int i) H) (tCons te tNil)) σ H0 (.int a) := fun H s Q q => h H s _ fun H' s' => ⟨a, rfl, q H' s'⟩
theorem VE.mulI {a b : Int} (h : VE ta σ H0 (.int a)) (g : VE tb σ H0 (.int b)) (c : CMul a b) : VE (tOp (rI CMul fun i j => V.int (i * j)) ta tb) σ H0 (.int (a * b)) := fun H s Q q => h H s _ fun H' s' => g H' (s.trans s') _ fun H'' s'' => ⟨_, _, rfl, rfl, c, q H'' (s'.trans s'')⟩
theorem seq_VN {u : TS} {D : Ends} {H : Hp} (h : VN te σ H0 xs) (s : Same H0 H) (k : ∀ L H', H L = none → Same H H' → H' L = some (.lst xs) → u D (σ.set i (some (.ref L))) H') : tSeq (tAsg te (gName i)) u D σ H := h H s _ fun L H' n s' hL => k L H' n s' hL
theorem seq_VL {u : TS} {D : Ends} {H : Hp} (h : VL te σ H0 xs) (s : Same H0 H) (k : ∀ L H', Same H H' → H' L = some (.lst xs) → u D (σ.set i (some (.ref L))) H') : tSeq (tAsg te (gName i)) u D σ H := h H s _ fun L H' s' hL => k L H' s' hL
theorem sl_listK {X : Cx} {K : PySem.W.Frag} (h : X.K = K) : SlR X (rSlL K) := h ▸ sl_list
end
end Sx
open Sx

/-! ## k28 -/
namespace K28
def PairE (CE : Addr) (H : Hp) (p : Addr) (u : List Bool) : Prop := ∃ e, H p = some (.tup [.ref e, .bl true]) ∧ EdgeAt CE H e [((pr u).1 : Int), ((pr u).2 : Int)]
def sp_told (CE : Addr) : Sp := fun vs H Q _ => ∃ x, vs = [x] ∧ ((x = .non ∧ Q .non H) ∨ ∃ (q : Addr) (w : List Bool), x = .ref q ∧ H q = some (.tup [.str (enc w)]) ∧ w.length ≤ 900 ∧ ∀ (p : Addr) (H' : Hp), Same H H' → PairE CE H' p w → Q (.ref p) H')
def sp_low (K : PySem.W.Frag) (CE CS : Addr) (f : Bool) : Sp := fun vs H Q _ => ∃ (e : Addr) (t : Tab), vs = [.ref e] ∧ SetAt K CS H e t ∧ (((∀ u, acc t 0 u = false) ∧ ∀ H', Same H H' → Q .non H') ∨
  (∃ N, N ≤ 900 ∧ Bdd t N 0 ∧ ∀ (w : List Bool) (p : Addr) (H' : Hp), acc t 0 w = true → (∀ u, acc t 0 u = true → nB f u w) → Same H H' → PairE CE H' p w → Q (.ref p) H'))
def sp_due (CE : Addr) : Sp := fun vs H Q _ => ∃ u : List Bool, vs = [.str (enc u)] ∧ u.length ≤ 900 ∧ ∀ (p : Addr) (H' : Hp), Same H H' → PairE CE H' p u → Q (.ref p) H'
def em (u : List Bool) : Str := enc u ++ ("m" : Str)
theorem em_list (u : List Bool) : (em u).cps.toList = mL u := by
  show ((enc u).cps ++ ("m" : Str).cps).toList = _
  rw [Array.toList_append]
  have e : ("m" : Str).cps.toList = [109] := by decide +kernel
  rw [e]
  unfold mL
  simp [enc]
theorem em_len (u : List Bool) : (em u).length = u.length + 1 := by
  have h := congrArg List.length (em_list u)
  have e : (em u).cps.toList.length = (em u).length := by rw [Array.length_toList]; rfl
  rw [← e, h]
  simp [mL]
theorem cut_em (u : List Bool) : cutS (em u) none (some (-1)) = enc u := by
  unfold cutS
  rw [em_len]
  have e1 : HT.sIx (u.length + 1) (u.length + 1) (some (-1)) = u.length := by
    unfold HT.sIx
    first | omega | (simp; omega) | (split <;> omega) | (simp only; split <;> omega)
  have e2 : HT.sIx (u.length + 1) 0 none = 0 := rfl
  rw [e1, e2, em_list]
  unfold mL
  rw [List.drop_zero, Nat.sub_zero, List.take_append_of_le_length (by rw [List.length_map]; exact Nat.le_refl _), List.take_of_length_le (by rw [List.length_map]; exact Nat.le_refl _)]
  simp [enc]
def un (z : Str) : List Bool := z.cps.toList.dropLast.map fun c => decide (c = 114)
theorem un_em (u : List Bool) : un (em u) = u := by
  unfold un
  rw [em_list]
  unfold mL
  rw [List.dropLast_concat, List.map_map]
  have : ((fun c => decide (c = 114)) ∘ cd) = id := by funext b; cases b <;> decide
  rw [this, List.map_id]
theorem un_sorted {ws : List (List Bool)} {ys : List Str} (pm : ys.Perm (ws.map em)) (pw : ys.Pairwise fun x y => sLe x y = true) : ∃ vs : List (List Bool), ys = vs.map em ∧ vs.Perm ws ∧ vs.Pairwise fun u w => ¬ mL w < mL u := by
  refine ⟨ys.map un, ?_, ?_, ?_⟩
  · rw [List.map_map]
    refine (List.map_id ys).symm.trans (List.map_congr_left fun y hy => ?_)
    obtain ⟨u, _, rfl⟩ := List.mem_map.mp (pm.mem_iff.mp hy)
    show em u = em (un (em u))
    rw [un_em]
  · have h := pm.map un
    rw [List.map_map] at h
    have e : (un ∘ em) = id := by funext u; exact un_em u
    rwa [e, List.map_id] at h
  · rw [List.pairwise_map]
    refine pw.imp_of_mem fun {x y} hx hy h => ?_
    obtain ⟨u, _, rfl⟩ := List.mem_map.mp (pm.mem_iff.mp hx)
    obtain ⟨v, _, rfl⟩ := List.mem_map.mp (pm.mem_iff.mp hy)
    unfold sLe at h
    rw [Bool.not_eq_true', decide_eq_false_iff_not, em_list, em_list] at h
    rw [un_em, un_em]
    exact h
def sp_sorted (K : PySem.W.Frag) : Sp := fun vs H Q _ => ∃ (L : Addr) (ws : List (List Bool)), vs = [.ref L] ∧ H L = some (.lst (ws.map sE)) ∧ ws.length ≤ 1000 ∧ (∀ u ∈ ws, u.length ≤ 900) ∧ ∀ (us : List (List Bool)) (D : Addr) (H' : Hp), us.Perm ws → (us.Pairwise fun u w => ¬ mL w < mL u) → Same H H' → H' D = some (.lst (us.map sE)) → Q (.ref D) H'
theorem lc_sorted {K : PySem.W.Frag} {te tb : TE} {σ : L2.St} {H0 H : Hp} {j : Nat} {vs : List Nat} {ss : List Str} {Q : VK} (f : Str → V) (h : VN te σ H0 (ss.map V.str)) (s : Same H0 H) (hn : ss.length ≤ 1000000) (hw : ∀ x : V, wipe ((wipe σ vs).set j (some x)) vs = wipe σ vs)
    (turn : ∀ H1, ∀ x ∈ ss, VE tb ((wipe σ vs).set j (some (.str x))) H1 (f x)) (q : ∀ (ys : List Str) (D : Addr) (H' : Hp), ys.Perm ss → (ys.Pairwise fun x y => sLe x y = true) → Same H H' → H' D = some (.lst (ys.map f)) → Q (.ref D) H') :
    tLc (iList K (tCKw (rSortedStr K) (tCons te tNil) (tCons (tC (.ty "str")) tNil))) (gName j) tYes tb vs σ H Q :=
  h H s _ fun D1 H1 n1 s1 h1 => ⟨D1, ss, rfl, rfl, SqL.of h1, fun ys p pm pw hp => (VN.mapL (K := K) (te := fun _ H Q => Q (.ref p) H) (H0 := upd H1 p (.lst (ys.map V.str))) V.str f (fun H s Q q => q p H (Same.refl H) (s _ _ upd_same)) (by rw [pm.length_eq]; exact hn) hw (fun x hx => turn _ x (pm.mem_iff.mp hx))) _ (Same.refl _) Q fun D H' _ s' hD => q ys D H' pm pw (s1.trans ((sm_new hp).trans s')) hD⟩
def sp_law (K : PySem.W.Frag) : Sp := fun vs H Q _ => ∃ (a : Addr) (ns : List Int), vs = [.ref a] ∧ SqL K H a (ns.map V.int) ∧ ns.length ≤ 63 ∧ ∀ H', Q (.bl true) H'
def SameE (CE : Addr) : Addr → Addr → Hp → Prop := fun a b H => ∃ pl, EdgeAt CE H a pl ∧ EdgeAt CE H b pl
theorem cdm_inj : ∀ {u w : List Bool}, u.map cd = w.map cd → u = w
  | [], [], _ => rfl
  | [], _ :: _, h => by cases h
  | _ :: _, [], h => by cases h
  | a :: u, b :: w, h => by
    injection h with h1 h2
    have ci : a = b := by cases a <;> cases b <;> first | rfl | cases h1
    rw [ci, cdm_inj h2]
theorem mL_inj {u w : List Bool} (h : mL u = mL w) : u = w := cdm_inj (List.append_cancel_right h)
def PrsAt (K : PySem.W.Frag) (H : Hp) (xs : List V) (ps : List (Nat × Nat)) : Prop := xs.length = ps.length ∧ ∀ (i : Nat) (v : V) (q : Nat × Nat), xs[i]? = some v → ps[i]? = some q → ∃ b : Addr, v = .ref b ∧ SqT K H b [.int (q.1 : Nat), .int (q.2 : Nat)]
theorem PrsAt.tk {K : PySem.W.Frag} {H H' : Hp} {xs : List V} {ps : List (Nat × Nat)} (h : PrsAt K H xs ps) (t : TK H H') : PrsAt K H' xs ps := ⟨h.1, fun i v s h1 h2 => let ⟨b, e, q⟩ := h.2 i v s h1 h2; ⟨b, e, sqT_tk t q⟩⟩
theorem prs_snoc {K : PySem.W.Frag} {H : Hp} {xs : List V} {ps : List (Nat × Nat)} {b : Addr} {q : Nat × Nat} (h : PrsAt K H xs ps) (hb : SqT K H b [.int (q.1 : Nat), .int (q.2 : Nat)]) : PrsAt K H (xs ++ [.ref b]) (ps ++ [q]) := by
  refine ⟨by simp [h.1], fun i v r h1 h2 => ?_⟩
  by_cases c : i < xs.length
  · rw [List.getElem?_append_left c] at h1
    rw [List.getElem?_append_left (h.1 ▸ c)] at h2
    exact h.2 i v r h1 h2
  · have l1 := lt_at h1
    rw [List.length_append, List.length_singleton] at l1
    have e : i = xs.length := by omega
    subst e
    rw [List.getElem?_concat_length] at h1
    rw [h.1, List.getElem?_concat_length] at h2
    cases h1; cases h2
    exact ⟨b, rfl, hb⟩
abbrev Srt (ws : List (List Bool)) : Prop := ws.Pairwise fun u w => ¬ mL w < mL u
theorem first_least {a w : List Bool} {ws : List (List Bool)} (s : Srt (a :: ws)) (hw : w ∈ a :: ws) (h : ∀ u, u ∈ a :: ws → nB false u w) : w = a := by
  rcases List.mem_cons.mp hw with e | m
  · exact e
  · have h1 : ¬ mL w < mL a := (List.pairwise_cons.mp s).1 w m
    have h2 : ¬ mL a < mL w := h a (.head _)
    exact mL_inj (List.le_antisymm h2 h1)
theorem last_greatest {a w : List Bool} {ws : List (List Bool)} (s : Srt (ws ++ [a])) (hw : w ∈ ws ++ [a]) (h : ∀ u, u ∈ ws ++ [a] → nB true u w) : w = a := by
  rcases List.mem_append.mp hw with m | m
  · have h1 : ¬ mL a < mL w := (List.pairwise_append.mp s).2.2 w m a (.head _)
    have h2 : ¬ mL w < mL a := h a (List.mem_append.mpr (.inr (.head _)))
    exact mL_inj (List.le_antisymm h1 h2)
  · exact List.mem_singleton.mp m
def cutW (ws : List (List Bool)) (lo hi : Option Int) : List (List Bool) := (ws.drop (HT.sIx ws.length 0 lo)).take (HT.sIx ws.length ws.length hi - HT.sIx ws.length 0 lo)
theorem cutW_map (ws : List (List Bool)) (lo hi : Option Int) : cutV (ws.map sE) lo hi = (cutW ws lo hi).map sE := by
  unfold cutV cutW
  rw [List.length_map, List.map_take, List.map_drop]
theorem cutW_sub (ws : List (List Bool)) (lo hi : Option Int) : (cutW ws lo hi).Sublist ws := (List.take_sublist _ _).trans (List.drop_sublist _ _)
theorem cutW_lt {a : List Bool} {ws : List (List Bool)} (hi : Option Int) : (cutW (a :: ws) (some 1) hi).length < (a :: ws).length := by
  have e : HT.sIx (a :: ws).length 0 (some 1) = 1 := by
    unfold HT.sIx
    simp only [List.length_cons]
    first | omega | (simp; omega) | (split <;> omega) | (simp only; split <;> omega)
  unfold cutW
  rw [e, List.length_take, List.drop_succ_cons, List.drop_zero, List.length_cons]
  omega
theorem at_last {α : Type} {xs : List α} {n : Nat} (h : xs.length = n + 1) : atI xs (-1) = xs[n]? := by
  have : ixN xs.length (-1) = some n := by
    unfold ixN
    rw [h]
    rw [if_neg (by decide), if_pos (by omega)]
    congr 1
    omega
  unfold atI
  rw [this]; rfl
/-- a comprehension with a test over the pairs of enumerate -/
theorem lc_enum {K : PySem.W.Frag} {a : Addr} {xs : List V} {g : TG} {tt : TT} {te : TE} {vs : List Nat} {σ : L2.St} {H1 : Hp} {D : Addr} {Qd : Hp → Prop} (Pv : Nat → Hp → Prop) (h0 : Pv 0 (upd H1 D (.lst []))) (hl : ∀ i H, i ≤ xs.length → Pv i H → SqL K H a xs)
    (hs : ∀ i x H T, xs[i]? = some x → Pv i H → H T = none → g (.ref T) (wipe σ vs) (upd H T (.tup [.int (i : Nat), x])) fun σ2 H2 => wipe σ2 vs = wipe σ vs ∧ tt σ2 H2 fun b H3 =>
      if b = true then te σ2 H3 fun y H4 => ∃ acc, H4 D = some (.lst acc) ∧ acc.length < sizeLine ∧ Pv (i + 1) (upd H4 D (.lst (acc ++ [y]))) else Pv (i + 1) H3)
    (hd : ∀ H, Pv xs.length H → Qd H) : LcR (Ite K a) g tt te vs σ H1 D Qd := by
  refine ⟨fun i m H => m = xs.length - i ∧ i ≤ xs.length ∧ Pv i H, ⟨xs.length, by simp, Nat.zero_le _, h0⟩, ?_⟩
  rintro i m H ⟨rfl, hi, p⟩
  have q := hl i H hi p
  by_cases hlt : i < xs.length
  · refine .inr ⟨⟨xs, xs[i], q, by simp [hlt]⟩, Pv (i + 1), fun H' p' => ⟨xs.length - (i + 1), by omega, rfl, hlt, p'⟩, fun v H' y => ?_⟩
    obtain ⟨T, x, e1, hT, e2, y⟩ := y
    subst e1
    subst e2
    exact hs i x _ T (y xs q) p hT
  · have e : i = xs.length := by omega
    subst e
    exact .inl ⟨⟨xs, q, Nat.le_refl _⟩, hd H p⟩
end K28
open K28
section
variable {P : Program} {w : World} {K : PySem.W.Frag} {mg : Str → Option Value} {base : Heap}
theorem K28.edge2 {CE : Addr} {H : Hp} {e : Addr} {a b : Int} (h : EdgeAt CE H e [a, b]) : ∃ dx fs, H e = some (.ins CE dx fs) := by
  obtain ⟨dx, t, fs, h1, _⟩ := h
  exact ⟨dx, fs, h1⟩
theorem K28.ne_run {CE : Addr} {H : Hp} {p q : Addr} {u : List Bool} {Q : VK} (h1 : PairE CE H p u) (h2 : PairE CE H q u) (k : ∀ H', Same H H' → Q (.bl false) H') : rNeG (DTup K (fun x y H => DIns CE (SameE CE) x y H ∨ DFlat x y H)) (.ref p) (.ref q) H Q := by
  obtain ⟨e, hp, he⟩ := h1
  obtain ⟨g, hq, hg⟩ := h2
  obtain ⟨dx, fs, k1⟩ := K28.edge2 he
  obtain ⟨dy, gs, k2⟩ := K28.edge2 hg
  exact ⟨⟨p, q, _, _, rfl, rfl, SqT.of hp, SqT.of hq, .cons (.inl ⟨e, g, dx, dy, fs, gs, rfl, rfl, k1, k2, _, he, hg⟩) (.cons (.inr ⟨rfl, rfl, rfl⟩) .nil)⟩, k⟩
theorem K28.pe_same {CE : Addr} {H H' : Hp} {p : Addr} {u : List Bool} (h : PairE CE H p u) (s : Same H H') : PairE CE H' p u := let ⟨e, h1, h2⟩ := h; ⟨e, s _ _ h1, h2.same s⟩
theorem K28.NEP {X : Cx} {CE : Addr} {K : PySem.W.Frag} (hK : X.K = K) (F : MtC X.prog X.w X.K X.mg X.base CX0 1 CE "__eq__" ["self", "other"] (sp_eeq CE)) : NeG X 2 (DTup K (fun x y H => DIns CE (SameE CE) x y H ∨ DFlat x y H)) := by
  subst hK
  refine neG_tup ?mon (EqG.or (eqG_mt F (fun a b H Q E r q => ?_) (Nat.le_refl _)) (eqG_flat.mono (Nat.zero_le _)))
  case mon => exact Mon.or (mon_ins fun a b H H' e ⟨pl, h1, h2⟩ => ⟨pl, h1.same e, h2.same e⟩) mon_flat
  obtain ⟨pl, h1, h2⟩ := r
  refine ⟨a, b, pl, pl, rfl, h1, h2, ?_⟩
  rw [decide_eq_true rfl]
  exact q H Ext.rfl'
theorem ok_told {f C CE IW : Addr} {fd : FuncData} (F : Fun K "told_edge" "told_edge" S_told_edge f fd) (T : Txt K mg) (R : RatT K mg C) (M_eof : CmC P w K mg base CX0 4 CE "Edge" "of" ["cls", "ratio"] (Kb.calm (sp_eof C CE))) (M_ofword : CmC P w K mg base CX0 6 C "Ratio" "of_word" ["cls", "word"] (Kb.calm (sp_ofword C IW K))) : FnOk P w K mg base CX0 8 f fd ["found"] (sp_told CE) := by
  refine F.ok SC_told_edge (fun vs H Q E h => ?_) (fun cdv A outer s H vs Q E hr h => ?_)
  · obtain ⟨x, rfl, _⟩ := h
    rfl
  · obtain ⟨x, rfl, k⟩ := h
    refine ⟨_, (pss_cons (ps_if (pt_cmpR op_isN (pv 0) pe_non (nomark _)) (pss_one (ps_ret pe_non)) pss_nil)
      (pss_cons (ps_if (pt_cmpR op_eq (pe_callB call_len_seq (by rfl) T.b_len (by decide +kernel) (pa_cons (pv 0) pa_nil)) pe_int (nomark _)) (pss_one (ps_ret (pe_tupN (pa_cons (pe_cmC M_eof (hr.mono (by decide)) rfl (pa_cons (pe_cmC M_ofword (hr.mono (by decide)) rfl (pa_cons (pe_ix ix_tup (pv 0) pe_int (fun _ _ => rfl)) pa_nil)) pa_nil)) (pa_cons pe_bl pa_nil))))) pss_nil)
      (pss_one ps_never))), ?_⟩
    rcases k with ⟨rfl, k⟩ | ⟨q, u, rfl, hq, hu, k⟩
    · walk_at "kw"
      exact k
    · refine ⟨_, rfl, rfl, _, rfl, ifF rfl ?_⟩
      refine ⟨_, rfl, q, _, rfl, .inr (SqT.of hq), rfl, _, rfl, ifT rfl ?_⟩
      refine ⟨_, rfl, q, _, _, _, rfl, rfl, SqT.of hq, atI_nat (j := 0) rfl, _, rfl, .str _, fun z e => by cases e; rw [enc_len]; exact hu, fun v e r H1 nr s1 hr1 => ?_, fun g => ?_⟩
      · have e := enc_inj (V.str.inj e)
        subst e
        refine ⟨r, _, _, rfl, hr1, fun x H2 nx s2 hx => ⟨by show 2 ≤ 1000000; decide, fun p H3 np s3 hp => ?_⟩⟩
        exact k p H3 (s1.trans (s2.trans s3)) ⟨x, hp, hx.same s3⟩
      · rw [show goodW (.str (enc u)) = true from good_enc u] at g
        cases g
theorem ok_lower {f CE CS : Addr} {fd : FuncData} (F : Fun K "lower" "lower" S_lower f fd) (T : Txt K mg) (Rs : SetT K mg CS) (C_ew : FnC P w K mg base CX0 2 "edge_words" ["table", "first"] (sp_ew K)) (C_told : FnC P w K mg base CX0 8 "told_edge" ["found"] (sp_told CE)) : FnOk P w K mg base CX0 9 f fd ["ratios"] (sp_low K CE CS false) := by
  refine F.ok SC_lower (fun vs H Q E h => ?_) (fun cdv A outer s H vs Q E hr h => ?_)
  · obtain ⟨e, t, rfl, _⟩ := h
    rfl
  · obtain ⟨e, t, rfl, he, k⟩ := h
    obtain ⟨dx, p, g, ht, lt, lt16⟩ := id he
    refine ⟨_, (pss_one (ps_ret (pe_callC C_told (hr.mono (by decide)) rfl (pa_cons (pe_callC C_ew (hr.mono (by decide)) rfl (pa_cons (pe_fld (pv 0) rfl) (pa_cons pe_int pa_nil))) pa_nil)))), ?_⟩
    refine ⟨_, rfl, e, CS, dx, _, _, rfl, g, Rs.ins.cl, Rs.n1, tf1 _, p, t, false, rfl, ht, lt.wf, lt16, ?_⟩
    rcases k with ⟨no, k⟩ | ⟨N, hN, bd, k⟩
    · exact .inl ⟨no, fun H1 s1 => ⟨_, rfl, .inl ⟨rfl, k H1 s1⟩⟩⟩
    · exact .inr ⟨N, hN, bd, fun u q H1 hu least lu s1 hq => ⟨_, rfl, .inr ⟨q, u, rfl, hq, by omega, fun p H2 s2 pe => k u p H2 hu least (s1.trans s2) pe⟩⟩⟩
theorem ok_upper {f CE CS : Addr} {fd : FuncData} (F : Fun K "upper" "upper" S_upper f fd) (T : Txt K mg) (Rs : SetT K mg CS) (C_ew : FnC P w K mg base CX0 2 "edge_words" ["table", "first"] (sp_ew K)) (C_told : FnC P w K mg base CX0 8 "told_edge" ["found"] (sp_told CE)) : FnOk P w K mg base CX0 9 f fd ["ratios"] (sp_low K CE CS true) := by
  refine F.ok SC_upper (fun vs H Q E h => ?_) (fun cdv A outer s H vs Q E hr h => ?_)
  · obtain ⟨e, t, rfl, _⟩ := h
    rfl
  · obtain ⟨e, t, rfl, he, k⟩ := h
    obtain ⟨dx, p, g, ht, lt, lt16⟩ := id he
    refine ⟨_, (pss_one (ps_ret (pe_callC C_told (hr.mono (by decide)) rfl (pa_cons (pe_callC C_ew (hr.mono (by decide)) rfl (pa_cons (pe_fld (pv 0) rfl) (pa_cons pe_int pa_nil))) pa_nil)))), ?_⟩
    refine ⟨_, rfl, e, CS, dx, _, _, rfl, g, Rs.ins.cl, Rs.n1, tf1 _, p, t, true, rfl, ht, lt.wf, lt16, ?_⟩
    rcases k with ⟨no, k⟩ | ⟨N, hN, bd, k⟩
    · exact .inl ⟨no, fun H1 s1 => ⟨_, rfl, .inl ⟨rfl, k H1 s1⟩⟩⟩
    · exact .inr ⟨N, hN, bd, fun u q H1 hu least lu s1 hq => ⟨_, rfl, .inr ⟨q, u, rfl, hq, by omega, fun p H2 s2 pe => k u p H2 hu least (s1.trans s2) pe⟩⟩⟩
theorem ok_due {f C CE IR : Addr} {fd : FuncData} (F : Fun K "_law_due" "_law_due" S__law_due f fd) (T : Txt K mg) (R : RatT K mg C) (C_pair : FnC P w K mg base CX0 1 "_law_pair" ["_law_word"] sp_pair) (C_ratio : MkC P w K mg base CX0 4 C "Ratio" ["self", "first", "second"] (Kb.calm (sp_init C IR K))) (M_eof : CmC P w K mg base CX0 4 CE "Edge" "of" ["cls", "ratio"] (Kb.calm (sp_eof C CE))) : FnOk P w K mg base CX0 6 f fd ["_law_word"] (sp_due CE) := by
  refine F.ok SC__law_due (fun vs H Q E h => ?_) (fun cdv A outer s H vs Q E hr h => ?_)
  · obtain ⟨u, rfl, _⟩ := h
    rfl
  · obtain ⟨u, rfl, hu, k⟩ := h
    refine ⟨_, (pss_cons (ps_asg (pe_callC C_pair (hr.mono (by decide)) rfl (pa_cons (pv 0) pa_nil)) (pg_tup rfl (pgs_cons (pg_name (i := 1) SC__law_due.nd rfl (.inl rfl)) (pgs_cons (pg_name (i := 2) SC__law_due.nd rfl (.inl rfl)) pgs_nil))))
      (pss_one (ps_ret (pe_tupN (pa_cons (pe_cmC M_eof (hr.mono (by decide)) rfl (pa_cons (pe_makeC C_ratio (hr.mono (by decide)) rfl (pa_cons (pv 1) (pa_cons (pv 2) pa_nil))) pa_nil)) (pa_cons pe_bl pa_nil)))))), ?_⟩
    have pp := pr_pos u
    have ps := pr_small hu
    refine ⟨_, rfl, u, rfl, by omega, fun q H1 nq s1 hq => ⟨q, _, rfl, SqT.of hq, rfl, _, _, rfl, _, _, rfl, rfl, ?_⟩⟩
    refine ⟨_, rfl, _, rfl, fun x dx hx hdx hne => Rt.mk_ratH' (i := ((pr u).1 : Int)) (j := ((pr u).2 : Int)) (by omega) (by omega) ps.1 ps.2 hx hdx hne fun H2 s2 c2 => ?_⟩
    rw [(pr_div u).1, (pr_div u).2] at c2
    refine ⟨x, _, _, rfl, c2, fun r H3 nr s3 hr3 => ⟨by show 2 ≤ 1000000; decide, fun p H4 np s4 hp => ?_⟩⟩
    exact k p H4 ((s1.trans s2).trans (s3.trans s4)) ⟨r, hp, hr3.same s4⟩
theorem ok_sorted {f : Addr} {fd : FuncData} (F : Fun K "_law_sorted" "_law_sorted" S__law_sorted f fd) (T : Txt K mg) : FnOk P w K mg base CX0 2 f fd ["_law_words_here"] (sp_sorted K) := by
  refine F.ok SC__law_sorted (fun vs H Q E h => ?_) (fun cdv A outer s H vs Q E hr h => ?_)
  · obtain ⟨L, ws, rfl, _⟩ := h
    rfl
  · obtain ⟨L, ws, rfl, hL, hn, hu, k⟩ := h
    refine ⟨_, (pss_one (ps_ret (pe_lc (own := [("_law_word", 1)]) (g := gName 1) (by rfl) SC__law_sorted.nd (pi_list (pe_callBK (cr_sortedKeyStr hr.units) (by rfl) T.b_sorted (by decide +kernel) (pa_cons (pe_lc (own := [("_law_word", 1)]) (g := gName 1) (by rfl) SC__law_sorted.nd (pi_list (pv 0)) (blkOk_by (own := [("_law_word", 1)]) (N := N__law_sorted) (sc := defScope S__law_sorted) (by decide +kernel)) (fun _ _ _ _ _ => pg_name (i := 1) SC__law_sorted.nd rfl (Or.inl rfl)) (fun _ _ _ _ _ => pts_nil) (fun _ _ _ _ _ => (pe_op op_add_str (pv 1) pe_str))) pa_nil) (pk_cons (pe_bltn (v := .ty "str") (by rfl) T.b_str boot_str rfl) pk_nil))) (blkOk_by (own := [("_law_word", 1)]) (N := N__law_sorted) (sc := defScope S__law_sorted) (by decide +kernel)) (fun _ _ _ _ _ => pg_name (i := 1) SC__law_sorted.nd rfl (Or.inl rfl)) (fun _ _ _ _ _ => pts_nil) (fun _ _ _ _ _ => (pe_slice sl_str (pv 1) po_none (po_some (pe_un un_neg pe_int))))))), ?_⟩
    have ssm : ((ws.map em).map V.str) = ws.map fun u => V.str (em u) := by rw [List.map_map]; rfl
    have ll : ∀ u ∈ ws, (enc u).length + ("m" : Str).length ≤ sizeLine := fun u hm => by
      have h1 := hu u hm
      have h2 : ("m" : Str).length = 1 := by decide +kernel
      rw [enc_len, h2]
      exact szl (by omega)
    refine lc_sorted (H0 := H) (ss := ws.map em) (fun z => V.str (cutS z none (some (-1)))) (VN.to (VN.mapL sE (fun u => V.str (em u)) (VL.var rfl hL) (by omega) (fun _ => rfl) (fun u hm H s Q q => ⟨_, rfl, _, _, rfl, rfl, ll u hm, q H (Same.refl H)⟩)) ssm.symm) (Same.refl _) (by rw [List.length_map]; omega) (fun _ => rfl) (fun H1 z hz H s Q q => ?_) fun ys D H' pm pw s' hD => ?_
    · obtain ⟨u, hm, rfl⟩ := List.mem_map.mp hz
      exact ⟨_, rfl, _, rfl, _, rfl, _, rfl, by rw [em_len]; exact szl (by have := hu u hm; omega), q H (Same.refl H)⟩
    · obtain ⟨us, rfl, pu, pd⟩ := un_sorted pm pw
      refine k us D H' pu pd s' ?_
      rw [hD, List.map_map]
      exact congrArg (fun l => some (HO.lst l)) (List.map_congr_left fun u _ => congrArg V.str (cut_em u))
theorem ok_law {f C CE CS IR : Addr} {fd : FuncData} (F : Fun K "law" "law" S_law f fd) (T : Txt K mg) (R : RatT K mg C) (C_box : FnC P w K mg base CX0 1 "_law_box" ["_law_script", "_law_k"] (sp_box2 K)) (C_take : FnC P w K mg base CX0 1 "_law_take" ["_law_box_here", "_law_many"] sp_take) (C_some : FnC P w K mg base CX0 2 "_law_some_word" ["_law_box_here", "_law_most"] sp_lsome)
    (C_pair : FnC P w K mg base CX0 1 "_law_pair" ["_law_word"] sp_pair) (C_sorted : FnC P w K mg base CX0 2 "_law_sorted" ["_law_words_here"] (sp_sorted K)) (C_ratio : MkC P w K mg base CX0 4 C "Ratio" ["self", "first", "second"] (Kb.calm (sp_init C IR K))) (M_of : CmC P w K mg base CX0 5 CS "Ratios" "of" ["cls", "some"] (Kb.calm (sp_of K C CS))) (M_none : CmC P w K mg base CX0 4 CS "Ratios" "none" ["cls"] (Kb.calm (sp_one K CS false)))
    (C_lower : FnC P w K mg base CX0 9 "lower" ["ratios"] (sp_low K CE CS false)) (C_upper : FnC P w K mg base CX0 9 "upper" ["ratios"] (sp_low K CE CS true)) (C_due : FnC P w K mg base CX0 6 "_law_due" ["_law_word"] (sp_due CE)) (M_eeq : MtC P w K mg base CX0 1 CE "__eq__" ["self", "other"] (sp_eeq CE)) : FnOk P w K mg base CX0 11 f fd ["_law_script"] (K28.sp_law K) := by
  refine F.ok SC_law (fun vs H Q E h => ?_) (fun cdv A outer s H vs Q E hr h => ?_)
  · obtain ⟨a, ns, rfl, _⟩ := h
    rfl
  · obtain ⟨a, ns, rfl, hS, hlen, q⟩ := h
    refine ⟨_, (pss_cons (ps_for PassesOwn.never rfl (pi_range1 (by rfl) T.b_range (pa_cons (pe_callB (call_max2 rfl) (by rfl) T.b_max (by decide +kernel) (pa_cons pe_int (pa_cons (pe_callB (call_min2 rfl) (by rfl) T.b_min (by decide +kernel) (pa_cons (pe_callB call_len_seq (by rfl) T.b_len (by decide +kernel) (pa_cons (pv 0) pa_nil)) (pa_cons pe_int pa_nil))) pa_nil))) pa_nil)) (pg_name (i := 1) SC_law.nd rfl (.inl rfl)) (pss_cons (ps_set (i := 2) SC_law.nd rfl (.inr rfl) (pe_callC C_box (hr.mono (by decide)) rfl (pa_cons (pv 0) (pa_cons (pv 1) pa_nil))))
      (pss_cons (ps_set (i := 3) SC_law.nd rfl (.inr rfl) (pe_lc (own := [("_law_turn", 6)]) (g := gName 6) (by rfl) SC_law.nd (pi_range1 (by rfl) T.b_range (pa_cons (pe_op op_add pe_int (pe_callC C_take (hr.mono (by decide)) rfl (pa_cons (pv 2) (pa_cons pe_int pa_nil)))) pa_nil)) (blkOk_by (own := [("_law_turn", 6)]) (N := N_law) (sc := defScope S_law) (by decide +kernel)) (fun _ _ _ _ _ => pg_name (i := 6) SC_law.nd rfl (Or.inl rfl)) (fun _ _ _ _ _ => pts_nil) (fun _ _ _ _ _ => (pe_callC C_some (hr.mono (by decide)) rfl (pa_cons (pv 2) (pa_cons (pe_ix (ix_listK (K := K) rfl) (pe_lstN (pa_cons pe_int (pa_cons pe_int pa_nil))) (pe_callTy call_intB (by rfl) T.b_int (by decide +kernel) (pa_cons (pe_cmpR op_eq (pe_callC C_take (hr.mono (by decide)) rfl (pa_cons (pv 2) (pa_cons pe_int pa_nil))) pe_int (nomark _)) pa_nil)) (fun _ _ => rfl)) pa_nil))))))
      (pss_cons (ps_set (i := 3) SC_law.nd rfl (.inr rfl) (pe_callC C_sorted (hr.mono (by decide)) rfl (pa_cons (pe_lc (own := [("_law_at", 7), ("_law_word", 8)])  (by rfl) SC_law.nd (pi_enum (by rfl) T.b_enumerate (pa_cons (pv 3) pa_nil)) (blkOk_by (own := [("_law_at", 7), ("_law_word", 8)]) (N := N_law) (sc := defScope S_law) (by decide +kernel)) (fun _ _ _ _ _ => (pg_tupK (K := K) (n := 2) rfl rfl (pgs_cons (pg_name (i := 7) SC_law.nd rfl (.inl rfl)) (pgs_cons (pg_name (i := 8) SC_law.nd rfl (.inl rfl)) pgs_nil)))) (fun _ _ _ _ _ => pts_one (pt_cmpR (op_notIn_seqK (K := K) rfl) (pv 8) (pe_slice (sl_listK (K := K) rfl) (pv 3) po_none (po_some (pv 7))) (by rfl))) (fun _ _ _ _ _ => (pv 8))) pa_nil)))
      (pss_nrm (pss_cons (ps_while PassesOwn.never (pt_cmpR (op_neD hr.units) (pv 3) (pe_lstN pa_nil) (nomark _)) (pss_cons (ps_setLc (i := 4) (own := [("_law_word", 8)]) (g := gName 8) (by rfl) SC_law.nd rfl rfl (sw_true rfl rfl rfl (by decide +kernel)) (pi_list (pv 3)) (blkOk_by (own := [("_law_word", 8)]) (N := N_law) (sc := defScope S_law) (by decide +kernel)) (fun _ _ _ _ _ => pg_name (i := 8) SC_law.nd rfl (Or.inl rfl)) (fun _ _ _ _ _ => pts_nil) (fun _ _ _ _ _ => (pe_callC C_pair (hr.mono (by decide)) rfl (pa_cons (pv 8) pa_nil))))
      (pss_cons (ps_set (i := 5) SC_law.nd rfl (.inl rfl) (pe_cmC M_of (hr.mono (by decide)) rfl (pa_cons (pe_lc (own := [("_law_one", 9), ("_law_other", 10)])  (by rfl) SC_law.nd (pi_list (pv 4)) (blkOk_by (own := [("_law_one", 9), ("_law_other", 10)]) (N := N_law) (sc := defScope S_law) (by decide +kernel)) (fun _ _ _ _ _ => (pg_tupK (K := K) (n := 2) rfl rfl (pgs_cons (pg_name (i := 9) SC_law.nd rfl (.inl rfl)) (pgs_cons (pg_name (i := 10) SC_law.nd rfl (.inl rfl)) pgs_nil)))) (fun _ _ _ _ _ => pts_nil) (fun _ _ _ _ _ => (pe_makeC C_ratio (hr.mono (by decide)) rfl (pa_cons (pv 9) (pa_cons (pv 10) pa_nil))))) pa_nil)))
      (pss_cons (ps_if (PW.pt (pw_or (pt_cmpR (op_neG (K28.NEP rfl M_eeq) (hr.mono (by decide))) (pe_callC C_lower (hr.mono (by decide)) rfl (pa_cons (pv 5) pa_nil)) (pe_callC C_due (hr.mono (by decide)) rfl (pa_cons (pe_ix ix_list (pv 3) pe_int (fun _ _ => rfl)) pa_nil)) (nomark _)) (pw_or1 (pt_cmpR (op_neG (K28.NEP rfl M_eeq) (hr.mono (by decide))) (pe_callC C_upper (hr.mono (by decide)) rfl (pa_cons (pv 5) pa_nil)) (pe_callC C_due (hr.mono (by decide)) rfl (pa_cons (pe_ix ix_list (pv 3) (pe_un un_neg pe_int) (fun _ _ => rfl)) pa_nil)) (nomark _))))) (pss_one (ps_ret pe_bl)) pss_nil)
      (pss_one (ps_set (i := 3) SC_law.nd rfl (.inr rfl) (pe_slice sl_list (pv 3) (po_some pe_int) (po_some (pe_un un_neg pe_int)))))))))
      (pss_one (ps_if (PW.pt (pw_or (pt_cmpR op_notN (pe_callC C_lower (hr.mono (by decide)) rfl (pa_cons (pe_cmC M_of (hr.mono (by decide)) rfl (pa_cons (pe_tupN pa_nil) pa_nil)) pa_nil)) pe_non (nomark _)) (pw_or1 (pt_cmpR op_notN (pe_callC C_upper (hr.mono (by decide)) rfl (pa_cons (pe_cm0C M_none (hr.mono (by decide)) rfl) pa_nil)) pe_non (nomark _))))) (pss_one (ps_ret pe_bl)) pss_nil))))))))
      (pss_one (ps_ret pe_bl))), ?_⟩
    walk_at "kw"
    refine for_range (lo := 0) (fun i σ H' => Same H H' ∧ ∃ y1 y2 y3 y4 y5 y6 y7 y8 y9 y10 : Option V, σ = [some (.ref a), y1, y2, y3, y4, y5, y6, y7, y8, y9, y10])
      ⟨Same.refl H, none, none, none, none, none, none, none, none, none, none, rfl⟩ (fun i σ H1 hi hP => ?_) (fun σ H1 hP => q H1)
    obtain ⟨sm, y1, y2, y3, y4, y5, y6, y7, y8, y9, y10, rfl⟩ := hP
    walk_at "kw"
    refine ⟨a, ns, _, rfl, same_sqL sm hS, hlen, by omega, fun B H2 hB sm2 hb2 => ?_⟩
    have W2 := Hb.start hb2
    refine ⟨_, rfl, B, 9, rfl, W2.box, by decide, by decide, fun nw H3 nw0 nw1 kp3 hb3 => ?_⟩
    have W3 := W2.keep kp3 hb3
    refine ⟨_, _, rfl, rfl, _, rfl, by omega, by omega, fun D hD => ?_⟩
    refine lcR_range (lo := 0) (fun j H' => ∃ us : List (List Bool), us.length = j ∧ (∀ u ∈ us, u.length ≤ 40) ∧ Hb B H2 H' [(D, .lst (us.map sE))]) ⟨[], rfl, fun u h => (nomatch h), W3.new hD (.lst [])⟩ (fun j H4 hj m => ?_) (gName_mono _) (fun H4 m => ?_)
    · obtain ⟨us, ul, uu, W4⟩ := m
      refine ⟨rfl, _, rfl, by show 2 ≤ 1000000; decide, fun L5 H5 n5 s5 h5 => ?_⟩
      have W5 := W4.got n5 s5 h5
      refine ⟨_, rfl, B, 6, rfl, W5.box, by decide, by decide, fun x H6 x0 x1 kp6 hb6 => ⟨rfl, _, rfl, ?_⟩⟩
      have W6 := W5.keep kp6 hb6
      obtain ⟨ms, hat, m0, m1⟩ : ∃ ms : Int, atI [V.int 10, V.int 40] (if decide (V.int x = V.int 0) = true then 1 else 0) = some (.int ms) ∧ 0 ≤ ms ∧ ms ≤ 40 := by
        by_cases e : V.int x = V.int 0
        · rw [decide_eq_true e, if_pos rfl]
          exact ⟨40, rfl, by decide, by decide⟩
        · rw [decide_eq_false e, if_neg (by decide)]
          exact ⟨10, rfl, by decide, by decide⟩
      refine ⟨L5, _, _, _, rfl, rfl, SqL.of (W6.get (.head _)), hat, B, ms, rfl, W6.box, m0, by omega, fun u H7 hu kp7 hb7 => ?_⟩
      have W7 := (W6.keep kp7 hb7).tl
      refine ⟨_, W7.get (.head _), ?_, us ++ [u], by simp [ul], fun v hv => ?_, ?_⟩
      · rw [List.length_map]; exact big (by omega)
      · rcases List.mem_append.mp hv with h | h
        · exact uu v h
        · cases List.mem_singleton.mp h; omega
      · rw [List.map_append]
        exact W7.set 0 rfl (.lst (us.map sE ++ [sE u]))
    obtain ⟨us, ul, uu, W4⟩ := m
    have un : us.length ≤ 9 := by omega
    have n1 : 1 ≤ us.length := by omega
    walk_at "kw"
    refine ⟨D, us.map sE, rfl, SqL.of (W4.get (.head _)), fun D2 hD2 => ?_⟩
    refine lc_enum (xs := us.map sE) (fun j H' => ∃ rs : List (List Bool), rs.length ≤ j ∧ (∀ u ∈ rs, u.length ≤ 40) ∧ Hb B H2 H' [(D2, .lst (rs.map sE)), (D, .lst (us.map sE))]) ⟨[], by simp, fun u h => (nomatch h), W4.new hD2 (.lst [])⟩
      (fun j H' _ m => by obtain ⟨_, _, _, m⟩ := m; exact SqL.of (m.get (.tail _ (.head _)))) (fun j v H5 T5 hj m nT => ?_) (fun H5 m => ?_)
    · obtain ⟨rs, rl, ru, W5⟩ := m
      have W6 := W5.new nT (.tup [.int (j : Nat), v])
      rw [List.getElem?_map] at hj
      obtain ⟨u, hu, rfl⟩ := Option.map_eq_some_iff.mp hj
      have u40 := uu u (List.mem_iff_getElem?.mpr ⟨_, hu⟩)
      refine ⟨T5, _, rfl, SqT.of (W6.get (.head _)), rfl, _, _, rfl, _, _, rfl, rfl, rfl, ?_⟩
      have gD := W6.get (.tail _ (.tail _ (.head _)))
      refine ⟨_, rfl, _, rfl, _, rfl, _, rfl, D, us.map sE, rfl, SqL.of gD, fun D3 hD3 => ?_⟩
      have W7 := W6.new hD3 (.lst (cutV (us.map sE) none (some (j : Nat))))
      rw [cutW_map] at W7 ⊢
      refine ⟨D3, _, rfl, .inl (SqL.of upd_same), rfl, flatWs _, _, rfl, ?_⟩
      rw [inWs]
      have W8 := (W7.sub (.cons _ (.cons _ (List.Sublist.refl _))))
      refine ite2 (fun _ => ?_) (fun _ => ?_)
      · refine ⟨_, rfl, _, W8.get (.head _), ?_, rs ++ [u], by rw [List.length_append, List.length_singleton]; omega, fun v hv => ?_, ?_⟩
        · rw [List.length_map]
          have := lt_at hu
          exact big (by omega)
        · rcases List.mem_append.mp hv with h | h
          · exact ru v h
          · cases List.mem_singleton.mp h; exact u40
        · rw [List.map_append]
          exact W8.set 0 rfl (.lst (rs.map sE ++ [sE u]))
      · exact ⟨rs, by omega, ru, W8⟩
    obtain ⟨rs, rl, ru, W5⟩ := m
    rw [List.length_map] at rl
    refine ⟨D2, rs, rfl, W5.get (.head _), by omega, fun u h => by have := ru u h; omega, fun vs D3 H6 pm srt s6 h6 => ?_⟩
    have W6 := Hb.start (W5.same s6).box
    have s06 : Same H H6 := fun b o e => by
      have ne := ne_of_none (sm b o e) hB
      exact s6 _ _ (W5.kp _ _ ne (sm2 b o (sm b o e)))
    have b6 := W6.box
    walk_at "kw"
    refine while_by (fun σ H' => ∃ (ws : List (List Bool)) (D : Addr) (y4 y5 y6 y7 y8 y9 y10 : Option V), Srt ws ∧ ws.length ≤ 9 ∧ (∀ u ∈ ws, u.length ≤ 40) ∧ Same H6 H' ∧ H' D = some (.lst (ws.map sE)) ∧ σ = [some (.ref a), some (.int (0 + (i : Int))), some (.ref B), some (.ref D), y4, y5, y6, y7, y8, y9, y10])
      (fun σ H' => match σ with | _ :: _ :: _ :: some (.ref D) :: _ => (match H' D with | some (.lst xs) => xs.length | _ => 0) | _ => 0)
      ⟨vs, D3, _, _, _, _, _, _, _, srt, by rw [pm.length_eq]; omega, fun u h => ru u (pm.mem_iff.mp h), Same.refl _, h6, rfl⟩ (fun σ H7 hP => ?_) (fun σ H Q Q' h q => ?_)
    · obtain ⟨ws, D, y4, y5, y6, y7, y8, y9, y10, so, wl, wu, s7, hD, rfl⟩ := hP
      refine ⟨_, rfl, by show 0 ≤ 1000000; decide, fun L H8 n8 s8 h8 => ⟨_, _, dpW (ws := ws) (SqL.of (s8 _ _ hD)), dpW (ws := []) (SqL.of h8), shWs _, shWs _, _, rfl, ?_⟩⟩
      rw [eqvW]
      have s68 := s7.trans s8
      have hD8 := s8 _ _ hD
      cases ws with
      | nil =>
        refine ifF rfl ?_
        walk_at "kw"
        refine fun p H9 n9 s9 h9 => ⟨p, [], [], rfl, .inr (SqT.of h9), ⟨rfl, fun i v u h => (nomatch h)⟩, fun u h => (nomatch h), by decide, fun e H10 t n10 s10 he at_ => ⟨e, t, rfl, he, .inl ⟨fun u => by rw [at_]; exact decide_eq_false (fun h => (nomatch h)), fun H11 s11 => ⟨rfl, _, rfl, ?_⟩⟩⟩⟩
        refine ifF (by rw [decide_eq_true rfl]; rfl) ?_
        refine ⟨rfl, fun e2 H12 n12 s12 he2 => ⟨e2, oneT false, rfl, he2, .inl ⟨fun u => oneT_acc false u, fun H13 s13 => ⟨rfl, _, rfl, ?_⟩⟩⟩⟩
        refine ifF (by rw [decide_eq_true rfl]; rfl) ?_
        exact ⟨((((s06.trans s68).trans s9).trans s10).trans s11).trans (s12.trans s13), _, _, _, _, _, _, _, _, _, _, rfl⟩
      | cons w0 ws0 =>
        refine ifT rfl ?_
        walk_at "kw"
        refine ⟨⟨_, SqL.of hD8⟩, fun D4 hD4 => ?_⟩
        have V8 := (Hd.start H8).new hD4 (.lst [])
        have dne : D ≠ D4 := ne_of_none hD8 hD4
        refine lcR_list (xs := (w0 :: ws0).map sE) (fun j H' => ∃ ps : List V, Hd H8 H' [(D4, .lst ps)] ∧ PrsAt K H' ps (((w0 :: ws0).take j).map pr)) ⟨[], V8, ⟨rfl, fun i v q h => (nomatch h)⟩⟩ (fun j H' _ ⟨_, W, _⟩ => SqL.of (W.sm _ _ hD8)) (fun j x H9 hj m => ?_) (gName_mono _) (fun H9 m => ?_)
        · obtain ⟨ps, W9, pa⟩ := m
          rw [List.getElem?_map] at hj
          obtain ⟨u, hu, rfl⟩ := Option.map_eq_some_iff.mp hj
          have u40 := wu u (List.mem_iff_getElem?.mpr ⟨_, hu⟩)
          refine ⟨rfl, _, rfl, u, rfl, by omega, fun p H10 n10 s10 g10 => ?_⟩
          have W10 := W9.call s10
          have g2 := W10.get (.head _)
          have tkD := TK.upd g2 (o := .lst (ps ++ [.ref p])) rfl
          refine ⟨_, g2, ?_, ps ++ [.ref p], W10.set 0 rfl _, ?_⟩
          · rw [pa.1, List.length_map, List.length_take]; exact big (by omega)
          · rw [List.take_add_one, hu, List.map_append]
            exact prs_snoc ((pa.tk (TK.same s10)).tk tkD) (sqT_tk tkD (SqT.of g10))
        obtain ⟨ps, W9, pa⟩ := m
        rw [List.length_map, List.take_length] at pa
        have pl : ps.length = (w0 :: ws0).length := by rw [pa.1, List.length_map]
        walk_at "kw"
        refine ⟨⟨_, SqL.of (W9.get (.head _))⟩, fun D5 hD5 => ?_⟩
        refine lcR_list (xs := ps) (fun j H' => ∃ xs : List V, Hd H8 H' [(D5, .lst xs), (D4, .lst ps)] ∧ TK H9 H' ∧ RatsAt C H' xs ((w0 :: ws0).take j)) ⟨[], W9.new hD5 (.lst []), TK.new hD5, ⟨rfl, fun i v u h => (nomatch h)⟩⟩ (fun j H' _ ⟨_, W, _⟩ => SqL.of (W.get (.tail _ (.head _)))) (fun j x H10 hj m => ?_) (gTup2_mono _ _ _) (fun H10 m => ?_)
        · obtain ⟨xs, W10, tk6, ra⟩ := m
          obtain ⟨u, hu⟩ := at_lt (xs := w0 :: ws0) (i := j) (by rw [← pl]; exact lt_at hj)
          have hul := wu u (List.mem_iff_getElem?.mpr ⟨_, hu⟩)
          obtain ⟨q, rfl, hq⟩ := pa.2 j x (pr u) hj (by rw [List.getElem?_map, hu]; rfl)
          have p0 := pr_pos u
          obtain ⟨b1, b2⟩ := pr_small (show u.length ≤ 900 by omega)
          obtain ⟨d1, d2⟩ := pr_div u
          refine ⟨q, _, rfl, sqT_tk tk6 hq, rfl, _, _, rfl, _, _, rfl, rfl, rfl, _, rfl, _, rfl, fun x dx hx hdx hne => ?_⟩
          refine mk_ratH' (show (1 : Int) ≤ (pr u).1 by omega) (show (1 : Int) ≤ (pr u).2 by omega) b1 b2 hx hdx hne fun H11 s11 hr11 => ?_
          rw [d1, d2] at hr11
          have W11 := W10.call s11
          have g3 := W11.get (.head _)
          have tkD := TK.upd g3 (o := .lst (xs ++ [.ref x])) rfl
          refine ⟨_, g3, ?_, xs ++ [.ref x], W11.set 0 rfl _, (tk6.trans (TK.same s11)).trans tkD, ?_⟩
          · rw [ra.1, List.length_take]; exact big (by omega)
          · rw [List.take_add_one, hu]
            exact ((ra.tk (TK.same s11)).tk tkD).snoc (let ⟨dx, q⟩ := hr11; ⟨dx, tkD _ _ rfl q⟩)
        obtain ⟨xs, W10, tk10, ra⟩ := m
        rw [pl, List.take_length] at ra
        refine ⟨D5, xs, _, rfl, .inl (SqL.of (W10.get (.head _))), ra, fun u h => by have := wu u h; omega, by omega, fun e H11 t n11 s11 he at_ => ?_⟩
        have s611 : Same H6 H11 := (s68.trans W10.sm).trans s11
        have hD11 := s11 _ _ (W10.sm _ _ hD8)
        have bd : Bdd t 40 0 := ⟨fun u hu => by rw [at_, decide_eq_true_eq] at hu; exact wu u hu, ⟨w0, by rw [at_]; exact decide_eq_true (.head _)⟩⟩
        walk_at "kw"
        refine ⟨e, t, rfl, he, .inr ⟨40, by decide, bd, fun w1 p H12 aw least s12 pw => ?_⟩⟩
        rw [at_, decide_eq_true_eq] at aw
        have ew1 := first_least so aw fun u hu => least u (by rw [at_]; exact decide_eq_true hu)
        subst ew1
        refine ⟨_, rfl, D, _, _, _, rfl, rfl, SqL.of (s12 _ _ hD11), atI_nat (j := 0) rfl, w1, rfl, by have := wu w1 (.head _); omega, fun p2 H13 s13 pw2 => ?_⟩
        refine K28.ne_run (K28.pe_same pw s13) pw2 fun H14 s14 => ⟨_, rfl, ifF rfl ?_⟩
        have s1114 := (s12.trans s13).trans s14
        have he14 := he.same s1114
        have hD14 := s1114 _ _ hD11
        walk_at "kw"
        obtain ⟨wi, wz, ewz⟩ : ∃ wi wz, w1 :: ws0 = wi ++ [wz] := ⟨(w1 :: ws0).dropLast, (w1 :: ws0).getLast (by simp), (List.dropLast_concat_getLast (by simp)).symm⟩
        refine ⟨e, t, rfl, he14, .inr ⟨40, by decide, bd, fun w2 p3 H15 aw2 least2 s15 pw3 => ?_⟩⟩
        rw [at_, decide_eq_true_eq] at aw2
        have ew2 := last_greatest (ewz ▸ so) (ewz ▸ aw2) fun u hu => least2 u (by rw [at_]; exact decide_eq_true (ewz ▸ hu))
        subst ew2
        have at1 : atI ((w1 :: ws0).map sE) (-1) = some (sE w2) := by
          rw [at_last (n := ws0.length) (by simp), ewz, List.map_append, List.getElem?_append_right (by rw [List.length_map]; have := congrArg List.length ewz; simp at this; omega)]
          have : ws0.length - (wi.map sE).length = 0 := by rw [List.length_map]; have := congrArg List.length ewz; simp at this; omega
          rw [this]; rfl
        refine ⟨_, rfl, _, rfl, D, _, _, _, rfl, rfl, SqL.of (s15 _ _ hD14), at1, w2, rfl, by have := wu w2 (by rw [ewz]; simp); omega, fun p4 H16 s16 pw4 => ?_⟩
        refine K28.ne_run (K28.pe_same pw3 s16) pw4 fun H17 s17 => ⟨_, rfl, ifF rfl ?_⟩
        have s17' := (s15.trans s16).trans s17
        have hD17 := s17' _ _ hD14
        refine ⟨_, rfl, _, rfl, _, rfl, _, rfl, D, _, rfl, SqL.of hD17, fun D6 hD6 => ?_⟩
        rw [cutW_map]
        have lt1 := cutW_lt (a := w1) (ws := ws0) (some (-1))
        refine ⟨⟨cutW (w1 :: ws0) (some 1) (some (-1)), D6, _, _, _, _, _, _, _, so.sublist (cutW_sub _ _ _), by omega, fun u h => wu u ((cutW_sub _ _ _).subset h), ((s611.trans s1114).trans s17').trans (sm_new hD6), upd_same, rfl⟩, ?_⟩
        show (match (upd H17 D6 (.lst ((cutW (w1 :: ws0) (some 1) (some (-1))).map sE))) D6 with | some (.lst xs) => xs.length | _ => 0) < (match H7 D with | some (.lst xs) => xs.length | _ => 0)
        rw [upd_same, hD]
        show ((cutW (w1 :: ws0) (some 1) (some (-1))).map sE).length < ((w1 :: ws0).map sE).length
        rw [List.length_map, List.length_map]
        exact lt1
    · obtain ⟨x, hx, sz, z⟩ := q
      exact ⟨x, hx, sz, fun p H' n s hp => let ⟨d, e, a1, a2, a3, a4, b, eb, q⟩ := z p H' n s hp; ⟨d, e, a1, a2, a3, a4, b, eb, h _ _ q⟩⟩
end

theorem all_mk {l : PySem.W.OpenLaw} {w : World} {K : PySem.W.Frag} {h : Heap} {mg : Str → Option Value} {fa : Addr} {cUnmarkedError : Addr} {cInvalidWord NInvalidWord : Addr} {nmInvalidWord qInvalidWord : Str} {bsInvalidWord : List Value} {snInvalidWord : List Str} {subInvalidWord : List Value} {abInvalidWord : Bool} {colInvalidWord : Option Bool} {ddInvalidWord : Option Addr} {m0InvalidWord m1InvalidWord m2InvalidWord m3InvalidWord m5InvalidWord : Option Value} {cInvalidRatio NInvalidRatio : Addr} {nmInvalidRatio qInvalidRatio : Str} {bsInvalidRatio : List Value} {snInvalidRatio : List Str} {subInvalidRatio : List Value} {abInvalidRatio : Bool} {colInvalidRatio : Option Bool} {ddInvalidRatio : Option Addr} {m0InvalidRatio m1InvalidRatio m2InvalidRatio m3InvalidRatio m5InvalidRatio : Option Value} {C : Addr} {CS : Addr} {CE : Addr} {f1 : Addr} {od1 an1 : Option Addr} {sl1 : Array (Option Value)} {oc1 kV1 dc1 pm1 cd1 ct1 : Value} {f2 : Addr} {od2 an2 : Option Addr} {sl2 : Array (Option Value)} {oc2 kV2 dc2 pm2 cd2 ct2 : Value} {f3 : Addr} {od3 an3 : Option Addr} {sl3 : Array (Option Value)} {oc3 kV3 dc3 pm3 cd3 ct3 : Value} {f4 : Addr} {od4 an4 : Option Addr} {sl4 : Array (Option Value)} {oc4 kV4 dc4 pm4 cd4 ct4 : Value} {f5 : Addr} {od5 an5 : Option Addr} {sl5 : Array (Option Value)} {oc5 kV5 dc5 pm5 cd5 ct5 : Value} {f6 : Addr} {od6 an6 : Option Addr} {sl6 : Array (Option Value)} {oc6 kV6 dc6 pm6 cd6 ct6 : Value} {f7 : Addr} {od7 an7 : Option Addr} {sl7 : Array (Option Value)} {oc7 kV7 dc7 pm7 cd7 ct7 : Value} {f8 : Addr} {od8 an8 : Option Addr} {sl8 : Array (Option Value)} {oc8 kV8 dc8 pm8 cd8 ct8 : Value} {f9 : Addr} {od9 an9 : Option Addr} {sl9 : Array (Option Value)} {oc9 kV9 dc9 pm9 cd9 ct9 : Value} {f10 : Addr} {od10 an10 : Option Addr} {sl10 : Array (Option Value)} {oc10 kV10 dc10 pm10 cd10 ct10 : Value} {f11 : Addr} {od11 an11 : Option Addr} {sl11 : Array (Option Value)} {oc11 kV11 dc11 pm11 cd11 ct11 : Value} {p11 : Addr} {rc11 : List Value} {f12 : Addr} {od12 an12 : Option Addr} {sl12 : Array (Option Value)} {oc12 kV12 dc12 pm12 cd12 ct12 : Value} {p12 : Addr} {rc12 : List Value} {f13 : Addr} {od13 an13 : Option Addr} {sl13 : Array (Option Value)} {oc13 kV13 dc13 pm13 cd13 ct13 : Value} {f14 : Addr} {od14 an14 : Option Addr} {sl14 : Array (Option Value)} {oc14 kV14 dc14 pm14 cd14 ct14 : Value} {f15 : Addr} {od15 an15 : Option Addr} {sl15 : Array (Option Value)} {oc15 kV15 dc15 pm15 cd15 ct15 : Value} {p15 : Addr} {rc15 : List Value} {f16 : Addr} {od16 an16 : Option Addr} {sl16 : Array (Option Value)} {oc16 kV16 dc16 pm16 cd16 ct16 : Value} {f17 : Addr} {od17 an17 : Option Addr} {sl17 : Array (Option Value)} {oc17 kV17 dc17 pm17 cd17 ct17 : Value} {f18 : Addr} {od18 an18 : Option Addr} {sl18 : Array (Option Value)} {oc18 kV18 dc18 pm18 cd18 ct18 : Value} {f19 : Addr} {od19 an19 : Option Addr} {sl19 : Array (Option Value)} {oc19 kV19 dc19 pm19 cd19 ct19 : Value} {f20 : Addr} {od20 an20 : Option Addr} {sl20 : Array (Option Value)} {oc20 kV20 dc20 pm20 cd20 ct20 : Value} {f21 : Addr} {od21 an21 : Option Addr} {sl21 : Array (Option Value)} {oc21 kV21 dc21 pm21 cd21 ct21 : Value} {f22 : Addr} {od22 an22 : Option Addr} {sl22 : Array (Option Value)} {oc22 kV22 dc22 pm22 cd22 ct22 : Value} {p22 : Addr} {rc22 : List Value} {f23 : Addr} {od23 an23 : Option Addr} {sl23 : Array (Option Value)} {oc23 kV23 dc23 pm23 cd23 ct23 : Value} {f24 : Addr} {od24 an24 : Option Addr} {sl24 : Array (Option Value)} {oc24 kV24 dc24 pm24 cd24 ct24 : Value} {p24 : Addr} {rc24 : List Value} {f25 : Addr} {od25 an25 : Option Addr} {sl25 : Array (Option Value)} {oc25 kV25 dc25 pm25 cd25 ct25 : Value} {f26 : Addr} {od26 an26 : Option Addr} {sl26 : Array (Option Value)} {oc26 kV26 dc26 pm26 cd26 ct26 : Value} {f27 : Addr} {od27 an27 : Option Addr} {sl27 : Array (Option Value)} {oc27 kV27 dc27 pm27 cd27 ct27 : Value} {f28 : Addr} {od28 an28 : Option Addr} {sl28 : Array (Option Value)} {oc28 kV28 dc28 pm28 cd28 ct28 : Value} {f29 : Addr} {od29 an29 : Option Addr} {sl29 : Array (Option Value)} {oc29 kV29 dc29 pm29 cd29 ct29 : Value} {f30 : Addr} {od30 an30 : Option Addr} {sl30 : Array (Option Value)} {oc30 kV30 dc30 pm30 cd30 ct30 : Value} {f31 : Addr} {od31 an31 : Option Addr} {sl31 : Array (Option Value)} {oc31 kV31 dc31 pm31 cd31 ct31 : Value} {f32 : Addr} {od32 an32 : Option Addr} {sl32 : Array (Option Value)} {oc32 kV32 dc32 pm32 cd32 ct32 : Value} {f33 : Addr} {od33 an33 : Option Addr} {sl33 : Array (Option Value)} {oc33 kV33 dc33 pm33 cd33 ct33 : Value} {a0NOTHING a1NOTHING a2NOTHING : Addr} {o0NOTHING o1NOTHING o2NOTHING : Option Addr} {n0NOTHING n1NOTHING n2NOTHING : Nat} {s0NOTHING s1NOTHING s2NOTHING : Array (Option Value)} {t1NOTHING t2NOTHING : Tok} (X : K.In h) (G : h.Ns mainGlobals mg) (hfa : mg "law" = some (.ref fa))
    (aU : PySem.W.nsIn K mainGlobals "UnmarkedError" = some (some (.ref cUnmarkedError)))
    (rdU : PySem.W.readsIn K cUnmarkedError (.type "type") = true)
    (gaU : PySem.W.specialIn K (.ref cUnmarkedError) "__getattribute__" = some (some (.builtin "type.__getattribute__")))
    (inU : PySem.W.findCls K (.ref cUnmarkedError) (.type "type") "__init__" = some (.val (.builtin "ValueError.__init__")))
    (aInvalidWord : PySem.W.nsIn K mainGlobals "InvalidWord" = some (some (.ref cInvalidWord)))
    (xInvalidWord : K.lookup cInvalidWord = some (excClassObj nmInvalidWord qInvalidWord cInvalidWord NInvalidWord bsInvalidWord [.ref cUnmarkedError, .type "ValueError", .type "Exception", .type "BaseException", .type "object"] true snInvalidWord subInvalidWord abInvalidWord colInvalidWord ddInvalidWord m0InvalidWord m1InvalidWord m2InvalidWord m3InvalidWord m5InvalidWord "ValueError.__new__"))
    (sInvalidWord : PySem.W.findIn K (.ref cInvalidWord) "__setattr__" = some (some (.builtin "object.__setattr__")))
    (bInvalidWord : PySem.W.subIn K (.ref cInvalidWord) (.type "BaseException") = some true)
    (tInvalidWord : PySem.W.typeIn K (.ref cInvalidWord) = some (.type "type"))
    (kInvalidWord : PySem.W.keepIn K (.ref cInvalidWord) = true)
    (aInvalidRatio : PySem.W.nsIn K mainGlobals "InvalidRatio" = some (some (.ref cInvalidRatio)))
    (xInvalidRatio : K.lookup cInvalidRatio = some (excClassObj nmInvalidRatio qInvalidRatio cInvalidRatio NInvalidRatio bsInvalidRatio [.ref cUnmarkedError, .type "ValueError", .type "Exception", .type "BaseException", .type "object"] true snInvalidRatio subInvalidRatio abInvalidRatio colInvalidRatio ddInvalidRatio m0InvalidRatio m1InvalidRatio m2InvalidRatio m3InvalidRatio m5InvalidRatio "ValueError.__new__"))
    (sInvalidRatio : PySem.W.findIn K (.ref cInvalidRatio) "__setattr__" = some (some (.builtin "object.__setattr__")))
    (bInvalidRatio : PySem.W.subIn K (.ref cInvalidRatio) (.type "BaseException") = some true)
    (tInvalidRatio : PySem.W.typeIn K (.ref cInvalidRatio) = some (.type "type"))
    (kInvalidRatio : PySem.W.keepIn K (.ref cInvalidRatio) = true)
    (hdUnmarkedError : PySem.W.hasDictIn K cUnmarkedError = true)
    (bUnmarkedError : PySem.W.subIn K (.ref cUnmarkedError) (.type "BaseException") = some true)
    (tUnmarkedError : PySem.W.typeIn K (.ref cUnmarkedError) = some (.type "type"))
    (hdInvalidWord : PySem.W.hasDictIn K cInvalidWord = true)
    (hdInvalidRatio : PySem.W.hasDictIn K cInvalidRatio = true)
    (aC : PySem.W.nsIn K mainGlobals "Ratio" = some (some (.ref C)))
    (pgC : PySem.W.plainGet K C Str.empty = true)
    (hdC : PySem.W.hasDictIn K C = true)
    (poC : PySem.W.plainOver K C = true)
    (saC : PySem.W.findIn K (.ref C) "__setattr__" = some (some (.builtin "object.__setattr__")))
    (mkC : PySem.W.makesIn K C = true)
    (kcC : PySem.W.keepIn K (.ref C) = true)
    (haC : PySem.W.findIn K (.ref C) "__class__" = some (some (.builtin "object.__class__")))
    (hnC : PySem.W.specialIn K (.builtin "object.__class__") "__get__" = some (some (.builtin "getset_descriptor.__get__")))
    (htC : PySem.W.takesIn K (.builtin "object.__class__") = some true)
    (hmC : PySem.W.mroIn K C (.type "object") = some true)
    (rdcC : PySem.W.readsIn K C (.type "type") = true)
    (gacC : PySem.W.specialIn K (.ref C) "__getattribute__" = some (some (.builtin "type.__getattribute__")))
    (n1 : PySem.W.findIn K (.ref C) "first" = some none)
    (n2 : PySem.W.findIn K (.ref C) "second" = some none)
    (nf : PySem.W.notFirst K C (.ref C) = true)
    (ne : PySem.W.findIn K (.ref C) "__ne__" = some (some (.builtin "object.__ne__")))
    (so : PySem.W.subIn K (.ref C) (.type "object") = some true)
    (aCS : PySem.W.nsIn K mainGlobals "Ratios" = some (some (.ref CS)))
    (pgCS : PySem.W.plainGet K CS Str.empty = true)
    (hdCS : PySem.W.hasDictIn K CS = true)
    (poCS : PySem.W.plainOver K CS = true)
    (saCS : PySem.W.findIn K (.ref CS) "__setattr__" = some (some (.builtin "object.__setattr__")))
    (mkCS : PySem.W.makesIn K CS = true)
    (kcCS : PySem.W.keepIn K (.ref CS) = true)
    (haCS : PySem.W.findIn K (.ref CS) "__class__" = some (some (.builtin "object.__class__")))
    (hnCS : PySem.W.specialIn K (.builtin "object.__class__") "__get__" = some (some (.builtin "getset_descriptor.__get__")))
    (htCS : PySem.W.takesIn K (.builtin "object.__class__") = some true)
    (hmCS : PySem.W.mroIn K CS (.type "object") = some true)
    (rdcCS : PySem.W.readsIn K CS (.type "type") = true)
    (gacCS : PySem.W.specialIn K (.ref CS) "__getattribute__" = some (some (.builtin "type.__getattribute__")))
    (sn1 : PySem.W.findIn K (.ref CS) "table" = some none)
    (snf : PySem.W.notFirst K CS (.ref CS) = true)
    (sne : PySem.W.findIn K (.ref CS) "__ne__" = some (some (.builtin "object.__ne__")))
    (sso : PySem.W.subIn K (.ref CS) (.type "object") = some true)
    (aCE : PySem.W.nsIn K mainGlobals "Edge" = some (some (.ref CE)))
    (pgCE : PySem.W.plainGet K CE Str.empty = true)
    (hdCE : PySem.W.hasDictIn K CE = true)
    (poCE : PySem.W.plainOver K CE = true)
    (saCE : PySem.W.findIn K (.ref CE) "__setattr__" = some (some (.builtin "object.__setattr__")))
    (mkCE : PySem.W.makesIn K CE = true)
    (kcCE : PySem.W.keepIn K (.ref CE) = true)
    (haCE : PySem.W.findIn K (.ref CE) "__class__" = some (some (.builtin "object.__class__")))
    (hnCE : PySem.W.specialIn K (.builtin "object.__class__") "__get__" = some (some (.builtin "getset_descriptor.__get__")))
    (htCE : PySem.W.takesIn K (.builtin "object.__class__") = some true)
    (hmCE : PySem.W.mroIn K CE (.type "object") = some true)
    (rdcCE : PySem.W.readsIn K CE (.type "type") = true)
    (gacCE : PySem.W.specialIn K (.ref CE) "__getattribute__" = some (some (.builtin "type.__getattribute__")))
    (en1 : PySem.W.findIn K (.ref CE) "place" = some none)
    (en2 : PySem.W.findIn K (.ref CE) "numbers" = some none)
    (enf : PySem.W.notFirst K CE (.ref CE) = true)
    (ene : PySem.W.findIn K (.ref CE) "__ne__" = some (some (.builtin "object.__ne__")))
    (eso : PySem.W.subIn K (.ref CE) (.type "object") = some true)
    (a1 : PySem.W.nsIn K mainGlobals "_law_take" = some (some (.ref f1)))
    (l1 : K.lookup f1 = some ⟨oc1, od1, .func (PySem.W.fnOf "_law_take" "_law_take" (defArgs S__law_take) (defBody S__law_take) (defScope S__law_take) .none kV1 dc1 pm1 an1 cd1 ct1), sl1⟩)
    (c1 : PySem.W.codeIn K cd1 "_law_take" = true)
    (k1 : PySem.W.keepIn K (.ref f1) = true)
    (a2 : PySem.W.nsIn K mainGlobals "_law_box" = some (some (.ref f2)))
    (l2 : K.lookup f2 = some ⟨oc2, od2, .func (PySem.W.fnOf "_law_box" "_law_box" (defArgs S__law_box) (defBody S__law_box) (defScope S__law_box) .none kV2 dc2 pm2 an2 cd2 ct2), sl2⟩)
    (c2 : PySem.W.codeIn K cd2 "_law_box" = true)
    (k2 : PySem.W.keepIn K (.ref f2) = true)
    (a3 : PySem.W.nsIn K mainGlobals "is_integer" = some (some (.ref f3)))
    (l3 : K.lookup f3 = some ⟨oc3, od3, .func (PySem.W.fnOf "is_integer" "is_integer" (defArgs S_is_integer) (defBody S_is_integer) (defScope S_is_integer) .none kV3 dc3 pm3 an3 cd3 ct3), sl3⟩)
    (c3 : PySem.W.codeIn K cd3 "is_integer" = true)
    (k3 : PySem.W.keepIn K (.ref f3) = true)
    (a4 : PySem.W.nsIn K mainGlobals "is_length" = some (some (.ref f4)))
    (l4 : K.lookup f4 = some ⟨oc4, od4, .func (PySem.W.fnOf "is_length" "is_length" (defArgs S_is_length) (defBody S_is_length) (defScope S_is_length) .none kV4 dc4 pm4 an4 cd4 ct4), sl4⟩)
    (c4 : PySem.W.codeIn K cd4 "is_length" = true)
    (k4 : PySem.W.keepIn K (.ref f4) = true)
    (a5 : PySem.W.nsIn K mainGlobals "common_length" = some (some (.ref f5)))
    (l5 : K.lookup f5 = some ⟨oc5, od5, .func (PySem.W.fnOf "common_length" "common_length" (defArgs S_common_length) (defBody S_common_length) (defScope S_common_length) .none kV5 dc5 pm5 an5 cd5 ct5), sl5⟩)
    (c5 : PySem.W.codeIn K cd5 "common_length" = true)
    (k5 : PySem.W.keepIn K (.ref f5) = true)
    (a6 : PySem.W.findIn K (.ref cInvalidWord) "__init__" = some (some (.ref f6)))
    (i6 : PySem.W.typeIn K (.ref f6) = some (.type "function"))
    (l6 : K.lookup f6 = some ⟨oc6, od6, .func (PySem.W.fnOf "__init__" "InvalidWord.__init__" (defArgs S_InvalidWord__init_) (defBody S_InvalidWord__init_) (defScope S_InvalidWord__init_) .none kV6 dc6 pm6 an6 cd6 ct6), sl6⟩)
    (c6 : PySem.W.codeIn K cd6 "InvalidWord.__init__" = true)
    (k6 : PySem.W.keepIn K (.ref f6) = true)
    (a7 : PySem.W.findIn K (.ref cInvalidRatio) "__init__" = some (some (.ref f7)))
    (i7 : PySem.W.typeIn K (.ref f7) = some (.type "function"))
    (l7 : K.lookup f7 = some ⟨oc7, od7, .func (PySem.W.fnOf "__init__" "InvalidRatio.__init__" (defArgs S_InvalidRatio__init_) (defBody S_InvalidRatio__init_) (defScope S_InvalidRatio__init_) .none kV7 dc7 pm7 an7 cd7 ct7), sl7⟩)
    (c7 : PySem.W.codeIn K cd7 "InvalidRatio.__init__" = true)
    (k7 : PySem.W.keepIn K (.ref f7) = true)
    (a8 : PySem.W.findIn K (.ref C) "__init__" = some (some (.ref f8)))
    (i8 : PySem.W.isFn K (.ref f8) = true)
    (l8 : K.lookup f8 = some ⟨oc8, od8, .func (PySem.W.fnOf "__init__" "Ratio.__init__" (defArgs S_Ratio__init_) (defBody S_Ratio__init_) (defScope S_Ratio__init_) .none kV8 dc8 pm8 an8 cd8 ct8), sl8⟩)
    (c8 : PySem.W.codeIn K cd8 "Ratio.__init__" = true)
    (k8 : PySem.W.keepIn K (.ref f8) = true)
    (a9 : PySem.W.nsIn K mainGlobals "need_word" = some (some (.ref f9)))
    (l9 : K.lookup f9 = some ⟨oc9, od9, .func (PySem.W.fnOf "need_word" "need_word" (defArgs S_need_word) (defBody S_need_word) (defScope S_need_word) .none kV9 dc9 pm9 an9 cd9 ct9), sl9⟩)
    (c9 : PySem.W.codeIn K cd9 "need_word" = true)
    (k9 : PySem.W.keepIn K (.ref f9) = true)
    (a10 : PySem.W.nsIn K mainGlobals "word_of_lengths" = some (some (.ref f10)))
    (l10 : K.lookup f10 = some ⟨oc10, od10, .func (PySem.W.fnOf "word_of_lengths" "word_of_lengths" (defArgs S_word_of_lengths) (defBody S_word_of_lengths) (defScope S_word_of_lengths) .none kV10 dc10 pm10 an10 cd10 ct10), sl10⟩)
    (c10 : PySem.W.codeIn K cd10 "word_of_lengths" = true)
    (k10 : PySem.W.keepIn K (.ref f10) = true)
    (a11 : PySem.W.findIn K (.ref C) "word" = some (some (.ref p11)))
    (g11 : PySem.W.specialIn K (.ref p11) "__get__" = some (some (.builtin "property.__get__")))
    (h11 : PySem.W.takesIn K (.ref p11) = some true)
    (r11 : PySem.W.recIn K p11 "property" = some (.ref f11 :: rc11))
    (l11 : K.lookup f11 = some ⟨oc11, od11, .func (PySem.W.fnOf "word" "Ratio.word" (defArgs S_Ratio_word) (defBody S_Ratio_word) (defScope S_Ratio_word) .none kV11 dc11 pm11 an11 cd11 ct11), sl11⟩)
    (c11 : PySem.W.codeIn K cd11 "Ratio.word" = true)
    (k11 : PySem.W.keepIn K (.ref f11) = true)
    (a12 : PySem.W.findCls K (.ref C) (.type "type") "of_word" = some (.get (.builtin "classmethod.__get__") (.ref p12) .none (.ref C)))
    (r12 : PySem.W.recIn K p12 "classmethod" = some (.ref f12 :: rc12))
    (i12 : PySem.W.fnIn K f12 = true)
    (l12 : K.lookup f12 = some ⟨oc12, od12, .func (PySem.W.fnOf "of_word" "Ratio.of_word" (defArgs S_Ratio_of_word) (defBody S_Ratio_of_word) (defScope S_Ratio_of_word) .none kV12 dc12 pm12 an12 cd12 ct12), sl12⟩)
    (c12 : PySem.W.codeIn K cd12 "Ratio.of_word" = true)
    (k12 : PySem.W.keepIn K (.ref f12) = true)
    (a13 : PySem.W.nsIn K mainGlobals "inner_of" = some (some (.ref f13)))
    (l13 : K.lookup f13 = some ⟨oc13, od13, .func (PySem.W.fnOf "inner_of" "inner_of" (defArgs S_inner_of) (defBody S_inner_of) (defScope S_inner_of) .none kV13 dc13 pm13 an13 cd13 ct13), sl13⟩)
    (c13 : PySem.W.codeIn K cd13 "inner_of" = true)
    (k13 : PySem.W.keepIn K (.ref f13) = true)
    (a14 : PySem.W.findIn K (.ref CE) "__init__" = some (some (.ref f14)))
    (i14 : PySem.W.isFn K (.ref f14) = true)
    (l14 : K.lookup f14 = some ⟨oc14, od14, .func (PySem.W.fnOf "__init__" "Edge.__init__" (defArgs S_Edge__init_) (defBody S_Edge__init_) (defScope S_Edge__init_) .none kV14 dc14 pm14 an14 cd14 ct14), sl14⟩)
    (c14 : PySem.W.codeIn K cd14 "Edge.__init__" = true)
    (k14 : PySem.W.keepIn K (.ref f14) = true)
    (a15 : PySem.W.findCls K (.ref CE) (.type "type") "of" = some (.get (.builtin "classmethod.__get__") (.ref p15) .none (.ref CE)))
    (r15 : PySem.W.recIn K p15 "classmethod" = some (.ref f15 :: rc15))
    (i15 : PySem.W.fnIn K f15 = true)
    (l15 : K.lookup f15 = some ⟨oc15, od15, .func (PySem.W.fnOf "of" "Edge.of" (defArgs S_Edge_of) (defBody S_Edge_of) (defScope S_Edge_of) .none kV15 dc15 pm15 an15 cd15 ct15), sl15⟩)
    (c15 : PySem.W.codeIn K cd15 "Edge.of" = true)
    (k15 : PySem.W.keepIn K (.ref f15) = true)
    (a16 : PySem.W.findIn K (.ref CE) "__eq__" = some (some (.ref f16)))
    (i16 : PySem.W.isFn K (.ref f16) = true)
    (l16 : K.lookup f16 = some ⟨oc16, od16, .func (PySem.W.fnOf "__eq__" "Edge.__eq__" (defArgs S_Edge__eq_) (defBody S_Edge__eq_) (defScope S_Edge__eq_) .none kV16 dc16 pm16 an16 cd16 ct16), sl16⟩)
    (c16 : PySem.W.codeIn K cd16 "Edge.__eq__" = true)
    (k16 : PySem.W.keepIn K (.ref f16) = true)
    (a17 : PySem.W.nsIn K mainGlobals "classes_of" = some (some (.ref f17)))
    (l17 : K.lookup f17 = some ⟨oc17, od17, .func (PySem.W.fnOf "classes_of" "classes_of" (defArgs S_classes_of) (defBody S_classes_of) (defScope S_classes_of) .none kV17 dc17 pm17 an17 cd17 ct17), sl17⟩)
    (c17 : PySem.W.codeIn K cd17 "classes_of" = true)
    (k17 : PySem.W.keepIn K (.ref f17) = true)
    (a18 : PySem.W.nsIn K mainGlobals "least_table" = some (some (.ref f18)))
    (l18 : K.lookup f18 = some ⟨oc18, od18, .func (PySem.W.fnOf "least_table" "least_table" (defArgs S_least_table) (defBody S_least_table) (defScope S_least_table) .none kV18 dc18 pm18 an18 cd18 ct18), sl18⟩)
    (c18 : PySem.W.codeIn K cd18 "least_table" = true)
    (k18 : PySem.W.keepIn K (.ref f18) = true)
    (a19 : PySem.W.nsIn K mainGlobals "walked" = some (some (.ref f19)))
    (l19 : K.lookup f19 = some ⟨oc19, od19, .func (PySem.W.fnOf "walked" "walked" (defArgs S_walked) (defBody S_walked) (defScope S_walked) .none kV19 dc19 pm19 an19 cd19 ct19), sl19⟩)
    (c19 : PySem.W.codeIn K cd19 "walked" = true)
    (k19 : PySem.W.keepIn K (.ref f19) = true)
    (a20 : PySem.W.nsIn K mainGlobals "table_of_words" = some (some (.ref f20)))
    (l20 : K.lookup f20 = some ⟨oc20, od20, .func (PySem.W.fnOf "table_of_words" "table_of_words" (defArgs S_table_of_words) (defBody S_table_of_words) (defScope S_table_of_words) .none kV20 dc20 pm20 an20 cd20 ct20), sl20⟩)
    (c20 : PySem.W.codeIn K cd20 "table_of_words" = true)
    (k20 : PySem.W.keepIn K (.ref f20) = true)
    (a21 : PySem.W.findIn K (.ref CS) "__init__" = some (some (.ref f21)))
    (i21 : PySem.W.isFn K (.ref f21) = true)
    (l21 : K.lookup f21 = some ⟨oc21, od21, .func (PySem.W.fnOf "__init__" "Ratios.__init__" (defArgs S_Ratios__init_) (defBody S_Ratios__init_) (defScope S_Ratios__init_) .none kV21 dc21 pm21 an21 cd21 ct21), sl21⟩)
    (c21 : PySem.W.codeIn K cd21 "Ratios.__init__" = true)
    (k21 : PySem.W.keepIn K (.ref f21) = true)
    (a22 : PySem.W.findCls K (.ref CS) (.type "type") "none" = some (.get (.builtin "classmethod.__get__") (.ref p22) .none (.ref CS)))
    (r22 : PySem.W.recIn K p22 "classmethod" = some (.ref f22 :: rc22))
    (i22 : PySem.W.fnIn K f22 = true)
    (l22 : K.lookup f22 = some ⟨oc22, od22, .func (PySem.W.fnOf "none" "Ratios.none" (defArgs S_Ratios_none) (defBody S_Ratios_none) (defScope S_Ratios_none) .none kV22 dc22 pm22 an22 cd22 ct22), sl22⟩)
    (c22 : PySem.W.codeIn K cd22 "Ratios.none" = true)
    (k22 : PySem.W.keepIn K (.ref f22) = true)
    (a23 : PySem.W.nsIn K mainGlobals "alive" = some (some (.ref f23)))
    (l23 : K.lookup f23 = some ⟨oc23, od23, .func (PySem.W.fnOf "alive" "alive" (defArgs S_alive) (defBody S_alive) (defScope S_alive) .none kV23 dc23 pm23 an23 cd23 ct23), sl23⟩)
    (c23 : PySem.W.codeIn K cd23 "alive" = true)
    (k23 : PySem.W.keepIn K (.ref f23) = true)
    (a24 : PySem.W.findCls K (.ref CS) (.type "type") "of" = some (.get (.builtin "classmethod.__get__") (.ref p24) .none (.ref CS)))
    (r24 : PySem.W.recIn K p24 "classmethod" = some (.ref f24 :: rc24))
    (i24 : PySem.W.fnIn K f24 = true)
    (l24 : K.lookup f24 = some ⟨oc24, od24, .func (PySem.W.fnOf "of" "Ratios.of" (defArgs S_Ratios_of) (defBody S_Ratios_of) (defScope S_Ratios_of) .none kV24 dc24 pm24 an24 cd24 ct24), sl24⟩)
    (c24 : PySem.W.codeIn K cd24 "Ratios.of" = true)
    (k24 : PySem.W.keepIn K (.ref f24) = true)
    (a25 : PySem.W.nsIn K mainGlobals "_law_some_word" = some (some (.ref f25)))
    (l25 : K.lookup f25 = some ⟨oc25, od25, .func (PySem.W.fnOf "_law_some_word" "_law_some_word" (defArgs S__law_some_word) (defBody S__law_some_word) (defScope S__law_some_word) .none kV25 dc25 pm25 an25 cd25 ct25), sl25⟩)
    (c25 : PySem.W.codeIn K cd25 "_law_some_word" = true)
    (k25 : PySem.W.keepIn K (.ref f25) = true)
    (a26 : PySem.W.nsIn K mainGlobals "_law_pair" = some (some (.ref f26)))
    (l26 : K.lookup f26 = some ⟨oc26, od26, .func (PySem.W.fnOf "_law_pair" "_law_pair" (defArgs S__law_pair) (defBody S__law_pair) (defScope S__law_pair) .none kV26 dc26 pm26 an26 cd26 ct26), sl26⟩)
    (c26 : PySem.W.codeIn K cd26 "_law_pair" = true)
    (k26 : PySem.W.keepIn K (.ref f26) = true)
    (a27 : PySem.W.nsIn K mainGlobals "edge_words" = some (some (.ref f27)))
    (l27 : K.lookup f27 = some ⟨oc27, od27, .func (PySem.W.fnOf "edge_words" "edge_words" (defArgs S_edge_words) (defBody S_edge_words) (defScope S_edge_words) .none kV27 dc27 pm27 an27 cd27 ct27), sl27⟩)
    (c27 : PySem.W.codeIn K cd27 "edge_words" = true)
    (k27 : PySem.W.keepIn K (.ref f27) = true)
    (a28 : PySem.W.nsIn K mainGlobals "told_edge" = some (some (.ref f28)))
    (l28 : K.lookup f28 = some ⟨oc28, od28, .func (PySem.W.fnOf "told_edge" "told_edge" (defArgs S_told_edge) (defBody S_told_edge) (defScope S_told_edge) .none kV28 dc28 pm28 an28 cd28 ct28), sl28⟩)
    (c28 : PySem.W.codeIn K cd28 "told_edge" = true)
    (k28 : PySem.W.keepIn K (.ref f28) = true)
    (a29 : PySem.W.nsIn K mainGlobals "lower" = some (some (.ref f29)))
    (l29 : K.lookup f29 = some ⟨oc29, od29, .func (PySem.W.fnOf "lower" "lower" (defArgs S_lower) (defBody S_lower) (defScope S_lower) .none kV29 dc29 pm29 an29 cd29 ct29), sl29⟩)
    (c29 : PySem.W.codeIn K cd29 "lower" = true)
    (k29 : PySem.W.keepIn K (.ref f29) = true)
    (a30 : PySem.W.nsIn K mainGlobals "upper" = some (some (.ref f30)))
    (l30 : K.lookup f30 = some ⟨oc30, od30, .func (PySem.W.fnOf "upper" "upper" (defArgs S_upper) (defBody S_upper) (defScope S_upper) .none kV30 dc30 pm30 an30 cd30 ct30), sl30⟩)
    (c30 : PySem.W.codeIn K cd30 "upper" = true)
    (k30 : PySem.W.keepIn K (.ref f30) = true)
    (a31 : PySem.W.nsIn K mainGlobals "_law_due" = some (some (.ref f31)))
    (l31 : K.lookup f31 = some ⟨oc31, od31, .func (PySem.W.fnOf "_law_due" "_law_due" (defArgs S__law_due) (defBody S__law_due) (defScope S__law_due) .none kV31 dc31 pm31 an31 cd31 ct31), sl31⟩)
    (c31 : PySem.W.codeIn K cd31 "_law_due" = true)
    (k31 : PySem.W.keepIn K (.ref f31) = true)
    (a32 : PySem.W.nsIn K mainGlobals "_law_sorted" = some (some (.ref f32)))
    (l32 : K.lookup f32 = some ⟨oc32, od32, .func (PySem.W.fnOf "_law_sorted" "_law_sorted" (defArgs S__law_sorted) (defBody S__law_sorted) (defScope S__law_sorted) .none kV32 dc32 pm32 an32 cd32 ct32), sl32⟩)
    (c32 : PySem.W.codeIn K cd32 "_law_sorted" = true)
    (k32 : PySem.W.keepIn K (.ref f32) = true)
    (a33 : PySem.W.nsIn K mainGlobals "law" = some (some (.ref f33)))
    (l33 : K.lookup f33 = some ⟨oc33, od33, .func (PySem.W.fnOf "law" "law" (defArgs S_law) (defBody S_law) (defScope S_law) .none kV33 dc33 pm33 an33 cd33 ct33), sl33⟩)
    (c33 : PySem.W.codeIn K cd33 "law" = true)
    (k33 : PySem.W.keepIn K (.ref f33) = true)
    (z_ValueError : PySem.W.nsIn K mainGlobals "ValueError" = some none)
    (z_abs : PySem.W.nsIn K mainGlobals "abs" = some none)
    (z_all : PySem.W.nsIn K mainGlobals "all" = some none)
    (z_any : PySem.W.nsIn K mainGlobals "any" = some none)
    (z_bool : PySem.W.nsIn K mainGlobals "bool" = some none)
    (z_enumerate : PySem.W.nsIn K mainGlobals "enumerate" = some none)
    (z_int : PySem.W.nsIn K mainGlobals "int" = some none)
    (z_isinstance : PySem.W.nsIn K mainGlobals "isinstance" = some none)
    (z_len : PySem.W.nsIn K mainGlobals "len" = some none)
    (z_list : PySem.W.nsIn K mainGlobals "list" = some none)
    (z_max : PySem.W.nsIn K mainGlobals "max" = some none)
    (z_min : PySem.W.nsIn K mainGlobals "min" = some none)
    (z_range : PySem.W.nsIn K mainGlobals "range" = some none)
    (z_repr : PySem.W.nsIn K mainGlobals "repr" = some none)
    (z_sorted : PySem.W.nsIn K mainGlobals "sorted" = some none)
    (z_str : PySem.W.nsIn K mainGlobals "str" = some none)
    (z_sum : PySem.W.nsIn K mainGlobals "sum" = some none)
    (z_tuple : PySem.W.nsIn K mainGlobals "tuple" = some none)
    (z_zip : PySem.W.nsIn K mainGlobals "zip" = some none)
    (g0NOTHING : PySem.W.nsIn K mainGlobals "NOTHING" = some (some (.ref a0NOTHING)))
    (g1NOTHING : K.lookup a0NOTHING = some ⟨.type "tuple", o0NOTHING, .seq #[.ref a1NOTHING] n0NOTHING, s0NOTHING⟩)
    (g2NOTHING : K.lookup a1NOTHING = some ⟨.type "tuple", o1NOTHING, .seq #[.bool false, .ref a2NOTHING] n1NOTHING, s1NOTHING⟩)
    (g3NOTHING : K.lookup a2NOTHING = some ⟨.type "tuple", o2NOTHING, .seq #[.int 0 t1NOTHING, .int 0 t2NOTHING] n2NOTHING, s2NOTHING⟩) :
    ∃ fd : FuncData, (∀ (s : Shared) (v : Value), BindsTo s fd ⟨[v], []⟩ [("_law_script", v)]) ∧ ∀ base : Heap, K.In base → base.Ns mainGlobals mg → FnOk l.prog w K mg base CX0 11 fa fd ["_law_script"] (sp_law K) := by
  have e := hfa.symm.trans (PySem.W.mg_of X G a33)
  cases e
  have T : Txt K mg := ⟨PySem.W.mg_none_of X G z_ValueError, PySem.W.mg_none_of X G z_abs, PySem.W.mg_none_of X G z_all, PySem.W.mg_none_of X G z_any, PySem.W.mg_none_of X G z_bool, PySem.W.mg_none_of X G z_enumerate, PySem.W.mg_none_of X G z_int, PySem.W.mg_none_of X G z_isinstance, PySem.W.mg_none_of X G z_len, PySem.W.mg_none_of X G z_list, PySem.W.mg_none_of X G z_max, PySem.W.mg_none_of X G z_min, PySem.W.mg_none_of X G z_range, PySem.W.mg_none_of X G z_repr, PySem.W.mg_none_of X G z_sorted, PySem.W.mg_none_of X G z_str, PySem.W.mg_none_of X G z_sum, PySem.W.mg_none_of X G z_tuple, PySem.W.mg_none_of X G z_zip⟩
  have mgU := PySem.W.mg_of X G aU
  have UE : UeC K cUnmarkedError := ⟨⟨rdU, gaU⟩, inU⟩
  have N_UnmarkedError : NmC mg "UnmarkedError" cUnmarkedError := ⟨mgU⟩
  have N_InvalidWord : NmC mg "InvalidWord" cInvalidWord := ⟨PySem.W.mg_of X G aInvalidWord⟩
  have N_InvalidRatio : NmC mg "InvalidRatio" cInvalidRatio := ⟨PySem.W.mg_of X G aInvalidRatio⟩
  have O_InvalidWord : OexC K cInvalidWord := ⟨⟨_, _, _, _, _, _, _, _, _, _, _, _, _, _, _, xInvalidWord, by rfl⟩, sInvalidWord, bInvalidWord, tInvalidWord, kInvalidWord⟩
  have O_InvalidRatio : OexC K cInvalidRatio := ⟨⟨_, _, _, _, _, _, _, _, _, _, _, _, _, _, _, xInvalidRatio, by rfl⟩, sInvalidRatio, bInvalidRatio, tInvalidRatio, kInvalidRatio⟩
  have INSC : C8.InsC K C := ⟨⟨pgC, hdC, poC, saC⟩, haC, hnC, htC, hmC, kit_self _ _ (beq_self_eq_true _)⟩
  have R : RatT K mg C := ⟨INSC, n1, n2, PySem.W.mg_of X G aC, nf, ne, so⟩
  have INSCS : C8.InsC K CS := ⟨⟨pgCS, hdCS, poCS, saCS⟩, haCS, hnCS, htCS, hmCS, kit_self _ _ (beq_self_eq_true _)⟩
  have Rs : SetT K mg CS := ⟨INSCS, sn1, PySem.W.mg_of X G aCS, snf, sne, sso⟩
  have INSCE : C8.InsC K CE := ⟨⟨pgCE, hdCE, poCE, saCE⟩, haCE, hnCE, htCE, hmCE, kit_self _ _ (beq_self_eq_true _)⟩
  have Re : EdgT K mg CE := ⟨INSCE, en1, en2, PySem.W.mg_of X G aCE, enf, ene, eso⟩
  have F1 := fun_mk (st := S__law_take) l1 c1 k1
  have b1 := F1.binds (ps := ["_law_box_here", "_law_many"]) fun _ _ _ _ _ _ us hl => match us, hl with | [_, _], _ => rfl
  have F2 := fun_mk (st := S__law_box) l2 c2 k2
  have b2 := F2.binds (ps := ["_law_script", "_law_k"]) fun _ _ _ _ _ _ us hl => match us, hl with | [_, _], _ => rfl
  have F3 := fun_mk (st := S_is_integer) l3 c3 k3
  have b3 := F3.binds (ps := ["value"]) fun _ _ _ _ _ _ us hl => match us, hl with | [_], _ => rfl
  have F4 := fun_mk (st := S_is_length) l4 c4 k4
  have b4 := F4.binds (ps := ["value"]) fun _ _ _ _ _ _ us hl => match us, hl with | [_], _ => rfl
  have F5 := fun_mk (st := S_common_length) l5 c5 k5
  have b5 := F5.binds (ps := ["first", "second"]) fun _ _ _ _ _ _ us hl => match us, hl with | [_, _], _ => rfl
  have F6 := fun_mk (st := S_InvalidWord__init_) l6 c6 k6
  have b6 := F6.binds (ps := ["self"]) fun _ _ _ _ _ _ us hl => match us, hl with | [_], _ => rfl
  have F7 := fun_mk (st := S_InvalidRatio__init_) l7 c7 k7
  have b7 := F7.binds (ps := ["self"]) fun _ _ _ _ _ _ us hl => match us, hl with | [_], _ => rfl
  have F8 := fun_mk (st := S_Ratio__init_) l8 c8 k8
  have b8 := F8.binds (ps := ["self", "first", "second"]) fun _ _ _ _ _ _ us hl => match us, hl with | [_, _, _], _ => rfl
  have F9 := fun_mk (st := S_need_word) l9 c9 k9
  have b9 := F9.binds (ps := ["value"]) fun _ _ _ _ _ _ us hl => match us, hl with | [_], _ => rfl
  have F10 := fun_mk (st := S_word_of_lengths) l10 c10 k10
  have b10 := F10.binds (ps := ["first", "second"]) fun _ _ _ _ _ _ us hl => match us, hl with | [_, _], _ => rfl
  have F11 := fun_mk (st := S_Ratio_word) l11 c11 k11
  have b11 := F11.binds (ps := ["self"]) fun _ _ _ _ _ _ us hl => match us, hl with | [_], _ => rfl
  have F12 := fun_mk (st := S_Ratio_of_word) l12 c12 k12
  have b12 := F12.binds (ps := ["cls", "word"]) fun _ _ _ _ _ _ us hl => match us, hl with | [_, _], _ => rfl
  have F13 := fun_mk (st := S_inner_of) l13 c13 k13
  have b13 := F13.binds (ps := ["root"]) fun _ _ _ _ _ _ us hl => match us, hl with | [_], _ => rfl
  have F14 := fun_mk (st := S_Edge__init_) l14 c14 k14
  have b14 := F14.binds (ps := ["self", "place"]) fun _ _ _ _ _ _ us hl => match us, hl with | [_, _], _ => rfl
  have F15 := fun_mk (st := S_Edge_of) l15 c15 k15
  have b15 := F15.binds (ps := ["cls", "ratio"]) fun _ _ _ _ _ _ us hl => match us, hl with | [_, _], _ => rfl
  have F16 := fun_mk (st := S_Edge__eq_) l16 c16 k16
  have b16 := F16.binds (ps := ["self", "other"]) fun _ _ _ _ _ _ us hl => match us, hl with | [_, _], _ => rfl
  have F17 := fun_mk (st := S_classes_of) l17 c17 k17
  have b17 := F17.binds (ps := ["rows"]) fun _ _ _ _ _ _ us hl => match us, hl with | [_], _ => rfl
  have F18 := fun_mk (st := S_least_table) l18 c18 k18
  have b18 := F18.binds (ps := ["rows"]) fun _ _ _ _ _ _ us hl => match us, hl with | [_], _ => rfl
  have F19 := fun_mk (st := S_walked) l19 c19 k19
  have b19 := F19.binds (ps := ["table", "at", "word"]) fun _ _ _ _ _ _ us hl => match us, hl with | [_, _, _], _ => rfl
  have F20 := fun_mk (st := S_table_of_words) l20 c20 k20
  have b20 := F20.binds (ps := ["words"]) fun _ _ _ _ _ _ us hl => match us, hl with | [_], _ => rfl
  have F21 := fun_mk (st := S_Ratios__init_) l21 c21 k21
  have b21 := F21.binds (ps := ["self", "table"]) fun _ _ _ _ _ _ us hl => match us, hl with | [_, _], _ => rfl
  have F22 := fun_mk (st := S_Ratios_none) l22 c22 k22
  have b22 := F22.binds (ps := ["cls"]) fun _ _ _ _ _ _ us hl => match us, hl with | [_], _ => rfl
  have F23 := fun_mk (st := S_alive) l23 c23 k23
  have b23 := F23.binds (ps := ["table"]) fun _ _ _ _ _ _ us hl => match us, hl with | [_], _ => rfl
  have F24 := fun_mk (st := S_Ratios_of) l24 c24 k24
  have b24 := F24.binds (ps := ["cls", "some"]) fun _ _ _ _ _ _ us hl => match us, hl with | [_, _], _ => rfl
  have F25 := fun_mk (st := S__law_some_word) l25 c25 k25
  have b25 := F25.binds (ps := ["_law_box_here", "_law_most"]) fun _ _ _ _ _ _ us hl => match us, hl with | [_, _], _ => rfl
  have F26 := fun_mk (st := S__law_pair) l26 c26 k26
  have b26 := F26.binds (ps := ["_law_word"]) fun _ _ _ _ _ _ us hl => match us, hl with | [_], _ => rfl
  have F27 := fun_mk (st := S_edge_words) l27 c27 k27
  have b27 := F27.binds (ps := ["table", "first"]) fun _ _ _ _ _ _ us hl => match us, hl with | [_, _], _ => rfl
  have F28 := fun_mk (st := S_told_edge) l28 c28 k28
  have b28 := F28.binds (ps := ["found"]) fun _ _ _ _ _ _ us hl => match us, hl with | [_], _ => rfl
  have F29 := fun_mk (st := S_lower) l29 c29 k29
  have b29 := F29.binds (ps := ["ratios"]) fun _ _ _ _ _ _ us hl => match us, hl with | [_], _ => rfl
  have F30 := fun_mk (st := S_upper) l30 c30 k30
  have b30 := F30.binds (ps := ["ratios"]) fun _ _ _ _ _ _ us hl => match us, hl with | [_], _ => rfl
  have F31 := fun_mk (st := S__law_due) l31 c31 k31
  have b31 := F31.binds (ps := ["_law_word"]) fun _ _ _ _ _ _ us hl => match us, hl with | [_], _ => rfl
  have F32 := fun_mk (st := S__law_sorted) l32 c32 k32
  have b32 := F32.binds (ps := ["_law_words_here"]) fun _ _ _ _ _ _ us hl => match us, hl with | [_], _ => rfl
  have F33 := fun_mk (st := S_law) l33 c33 k33
  refine ⟨PySem.W.fnOf "law" "law" (defArgs S_law) (defBody S_law) (defScope S_law) .none kV33 dc33 pm33 an33 cd33 ct33, fun s v => .of_eq rfl, fun base _ _ => ?_⟩
  have G_NOTHING : GTab K mg "NOTHING" (oneT false) := gtab_one (PySem.W.mg_of X G g0NOTHING) g1NOTHING rfl rfl (by show 1 ≤ sizeLine; decide) (.cons rfl .nil) g2NOTHING rfl rfl (by show 2 ≤ sizeLine; decide) (.cons rfl (.cons rfl .nil)) g3NOTHING rfl rfl (by show 2 ≤ sizeLine; decide) (.cons ⟨_, rfl⟩ (.cons ⟨_, rfl⟩ .nil))
  have C_take : FnC l.prog w K mg base CX0 1 "_law_take" ["_law_box_here", "_law_many"] sp_take := ⟨_, _, ok_take F1 T , PySem.W.mg_of X G a1, k1, b1⟩
  have C_box : FnC l.prog w K mg base CX0 1 "_law_box" ["_law_script", "_law_k"] (sp_box2 K) := ⟨_, _, ok_box F2 T , PySem.W.mg_of X G a2, k2, b2⟩
  have C_isint : FnC l.prog w K mg base CX0 1 "is_integer" ["value"] (sp_isint K) := ⟨_, _, ok_isint F3 T , PySem.W.mg_of X G a3, k3, b3⟩
  have C_islen : FnC l.prog w K mg base CX0 2 "is_length" ["value"] (sp_islen K) := ⟨_, _, ok_islen F4 T C_isint, PySem.W.mg_of X G a4, k4, b4⟩
  have C_common : FnC l.prog w K mg base CX0 1 "common_length" ["first", "second"] sp_common := ⟨_, _, ok_common F5 T , PySem.W.mg_of X G a5, k5, b5⟩
  have E_InvalidWord : ErC l.prog w K mg base "InvalidWord" cInvalidWord := ⟨_, _, (ok_err_InvalidWord F6 UE mgU O_InvalidWord).mono (by decide), O_InvalidWord, a6, i6, PySem.W.mg_of X G aInvalidWord, b6⟩
  have E_InvalidRatio : ErC l.prog w K mg base "InvalidRatio" cInvalidRatio := ⟨_, _, (ok_err_InvalidRatio F7 UE mgU O_InvalidRatio).mono (by decide), O_InvalidRatio, a7, i7, PySem.W.mg_of X G aInvalidRatio, b7⟩
  have C_ratioX : MkC l.prog w K mg base (L2.CX l.prog w) 4 C "Ratio" ["self", "first", "second"] (sp_init C cInvalidRatio K) := ⟨_, _, ok_init F8 T R E_InvalidRatio C_islen C_common, ⟨mkC, a8, i8, kcC⟩, PySem.W.mg_of X G aC, b8⟩
  have C_need : FnC l.prog w K mg base (L2.CX l.prog w) 4 "need_word" ["value"] (sp_need cInvalidWord K) := ⟨_, _, ok_need F9 T E_InvalidWord, PySem.W.mg_of X G a9, k9, b9⟩
  have C_wol : FnC l.prog w K mg base CX0 1 "word_of_lengths" ["first", "second"] sp_wol := ⟨_, _, ok_wol F10 T , PySem.W.mg_of X G a10, k10, b10⟩
  have P_word : PrC l.prog w K mg base 2 C "word" (sp_word C) := ⟨_, _, _, ok_word F11 T R C_wol, ⟨pgC, hdC, poC, saC⟩, ⟨a11, g11, h11, ⟨_, r11⟩⟩, b11⟩
  have M_ofwordX : CmC l.prog w K mg base (L2.CX l.prog w) 6 C "Ratio" "of_word" ["cls", "word"] (sp_ofword C cInvalidWord K) := ⟨_, _, _, ok_ofword F12 T C_need C_ratioX, ⟨rdcC, gacC⟩, ⟨a12, ⟨_, r12⟩, i12⟩, PySem.W.mg_of X G aC, b12⟩
  have C_inner : FnC l.prog w K mg base CX0 1 "inner_of" ["root"] (sp_inner K) := ⟨_, _, ok_inner F13 T , PySem.W.mg_of X G a13, k13, b13⟩
  have C_edgeX : MkC l.prog w K mg base (L2.CX l.prog w) 2 CE "Edge" ["self", "place"] (sp_einit CE) := ⟨_, _, ok_einit F14 T Re C_inner, ⟨mkCE, a14, i14, kcCE⟩, PySem.W.mg_of X G aCE, b14⟩
  have M_eofX : CmC l.prog w K mg base (L2.CX l.prog w) 4 CE "Edge" "of" ["cls", "ratio"] (sp_eof C CE) := ⟨_, _, _, ok_eof F15 T R C_edgeX, ⟨rdcCE, gacCE⟩, ⟨a15, ⟨_, r15⟩, i15⟩, PySem.W.mg_of X G aCE, b15⟩
  have M_eeq : MtC l.prog w K mg base CX0 1 CE "__eq__" ["self", "other"] (sp_eeq CE) := ⟨_, _, ok_eeq F16 T Re, ⟨a16, i16, k16⟩, b16⟩
  have C_classes : FnC l.prog w K mg base CX0 1 "classes_of" ["rows"] (sp_classes K) := ⟨_, _, ok_classes F17 T , PySem.W.mg_of X G a17, k17, b17⟩
  have C_least : FnC l.prog w K mg base CX0 2 "least_table" ["rows"] (sp_least K) := ⟨_, _, ok_least F18 T C_classes, PySem.W.mg_of X G a18, k18, b18⟩
  have C_walked : FnC l.prog w K mg base CX0 1 "walked" ["table", "at", "word"] (sp_walked K) := ⟨_, _, ok_walked F19 T , PySem.W.mg_of X G a19, k19, b19⟩
  have C_tow : FnC l.prog w K mg base CX0 3 "table_of_words" ["words"] (sp_tow K) := ⟨_, _, ok_tow F20 T C_least, PySem.W.mg_of X G a20, k20, b20⟩
  have C_rs : MkC l.prog w K mg base (L2.CX l.prog w) 2 CS "Ratios" ["self", "table"] (sp_rsinit K CS) := ⟨_, _, ok_rsinit F21 T Rs, ⟨mkCS, a21, i21, kcCS⟩, PySem.W.mg_of X G aCS, b21⟩
  have M_noneX : CmC l.prog w K mg base (L2.CX l.prog w) 4 CS "Ratios" "none" ["cls"] (sp_one K CS false) := ⟨_, _, _, ok_none F22 T G_NOTHING C_rs, ⟨rdcCS, gacCS⟩, ⟨a22, ⟨_, r22⟩, i22⟩, PySem.W.mg_of X G aCS, b22⟩
  have C_alive : FnC l.prog w K mg base CX0 1 "alive" ["table"] (sp_alive K) := ⟨_, _, ok_alive F23 T , PySem.W.mg_of X G a23, k23, b23⟩
  have M_ofX : CmC l.prog w K mg base (L2.CX l.prog w) 5 CS "Ratios" "of" ["cls", "some"] (sp_of K C CS) := ⟨_, _, _, ok_rsof F24 T P_word C_tow C_rs, ⟨rdcCS, gacCS⟩, ⟨a24, ⟨_, r24⟩, i24⟩, PySem.W.mg_of X G aCS, b24⟩
  have C_some : FnC l.prog w K mg base CX0 2 "_law_some_word" ["_law_box_here", "_law_most"] sp_lsome := ⟨_, _, ok_lsome F25 T C_take, PySem.W.mg_of X G a25, k25, b25⟩
  have C_pair : FnC l.prog w K mg base CX0 1 "_law_pair" ["_law_word"] sp_pair := ⟨_, _, ok_pair F26 T , PySem.W.mg_of X G a26, k26, b26⟩
  have C_ew : FnC l.prog w K mg base CX0 2 "edge_words" ["table", "first"] (sp_ew K) := ⟨_, _, ok_ew F27 T C_alive, PySem.W.mg_of X G a27, k27, b27⟩
  have C_told : FnC l.prog w K mg base CX0 8 "told_edge" ["found"] (sp_told CE) := ⟨_, _, ok_told F28 T R M_eofX.calm M_ofwordX.calm, PySem.W.mg_of X G a28, k28, b28⟩
  have C_lower : FnC l.prog w K mg base CX0 9 "lower" ["ratios"] (K28.sp_low K CE CS false) := ⟨_, _, ok_lower F29 T Rs C_ew C_told, PySem.W.mg_of X G a29, k29, b29⟩
  have C_upper : FnC l.prog w K mg base CX0 9 "upper" ["ratios"] (K28.sp_low K CE CS true) := ⟨_, _, ok_upper F30 T Rs C_ew C_told, PySem.W.mg_of X G a30, k30, b30⟩
  have C_due : FnC l.prog w K mg base CX0 6 "_law_due" ["_law_word"] (sp_due CE) := ⟨_, _, ok_due F31 T R C_pair C_ratioX.calm M_eofX.calm, PySem.W.mg_of X G a31, k31, b31⟩
  have C_sorted : FnC l.prog w K mg base CX0 2 "_law_sorted" ["_law_words_here"] (sp_sorted K) := ⟨_, _, ok_sorted F32 T , PySem.W.mg_of X G a32, k32, b32⟩
  exact ok_law F33 T R C_box C_take C_some C_pair C_sorted C_ratioX.calm M_ofX.calm M_noneX.calm C_lower C_upper C_due M_eeq
def zf0 : List (PySem.W.Frag → Bool) := [fun K => gloB K "UnmarkedError",
  fun K => PySem.W.readsIn K (He.ga K "UnmarkedError") (.type "type"),
  fun K => decide (PySem.W.specialIn K (.ref (He.ga K "UnmarkedError")) "__getattribute__" = some (some (.builtin "type.__getattribute__"))),
  fun K => clsB K (He.ga K "UnmarkedError") "__init__" (.builtin "ValueError.__init__"),
  fun K => gloB K "InvalidWord",
  fun K => errB K (He.ga K "InvalidWord") (He.ga K "UnmarkedError"),
  fun K => decide (PySem.W.findIn K (.ref (He.ga K "InvalidWord")) "__setattr__" = some (some (.builtin "object.__setattr__"))),
  fun K => decide (PySem.W.subIn K (.ref (He.ga K "InvalidWord")) (.type "BaseException") = some true),
  fun K => decide (PySem.W.typeIn K (.ref (He.ga K "InvalidWord")) = some (.type "type")),
  fun K => PySem.W.keepIn K (.ref (He.ga K "InvalidWord")),
  fun K => gloB K "InvalidRatio",
  fun K => errB K (He.ga K "InvalidRatio") (He.ga K "UnmarkedError"),
  fun K => decide (PySem.W.findIn K (.ref (He.ga K "InvalidRatio")) "__setattr__" = some (some (.builtin "object.__setattr__"))),
  fun K => decide (PySem.W.subIn K (.ref (He.ga K "InvalidRatio")) (.type "BaseException") = some true),
  fun K => decide (PySem.W.typeIn K (.ref (He.ga K "InvalidRatio")) = some (.type "type")),
  fun K => PySem.W.keepIn K (.ref (He.ga K "InvalidRatio")),
  fun K => PySem.W.hasDictIn K (He.ga K "UnmarkedError"),
  fun K => decide (PySem.W.subIn K (.ref (He.ga K "UnmarkedError")) (.type "BaseException") = some true),
  fun K => decide (PySem.W.typeIn K (.ref (He.ga K "UnmarkedError")) = some (.type "type")),
  fun K => PySem.W.hasDictIn K (He.ga K "InvalidWord"),
  fun K => PySem.W.hasDictIn K (He.ga K "InvalidRatio"),
  fun K => gloB K "Ratio",
  fun K => PySem.W.plainGet K (He.ga K "Ratio") Str.empty,
  fun K => PySem.W.hasDictIn K (He.ga K "Ratio"),
  fun K => PySem.W.plainOver K (He.ga K "Ratio"),
  fun K => decide (PySem.W.findIn K (.ref (He.ga K "Ratio")) "__setattr__" = some (some (.builtin "object.__setattr__"))),
  fun K => PySem.W.makesIn K (He.ga K "Ratio"),
  fun K => PySem.W.keepIn K (.ref (He.ga K "Ratio")),
  fun K => decide (PySem.W.findIn K (.ref (He.ga K "Ratio")) "__class__" = some (some (.builtin "object.__class__"))),
  fun K => decide (PySem.W.specialIn K (.builtin "object.__class__") "__get__" = some (some (.builtin "getset_descriptor.__get__"))),
  fun K => decide (PySem.W.takesIn K (.builtin "object.__class__") = some true),
  fun K => decide (PySem.W.mroIn K (He.ga K "Ratio") (.type "object") = some true),
  fun K => PySem.W.readsIn K (He.ga K "Ratio") (.type "type"),
  fun K => decide (PySem.W.specialIn K (.ref (He.ga K "Ratio")) "__getattribute__" = some (some (.builtin "type.__getattribute__"))),
  fun K => decide (PySem.W.findIn K (.ref (He.ga K "Ratio")) "first" = some none),
  fun K => decide (PySem.W.findIn K (.ref (He.ga K "Ratio")) "second" = some none),
  fun K => PySem.W.notFirst K (He.ga K "Ratio") (.ref (He.ga K "Ratio")),
  fun K => decide (PySem.W.findIn K (.ref (He.ga K "Ratio")) "__ne__" = some (some (.builtin "object.__ne__"))),
  fun K => decide (PySem.W.subIn K (.ref (He.ga K "Ratio")) (.type "object") = some true),
  fun K => gloB K "Ratios"]
def zf1 : List (PySem.W.Frag → Bool) := [fun K => PySem.W.plainGet K (He.ga K "Ratios") Str.empty,
  fun K => PySem.W.hasDictIn K (He.ga K "Ratios"),
  fun K => PySem.W.plainOver K (He.ga K "Ratios"),
  fun K => decide (PySem.W.findIn K (.ref (He.ga K "Ratios")) "__setattr__" = some (some (.builtin "object.__setattr__"))),
  fun K => PySem.W.makesIn K (He.ga K "Ratios"),
  fun K => PySem.W.keepIn K (.ref (He.ga K "Ratios")),
  fun K => decide (PySem.W.findIn K (.ref (He.ga K "Ratios")) "__class__" = some (some (.builtin "object.__class__"))),
  fun K => decide (PySem.W.mroIn K (He.ga K "Ratios") (.type "object") = some true),
  fun K => PySem.W.readsIn K (He.ga K "Ratios") (.type "type"),
  fun K => decide (PySem.W.specialIn K (.ref (He.ga K "Ratios")) "__getattribute__" = some (some (.builtin "type.__getattribute__"))),
  fun K => decide (PySem.W.findIn K (.ref (He.ga K "Ratios")) "table" = some none),
  fun K => PySem.W.notFirst K (He.ga K "Ratios") (.ref (He.ga K "Ratios")),
  fun K => decide (PySem.W.findIn K (.ref (He.ga K "Ratios")) "__ne__" = some (some (.builtin "object.__ne__"))),
  fun K => decide (PySem.W.subIn K (.ref (He.ga K "Ratios")) (.type "object") = some true),
  fun K => gloB K "Edge",
  fun K => PySem.W.plainGet K (He.ga K "Edge") Str.empty,
  fun K => PySem.W.hasDictIn K (He.ga K "Edge"),
  fun K => PySem.W.plainOver K (He.ga K "Edge"),
  fun K => decide (PySem.W.findIn K (.ref (He.ga K "Edge")) "__setattr__" = some (some (.builtin "object.__setattr__"))),
  fun K => PySem.W.makesIn K (He.ga K "Edge"),
  fun K => PySem.W.keepIn K (.ref (He.ga K "Edge")),
  fun K => decide (PySem.W.findIn K (.ref (He.ga K "Edge")) "__class__" = some (some (.builtin "object.__class__"))),
  fun K => decide (PySem.W.mroIn K (He.ga K "Edge") (.type "object") = some true),
  fun K => PySem.W.readsIn K (He.ga K "Edge") (.type "type"),
  fun K => decide (PySem.W.specialIn K (.ref (He.ga K "Edge")) "__getattribute__" = some (some (.builtin "type.__getattribute__"))),
  fun K => decide (PySem.W.findIn K (.ref (He.ga K "Edge")) "place" = some none),
  fun K => decide (PySem.W.findIn K (.ref (He.ga K "Edge")) "numbers" = some none),
  fun K => PySem.W.notFirst K (He.ga K "Edge") (.ref (He.ga K "Edge")),
  fun K => decide (PySem.W.findIn K (.ref (He.ga K "Edge")) "__ne__" = some (some (.builtin "object.__ne__"))),
  fun K => decide (PySem.W.subIn K (.ref (He.ga K "Edge")) (.type "object") = some true),
  fun K => gloB K "_law_take",
  fun K => PySem.W.keepIn K (.ref (He.ga K "_law_take")),
  fun K => gloB K "_law_box",
  fun K => PySem.W.keepIn K (.ref (He.ga K "_law_box")),
  fun K => gloB K "is_integer",
  fun K => PySem.W.keepIn K (.ref (He.ga K "is_integer")),
  fun K => gloB K "is_length",
  fun K => PySem.W.keepIn K (.ref (He.ga K "is_length")),
  fun K => gloB K "common_length",
  fun K => PySem.W.keepIn K (.ref (He.ga K "common_length"))]
def zf2 : List (PySem.W.Frag → Bool) := [fun K => methB K (He.ga K "InvalidWord") "__init__",
  fun K => decide (PySem.W.typeIn K (.ref (He.ma K (He.ga K "InvalidWord") "__init__")) = some (.type "function")),
  fun K => PySem.W.keepIn K (.ref (He.ma K (He.ga K "InvalidWord") "__init__")),
  fun K => methB K (He.ga K "InvalidRatio") "__init__",
  fun K => decide (PySem.W.typeIn K (.ref (He.ma K (He.ga K "InvalidRatio") "__init__")) = some (.type "function")),
  fun K => PySem.W.keepIn K (.ref (He.ma K (He.ga K "InvalidRatio") "__init__")),
  fun K => methB K (He.ga K "Ratio") "__init__",
  fun K => PySem.W.isFn K (.ref (He.ma K (He.ga K "Ratio") "__init__")),
  fun K => PySem.W.keepIn K (.ref (He.ma K (He.ga K "Ratio") "__init__")),
  fun K => gloB K "need_word",
  fun K => PySem.W.keepIn K (.ref (He.ga K "need_word")),
  fun K => gloB K "word_of_lengths",
  fun K => PySem.W.keepIn K (.ref (He.ga K "word_of_lengths")),
  fun K => methB K (He.ga K "Ratio") "word",
  fun K => decide (PySem.W.specialIn K (.ref (He.ma K (He.ga K "Ratio") "word")) "__get__" = some (some (.builtin "property.__get__"))),
  fun K => decide (PySem.W.takesIn K (.ref (He.ma K (He.ga K "Ratio") "word")) = some true),
  fun K => rcB K (He.ma K (He.ga K "Ratio") "word") "property",
  fun K => PySem.W.keepIn K (.ref (rcA K (He.ma K (He.ga K "Ratio") "word") "property")),
  fun K => cmB K (He.ga K "Ratio") "of_word",
  fun K => rcB K (cmA K (He.ga K "Ratio") "of_word") "classmethod",
  fun K => PySem.W.fnIn K (rcA K (cmA K (He.ga K "Ratio") "of_word") "classmethod"),
  fun K => PySem.W.keepIn K (.ref (rcA K (cmA K (He.ga K "Ratio") "of_word") "classmethod")),
  fun K => gloB K "inner_of",
  fun K => PySem.W.keepIn K (.ref (He.ga K "inner_of")),
  fun K => methB K (He.ga K "Edge") "__init__",
  fun K => PySem.W.isFn K (.ref (He.ma K (He.ga K "Edge") "__init__")),
  fun K => PySem.W.keepIn K (.ref (He.ma K (He.ga K "Edge") "__init__")),
  fun K => cmB K (He.ga K "Edge") "of",
  fun K => rcB K (cmA K (He.ga K "Edge") "of") "classmethod",
  fun K => PySem.W.fnIn K (rcA K (cmA K (He.ga K "Edge") "of") "classmethod"),
  fun K => PySem.W.keepIn K (.ref (rcA K (cmA K (He.ga K "Edge") "of") "classmethod")),
  fun K => methB K (He.ga K "Edge") "__eq__",
  fun K => PySem.W.isFn K (.ref (He.ma K (He.ga K "Edge") "__eq__")),
  fun K => PySem.W.keepIn K (.ref (He.ma K (He.ga K "Edge") "__eq__")),
  fun K => gloB K "classes_of",
  fun K => PySem.W.keepIn K (.ref (He.ga K "classes_of")),
  fun K => gloB K "least_table",
  fun K => PySem.W.keepIn K (.ref (He.ga K "least_table")),
  fun K => gloB K "walked",
  fun K => PySem.W.keepIn K (.ref (He.ga K "walked"))]
def zf3 : List (PySem.W.Frag → Bool) := [fun K => gloB K "table_of_words",
  fun K => PySem.W.keepIn K (.ref (He.ga K "table_of_words")),
  fun K => methB K (He.ga K "Ratios") "__init__",
  fun K => PySem.W.isFn K (.ref (He.ma K (He.ga K "Ratios") "__init__")),
  fun K => PySem.W.keepIn K (.ref (He.ma K (He.ga K "Ratios") "__init__")),
  fun K => cmB K (He.ga K "Ratios") "none",
  fun K => rcB K (cmA K (He.ga K "Ratios") "none") "classmethod",
  fun K => PySem.W.fnIn K (rcA K (cmA K (He.ga K "Ratios") "none") "classmethod"),
  fun K => PySem.W.keepIn K (.ref (rcA K (cmA K (He.ga K "Ratios") "none") "classmethod")),
  fun K => gloB K "alive",
  fun K => PySem.W.keepIn K (.ref (He.ga K "alive")),
  fun K => cmB K (He.ga K "Ratios") "of",
  fun K => rcB K (cmA K (He.ga K "Ratios") "of") "classmethod",
  fun K => PySem.W.fnIn K (rcA K (cmA K (He.ga K "Ratios") "of") "classmethod"),
  fun K => PySem.W.keepIn K (.ref (rcA K (cmA K (He.ga K "Ratios") "of") "classmethod")),
  fun K => gloB K "_law_some_word",
  fun K => PySem.W.keepIn K (.ref (He.ga K "_law_some_word")),
  fun K => gloB K "_law_pair",
  fun K => PySem.W.keepIn K (.ref (He.ga K "_law_pair")),
  fun K => gloB K "edge_words",
  fun K => PySem.W.keepIn K (.ref (He.ga K "edge_words")),
  fun K => gloB K "told_edge",
  fun K => PySem.W.keepIn K (.ref (He.ga K "told_edge")),
  fun K => gloB K "lower",
  fun K => PySem.W.keepIn K (.ref (He.ga K "lower")),
  fun K => gloB K "upper",
  fun K => PySem.W.keepIn K (.ref (He.ga K "upper")),
  fun K => gloB K "_law_due",
  fun K => PySem.W.keepIn K (.ref (He.ga K "_law_due")),
  fun K => gloB K "_law_sorted",
  fun K => PySem.W.keepIn K (.ref (He.ga K "_law_sorted")),
  fun K => gloB K "law",
  fun K => PySem.W.keepIn K (.ref (He.ga K "law")),
  fun K => freeB K "ValueError",
  fun K => freeB K "abs",
  fun K => freeB K "all",
  fun K => freeB K "any",
  fun K => freeB K "bool",
  fun K => freeB K "enumerate",
  fun K => freeB K "int"]
def zf4 : List (PySem.W.Frag → Bool) := [fun K => freeB K "isinstance",
  fun K => freeB K "len",
  fun K => freeB K "list",
  fun K => freeB K "max",
  fun K => freeB K "min",
  fun K => freeB K "range",
  fun K => freeB K "repr",
  fun K => freeB K "sorted",
  fun K => freeB K "str",
  fun K => freeB K "sum",
  fun K => freeB K "tuple",
  fun K => freeB K "zip",
  fun K => gloB K "NOTHING",
  fun K => tupB K (He.ga K "NOTHING") isRef1,
  fun K => tupB K (tupRef K (He.ga K "NOTHING") 0) (isBR false),
  fun K => tupB K (tupRef K (tupRef K (He.ga K "NOTHING") 0) 1) (isInts [0, 0])]
def zfs : List (PySem.W.Frag → Bool) := zf0 ++ (zf1 ++ (zf2 ++ (zf3 ++ (zf4))))
def zfF0 : List (PySem.W.Frag → Bool) := zf0 ++ (zf1 ++ (zf2))
def zfF1 : List (PySem.W.Frag → Bool) := zf3 ++ (zf4)
theorem zfs_eq : zfs = List.flatten [zfF0, zfF1] := by rfl
def zfD0 : List FZ := [⟨fun K => (He.ga K "_law_take"), "_law_take", "_law_take", S__law_take⟩,
  ⟨fun K => (He.ga K "_law_box"), "_law_box", "_law_box", S__law_box⟩,
  ⟨fun K => (He.ga K "is_integer"), "is_integer", "is_integer", S_is_integer⟩,
  ⟨fun K => (He.ga K "is_length"), "is_length", "is_length", S_is_length⟩,
  ⟨fun K => (He.ga K "common_length"), "common_length", "common_length", S_common_length⟩,
  ⟨fun K => (He.ma K (He.ga K "InvalidWord") "__init__"), "__init__", "InvalidWord.__init__", S_InvalidWord__init_⟩,
  ⟨fun K => (He.ma K (He.ga K "InvalidRatio") "__init__"), "__init__", "InvalidRatio.__init__", S_InvalidRatio__init_⟩,
  ⟨fun K => (He.ma K (He.ga K "Ratio") "__init__"), "__init__", "Ratio.__init__", S_Ratio__init_⟩,
  ⟨fun K => (He.ga K "need_word"), "need_word", "need_word", S_need_word⟩,
  ⟨fun K => (He.ga K "word_of_lengths"), "word_of_lengths", "word_of_lengths", S_word_of_lengths⟩,
  ⟨fun K => (rcA K (He.ma K (He.ga K "Ratio") "word") "property"), "word", "Ratio.word", S_Ratio_word⟩]
def zfD1 : List FZ := [⟨fun K => (rcA K (cmA K (He.ga K "Ratio") "of_word") "classmethod"), "of_word", "Ratio.of_word", S_Ratio_of_word⟩,
  ⟨fun K => (He.ga K "inner_of"), "inner_of", "inner_of", S_inner_of⟩,
  ⟨fun K => (He.ma K (He.ga K "Edge") "__init__"), "__init__", "Edge.__init__", S_Edge__init_⟩,
  ⟨fun K => (rcA K (cmA K (He.ga K "Edge") "of") "classmethod"), "of", "Edge.of", S_Edge_of⟩,
  ⟨fun K => (He.ma K (He.ga K "Edge") "__eq__"), "__eq__", "Edge.__eq__", S_Edge__eq_⟩,
  ⟨fun K => (He.ga K "classes_of"), "classes_of", "classes_of", S_classes_of⟩,
  ⟨fun K => (He.ga K "least_table"), "least_table", "least_table", S_least_table⟩,
  ⟨fun K => (He.ga K "walked"), "walked", "walked", S_walked⟩,
  ⟨fun K => (He.ga K "table_of_words"), "table_of_words", "table_of_words", S_table_of_words⟩,
  ⟨fun K => (He.ma K (He.ga K "Ratios") "__init__"), "__init__", "Ratios.__init__", S_Ratios__init_⟩,
  ⟨fun K => (rcA K (cmA K (He.ga K "Ratios") "none") "classmethod"), "none", "Ratios.none", S_Ratios_none⟩]
def zfD2 : List FZ := [⟨fun K => (He.ga K "alive"), "alive", "alive", S_alive⟩,
  ⟨fun K => (rcA K (cmA K (He.ga K "Ratios") "of") "classmethod"), "of", "Ratios.of", S_Ratios_of⟩,
  ⟨fun K => (He.ga K "_law_some_word"), "_law_some_word", "_law_some_word", S__law_some_word⟩,
  ⟨fun K => (He.ga K "_law_pair"), "_law_pair", "_law_pair", S__law_pair⟩,
  ⟨fun K => (He.ga K "edge_words"), "edge_words", "edge_words", S_edge_words⟩,
  ⟨fun K => (He.ga K "told_edge"), "told_edge", "told_edge", S_told_edge⟩,
  ⟨fun K => (He.ga K "lower"), "lower", "lower", S_lower⟩,
  ⟨fun K => (He.ga K "upper"), "upper", "upper", S_upper⟩,
  ⟨fun K => (He.ga K "_law_due"), "_law_due", "_law_due", S__law_due⟩,
  ⟨fun K => (He.ga K "_law_sorted"), "_law_sorted", "_law_sorted", S__law_sorted⟩,
  ⟨fun K => (He.ga K "law"), "law", "law", S_law⟩]
def zfn : List FZ := [⟨fun K => (He.ga K "_law_take"), "_law_take", "_law_take", S__law_take⟩,
  ⟨fun K => (He.ga K "_law_box"), "_law_box", "_law_box", S__law_box⟩,
  ⟨fun K => (He.ga K "is_integer"), "is_integer", "is_integer", S_is_integer⟩,
  ⟨fun K => (He.ga K "is_length"), "is_length", "is_length", S_is_length⟩,
  ⟨fun K => (He.ga K "common_length"), "common_length", "common_length", S_common_length⟩,
  ⟨fun K => (He.ma K (He.ga K "InvalidWord") "__init__"), "__init__", "InvalidWord.__init__", S_InvalidWord__init_⟩,
  ⟨fun K => (He.ma K (He.ga K "InvalidRatio") "__init__"), "__init__", "InvalidRatio.__init__", S_InvalidRatio__init_⟩,
  ⟨fun K => (He.ma K (He.ga K "Ratio") "__init__"), "__init__", "Ratio.__init__", S_Ratio__init_⟩,
  ⟨fun K => (He.ga K "need_word"), "need_word", "need_word", S_need_word⟩,
  ⟨fun K => (He.ga K "word_of_lengths"), "word_of_lengths", "word_of_lengths", S_word_of_lengths⟩,
  ⟨fun K => (rcA K (He.ma K (He.ga K "Ratio") "word") "property"), "word", "Ratio.word", S_Ratio_word⟩,
  ⟨fun K => (rcA K (cmA K (He.ga K "Ratio") "of_word") "classmethod"), "of_word", "Ratio.of_word", S_Ratio_of_word⟩,
  ⟨fun K => (He.ga K "inner_of"), "inner_of", "inner_of", S_inner_of⟩,
  ⟨fun K => (He.ma K (He.ga K "Edge") "__init__"), "__init__", "Edge.__init__", S_Edge__init_⟩,
  ⟨fun K => (rcA K (cmA K (He.ga K "Edge") "of") "classmethod"), "of", "Edge.of", S_Edge_of⟩,
  ⟨fun K => (He.ma K (He.ga K "Edge") "__eq__"), "__eq__", "Edge.__eq__", S_Edge__eq_⟩,
  ⟨fun K => (He.ga K "classes_of"), "classes_of", "classes_of", S_classes_of⟩,
  ⟨fun K => (He.ga K "least_table"), "least_table", "least_table", S_least_table⟩,
  ⟨fun K => (He.ga K "walked"), "walked", "walked", S_walked⟩,
  ⟨fun K => (He.ga K "table_of_words"), "table_of_words", "table_of_words", S_table_of_words⟩,
  ⟨fun K => (He.ma K (He.ga K "Ratios") "__init__"), "__init__", "Ratios.__init__", S_Ratios__init_⟩,
  ⟨fun K => (rcA K (cmA K (He.ga K "Ratios") "none") "classmethod"), "none", "Ratios.none", S_Ratios_none⟩,
  ⟨fun K => (He.ga K "alive"), "alive", "alive", S_alive⟩,
  ⟨fun K => (rcA K (cmA K (He.ga K "Ratios") "of") "classmethod"), "of", "Ratios.of", S_Ratios_of⟩,
  ⟨fun K => (He.ga K "_law_some_word"), "_law_some_word", "_law_some_word", S__law_some_word⟩,
  ⟨fun K => (He.ga K "_law_pair"), "_law_pair", "_law_pair", S__law_pair⟩,
  ⟨fun K => (He.ga K "edge_words"), "edge_words", "edge_words", S_edge_words⟩,
  ⟨fun K => (He.ga K "told_edge"), "told_edge", "told_edge", S_told_edge⟩,
  ⟨fun K => (He.ga K "lower"), "lower", "lower", S_lower⟩,
  ⟨fun K => (He.ga K "upper"), "upper", "upper", S_upper⟩,
  ⟨fun K => (He.ga K "_law_due"), "_law_due", "_law_due", S__law_due⟩,
  ⟨fun K => (He.ga K "_law_sorted"), "_law_sorted", "_law_sorted", S__law_sorted⟩,
  ⟨fun K => (He.ga K "law"), "law", "law", S_law⟩]
theorem zfn_eq : zfn = List.flatten [zfD0, zfD1, zfD2] := by rfl
/-- the run looked at in parts -/
theorem zparts {S B : Type} {X : Option S} {lk : S → Bool} {sn : S → B} {Kf : S → PySem.W.Frag} {good : B} {fs : List (PySem.W.Frag → Bool)} {fn : List FZ} {Fs : List (List (PySem.W.Frag → Bool))} {Ds : List (List FZ)} (ef : fs = Fs.flatten) (ed : fn = Ds.flatten)
    (h1 : X.map (fun s => (lk s, sn s)) = some (true, good)) (h2 : ∀ F ∈ Fs, X.map (fun s => F.all fun f => f (Kf s)) = some true) (h3 : ∀ D ∈ Ds, X.map (fun s => (D.all (fun d => fzCode (Kf s) (d.at_ (Kf s)) d.qual), D.map fun d => fzObs (Kf s) (d.at_ (Kf s)))) = some (true, D.map FZ.val)) :
    X.map (fun s => (lk s, sn s, obsZ fs fn (Kf s))) = some (true, good, valZ fn) := by
  subst ef
  subst ed
  cases X with
  | none => cases h1
  | some s =>
    have e1 := Prod.mk.inj (Option.some.inj h1)
    have e2 : (Fs.flatten.all fun f => f (Kf s)) = true := by
      rw [List.all_eq_true]
      intro f hf
      obtain ⟨F, hF, hm⟩ := List.mem_flatten.mp hf
      exact List.all_eq_true.mp (Option.some.inj (h2 F hF)) f hm
    have e3 : (Ds.flatten.all fun d => fzCode (Kf s) (d.at_ (Kf s)) d.qual) = true := by
      rw [List.all_eq_true]
      intro d hd
      obtain ⟨D, hD, hm⟩ := List.mem_flatten.mp hd
      exact List.all_eq_true.mp (Prod.mk.inj (Option.some.inj (h3 D hD))).1 d hm
    have e4 : (Ds.flatten.map fun d => fzObs (Kf s) (d.at_ (Kf s))) = Ds.flatten.map FZ.val := List.map_congr_left fun d hd => by
      obtain ⟨D, hD, hm⟩ := List.mem_flatten.mp hd
      exact List.map_inj_left.mp (Prod.mk.inj (Option.some.inj (h3 D hD))).2 d hm
    show some (lk s, sn s, obsZ Fs.flatten Ds.flatten (Kf s)) = _
    unfold obsZ valZ
    rw [e1.1, e1.2, e2, e3, e4]
    rfl
def zl0 : List PySem.Str := ["_wall", "__name__", "UnmarkedError", "InvalidWord", "InvalidRatio", "InvalidChange", "InvalidEdge", "NoPair", "NoRatio", "DIGITS", "MOST_DIGITS", "is_integer", "is_length", "need_word", "number_of", "common_length", "word_of_lengths", "Ratio", "SAME", "lengths_made", "numbers_behind", "numbers_of_word", "numbers_joined", "Change", "common", "sign_of", "whole_root", "sign_with_root", "sign_with_roots", "lowered"]
def zl1 : List PySem.Str := ["inner_of", "compared", "changed", "fixed", "step", "first_letters", "parts_of", "FIGURES", "integer_told", "root_told", "Edge", "place_behind", "BOTH", "EITHER", "FIRST", "ONE", "classes_of", "least_table", "walked", "joined", "turned_about", "begun_at", "put_behind", "table_of_words", "table_below", "times_letter", "settled", "is_led", "table_led_back", "carried"]
def zl2 : List PySem.Str := ["alive", "counts_of", "word_at", "edge_words", "NOTHING", "ALL", "table_under", "Ratios", "told_edge", "lower", "upper", "_law_box", "_law_take", "_law_words", "_law_pair", "_law_some_word", "_law_has", "_law_sorted", "_law_due"]
def zls : List PySem.Str := zl0 ++ (zl1 ++ (zl2))
abbrev zhk : PySem.W.Hook := hookZ 5 zfs zfn
def zob (s : PySem.W.SharedT) : AlZ := obsZG 5 zfs zfn (HandSHeadRun.getT s)
theorem zob_eq (s : PySem.W.SharedT) : zob s = zhk.obs s.abs := obsZG_eq (HandSHeadRun.getT_eq s)
abbrev zK (s : PySem.W.SharedT) : PySem.W.Frag := He.frG (HandSHeadRun.getT s) (asZ (HandSHeadRun.getT s) 5)
open PySem.W PySem.Calls in
theorem zrun1 (w : World) (os : OsState) : (HandSHeadRun.endF (HandSHeadRun.stepQ (HandSHeadRun.denQ HandSHeadRun.tabQ) (PySem.W.OpenLaw.row PySem.Challenge.rw_unmarked_k28_edges_of_told_ratios).prog w) 20000 (PySem.W.OpenLaw.row PySem.Challenge.rw_unmarked_k28_edges_of_told_ratios).prog w os).map (fun s => (HandSHeadRun.looksF (PySem.W.OpenLaw.row PySem.Challenge.rw_unmarked_k28_edges_of_told_ratios).prog (boot_heap w.params) s.abs, HandSHeadRun.seenQ (view (PySem.W.OpenLaw.row PySem.Challenge.rw_unmarked_k28_edges_of_told_ratios).prog [88]) zls (importedModules (PySem.W.OpenLaw.row PySem.Challenge.rw_unmarked_k28_edges_of_told_ratios).prog.main.body) (fun s => xlAt (view (PySem.W.OpenLaw.row PySem.Challenge.rw_unmarked_k28_edges_of_told_ratios).prog [88]) [] s && recOk (PySem.W.OpenLaw.row PySem.Challenge.rw_unmarked_k28_edges_of_told_ratios).toRowW.records s) s.abs)) = some (true, openGood (view (PySem.W.OpenLaw.row PySem.Challenge.rw_unmarked_k28_edges_of_told_ratios).prog [88]) zls) := by
  kernel_rfl
theorem zrunF0 (w : World) (os : OsState) : (HandSHeadRun.endF (HandSHeadRun.stepQ (HandSHeadRun.denQ HandSHeadRun.tabQ) (PySem.W.OpenLaw.row PySem.Challenge.rw_unmarked_k28_edges_of_told_ratios).prog w) 20000 (PySem.W.OpenLaw.row PySem.Challenge.rw_unmarked_k28_edges_of_told_ratios).prog w os).map (fun s => zfF0.all fun f => f (zK s)) = some true := by
  kernel_rfl
theorem zrunF1 (w : World) (os : OsState) : (HandSHeadRun.endF (HandSHeadRun.stepQ (HandSHeadRun.denQ HandSHeadRun.tabQ) (PySem.W.OpenLaw.row PySem.Challenge.rw_unmarked_k28_edges_of_told_ratios).prog w) 20000 (PySem.W.OpenLaw.row PySem.Challenge.rw_unmarked_k28_edges_of_told_ratios).prog w os).map (fun s => zfF1.all fun f => f (zK s)) = some true := by
  kernel_rfl
theorem zrunD0 (w : World) (os : OsState) : (HandSHeadRun.endF (HandSHeadRun.stepQ (HandSHeadRun.denQ HandSHeadRun.tabQ) (PySem.W.OpenLaw.row PySem.Challenge.rw_unmarked_k28_edges_of_told_ratios).prog w) 20000 (PySem.W.OpenLaw.row PySem.Challenge.rw_unmarked_k28_edges_of_told_ratios).prog w os).map (fun s => (zfD0.all (fun d => fzCode (zK s) (d.at_ (zK s)) d.qual), zfD0.map fun d => fzObs (zK s) (d.at_ (zK s)))) = some (true, zfD0.map FZ.val) := by
  kernel_rfl
theorem zrunD1 (w : World) (os : OsState) : (HandSHeadRun.endF (HandSHeadRun.stepQ (HandSHeadRun.denQ HandSHeadRun.tabQ) (PySem.W.OpenLaw.row PySem.Challenge.rw_unmarked_k28_edges_of_told_ratios).prog w) 20000 (PySem.W.OpenLaw.row PySem.Challenge.rw_unmarked_k28_edges_of_told_ratios).prog w os).map (fun s => (zfD1.all (fun d => fzCode (zK s) (d.at_ (zK s)) d.qual), zfD1.map fun d => fzObs (zK s) (d.at_ (zK s)))) = some (true, zfD1.map FZ.val) := by
  kernel_rfl
theorem zrunD2 (w : World) (os : OsState) : (HandSHeadRun.endF (HandSHeadRun.stepQ (HandSHeadRun.denQ HandSHeadRun.tabQ) (PySem.W.OpenLaw.row PySem.Challenge.rw_unmarked_k28_edges_of_told_ratios).prog w) 20000 (PySem.W.OpenLaw.row PySem.Challenge.rw_unmarked_k28_edges_of_told_ratios).prog w os).map (fun s => (zfD2.all (fun d => fzCode (zK s) (d.at_ (zK s)) d.qual), zfD2.map fun d => fzObs (zK s) (d.at_ (zK s)))) = some (true, zfD2.map FZ.val) := by
  kernel_rfl
set_option maxHeartbeats 0 in
theorem zrun (w : World) : HandSHeadRun.RunEq (PySem.W.OpenLaw.row PySem.Challenge.rw_unmarked_k28_edges_of_told_ratios) (PySem.W.view (PySem.W.OpenLaw.row PySem.Challenge.rw_unmarked_k28_edges_of_told_ratios).prog [88]) zhk zob 20000 zls w := by
  intro os
  have h := zparts (Kf := zK) zfs_eq zfn_eq (zrun1 w os) (List.forall_mem_cons.mpr ⟨zrunF0 w os, (List.forall_mem_cons.mpr ⟨zrunF1 w os, (fun _ h => nomatch h)⟩)⟩) (List.forall_mem_cons.mpr ⟨zrunD0 w os, (List.forall_mem_cons.mpr ⟨zrunD1 w os, (List.forall_mem_cons.mpr ⟨zrunD2 w os, (fun _ h => nomatch h)⟩)⟩)⟩)
  exact h
theorem zfacts {w : World} {K : PySem.W.Frag} {h : Heap} {mg : Str → Option Value} {fa : Addr} (X : K.In h) (G : h.Ns mainGlobals mg) (hfa : mg "law" = some (.ref fa)) (c : SaysZ zfs zfn K) :
    ∃ fd : FuncData, (∀ (s : Shared) (v : Value), BindsTo s fd ⟨[v], []⟩ [("_law_script", v)]) ∧ ∀ base : Heap, K.In base → base.Ns mainGlobals mg → FnOk (PySem.Challenge.rw_unmarked_k28_edges_of_told_ratios).prog w K mg base CX0 11 fa fd ["_law_script"] (Lw.K28.sp_law K) := by
  obtain ⟨_, _, _, _, _, _, _, _, _, _, _, _, _, _, h_xInvalidWord⟩ := errB_ok (c.fact 5 rfl)
  obtain ⟨_, _, _, _, _, _, _, _, _, _, _, _, _, _, h_xInvalidRatio⟩ := errB_ok (c.fact 11 rfl)
  obtain ⟨_, _, _, _, _, _, _, _, _, h_l1, h_c1⟩ := c.def_ 0 rfl
  obtain ⟨_, _, _, _, _, _, _, _, _, h_l2, h_c2⟩ := c.def_ 1 rfl
  obtain ⟨_, _, _, _, _, _, _, _, _, h_l3, h_c3⟩ := c.def_ 2 rfl
  obtain ⟨_, _, _, _, _, _, _, _, _, h_l4, h_c4⟩ := c.def_ 3 rfl
  obtain ⟨_, _, _, _, _, _, _, _, _, h_l5, h_c5⟩ := c.def_ 4 rfl
  obtain ⟨_, _, _, _, _, _, _, _, _, h_l6, h_c6⟩ := c.def_ 5 rfl
  obtain ⟨_, _, _, _, _, _, _, _, _, h_l7, h_c7⟩ := c.def_ 6 rfl
  obtain ⟨_, _, _, _, _, _, _, _, _, h_l8, h_c8⟩ := c.def_ 7 rfl
  obtain ⟨_, _, _, _, _, _, _, _, _, h_l9, h_c9⟩ := c.def_ 8 rfl
  obtain ⟨_, _, _, _, _, _, _, _, _, h_l10, h_c10⟩ := c.def_ 9 rfl
  obtain ⟨_, h_r11⟩ := rcB_ok (c.fact 96 rfl)
  obtain ⟨_, _, _, _, _, _, _, _, _, h_l11, h_c11⟩ := c.def_ 10 rfl
  obtain ⟨_, h_r12⟩ := rcB_ok (c.fact 99 rfl)
  obtain ⟨_, _, _, _, _, _, _, _, _, h_l12, h_c12⟩ := c.def_ 11 rfl
  obtain ⟨_, _, _, _, _, _, _, _, _, h_l13, h_c13⟩ := c.def_ 12 rfl
  obtain ⟨_, _, _, _, _, _, _, _, _, h_l14, h_c14⟩ := c.def_ 13 rfl
  obtain ⟨_, h_r15⟩ := rcB_ok (c.fact 108 rfl)
  obtain ⟨_, _, _, _, _, _, _, _, _, h_l15, h_c15⟩ := c.def_ 14 rfl
  obtain ⟨_, _, _, _, _, _, _, _, _, h_l16, h_c16⟩ := c.def_ 15 rfl
  obtain ⟨_, _, _, _, _, _, _, _, _, h_l17, h_c17⟩ := c.def_ 16 rfl
  obtain ⟨_, _, _, _, _, _, _, _, _, h_l18, h_c18⟩ := c.def_ 17 rfl
  obtain ⟨_, _, _, _, _, _, _, _, _, h_l19, h_c19⟩ := c.def_ 18 rfl
  obtain ⟨_, _, _, _, _, _, _, _, _, h_l20, h_c20⟩ := c.def_ 19 rfl
  obtain ⟨_, _, _, _, _, _, _, _, _, h_l21, h_c21⟩ := c.def_ 20 rfl
  obtain ⟨_, h_r22⟩ := rcB_ok (c.fact 126 rfl)
  obtain ⟨_, _, _, _, _, _, _, _, _, h_l22, h_c22⟩ := c.def_ 21 rfl
  obtain ⟨_, _, _, _, _, _, _, _, _, h_l23, h_c23⟩ := c.def_ 22 rfl
  obtain ⟨_, h_r24⟩ := rcB_ok (c.fact 132 rfl)
  obtain ⟨_, _, _, _, _, _, _, _, _, h_l24, h_c24⟩ := c.def_ 23 rfl
  obtain ⟨_, _, _, _, _, _, _, _, _, h_l25, h_c25⟩ := c.def_ 24 rfl
  obtain ⟨_, _, _, _, _, _, _, _, _, h_l26, h_c26⟩ := c.def_ 25 rfl
  obtain ⟨_, _, _, _, _, _, _, _, _, h_l27, h_c27⟩ := c.def_ 26 rfl
  obtain ⟨_, _, _, _, _, _, _, _, _, h_l28, h_c28⟩ := c.def_ 27 rfl
  obtain ⟨_, _, _, _, _, _, _, _, _, h_l29, h_c29⟩ := c.def_ 28 rfl
  obtain ⟨_, _, _, _, _, _, _, _, _, h_l30, h_c30⟩ := c.def_ 29 rfl
  obtain ⟨_, _, _, _, _, _, _, _, _, h_l31, h_c31⟩ := c.def_ 30 rfl
  obtain ⟨_, _, _, _, _, _, _, _, _, h_l32, h_c32⟩ := c.def_ 31 rfl
  obtain ⟨_, _, _, _, _, _, _, _, _, h_l33, h_c33⟩ := c.def_ 32 rfl
  obtain ⟨_, _, _, _, _, _, _, _, _, _, _, _, _, h_g1NOTHING, h_g2NOTHING, h_g3NOTHING⟩ := tab_ok (b := false) (c.fact 173 rfl) (c.fact 174 rfl) (c.fact 175 rfl)
  exact all_mk X G hfa
    (gloB_ok (c.fact 0 rfl))
    (c.fact 1 rfl)
    (of_decide_eq_true (c.fact 2 rfl))
    (clsB_ok (c.fact 3 rfl))
    (gloB_ok (c.fact 4 rfl))
    h_xInvalidWord
    (of_decide_eq_true (c.fact 6 rfl))
    (of_decide_eq_true (c.fact 7 rfl))
    (of_decide_eq_true (c.fact 8 rfl))
    (c.fact 9 rfl)
    (gloB_ok (c.fact 10 rfl))
    h_xInvalidRatio
    (of_decide_eq_true (c.fact 12 rfl))
    (of_decide_eq_true (c.fact 13 rfl))
    (of_decide_eq_true (c.fact 14 rfl))
    (c.fact 15 rfl)
    (c.fact 16 rfl)
    (of_decide_eq_true (c.fact 17 rfl))
    (of_decide_eq_true (c.fact 18 rfl))
    (c.fact 19 rfl)
    (c.fact 20 rfl)
    (gloB_ok (c.fact 21 rfl))
    (c.fact 22 rfl)
    (c.fact 23 rfl)
    (c.fact 24 rfl)
    (of_decide_eq_true (c.fact 25 rfl))
    (c.fact 26 rfl)
    (c.fact 27 rfl)
    (of_decide_eq_true (c.fact 28 rfl))
    (of_decide_eq_true (c.fact 29 rfl))
    (of_decide_eq_true (c.fact 30 rfl))
    (of_decide_eq_true (c.fact 31 rfl))
    (c.fact 32 rfl)
    (of_decide_eq_true (c.fact 33 rfl))
    (of_decide_eq_true (c.fact 34 rfl))
    (of_decide_eq_true (c.fact 35 rfl))
    (c.fact 36 rfl)
    (of_decide_eq_true (c.fact 37 rfl))
    (of_decide_eq_true (c.fact 38 rfl))
    (gloB_ok (c.fact 39 rfl))
    (c.fact 40 rfl)
    (c.fact 41 rfl)
    (c.fact 42 rfl)
    (of_decide_eq_true (c.fact 43 rfl))
    (c.fact 44 rfl)
    (c.fact 45 rfl)
    (of_decide_eq_true (c.fact 46 rfl))
    (of_decide_eq_true (c.fact 29 rfl))
    (of_decide_eq_true (c.fact 30 rfl))
    (of_decide_eq_true (c.fact 47 rfl))
    (c.fact 48 rfl)
    (of_decide_eq_true (c.fact 49 rfl))
    (of_decide_eq_true (c.fact 50 rfl))
    (c.fact 51 rfl)
    (of_decide_eq_true (c.fact 52 rfl))
    (of_decide_eq_true (c.fact 53 rfl))
    (gloB_ok (c.fact 54 rfl))
    (c.fact 55 rfl)
    (c.fact 56 rfl)
    (c.fact 57 rfl)
    (of_decide_eq_true (c.fact 58 rfl))
    (c.fact 59 rfl)
    (c.fact 60 rfl)
    (of_decide_eq_true (c.fact 61 rfl))
    (of_decide_eq_true (c.fact 29 rfl))
    (of_decide_eq_true (c.fact 30 rfl))
    (of_decide_eq_true (c.fact 62 rfl))
    (c.fact 63 rfl)
    (of_decide_eq_true (c.fact 64 rfl))
    (of_decide_eq_true (c.fact 65 rfl))
    (of_decide_eq_true (c.fact 66 rfl))
    (c.fact 67 rfl)
    (of_decide_eq_true (c.fact 68 rfl))
    (of_decide_eq_true (c.fact 69 rfl))
    (gloB_ok (c.fact 70 rfl))
    h_l1
    h_c1
    (c.fact 71 rfl)
    (gloB_ok (c.fact 72 rfl))
    h_l2
    h_c2
    (c.fact 73 rfl)
    (gloB_ok (c.fact 74 rfl))
    h_l3
    h_c3
    (c.fact 75 rfl)
    (gloB_ok (c.fact 76 rfl))
    h_l4
    h_c4
    (c.fact 77 rfl)
    (gloB_ok (c.fact 78 rfl))
    h_l5
    h_c5
    (c.fact 79 rfl)
    (methB_ok (c.fact 80 rfl))
    (of_decide_eq_true (c.fact 81 rfl))
    h_l6
    h_c6
    (c.fact 82 rfl)
    (methB_ok (c.fact 83 rfl))
    (of_decide_eq_true (c.fact 84 rfl))
    h_l7
    h_c7
    (c.fact 85 rfl)
    (methB_ok (c.fact 86 rfl))
    (c.fact 87 rfl)
    h_l8
    h_c8
    (c.fact 88 rfl)
    (gloB_ok (c.fact 89 rfl))
    h_l9
    h_c9
    (c.fact 90 rfl)
    (gloB_ok (c.fact 91 rfl))
    h_l10
    h_c10
    (c.fact 92 rfl)
    (methB_ok (c.fact 93 rfl))
    (of_decide_eq_true (c.fact 94 rfl))
    (of_decide_eq_true (c.fact 95 rfl))
    h_r11
    h_l11
    h_c11
    (c.fact 97 rfl)
    (cmB_ok (c.fact 98 rfl))
    h_r12
    (c.fact 100 rfl)
    h_l12
    h_c12
    (c.fact 101 rfl)
    (gloB_ok (c.fact 102 rfl))
    h_l13
    h_c13
    (c.fact 103 rfl)
    (methB_ok (c.fact 104 rfl))
    (c.fact 105 rfl)
    h_l14
    h_c14
    (c.fact 106 rfl)
    (cmB_ok (c.fact 107 rfl))
    h_r15
    (c.fact 109 rfl)
    h_l15
    h_c15
    (c.fact 110 rfl)
    (methB_ok (c.fact 111 rfl))
    (c.fact 112 rfl)
    h_l16
    h_c16
    (c.fact 113 rfl)
    (gloB_ok (c.fact 114 rfl))
    h_l17
    h_c17
    (c.fact 115 rfl)
    (gloB_ok (c.fact 116 rfl))
    h_l18
    h_c18
    (c.fact 117 rfl)
    (gloB_ok (c.fact 118 rfl))
    h_l19
    h_c19
    (c.fact 119 rfl)
    (gloB_ok (c.fact 120 rfl))
    h_l20
    h_c20
    (c.fact 121 rfl)
    (methB_ok (c.fact 122 rfl))
    (c.fact 123 rfl)
    h_l21
    h_c21
    (c.fact 124 rfl)
    (cmB_ok (c.fact 125 rfl))
    h_r22
    (c.fact 127 rfl)
    h_l22
    h_c22
    (c.fact 128 rfl)
    (gloB_ok (c.fact 129 rfl))
    h_l23
    h_c23
    (c.fact 130 rfl)
    (cmB_ok (c.fact 131 rfl))
    h_r24
    (c.fact 133 rfl)
    h_l24
    h_c24
    (c.fact 134 rfl)
    (gloB_ok (c.fact 135 rfl))
    h_l25
    h_c25
    (c.fact 136 rfl)
    (gloB_ok (c.fact 137 rfl))
    h_l26
    h_c26
    (c.fact 138 rfl)
    (gloB_ok (c.fact 139 rfl))
    h_l27
    h_c27
    (c.fact 140 rfl)
    (gloB_ok (c.fact 141 rfl))
    h_l28
    h_c28
    (c.fact 142 rfl)
    (gloB_ok (c.fact 143 rfl))
    h_l29
    h_c29
    (c.fact 144 rfl)
    (gloB_ok (c.fact 145 rfl))
    h_l30
    h_c30
    (c.fact 146 rfl)
    (gloB_ok (c.fact 147 rfl))
    h_l31
    h_c31
    (c.fact 148 rfl)
    (gloB_ok (c.fact 149 rfl))
    h_l32
    h_c32
    (c.fact 150 rfl)
    (gloB_ok (c.fact 151 rfl))
    h_l33
    h_c33
    (c.fact 152 rfl)
    (freeB_ok (c.fact 153 rfl))
    (freeB_ok (c.fact 154 rfl))
    (freeB_ok (c.fact 155 rfl))
    (freeB_ok (c.fact 156 rfl))
    (freeB_ok (c.fact 157 rfl))
    (freeB_ok (c.fact 158 rfl))
    (freeB_ok (c.fact 159 rfl))
    (freeB_ok (c.fact 160 rfl))
    (freeB_ok (c.fact 161 rfl))
    (freeB_ok (c.fact 162 rfl))
    (freeB_ok (c.fact 163 rfl))
    (freeB_ok (c.fact 164 rfl))
    (freeB_ok (c.fact 165 rfl))
    (freeB_ok (c.fact 166 rfl))
    (freeB_ok (c.fact 167 rfl))
    (freeB_ok (c.fact 168 rfl))
    (freeB_ok (c.fact 169 rfl))
    (freeB_ok (c.fact 170 rfl))
    (freeB_ok (c.fact 171 rfl))
    (gloB_ok (c.fact 172 rfl))
    h_g1NOTHING
    h_g2NOTHING
    h_g3NOTHING
end Lw
open PySem PySem.W PyProof.Rows in
set_option maxRecDepth 100000 in
set_option maxHeartbeats 0 in
theorem PySem.Challenge.cw_unmarked_k28_edges_of_told_ratios_holds : PySem.Challenge.rw_unmarked_k28_edges_of_told_ratios.Holds := by
  w_on; o_law
  refine HandSHeadRun.head_any (r := (PySem.W.OpenLaw.row PySem.Challenge.rw_unmarked_k28_edges_of_told_ratios)) (q := view (PySem.W.OpenLaw.row PySem.Challenge.rw_unmarked_k28_edges_of_told_ratios).prog [88]) (H := Lw.zhk) (ob := Lw.zob) (M := 20000) (loose := Lw.zls) (d := (HandSHeadRun.topDef (PySem.W.OpenLaw.row PySem.Challenge.rw_unmarked_k28_edges_of_told_ratios).prog 88)) (kwd := []) Lw.zob_eq
    (by kernel_rfl) (fun s => by kernel_rfl) Lw.zrun (by kernel_rfl) (by kernel_rfl) (by kernel_rfl) (by rfl) (by first | assumption | decide +kernel) (by decide +kernel) ⟨rfl, rfl, rfl, rfl, rfl, by decide +kernel⟩ ?hw ?hc
  case hw => w_witness2
  case hc =>
    refine L2.walk_ofE (l := PySem.Challenge.rw_unmarked_k28_edges_of_told_ratios) (n := 63) (k := 11) (x := "_law_script") (CX := L2.CX0) rfl (by decide) (by kernel_rfl) ⟨rfl, by decide, by decide⟩ ?F (fun _ _ _ _ z => z)
    intro w mg fa h Y G hmg0
    obtain ⟨K, KX, c⟩ := Y
    have hmg : mg ("law" : PySem.Str) = some (.ref fa) := by
      have e : (HandSHeadRun.topDef (PySem.W.OpenLaw.row PySem.Challenge.rw_unmarked_k28_edges_of_told_ratios).prog 88).name = ("law" : PySem.Str) := by kernel_rfl
      rw [← e]
      exact hmg0
    obtain ⟨fd, hb, hF⟩ := Lw.zfacts (w := w) KX G hmg c
    exact ⟨K, fd, Lw.K28.sp_law K, KX, hb, fun H a ns hl _ hS => ⟨a, ns, rfl, hS, hl, fun _ => rfl⟩, hF⟩
#print axioms PySem.Challenge.cw_unmarked_k28_edges_of_told_ratios_holds
