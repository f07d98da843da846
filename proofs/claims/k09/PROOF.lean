import PyProof.Rows.All
import Wide.All
import OpenK.AllK
import Wide.FinOn
import HandS.ForMost
import HandS.Wide
import HandS.IsInst
import HandS.Style
import HandS.FStr
import HandS.Property
import HandS.SlotsOwn
import HandS.ClsMeth
import HandS.NoneIn
import HandS.Codes
import HandS.Walk
import HandS.ExcInit
import HandS.ExcIs
import HandS.ExcOwn
import HandS.ExcField
import HandS.TryMany
import HandS.WordsExc
import HandS.ExcBuiltin
import HandS.MakeKw
import HandS.MakeKwOnly
import HandS.TryOnly
import PyProof.ReprLen
import KE.KOpsOwn
import HandS.TupAny
import HandS.DictTup
import HandS.DictComp
import KE.KDictDisplayH
import PyProof.Rows.SeqRoads
import HandS.Replace
import HandS.Deep
import KE.GoesMore
import KE.GoesEnum
import HandS.SetFor
import HandS.Star
import HandS.HeadEnd
import HandS.HeadHook2
import HandS.Head2
import HandS.CallSlots
import KE.KExcIs
import KE.DataCmp
import HandS.SortKw
import KE.SortKeyHeap
import PySem.Challenge.RW_unmarked_k09_whole_words_and_changes
set_option Elab.async false
set_option linter.all false
set_option maxRecDepth 100000
set_option maxHeartbeats 4000000
namespace Kb
open PySem PySem.Spec PyProof.Rows L2

theorem ifT {c : Bool} {A B : Prop} (hc : c = true) (h : A) : if c = true then A else B := by rw [if_pos hc]; exact h
theorem ifF {c : Bool} {A B : Prop} (hc : c = false) (h : B) : if c = true then A else B := by rw [hc, if_neg Bool.false_ne_true]; exact h
/-! ### a statement, then the rest, joined by a word -/
def tMid (t u : TS) : TS := fun D σ H => ∃ M : L2.St → Hp → Prop, t { D with nx := M } σ H ∧ ∀ σ1 H1, M σ1 H1 → u D σ1 H1
theorem pss_mid {X : Cx} {st : Stmt} {rest : List Stmt} {t u : TS} (a : PS X st t) (b : PSs X rest u) : PSs X (st :: rest) (tMid t u) := by
  refine ⟨fun pins s σ H D I ⟨M, hm, hu⟩ => ?_⟩
  refine wpAny_execs_cons (thn (a.run pins s σ H { D with nx := M } I hm) fun fl s1 z => ?_)
  cases fl with
  | next =>
    obtain ⟨σ1, H1, I1, z⟩ := z
    exact b.run pins s1 σ1 H1 D I1 (hu σ1 H1 z)
  | ret v => exact z
  | brk => exact z
  | cont => exact z
/-! ### what a comprehension's reading asks behind its source -/
def LcR (J : It) (g : TG) (tt : TT) (te : TE) (vs : List Nat) (σ : L2.St) (H1 : Hp) (D : Addr) (Qd : Hp → Prop) : Prop := ∃ W : Nat → Nat → Hp → Prop, (∃ m, W 0 m (upd H1 D (.lst []))) ∧ ∀ i m H, W i m H →
  (J.stop i H ∧ Qd H) ∨ (J.go i H ∧ ∃ Nx : Hp → Prop, (∀ H', Nx H' → ∃ m', m' < m ∧ W (i + 1) m' H') ∧ ∀ x H', J.yld i H x H' → g x (wipe σ vs) H' fun σ2 H2 => wipe σ2 vs = wipe σ vs ∧ tt σ2 H2 fun b H3 =>
    if b = true then te σ2 H3 fun y H4 => ∃ acc, H4 D = some (.lst acc) ∧ acc.length < sizeLine ∧ Nx (upd H4 D (.lst (acc ++ [y]))) else Nx H3)
theorem lcR_range {lo : Int} {n : Nat} {g : TG} {te : TE} {vs : List Nat} {σ : L2.St} {H1 : Hp} {D : Addr} {Qd : Hp → Prop} (M : Nat → Hp → Prop) (h0 : M 0 (upd H1 D (.lst [])))
    (hs : ∀ i H, i < n → M i H → g (.int (lo + i)) (wipe σ vs) H fun σ2 H2 => wipe σ2 vs = wipe σ vs ∧ te σ2 H2 fun y H4 => ∃ acc, H4 D = some (.lst acc) ∧ acc.length < sizeLine ∧ M (i + 1) (upd H4 D (.lst (acc ++ [y]))))
    (hm : ∀ x σ H Q Q', (∀ σ2 H2, Q σ2 H2 → Q' σ2 H2) → g x σ H Q → g x σ H Q') (hd : ∀ H, M n H → Qd H) : LcR (Itr lo n) g tYes te vs σ H1 D Qd :=
  lc_range M h0 (fun i H hi m => hm _ _ _ _ _ (fun σ2 H2 z => ⟨z.1, ifT (B := M (i + 1) H2) rfl z.2⟩) (hs i H hi m)) hd
theorem lcR_list {K : PySem.W.Frag} {a : Addr} {xs : List V} {g : TG} {te : TE} {vs : List Nat} {σ : L2.St} {H1 : Hp} {D : Addr} {Qd : Hp → Prop} (M : Nat → Hp → Prop) (h0 : M 0 (upd H1 D (.lst []))) (hl : ∀ i H, i ≤ xs.length → M i H → SqL K H a xs)
    (hs : ∀ i x H, xs[i]? = some x → M i H → g x (wipe σ vs) H fun σ2 H2 => wipe σ2 vs = wipe σ vs ∧ te σ2 H2 fun y H4 => ∃ acc, H4 D = some (.lst acc) ∧ acc.length < sizeLine ∧ M (i + 1) (upd H4 D (.lst (acc ++ [y]))))
    (hm : ∀ x σ H Q Q', (∀ σ2 H2, Q σ2 H2 → Q' σ2 H2) → g x σ H Q → g x σ H Q') (hd : ∀ H, M xs.length H → Qd H) : LcR (Itl K a) g tYes te vs σ H1 D Qd :=
  lc_list M h0 hl (fun i x H hi m => hm _ _ _ _ _ (fun σ2 H2 z => ⟨z.1, ifT (B := M (i + 1) H2) rfl z.2⟩) (hs i x H hi m)) hd
theorem gName_mono (i : Nat) : ∀ (x : V) (σ : L2.St) (H : Hp) (Q Q' : L2.St → Hp → Prop), (∀ σ2 H2, Q σ2 H2 → Q' σ2 H2) → gName i x σ H Q → gName i x σ H Q' := fun _ _ _ _ _ h q => h _ _ q
theorem szl {n : Nat} (h : n ≤ 1000000) : n ≤ sizeLine := Nat.le_trans h (by decide)
theorem szs {n : Nat} (h : n ≤ 1000000) : n < sizeLine := Nat.lt_of_le_of_lt h (by decide)
/-! ### rules that name the written part: for blocks of comprehensions -/
section
variable {X : Cx} {K : PySem.W.Frag}
theorem ix_listK (h : X.K = K) : IxR X (rIxL K) := h ▸ ix_list
theorem ix_tupK (h : X.K = K) : IxR X (rIxT K) := h ▸ ix_tup
theorem ix_seqK (h : X.K = K) : IxR X (rIx K) := h ▸ ix_seq
theorem pe_fldK {e : Expr} {f : Str} {ta : TE} {pos : Pos} (h : X.K = K) (he : PE X e ta) (hb : attributeBase e f X.env (eval e X.env) = eval e X.env) : PE X (.Attribute e f pos) (tFld K ta f) := h ▸ pe_fld he hb
theorem call_len_seqK (h : X.K = K) : CallR X (.builtin "len") (fun xs H Q => ∃ p ys, xs = [.ref p] ∧ (SqL K H p ys ∨ SqT K H p ys) ∧ Q (.int ys.length) H) := h ▸ call_len_seq
theorem pi_listK {tg l : Expr} {tl : TE} (h : X.K = K) (hl : PE X l tl) : PI X tg l (iList K tl) := h ▸ pi_list hl
theorem pi_tupK {tg l : Expr} {tl : TE} (h : X.K = K) (hl : PE X l tl) : PI X tg l (iTup K tl) := h ▸ pi_tup hl
theorem call_isiK' (h : X.K = K) : CallR X (.builtin "isinstance") (rIsi K) := h ▸ call_isi
end
/-! ### a comprehension over a text -/
theorem lcR_str {z : Str} {g : TG} {te : TE} {vs : List Nat} {σ : L2.St} {H1 : Hp} {D : Addr} {Qd : Hp → Prop} (M : Nat → Hp → Prop) (h0 : M 0 (upd H1 D (.lst [])))
    (hs : ∀ i c H, i < z.cps.size → z.cps[i]? = some c → M i H → g (.str ⟨#[c]⟩) (wipe σ vs) H fun σ2 H2 => wipe σ2 vs = wipe σ vs ∧ te σ2 H2 fun y H4 => ∃ acc, H4 D = some (.lst acc) ∧ acc.length < sizeLine ∧ M (i + 1) (upd H4 D (.lst (acc ++ [y]))))
    (hm : ∀ x σ H Q Q', (∀ σ2 H2, Q σ2 H2 → Q' σ2 H2) → g x σ H Q → g x σ H Q') (hd : ∀ H, M z.cps.size H → Qd H) : LcR (Its z) g tYes te vs σ H1 D Qd :=
  lc_it walk_str M h0 (fun _ _ _ _ => trivial) (fun i x H H' hi m y => by
    obtain ⟨e, c, hc, ex⟩ := y
    subst e; subst ex
    exact hm _ _ _ _ _ (fun σ2 H2 z => ⟨z.1, ifT (B := M (i + 1) H2) rfl z.2⟩) (hs i c _ hi hc m)) hd
/-! ### a comprehension whose every turn makes one object -/
theorem comp_objs {K : PySem.W.Frag} {a : Addr} {xs : List V} {g : TG} {te : TE} {vs : List Nat} {σ : L2.St} {H1 : Hp} {D : Addr} {Qd : Hp → Prop} (F : Nat → Hp → Addr → Prop) (hn : xs.length ≤ 1000000)
    (mono : ∀ j H H' p ys, H D = some (.lst ys) → (∀ b o, b ≠ D → H b = some o → H' b = some o) → F j H p → F j H' p) (hl : SqL K H1 a xs) (hD : H1 D = none) (hm : ∀ x σ H Q Q', (∀ σ2 H2, Q σ2 H2 → Q' σ2 H2) → g x σ H Q → g x σ H Q')
    (turn : ∀ i x H (k : VK), xs[i]? = some x → (∀ b o, b ≠ D → H1 b = some o → H b = some o) → (∃ ys, H D = some (.lst ys)) → (∀ p H4, Same H H4 → F i H4 p → k (.ref p) H4) → g x (wipe σ vs) H fun σ2 H2 => wipe σ2 vs = wipe σ vs ∧ te σ2 H2 k)
    (done : ∀ (ps : List Addr) H, ps.length = xs.length → (∀ b o, b ≠ D → H1 b = some o → H b = some o) → H D = some (.lst (ps.map V.ref)) → (∀ j p, ps[j]? = some p → F j H p) → Qd H) : LcR (Itl K a) g tYes te vs σ H1 D Qd := by
  have kS : ∀ H, (∀ b o, b ≠ D → H1 b = some o → H b = some o) → SqL K H a xs := fun H kp => by
    have rd : ∀ u, Rd H1 a u → Rd H a u := fun u q => q.elim (fun q => .inl (kp _ _ (ne_of_none q hD) q)) fun ⟨o, q⟩ => .inr ⟨o, kp _ _ (ne_of_none q hD) q⟩
    exact hl.elim (fun q => .inl (rd _ q)) .inr
  refine lcR_list (fun i H => (∀ b o, b ≠ D → H1 b = some o → H b = some o) ∧ ∃ ps : List Addr, ps.length = i ∧ H D = some (.lst (ps.map V.ref)) ∧ ∀ j p, ps[j]? = some p → F j H p)
    ⟨fun b o n e => by rw [upd_ne n]; exact e, [], rfl, upd_same, fun j p h => by simp at h⟩ (fun i H _ m => kS H m.1) (fun i x H hi m => ?_) hm (fun H m => ?_)
  · obtain ⟨kp, ps, hp, hD', hF⟩ := m
    have hlt : i < xs.length := (List.getElem?_eq_some_iff.mp hi).1
    refine turn i x H _ hi kp ⟨_, hD'⟩ fun p H4 sm hp4 => ?_
    have h4 : H4 D = some (.lst (ps.map V.ref)) := sm _ _ hD'
    have kk : ∀ b o, b ≠ D → H4 b = some o → upd H4 D (.lst (ps.map V.ref ++ [.ref p])) b = some o := fun b o n e => by rw [upd_ne n]; exact e
    refine ⟨_, h4, by rw [List.length_map]; exact szs (by omega), fun b o n e => kk b o n (sm _ _ (kp b o n e)), ps ++ [p], by simp [hp], by rw [upd_same]; simp, fun j r hj => ?_⟩
    refine mono j H4 _ r _ h4 kk ?_
    by_cases c : j < ps.length
    · rw [List.getElem?_append_left c] at hj
      exact mono j H H4 r _ hD' (fun b o _ e => sm b o e) (hF j r hj)
    · have e : j = ps.length := by
        have := (List.getElem?_eq_some_iff.mp hj).1
        simp at this
        omega
      subst e
      simp at hj
      subst hj
      rw [hp]
      exact hp4
  · obtain ⟨kp, ps, hp, hD', hF⟩ := m
    exact done ps H hp kp hD' hF
theorem kit_self (K : PySem.W.Frag) (t : Value) (h : (t == t) = true) : PySem.W.kitOne K t t = some true := by
  unfold PySem.W.kitOne
  rw [if_pos h]
/-! ### int of an int, of a truth -/
theorem call_intI {X : Cx} : CallR X (.type "int") (fun xs H Q => ∃ i, xs = [.int i] ∧ Q (.int i) H) := fun pins s σ H xs us Q I r h => call_int1 pins s σ H xs us Q I r (.inl h)
theorem call_intB {X : Cx} : CallR X (.type "int") (fun xs H Q => ∃ k, xs = [.bl k] ∧ Q (.int (if k then 1 else 0)) H) := fun pins s σ H xs us Q I r h => call_int1 pins s σ H xs us Q I r (.inr h)
/-! ### a def that may be called by its name -/
structure FnC (P : Program) (w : World) (K : PySem.W.Frag) (mg : Str → Option Value) (base : Heap) (CX : CXT) (k : Nat) (x : Str) (ps : List Str) (sp : Sp) : Prop where
  ex : ∃ (f : Addr) (fd : FuncData), FnOk P w K mg base CX k f fd ps sp ∧ mg x = some (.ref f) ∧ PySem.W.keepIn K (.ref f) = true ∧ Binds K fd ps []
section
variable {X : Cx} {k : Nat} {x : Str} {ps : List Str} {sp : Sp} {e : Expr} {es : List Expr} {t : TA} {p pos : Pos}
theorem pe_callC (F : FnC X.prog X.w X.K X.mg X.base CX0 k x ps sp) (hr : Room k X.A) (hg : Gl X x) (ha : PA X (e :: es) t) (hdb : (x == ("__debug__" : Str)) = false := by decide)
    (he : starEach (e :: es) X.env = (false, eval e X.env) :: starEach es X.env := by rfl) (hpl : (backTo pos (starEach es X.env)).any (·.1) = false := by rfl) :
    PE X (.Call (.Name x p) (e :: es) [] pos) (tCall sp [] E0 t) := by
  obtain ⟨f, fd, h, hm, hk, hb⟩ := F.ex
  exact pe_call h hr hg hm hk hb .nil pass0 ha hdb he hpl
end

/-! ### texts -/
section
variable {X : Cx}
def repS (z : Str) (n : Nat) : Str := ⟨(List.replicate n z.cps.toList).flatten.toArray⟩
theorem fold_rep (a : Array Nat) : ∀ (n : Nat) (b : Array Nat), (List.replicate n a).foldl (· ++ ·) b = (b.toList ++ (List.replicate n a.toList).flatten).toArray
  | 0, b => by simp
  | n + 1, b => by
    rw [List.replicate_succ, List.foldl_cons, fold_rep a n]
    simp [List.replicate_succ]
theorem repS_eq (z : Str) (n : Nat) : (⟨(List.replicate n z.cps).foldl (· ++ ·) #[]⟩ : Str) = repS z n := by
  rw [fold_rep]; simp [repS]
theorem repS_len (z : Str) (n : Nat) : (repS z n).length = z.length * n := by
  show (List.replicate n z.cps.toList).flatten.toArray.size = z.cps.size * n
  simp [Nat.mul_comm]
def rMulS : R2 := fun x y H Q => ∃ (z : Str) (n : Int), x = .str z ∧ y = .int n ∧ 0 ≤ n ∧ n < 2 ^ 40 ∧ z.length * n.toNat ≤ 1000000 ∧ Q (.str (repS z n.toNat)) H
theorem op_mul_str : OpR X (binaryOp .Mult) rMulS := by
  intro pins s σ H x y v u Q I rx ry h
  obtain ⟨z, n, rfl, rfl, h0, h1, h2, q⟩ := h
  obtain ⟨t, rfl⟩ := rx
  obtain ⟨t', rfl⟩ := ry
  have b1 : ¬ n < -(2 ^ 63 : Int) := by omega
  have b2 : ¬ n ≥ (2 ^ 63 : Int) := by omega
  have hz : z.length * n.toNat ≤ sizeLine := Nat.le_trans h2 (by decide)
  refine PySem.P.mul_str (by rw [decide_eq_false b1, decide_eq_false b2]; rfl) (fun c1 _ => ?_) (fun _ _ => ?_) ?_
  · have hn : 1 ≤ n := by omega
    have hl : z.length ≤ 1000000 := by
      have : 1 ≤ n.toNat := by omega
      calc z.length = z.length * 1 := (Nat.mul_one _).symm
        _ ≤ z.length * n.toNat := Nat.mul_le_mul_left _ this
        _ ≤ 1000000 := h2
    have hd : (1000000 : Int) ≤ (2 ^ 63 - 1) / n := by
      rw [Int.le_ediv_iff_mul_le (by omega)]
      omega
    omega
  · show (decide _) = false
    exact decide_eq_false (by omega)
  · by_cases c1 : n < 1
    · rw [if_pos c1]
      have e : n.toNat = 0 := by omega
      have e2 : repS z n.toNat = Str.empty := by rw [e]; rfl
      rw [e2] at q
      exact ⟨by decide, .str Str.empty, H, I.tok _, ⟨_, rfl⟩, q⟩
    · rw [if_neg c1]
      by_cases c2 : (n == 1 || z.length == 0) = true
      · rw [if_pos c2]
        have e2 : repS z n.toNat = z := by
          rcases Bool.or_eq_true_iff.mp c2 with c | c
          · have : n = 1 := eq_of_beq c
            subst this
            show (⟨(List.replicate 1 z.cps.toList).flatten.toArray⟩ : Str) = z
            simp
          · have c' : z.length = 0 := eq_of_beq c
            have hz0 : z.cps = #[] := Array.eq_empty_of_size_eq_zero c'
            obtain ⟨cps⟩ := z
            simp only at hz0
            subst hz0
            simp [repS]
        rw [e2] at q
        exact ⟨.str z, H, I, ⟨t, rfl⟩, q⟩
      · rw [if_neg c2]
        refine ⟨?_, ?_⟩
        · rw [repS_eq, repS_len]; exact hz
        · rw [repS_eq]
          exact ⟨.str _, H, I.tok _, ⟨_, rfl⟩, q⟩

/-- z[::-1] -/
def revS (z : Str) : Str := ⟨z.cps.toList.reverse.toArray⟩
def tRevS (te : TE) : TE := fun σ H Q => te σ H fun x H1 => ∃ z : Str, x = .str z ∧ z.length ≤ sizeLine ∧ Q (.str (revS z)) H1
theorem picked_rev (z : Str) (t : Tok) : ((PySem.slicePicked z none none (some (-1, t))).filterMap (z.cps[·]?)).toArray = z.cps.toList.reverse.toArray := by
  unfold PySem.slicePicked Builtin.Str.strSliceIndices
  simp only [Option.map_none, Option.map_some, Option.getD_some, show ¬ ((-1 : Int) > 0) by decide, if_false]
  rw [show (z.length : Int) = ((z.cps.size : Nat) : Int) from rfl, PySem.W.krv_sliceRange, PySem.W.krv_range, List.filterMap_reverse, PySem.W.krv_all]
theorem pe_revS {e : Expr} {te : TE} {k : Nat} {p1 p2 p3 pos : Pos} (he : PE X e te) : PE X (.Subscript e (.Slice none none (some (.UnaryOp .USub (.Constant (.int 1) k p1) p2)) p3) pos) (tRevS te) := by
  refine ⟨fun pins s σ H Q I h => ?_⟩
  refine Subscript_ (thn (he.run pins s σ H _ I h) fun v s1 ⟨x, H1, I1, r1, q1⟩ => ?_)
  obtain ⟨z, ex, hz, q⟩ := q1
  subst ex
  obtain ⟨t, rfl⟩ := r1
  have stp : PO X (some (.UnaryOp .USub (.Constant (.int 1) k p1) p2)) (tPart (tUn (rU fun i => .int (-i)) (tC (.int 1)))) := po_some (pe_un un_neg pe_int)
  refine wpAny_Slice (thn (po_none.run pins s1 σ H1 (fun o H2 => o = none ∧ H2 = H1) I1 ⟨rfl, rfl⟩) fun vl s2 ⟨l, H2, I2, pl, el, e2⟩ => ?_)
  subst el; subst e2
  refine thn (po_none.run pins s2 σ H2 (fun o H3 => o = none ∧ H3 = H2) I2 ⟨rfl, rfl⟩) fun vu s3 ⟨u, H3, I3, pu, eu, e3⟩ => ?_
  subst eu; subst e3
  refine thn (stp.run pins s3 σ H3 (fun o H4 => o = some (-1) ∧ H4 = H3) I3 ⟨1, rfl, -1, rfl, rfl, rfl⟩) fun vs s4 ⟨o, H4, I4, ps, eo, e4⟩ => ?_
  subst eo; subst e4
  have I5 : Inv X pins σ H4 { s4 with heap := s4.heap.push { cls := .type "slice", data := .fields #[vl, vu, vs] } } := I4.kept (t' := s4.toks) fun b ob q => Heap.get?_push_of_some _ q
  cases pl; cases pu; cases ps
  rename_i tk _
  show wpAny (model X.prog X.w) X.A (subscriptTail e (.Slice none none (some (.UnaryOp .USub (.Constant (.int 1) k p1) p2)) p3) (.str z t) (.ref s4.heap.objs.size)) (EP X pins σ Q) X.xe _
  refine tail_any (ops := [.str z t, .ref s4.heap.objs.size]) (typeIs_str _ _ _) (PySem.F.slot_str_getitem.lookup) ?_ (by with_unfolding_all rfl)
  refine wpAny_getItem_str_slice (l := none) (u := none) (st := some (-1, tk)) (Heap.IsSliceOf.new _ _ _ _) rfl ?_
  have ne : ¬ ((((some (-1, tk) : Option (Int × Tok)).map (·.1)).getD 1 == 1 && (PySem.slicePicked z none none (some (-1, tk))).length == z.length) = true) := by
    show ¬ (((-1 : Int) == 1 && _) = true)
    simp
  unfold PySem.sliceMade
  rw [if_neg ne, picked_rev]
  refine ⟨?_, .str (revS z), H4, I5.tok _, ⟨_, rfl⟩, q⟩
  show z.cps.toList.reverse.toArray.size ≤ sizeLine
  rw [List.size_toArray, List.length_reverse, Array.length_toList]
  exact hz
end
end Kb

/-! ### own comparisons -/
namespace Kb
open PySem PySem.W PySem.Spec PyProof.Rows
section
variable {prog : Program} {w : World} {A : Around} {E : Value → Shared → Prop} {s : Shared} {K : Frag} {x C f L : Addr} {ox : Obj} {od : Option Obj} {h₀ : Heap} {m : Str → Option Value} {tb : Value}
theorem ifBound_B {M : Model} {name : Str} {id : String} {args : List Value} {Q : Option Value → Shared → Prop} (X : K.In s.heap) (I : InstAt s.heap x ox C od) (hs : findIn K (.ref C) name = some (some (.builtin id)))
    (hb : ∀ self, bindSpecial (.builtin id) self = pure (.builtin id, [self]))
    (h : wpAny M A (call (.builtin id) (.ref x :: args)) (fun v => Q (some v)) E s) : wpAny M A (callSpecialIfBound? (.ref x) name args) Q E s := by
  simp only [callSpecialIfBound?, bindSpecialIfBound?]
  refine wpAny_holding (wpAny_bind (wpAny_bind (wpAny_bind (I.type.here ((looks_findIn X hs).here ?_)))))
  refine wpAny_bind (wpAny_askSetting (wpAny_ite ?_))
  have fin : wpAny M A (call (.builtin id) ([.ref x] ++ args) >>= fun v => pure (some v)) Q E s := wpAny_bind (wpAny_mono h (fun v s' z => wpAny_pure z) fun _ _ z => z)
  split
  · exact wpAny_bind ((Looks.of_pure (hb _)).here (wpAny_pure (by exact fin)))
  · exact wpAny_tryCatch (wpAny_bind ((Looks.of_pure (hb _)).here (wpAny_pure (by exact fin))))
theorem check_slotI {i owner n : String} {self : Value} {rest : List Value} {kw : List (Str × Value)} {Q : Unit → Shared → Prop}
    (hk : builtinKind i = some .slot) (hs : splitId i = some (owner, n)) (hi : Looks (model prog w) s.heap (isInstance self (.type owner)) true) (ha : argsOk i ⟨self :: rest, kw⟩) (q : Q () s) :
    wpAny (model prog w) A (checkBuiltinCall i ⟨self :: rest, kw⟩) Q E s := by
  simp only [checkBuiltinCall, hk, hs]
  refine wpAny_bind (hi.here ?_)
  simp only [Bool.not_true, Bool.false_eq_true, if_false]
  cases hsig : Manifest.signature? i with
  | none => exact wpAny_pure q
  | some sig =>
    simp only [argsOk, hsig] at ha
    have h2 : Bind.checkArgs i sig ⟨self :: rest, kw⟩ = pure () := ha
    show wpAny _ A (Bind.checkArgs i sig ⟨self :: rest, kw⟩) Q E s
    rw [h2]; exact wpAny_pure q
theorem cmp_ne {b : Value} {Q : Value → Shared → Prop} (hu : A.units + 1 < cLine) (F : Fr h₀ L s.heap m) (X₀ : K.In h₀) (I : InstAt s.heap x ox C od) (hb : Looks (model prog w) s.heap (typeOf b) tb) (hn : notFirst K C tb = true)
    (hne : findIn K (.ref C) "__ne__" = some (some (.builtin "object.__ne__"))) (hm : subIn K (.ref C) (.type "object") = some true)
    (hs : findIn K (.ref C) "__eq__" = some (some (.ref f))) (hf : isFn K (.ref f) = true)
    (h : wpAny (model prog w) A.in1 (call (.ref f) [.ref x, b]) (fun v s' => ∃ k, v = .bool k ∧ Q (.bool (!k)) s') E s) : wpAny (model prog w) A (richCompare .NotEq (.ref x) b) Q E s := by
  have X := X₀.keeps F.keep
  have bs : ∀ self, bindSpecial (.builtin "object.__ne__") self = pure (.builtin "object.__ne__", [self]) := fun self => by with_unfolding_all rfl
  have isi : Looks (model prog w) s.heap (isInstance (.ref x) (.type "object")) true := by
    unfold isInstance
    exact I.type.andThen (looks_subIn X hm)
  have one : wpAny (model prog w) A (tryCompare (.ref x) (cmpInfo .NotEq).2.1 b) (fun r s' => ∃ v, r = some v ∧ Q v s') E s := by
    unfold tryCompare
    refine wpAny_bind (ifBound_B (id := "object.__ne__") X I hne bs ?_)
    refine wpAny_call (codeAny_call_builtin (by decide +kernel) PySem.F.cmpEntry_ne (check_slotI PySem.F.cmpKind_ne PySem.F.cmpSplit_ne isi (PySem.F.cmpArgs_ne _ _) ?_))
    unfold Builtin.«object.__ne__»
    have hu2 : A.in1.units < cLine := hu
    repeat (first
      | with_reducible refine wpAny_cRoomFor hu2 ?_
      | refine wpAny_bind (m := callSpecialIfBound? (.ref x) (Str.ofString "__eq__") [b]) (ifBound_K X I hs hf (wpAny_mono h (fun r s' hr => ?_) fun _ _ e => e))
      | wp_step)
    obtain ⟨k, rfl, hq⟩ := hr
    repeat (first | exact ⟨_, rfl, wpAny_pure hq⟩ | exact ⟨_, rfl, hq⟩ | exact hq | exact wpAny_pure hq | (refine wpAny_bind (m := truthy (.bool _)) (wpAny_truthy_bool ?_)) | wp_step)
  unfold richCompare
  simp only [oneThing_ref]
  refine wpAny_holding (wpAny_bind (wpAny_cRoomFor (by omega) ?_))
  refine wpAny_bind (I.type.here (wpAny_bind (hb.here ?_)))
  have fin : wpAny (model prog w) A (tryCompare (.ref x) (cmpInfo .NotEq).2.1 b) (fun r s' => ∃ v, r = some v ∧ Q v s') E s := one
  split
  · rename_i q
    have e : subIn K tb (.ref C) = some false := by
      rcases Bool.or_eq_true_iff.mp hn with e | e
      · rw [beq_iff_eq.mp e] at q; simp at q
      · exact beq_iff_eq.mp e
    refine wpAny_bind ((looks_subIn X e).here ?_)
    simp only [Bool.false_eq_true, if_false]
    refine wpAny_bind (wpAny_mono fin (fun r s' z => ?_) fun _ _ e => e)
    obtain ⟨v, rfl, hq⟩ := z
    exact wpAny_pure hq
  · refine wpAny_bind (wpAny_pure ?_)
    simp only [Bool.false_eq_true, if_false]
    refine wpAny_bind (wpAny_mono fin (fun r s' z => ?_) fun _ _ e => e)
    obtain ⟨v, rfl, hq⟩ := z
    exact wpAny_pure hq
end
end Kb

/-! ### methods of own classes, own comparisons, repr, defs that ask for the guards -/
namespace Kb
open PySem PySem.Spec PyProof.Rows L2
/-- a method of the class at C -/
structure MtC (P : Program) (w : World) (K : PySem.W.Frag) (mg : Str → Option Value) (base : Heap) (CX : CXT) (k : Nat) (C : Addr) (m : Str) (ps : List Str) (sp : Sp) : Prop where
  ex : ∃ (f : Addr) (fd : FuncData), FnOk P w K mg base CX k f fd ps sp ∧ Meth K C m f ∧ Binds K fd ps []
/-- how the class at C is made -/
structure MkC (P : Program) (w : World) (K : PySem.W.Frag) (mg : Str → Option Value) (base : Heap) (CX : CXT) (k : Nat) (C : Addr) (x : Str) (ps : List Str) (sp : Sp) : Prop where
  ex : ∃ (f : Addr) (fd : FuncData), FnOk P w K mg base CX k f fd ps sp ∧ Mk K C f ∧ mg x = some (.ref C) ∧ Binds K fd ps []
section
variable {X : Cx} {k : Nat} {x m : Str} {C : Addr} {ps : List Str} {sp : Sp} {e o : Expr} {es : List Expr} {t : TA} {ta : TE} {p pos apos : Pos}
theorem pe_makeC (F : MkC X.prog X.w X.K X.mg X.base CX0 k C x ps sp) (hr : Room (k + 1) X.A) (hg : Gl X x) (ha : PA X (e :: es) t) (hdb : (x == ("__debug__" : Str)) = false := by decide)
    (he : starEach (e :: es) X.env = (false, eval e X.env) :: starEach es X.env := by rfl) (hpl : (backTo pos (starEach es X.env)).any (·.1) = false := by rfl) :
    PE X (.Call (.Name x p) (e :: es) [] pos) (tMake C sp [] E0 t) := by
  obtain ⟨f, fd, h, M, hm, hb⟩ := F.ex
  exact pe_make M h hr hg hm hb .nil pass0 ha hdb he hpl
/-- x op y by the class's own def -/
def rOwnI (K : PySem.W.Frag) (C : Addr) (sp : Sp) (E : XK) : R2 := fun x y H Q => ∃ (a dx : Addr) (fs : List (Str × V)) (t : Value), x = .ref a ∧ H a = some (.ins C dx fs) ∧ TyX K H y t ∧ PySem.W.notFirst K C t = true ∧ sp [x, y] H Q E
theorem op_ownI {op : CmpOp} (hop : ∀ a b, compareOp op a b = richCompare op a b) (F : MtC X.prog X.w X.K X.mg X.base CX0 k C (cmpInfo op).2.1 ps sp) (hr : Room k X.A) : OpR X (compareOp op) (rOwnI X.K C sp E0) := by
  intro pins s σ H x y v u Q I rx ry h
  obtain ⟨a, dx, fs, ty, rfl, ha, hty, hn, q⟩ := h
  obtain ⟨f, fd, hf, M, hb⟩ := F.ex
  cases (show v = Value.ref a from rx)
  obtain ⟨mA, O, _⟩ := ins_get I.hok ha
  obtain ⟨od, J, _⟩ := O.look
  obtain ⟨P, Z, hP, _⟩ := kit_of I ry hty
  obtain ⟨m, hF⟩ := I.fr
  rw [hop]
  refine PySem.W.cmp_K (op := op) (tb := ty) hr.units0 hF I.ok.mod.kin J (Z.ty _ _ I.kIn hP) hn M.at_ M.fn ?_
  refine wpAny_mono (run_fn (us := [.ref a, u]) (vs := [.ref a, y]) hf hr hb .nil pass0 I (.cons rfl (.cons ry .nil)) q) (fun w s' z => ?_) fun _ _ z => z
  obtain ⟨z', H', I', rz, qz⟩ := z
  exact SlX.cmpback rz ⟨z', H', I', rz, qz⟩
/-- x != y by the class's own == alone -/
def rOwnNe (K : PySem.W.Frag) (C : Addr) (sp : Sp) : R2 := fun x y H Q => ∃ (a dx : Addr) (fs : List (Str × V)) (t : Value), x = .ref a ∧ H a = some (.ins C dx fs) ∧ TyX K H y t ∧ PySem.W.notFirst K C t = true ∧ sp [x, y] H (fun z H' => ∃ b, z = .bl b ∧ Q (.bl (!b)) H') E0
theorem op_neI (F : MtC X.prog X.w X.K X.mg X.base CX0 k C "__eq__" ps sp) (hne : PySem.W.findIn X.K (.ref C) "__ne__" = some (some (.builtin "object.__ne__"))) (hm : PySem.W.subIn X.K (.ref C) (.type "object") = some true) (hr : Room (k + 1) X.A) : OpR X (compareOp .NotEq) (rOwnNe X.K C sp) := by
  intro pins s σ H x y v u Q I rx ry h
  obtain ⟨a, dx, fs, ty, rfl, ha, hty, hn, q⟩ := h
  obtain ⟨f, fd, hf, M, hb⟩ := F.ex
  cases (show v = Value.ref a from rx)
  obtain ⟨mA, O, _⟩ := ins_get I.hok ha
  obtain ⟨od, J, _⟩ := O.look
  obtain ⟨P, Z, hP, _⟩ := kit_of I ry hty
  obtain ⟨m, hF⟩ := I.fr
  show wpAny _ _ (richCompare .NotEq (.ref a) u) _ _ _
  refine cmp_ne (tb := ty) (by have := hr.un; omega) hF I.ok.mod.kin J (Z.ty _ _ I.kIn hP) hn hne hm M.at_ M.fn ?_
  have r2 : Vals ([V.ref a, y] ++ []) ([Value.ref a, u] ++ []) := .cons rfl (.cons ry .nil)
  have q' : sp ([V.ref a, y] ++ []) H (fun z H' => ∃ b, z = .bl b ∧ Q (.bl (!b)) H') E0 := q
  have hl : ([Value.ref a, u] ++ []).length = ps.length := by rw [← r2.length]; exact hf.len _ _ _ _ q'
  refine wpAny_call (codeAny_mono (hf.run X.A.in1 X.stack s H ⟨[.ref a, u], []⟩ ([.ref a, u] ++ []) ([.ref a, y] ++ []) _ E0 hr.in1 I.env0.in1 (hb s _ I.kIn hl) r2 q') fun r s' hq => ?_)
  cases r with
  | error e => exact (show False from hq).elim
  | ok fl =>
    cases fl with
    | ret w =>
      obtain ⟨z, H', I', rz, b, eb, qz⟩ := I.after hq
      subst eb
      cases (show w = Value.bool b from rz)
      exact ⟨b, rfl, .bl (!b), H', I', rfl, qz⟩
    | next => exact False.elim hq
    | brk => exact False.elim hq
    | cont => exact False.elim hq
/-! ### repr of data -/
theorem call_reprD (hg : X.A.guards = some []) (hr : Room k X.A) : CallR X (.builtin "repr") (fun xs H Q => ∃ x d, xs = [x] ∧ Dp X.K H x d ∧ d.showable = true ∧ d.hasDict = false ∧ d.depth ≤ 100 ∧ d.shown.length ≤ sizeLine ∧ Q (.str d.shown) H) := by
  intro pins s σ H xs us Q I r h
  obtain ⟨x, d, rfl, hd, hs, hn, hdp, hl, q⟩ := h
  obtain ⟨u, rfl, ru⟩ := r.one
  obtain ⟨as, hR⟩ := Dp.reads I d x u hd ru
  have hu := hr.un
  cases hd with
  | non =>
    cases (show u = Value.none from ru)
    exact PySem.P.repr_of_none ⟨.str _, H, I.tok _, ⟨_, rfl⟩, q⟩
  | bl b =>
    cases (show u = Value.bool b from ru)
    exact PySem.P.repr_of_bool ⟨.str _, H, I.tok _, ⟨_, rfl⟩, by cases b <;> exact q⟩
  | int i => 
    obtain ⟨t, rfl⟩ := ru
    exact PySem.P.repr_of_int (of_decide_eq_true hs) ⟨.str _, H, I.tok _, ⟨_, rfl⟩, q⟩
  | str z =>
    obtain ⟨t, rfl⟩ := ru
    exact PySem.P.repr_of_str ⟨.str _, H, I.tok _, ⟨_, rfl⟩, q⟩ hl
  | @lst a ys ds h1 h2 =>
    cases (show u = Value.ref a from ru)
    exact PySem.repr_of_reads' hR hs (PySem.PyData.noDict_hsm hn) hg (by omega) (fun _ _ e => e) (fun h' t tk k => ⟨.str _, H, I.kept (t' := tk) k, ⟨_, rfl⟩, q⟩) hl
  | @tup a ys ds h1 h2 =>
    cases (show u = Value.ref a from ru)
    exact PySem.repr_of_reads' hR hs (PySem.PyData.noDict_hsm hn) hg (by omega) (fun _ _ e => e) (fun h' t tk k => ⟨.str _, H, I.kept (t' := tk) k, ⟨_, rfl⟩, q⟩) hl
end
end Kb

/-! ### defs that ask that no repr is under way -/
namespace Kb
open PySem PySem.Spec PyProof.Rows L2
structure FnOkG (P : Program) (w : World) (K : PySem.W.Frag) (mg : Str → Option Value) (base : Heap) (CX : CXT) (k : Nat) (f : Addr) (fd : FuncData) (ps : List Str) (sp : Sp) : Prop where
  len : ∀ vs H Q E, sp vs H Q E → vs.length = ps.length
  run : ∀ (A : Around) (outer : List Env) (s : Shared) (H : Hp) (ar : Args) (us : List Value) (vs : List V) (Q : VK) (E : XK), A.guards = some [] → Room k A → Env0 P w K mg base A outer s H → BindsTo s fd ar (ps.zip us) → Vals vs us → sp vs H Q E →
    codeAny (model P w) A (.call (.ref f) ar) (CR CX outer P w H s Q E) s
theorem FnOkG.of {P : Program} {w : World} {K : PySem.W.Frag} {mg : Str → Option Value} {base : Heap} {CX : CXT} {k : Nat} {f : Addr} {fd : FuncData} {ps : List Str} {sp : Sp} (F : FnOk P w K mg base CX k f fd ps sp) : FnOkG P w K mg base CX k f fd ps sp :=
  ⟨F.len, fun A o s H ar us vs Q E _ => F.run A o s H ar us vs Q E⟩
section
variable {CX : CXT} {P : Program} {w : World} {K : PySem.W.Frag} {mg : Str → Option Value} {base : Heap} {k : Nat} {f : Addr} {name qual : Str} {N ps : List Str} {sp : Sp} {st : Stmt} {fd : FuncData}
theorem okG (F : Fun K name qual st f fd) (S : FnScope N ps (defScope st)) (hlen : ∀ vs H Q E, sp vs H Q E → vs.length = ps.length)
    (hb : ∀ (cdv : Value) (A : Around) (outer : List Env) (s : Shared) (H : Hp) (vs : List V) (Q : VK) (E : XK), (A.deeper (envOfC qual (defScope st) s.heap.objs.size f cdv)).guards = some [] → Room k (A.deeper (envOfC qual (defScope st) s.heap.objs.size f cdv)) → sp vs H Q E →
      ∃ t, PSs (cxOf CX P w K mg base N qual (defScope st) f cdv A outer s H E) (defBody st) t ∧ t { nx := fun _ H' => Q .non H', rt := Q } (start N vs) H) :
    FnOkG P w K mg base CX (k + 1) f fd ps sp := by
  obtain ⟨oc, od, kV, doc, pm, an, cdv, ct, osl, rfl, lk, hcd⟩ := F.ex
  refine ⟨hlen, fun A outer s H ar us vs Q E hg hr e0 hbi r hsp => ?_⟩
  have hl := hlen _ _ _ _ hsp
  have KX : K.In s.heap := e0.mod.kin.keeps fun b o z => (e0.bs b o z).1
  have nl : s.heap.NoLimit := e0.mod.nolimit.keeps fun b o z => (e0.bs b o z).1
  have kinds : ∀ y ∈ ps.zip us, (defScope st).names.lookup y.1 = some .local ∨ ((defScope st).names.lookup y.1 = some .cell ∧ ((cellsFrom (s.heap.objs.size + 1) (defScope st).names []).lookup y.1).isSome = true) := fun ⟨n, v⟩ hy =>
    (S.par n (List.of_mem_zip hy).1).elim (fun q => .inl q) fun q => .inr ⟨q, PySem.W.cellsFrom_some _ _ _ (.inl q)⟩
  refine codeAny_call_function (Room.depth hr) (KX _ _ lk) rfl S.co S.gen rfl (PySem.W.codeRec_of KX hcd) (hbi _ _ _ _ ?_)
  refine wpAny_newFunctionEnv_cells (S.kind) kinds fun env he s1 x => ?_
  subst he
  refine ⟨nl.keeps x.toInCall.keep, codeAny_func ?_⟩
  obtain ⟨t, ht, hq⟩ := hb cdv A outer s H vs Q E hg (hr.deeper _) hsp
  have I := inv_start (CX := CX) (E := E) S hr.hd e0 hl r x
  refine wpAny_mono (ht.run [] s1 (start N vs) H _ I hq) (fun fl s' hs => ?_) fun _ _ z => z
  cases fl with
  | ret u =>
    obtain ⟨v, σ', H', J, rv, q⟩ := hs
    exact ⟨v, H', J.os, J.bare, J.base, J.hok, rv, q⟩
  | next =>
    obtain ⟨σ', H', J, q⟩ := hs
    exact ⟨.non, H', J.os, J.bare, J.base, J.hok, rfl, q⟩
  | brk =>
    obtain ⟨_, _, _, q⟩ := hs
    exact q.elim
  | cont =>
    obtain ⟨_, _, _, q⟩ := hs
    exact q.elim
end
structure FnG (P : Program) (w : World) (K : PySem.W.Frag) (mg : Str → Option Value) (base : Heap) (CX : CXT) (k : Nat) (x : Str) (ps : List Str) (sp : Sp) : Prop where
  ex : ∃ (f : Addr) (fd : FuncData), FnOkG P w K mg base CX k f fd ps sp ∧ mg x = some (.ref f) ∧ PySem.W.keepIn K (.ref f) = true ∧ Binds K fd ps []
section
variable {X : Cx} {CX : CXT} {k : Nat} {x : Str} {ps : List Str} {sp : Sp} {e : Expr} {es : List Expr} {t : TA} {p pos : Pos}
theorem pe_callG (F : FnG X.prog X.w X.K X.mg X.base CX0 k x ps sp) (hgd : X.A.guards = some []) (hr : Room k X.A) (hg : Gl X x) (ha : PA X (e :: es) t) (hdb : (x == ("__debug__" : Str)) = false := by decide)
    (he : starEach (e :: es) X.env = (false, eval e X.env) :: starEach es X.env := by rfl) (hpl : (backTo pos (starEach es X.env)).any (·.1) = false := by rfl) :
    PE X (.Call (.Name x p) (e :: es) [] pos) (tCall sp [] E0 t) := by
  obtain ⟨f, fd, hf, hm, hk, hb⟩ := F.ex
  refine ⟨fun pins s σ H Q I h => ?_⟩
  refine wpAny_Call_Name_kw (ld_glob I hg hm ?_ hdb)
  refine PySem.W.callWith_K (h₀ := X.base) I.ok.mod.kin hk (thn (ha.run pos pins s σ H _ I h) fun us s1 ⟨vs, H1, I1, r, q⟩ => ⟨I1.kIn, ?_⟩) he hpl
  have r2 : Vals (vs ++ []) (us ++ []) := r.append .nil
  have hl : (us ++ []).length = ps.length := by rw [← r2.length]; exact hf.len _ _ _ _ q
  refine wpAny_call (codeAny_mono (hf.run X.A X.stack s1 H1 ⟨us, []⟩ (us ++ []) (vs ++ []) Q E0 hgd hr I1.env0 (hb s1 us I1.kIn hl) r2 q) fun r s' hq => ?_)
  cases r with
  | error e => exact (show False from hq).elim
  | ok fl => cases fl with
    | ret u => exact I1.after hq
    | next => exact (show False from hq).elim
    | brk => exact (show False from hq).elim
    | cont => exact (show False from hq).elim
end
/-! ### the end for a law that asks for the guards -/
theorem lawG {P : Program} {w : World} {K : PySem.W.Frag} {mg mb : Str → Option Value} {k : Nat} {fa a : Addr} {fd : FuncData} {x : Str} {sp : Sp} {s₁ : Shared} {vs : List Value} {ns : List Int}
    (KX : K.In s₁.heap) (hns : s₁.heap.Ns mainGlobals mg) (hbn : s₁.heap.Ns builtinsNs mb) (hbb : ∀ x : Str, x ≠ "__name__" → mb x = bootBuiltins x) (nl : s₁.heap.NoLimit) (hg : s₁.gens = #[])
    (ha : s₁.heap.get? a = some { cls := .type "list", data := .seq vs.toArray }) (hi : IntsAre vs ns) (hl : ns.length ≤ sizeLine) (hr : Room k callerA)
    (F : ∀ base : Heap, K.In base → base.Ns mainGlobals mg → FnOkG P w K mg base CX0 k fa fd [x] sp) (bd : ∀ (s : Shared) (u : Value), BindsTo s fd ⟨[u], []⟩ [(x, u)])
    (hsp : ∀ H : Hp, Only H → SqL K H a (ns.map V.int) → sp [.ref a] H (fun v _ => v = .bl true) E0) :
    codeAny (model P w) callerA (.call (.ref fa) ⟨[.ref a], []⟩) (fun r s' => r = .ok (.ret (.bool true)) ∧ OldK s₁.heap s'.heap ∧ s'.os = s₁.os ∧ AllBare s'.gens) s₁ := by
  have rv := vals_ints hi
  have core : ∀ H : Hp, Only H → SqL K H a (ns.map V.int) → HOk P w H s₁.heap → (∀ b, H b ≠ none → b = a) → (H a ≠ none → K.lookup a = none) →
      codeAny (model P w) callerA (.call (.ref fa) ⟨[.ref a], []⟩) (fun r s' => r = .ok (.ret (.bool true)) ∧ OldK s₁.heap s'.heap ∧ s'.os = s₁.os ∧ AllBare s'.gens) s₁ := by
    intro H hO hS hok hA hK
    have free : ∀ {b : Addr} {o : Obj} {es : Array DictEntry} {ep : Nat}, s₁.heap.get? b = some o → o.data = .dict es ep → H b = none := fun {b o es ep} e d => Classical.byContradiction fun z => by
      have e' := hA b z
      subst e'
      rw [ha] at e; cases e
      exact nomatch (show Data.seq vs.toArray _ = Data.dict es ep from d)
    have nsK : ∀ {b : Addr} {m : Str → Option Value}, s₁.heap.Ns b m → (hidT s₁.heap H).Ns b m := fun {b m} ⟨o, es, ep, e, d, r⟩ => ⟨o, es, ep, hidT_get e (free e d), d, r⟩
    have hKb : K.In (hidT s₁.heap H) := fun b o e => hidT_get (KX b o e) (Classical.byContradiction fun z => by
      have e' := hA b z
      subst e'
      rw [hK z] at e; cases e)
    have hM : Mod K mg (hidT s₁.heap H) := ⟨hKb, nsK hns, ⟨mb, nsK hbn, hbb⟩, nl.elim fun mc z => ⟨mc, nsK z.1, z.2⟩⟩
    have e0 : Env0 P w K mg (hidT s₁.heap H) callerA [] s₁ H := ⟨rfl, hM, fun b o e => of_hidT e, Nat.le_of_eq (hidT_size _ _), trivial, fun b hb => (List.not_mem_nil hb).elim, hok, .of_eq hg⟩
    refine codeAny_mono ((F _ hKb (nsK hns)).run callerA [] s₁ H ⟨[.ref a], []⟩ [.ref a] [.ref a] _ _ rfl hr e0 (bd s₁ (.ref a)) (.cons rfl .nil) (hsp H hO hS)) fun r s' z => ?_
    cases r with
    | error e => exact (show False from z).elim
    | ok fl => cases fl with
      | next => exact (show False from z).elim
      | brk => exact (show False from z).elim
      | cont => exact (show False from z).elim
      | ret u =>
        obtain ⟨v, H', os, bare, un, hok', r', q⟩ := z
        cases (show v = V.bl true from q)
        cases (show u = Value.bool true from r')
        refine ⟨rfl, OldK.of_keep fun b o e => ?_, os, bare⟩
        rcases hO b with q | ⟨ob, xs, q⟩
        · exact un.keep b o e q (fun z => (List.not_mem_nil z).elim) (fun z => (List.not_mem_nil z).elim)
        · have e1 := (hok b _ q).1
          have e2 := (hok' b _ (un.frzs b ob _ q)).1
          rw [e] at e1; cases e1
          exact e2
  cases hk : K.lookup a with
  | some o =>
    have e := KX a o hk
    rw [ha] at e
    cases e
    exact core (fun _ => none) (fun _ => .inl rfl) (.inr ⟨_, vs.toArray, _, hk, rfl, rfl, rfl, by rw [List.size_toArray, hi.length]; exact hl, by simpa using rv⟩) (fun b u z => nomatch z) (fun b z => absurd rfl z) fun z => absurd rfl z
  | none =>
    refine core (fun b => if b = a then some (.frz { cls := .type "list", data := .seq vs.toArray } (.lst (ns.map V.int))) else none) (fun b => ?_) (.inl (.inr ⟨_, if_pos rfl⟩)) (fun b u z => ?_) (fun b z => Classical.byContradiction fun c => z (if_neg c)) fun _ => hk
    · by_cases c : b = a
      · exact .inr ⟨_, _, if_pos c⟩
      · exact .inl (if_neg c)
    · by_cases c : b = a
      · have z := (if_pos c).symm.trans z
        cases z
        subst c
        exact ⟨ha, by rw [List.length_map]; exact hl, vs, _, rv, ha⟩
      · have z := (if_neg c).symm.trans z
        cases z
theorem walk_ofG {l : PySem.W.OpenLaw} {n k : Nat} {q : Program} {loose : List Str} {XP : (Str → Option Value) → Heap → Prop} {YP : World → Heap → Prop} {d : DefRec} {K : Params → PySem.W.Frag} {sp : PySem.W.Frag → Sp} {x : Str}
    (hn : l.most = some n) (hn2 : n ≤ sizeLine) (hdf : d.params.defaults = []) (hr : Room k callerA) (hY : ∀ (w : World) (h : Heap), YP w h → (K w.params).In h)
    (F : ∀ (w : World) (mg : Str → Option Value) (fa : Addr) (h : Heap), (K w.params).In h → h.Ns mainGlobals mg → mg d.name = some (.ref fa) →
      ∃ fd : FuncData, (∀ (s : Shared) (u : Value), BindsTo s fd ⟨[u], []⟩ [(x, u)]) ∧ ∀ base : Heap, (K w.params).In base → base.Ns mainGlobals mg → FnOkG l.prog w (K w.params) mg base CX0 k fa fd [x] (sp (K w.params)))
    (hsp : ∀ (K : PySem.W.Frag) (H : Hp) (a : Addr) (ns : List Int), ns.length ≤ n → Only H → SqL K H a (ns.map V.int) → sp K [.ref a] H (fun v _ => v = .bl true) E0) :
    PySem.W.WalkO q loose XP YP l.row.toRowW d [] (fun f vs => PySem.call f vs) := by
  refine Att.attach_call hn hdf fun w s₀ s₁ mg mb fa o pm cd doc a vs ns G Y ho hd hcd hmg hobj hints hlen hg => ?_
  have KX := hY w _ Y
  obtain ⟨fd, hb, hF⟩ := F w mg fa _ KX G.T.g hmg
  exact lawG KX G.T.g G.T.b G.T.builtins G.T.nolimit hg hobj hints (Nat.le_trans hlen hn2) hr hF hb fun H hO hS => hsp (K w.params) H a ns hlen hO hS
end Kb

/-! ### own errors, defs that refuse, calls at the slots, clauses with and without a name -/
namespace Kb
open PySem PySem.Spec PyProof.Rows L2 ClX
def calm (sp : Sp) : Sp := fun vs H Q _ => sp vs H Q E0
theorem fn_calm {P : Program} {w : World} {K : PySem.W.Frag} {mg : Str → Option Value} {base : Heap} {k : Nat} {f : Addr} {fd : FuncData} {ps : List Str} {sp : Sp} (F : FnOk P w K mg base (L2.CX P w) k f fd ps sp) : FnOk P w K mg base CX0 k f fd ps (calm sp) := by
  refine ⟨fun vs H Q E h => F.len vs H Q E0 h, fun A outer s H ar us vs Q E hr e0 hb r h => codeAny_mono (F.run A outer s H ar us vs Q E0 hr e0 hb r h) fun rs s' z => ?_⟩
  cases rs with
  | ok fl => cases fl <;> exact z
  | error e =>
    obtain ⟨_, _, _, _, _, _, _, _, _, _, _, _, q⟩ := z
    exact (show False from q).elim
theorem FnC.calm {P : Program} {w : World} {K : PySem.W.Frag} {mg : Str → Option Value} {base : Heap} {k : Nat} {x : Str} {ps : List Str} {sp : Sp} (F : FnC P w K mg base (L2.CX P w) k x ps sp) : FnC P w K mg base CX0 k x ps (Kb.calm sp) :=
  let ⟨f, fd, h, r⟩ := F.ex
  ⟨f, fd, fn_calm h, r⟩
theorem MkC.calm {P : Program} {w : World} {K : PySem.W.Frag} {mg : Str → Option Value} {base : Heap} {k : Nat} {C : Addr} {x : Str} {ps : List Str} {sp : Sp} (F : MkC P w K mg base (L2.CX P w) k C x ps sp) : MkC P w K mg base CX0 k C x ps (Kb.calm sp) :=
  let ⟨f, fd, h, r⟩ := F.ex
  ⟨f, fd, fn_calm h, r⟩
theorem MtC.calm {P : Program} {w : World} {K : PySem.W.Frag} {mg : Str → Option Value} {base : Heap} {k : Nat} {C : Addr} {m : Str} {ps : List Str} {sp : Sp} (F : MtC P w K mg base (L2.CX P w) k C m ps sp) : MtC P w K mg base CX0 k C m ps (Kb.calm sp) :=
  let ⟨f, fd, h, r⟩ := F.ex
  ⟨f, fd, fn_calm h, r⟩

/-! ### calls that may raise, at the slots -/
def tMakeS (C : Addr) (sp : Sp) (E : L2.St → XK) (t : TA) : TE := fun σ H Q => t σ H fun vs H1 => ∀ x dx, H1 x = none → H1 dx = none → dx ≠ x →
  sp (.ref x :: vs) (upd (upd H1 dx (.own x)) x (.ins C dx [])) (fun v H2 => v = .non ∧ Q (.ref x) H2) (E σ)
section
variable {X : Cx} {k : Nat} {x m : Str} {f C : Addr} {fd : FuncData} {ps : List Str} {sp : Sp} {W : WX} {e o : Expr} {es : List Expr} {t : TA} {ta : TE} {p pos apos : Pos}
theorem pe_callSC (F : FnC X.prog X.w X.K X.mg X.base (L2.CX X.prog X.w) k x ps sp) (hr : Room k X.A) (tk : Takes X W) (hg : Gl X x) (ha : PA X (e :: es) t) (hdb : (x == ("__debug__" : Str)) = false := by decide)
    (he : starEach (e :: es) X.env = (false, eval e X.env) :: starEach es X.env := by rfl) (hpl : (backTo pos (starEach es X.env)).any (·.1) = false := by rfl) :
    PE X (.Call (.Name x p) (e :: es) [] pos) (tCallS sp (WE W) t) := by
  obtain ⟨f, fd, h, hm, hk, hb⟩ := F.ex
  exact pe_callS h hr hg hm hk hb (passAt tk) ha hdb he hpl
theorem run_makeS {CX : CXT} {E : XK} {pins : List (Addr × Obj)} {σ : L2.St} {H : Hp} {s : Shared} {Q : VK} {us : List Value} {vs : List V} (M : Mk X.K C f) (F : FnOk X.prog X.w X.K X.mg X.base CX k f fd ps sp) (hr : Room (k + 1) X.A) (hb : Binds X.K fd ps [])
    (hx : ∀ (pins : List (Addr × Obj)) (H' : Hp) (s : Shared) (e : Value) (s' : Shared), Inv X pins σ H' s → CX X.stack H' s E e s' → X.xe e s') (I : Inv X pins σ H s) (r : Vals vs us)
    (h : ∀ x dx, H x = none → H dx = none → dx ≠ x → sp (.ref x :: vs) (upd (upd H dx (.own x)) x (.ins C dx [])) (fun v H2 => v = .non ∧ Q (.ref x) H2) E) :
    wpAny (model X.prog X.w) X.A (call (.ref C) us) (EP X pins σ Q) X.xe s := by
  have hq := h (s.heap.objs.size + 1) s.heap.objs.size (I.hok.fresh (Nat.le_succ _)) (I.hok.fresh (Nat.le_refl _)) (Nat.ne_of_lt (Nat.lt_succ_self _))
  have I2 := Inv.made (C := C) I
  have r2 : Vals (V.ref (s.heap.objs.size + 1) :: vs) (Value.ref (s.heap.objs.size + 1) :: us) := .cons rfl r
  have hl : (Value.ref (s.heap.objs.size + 1) :: us).length = ps.length := by
    have e := r2.length
    rw [F.len _ _ _ _ hq] at e
    exact e.symm
  have b := hb _ (Value.ref (s.heap.objs.size + 1) :: us) I2.kIn (by rw [List.append_nil]; exact hl)
  rw [List.append_nil] at b
  refine wpAny_call (make_map (f := f) I.kIn M.makes M.init (beq_iff_eq.mp M.fn) (codeAny_mono (F.run _ X.stack _ _ ⟨Value.ref (s.heap.objs.size + 1) :: us, []⟩ (Value.ref (s.heap.objs.size + 1) :: us) _ _ E (hr.make C us [])
    (I2.env0.make C us []) b r2 hq) fun r s' hq' => ?_))
  cases r with
  | error e => exact hx pins _ _ e s' I2 hq'
  | ok fl =>
    cases fl with
    | ret u =>
      obtain ⟨v, H', I3, rv, ev, q3⟩ := I2.after hq'
      subst ev
      exact ⟨rv, ⟨V.ref (s.heap.objs.size + 1), H', I3, rfl, q3⟩⟩
    | next => exact False.elim hq'
    | brk => exact False.elim hq'
    | cont => exact False.elim hq'
theorem pe_makeS (F : MkC X.prog X.w X.K X.mg X.base (L2.CX X.prog X.w) k C x ps sp) (hr : Room (k + 1) X.A) (tk : Takes X W) (hg : Gl X x) (ha : PA X (e :: es) t) (hdb : (x == ("__debug__" : Str)) = false := by decide)
    (he : starEach (e :: es) X.env = (false, eval e X.env) :: starEach es X.env := by rfl) (hpl : (backTo pos (starEach es X.env)).any (·.1) = false := by rfl) :
    PE X (.Call (.Name x p) (e :: es) [] pos) (tMakeS C sp (WE W) t) := by
  obtain ⟨f, fd, h, M, hm, hb⟩ := F.ex
  refine ⟨fun pins s σ H Q I hh => ?_⟩
  refine wpAny_Call_Name_kw (ld_glob I hg hm ?_ hdb)
  refine PySem.W.callWith_K (h₀ := X.base) I.ok.mod.kin M.kp (thn (ha.run pos pins s σ H _ I hh) fun us s1 ⟨vs, H1, I1, r, q⟩ => ⟨I1.kIn, ?_⟩) he hpl
  exact run_makeS M h hr hb (fun pins H s e s' I z => passAt tk σ pins H s e s' I z) I1 r q
/-- cls(..), the i-th slot holds the class at C -/
def tMakeL (i : Nat) (C : Addr) (sp : Sp) (E : L2.St → XK) (t : TA) : TE := fun σ H Q => σ[i]? = some (some (.ref C)) ∧ tMakeS C sp E t σ H Q
theorem pe_makeL {i : Nat} {y : Str} (F : MkC X.prog X.w X.K X.mg X.base (L2.CX X.prog X.w) k C y ps sp) (hr : Room (k + 1) X.A) (tk : Takes X W) (hN : X.N[i]? = some x) (hv : Vis X.env.scope x) (ha : PA X (e :: es) t)
    (hdb : (x == ("__debug__" : Str)) = false := by decide) (hcd : (x == ("__classdict__" : Str)) = false := by decide)
    (he : starEach (e :: es) X.env = (false, eval e X.env) :: starEach es X.env := by rfl) (hpl : (backTo pos (starEach es X.env)).any (·.1) = false := by rfl) :
    PE X (.Call (.Name x p) (e :: es) [] pos) (tMakeL i C sp (WE W) t) := by
  obtain ⟨f, fd, h, M, hm, hb⟩ := F.ex
  refine ⟨fun pins s σ H Q I hh => ?_⟩
  obtain ⟨hs, ht⟩ := hh
  refine wpAny_Call_Name_kw (thn ((pe_var (pos := p) hN hv hdb hcd).run pins s σ H (fun v H1 => v = .ref C ∧ H1 = H) I ⟨.ref C, hs, rfl, rfl⟩) fun u s1 ⟨v, H1, I1, r1, q1⟩ => ?_)
  obtain ⟨rfl, rfl⟩ := q1
  cases r1
  refine PySem.W.callWith_K (h₀ := X.base) I.ok.mod.kin M.kp (thn (ha.run pos pins s1 σ _ _ I1 ht) fun us s2 ⟨vs, H2, I2, r, q⟩ => ⟨I2.kIn, ?_⟩) he hpl
  exact run_makeS M h hr hb (fun pins H s e s' I z => passAt tk σ pins H s e s' I z) I2 r q
/-- a classmethod of the class at C, its name x -/
structure CmC (P : Program) (w : World) (K : PySem.W.Frag) (mg : Str → Option Value) (base : Heap) (CX : CXT) (k : Nat) (C : Addr) (x m : Str) (ps : List Str) (sp : Sp) : Prop where
  ex : ∃ (f q : Addr) (fd : FuncData), FnOk P w K mg base CX k f fd ps sp ∧ CRead K C (.type "type") ∧ CMet K C (.type "type") m q f ∧ mg x = some (.ref C) ∧ Binds K fd ps []
theorem CmC.calm {P : Program} {w : World} {K : PySem.W.Frag} {mg : Str → Option Value} {base : Heap} {k : Nat} {C : Addr} {x m : Str} {ps : List Str} {sp : Sp} (F : CmC P w K mg base (L2.CX P w) k C x m ps sp) : CmC P w K mg base CX0 k C x m ps (Kb.calm sp) :=
  let ⟨f, q, fd, h, r⟩ := F.ex
  ⟨f, q, fd, fn_calm h, r⟩
def tCm (C : Addr) (sp : Sp) (E : L2.St → XK) (t : TA) : TE := fun σ H Q => t σ H fun vs H2 => sp (.ref C :: vs) H2 Q (E σ)
theorem pe_cmX {CX : CXT} {E : L2.St → XK} {pl : Sem Bool} (F : CmC X.prog X.w X.K X.mg X.base CX k C x m ps sp) (hr : Room k X.A) (hx : ∀ σ, PassesAt CX X σ (E σ)) (hg : Gl X x) (ha : PA X (e :: es) t) (hdb : (x == ("__debug__" : Str)) = false := by decide)
    (hst : starEach (e :: es) X.env = (false, eval e X.env) :: starEach es X.env := by rfl) (hpl : (backTo pos (starEach es X.env)).any (·.1) = false := by rfl)
    (ht : eval (.Call (.Attribute (.Name x p) m apos) (e :: es) [] pos) X.env = (do
      let ov ← eval (.Name x p) X.env
      standAt apos.atName
      let (f, first) ← holding [ov] (getMethod ov m pl)
      callWith pos f first (backTo pos (starEach (e :: es) X.env)) (backToKw pos (keywordEach [] X.env))) := by rfl) :
    PE X (.Call (.Attribute (.Name x p) m apos) (e :: es) [] pos) (tCm C sp E t) := by
  obtain ⟨f, q, fd, h, r, c, hm, hb⟩ := F.ex
  refine ⟨fun pins s σ H Q I hh => ?_⟩
  refine PySem.W.methodCall_KW (pl := pl) (ld_glob I hg hm ?_ hdb) ht
  refine getmethcm_ok I r c fun s2 I2 => ?_
  refine callwith_cm I2 (base_none I (Nat.le_refl _)) c.fi (thn (ha.run pos _ s2 σ H _ I2 hh) fun us s3 ⟨vs, H2, I3, rv, q2⟩ => ⟨⟨pin_at I3, I3.kIn⟩, ?_⟩) hst hpl
  have hl : (Value.ref C :: us).length = ps.length := by
    rw [← h.len _ _ _ _ q2]
    show us.length + 1 = vs.length + 1
    rw [rv.length]
  have b := hb s3 (.ref C :: us) I3.kIn (by rw [List.append_nil]; exact hl)
  rw [List.append_nil] at b
  have z : wpAny (model X.prog X.w) X.A (call (.ref s.heap.objs.size) us) (EP X ((s.heap.objs.size, PySem.W.methodObj (.ref f) (.ref C)) :: pins) σ Q) X.xe s3 := by
   refine wpAny_call (PySem.W.method_call (pin_at I3) (codeAny_mono (h.run X.A X.stack s3 H2 ⟨.ref C :: us, []⟩ (.ref C :: us) (.ref C :: vs) Q (E σ) hr I3.env0 b (.cons rfl rv) q2) fun r s' hq => ?_))
   cases r with
   | error e => exact hx σ _ H2 s3 e s' I3 hq
   | ok fl =>
    cases fl with
    | ret u => exact I3.after hq
    | next => exact False.elim hq
    | brk => exact False.elim hq
    | cont => exact False.elim hq
  exact thn z fun _ _ y => unpinE y
theorem pe_cmS {pl : Sem Bool} (F : CmC X.prog X.w X.K X.mg X.base (L2.CX X.prog X.w) k C x m ps sp) (hr : Room k X.A) (tk : Takes X W) (hg : Gl X x) (ha : PA X (e :: es) t) (hdb : (x == ("__debug__" : Str)) = false := by decide)
    (hst : starEach (e :: es) X.env = (false, eval e X.env) :: starEach es X.env := by rfl) (hpl : (backTo pos (starEach es X.env)).any (·.1) = false := by rfl)
    (ht : eval (.Call (.Attribute (.Name x p) m apos) (e :: es) [] pos) X.env = (do
      let ov ← eval (.Name x p) X.env
      standAt apos.atName
      let (f, first) ← holding [ov] (getMethod ov m pl)
      callWith pos f first (backTo pos (starEach (e :: es) X.env)) (backToKw pos (keywordEach [] X.env))) := by rfl) :
    PE X (.Call (.Attribute (.Name x p) m apos) (e :: es) [] pos) (tCm C sp (WE W) t) := pe_cmX F hr (passAt tk) hg ha hdb hst hpl ht
theorem pe_cmC {pl : Sem Bool} (F : CmC X.prog X.w X.K X.mg X.base CX0 k C x m ps sp) (hr : Room k X.A) (hg : Gl X x) (ha : PA X (e :: es) t) (hdb : (x == ("__debug__" : Str)) = false := by decide)
    (hst : starEach (e :: es) X.env = (false, eval e X.env) :: starEach es X.env := by rfl) (hpl : (backTo pos (starEach es X.env)).any (·.1) = false := by rfl)
    (ht : eval (.Call (.Attribute (.Name x p) m apos) (e :: es) [] pos) X.env = (do
      let ov ← eval (.Name x p) X.env
      standAt apos.atName
      let (f, first) ← holding [ov] (getMethod ov m pl)
      callWith pos f first (backTo pos (starEach (e :: es) X.env)) (backToKw pos (keywordEach [] X.env))) := by rfl) :
    PE X (.Call (.Attribute (.Name x p) m apos) (e :: es) [] pos) (tCm C sp (fun _ => E0) t) := pe_cmX F hr (fun _ _ _ _ _ _ _ z => (show False from z).elim) hg ha hdb hst hpl ht
/-- a property of the class at C -/
structure PrC (P : Program) (w : World) (K : PySem.W.Frag) (mg : Str → Option Value) (base : Heap) (k : Nat) (C : Addr) (m : Str) (sp : Sp) : Prop where
  ex : ∃ (f q : Addr) (fd : FuncData), FnOk P w K mg base CX0 k f fd ["self"] sp ∧ Cls K C ∧ PropOf K C m q f ∧ Binds K fd ["self"] []
theorem pe_propC (F : PrC X.prog X.w X.K X.mg X.base k C m sp) (hr : Room (k + 1) X.A) (he : PE X e ta) (hab : attributeBase e m X.env (eval e X.env) = eval e X.env := by rfl) : PE X (.Attribute e m pos) (tProp C sp [] E0 ta) := by
  obtain ⟨f, q, fd, h, c, hp, hb⟩ := F.ex
  exact pe_prop he c hp h hr hb .nil (fun _ _ _ _ _ _ _ z => (show False from z).elim) hab
end
end Kb

namespace Kb
open PySem PySem.Spec PyProof.Rows L2 ClX
/-! ### an own error that has no fields -/
/-- the class whose own initialiser is called by its name -/
structure UeC (K : PySem.W.Frag) (U : Addr) : Prop where
  rd : CRead K U (.type "type")
  at_ : PySem.W.findCls K (.ref U) (.type "type") "__init__" = some (.val (.builtin "ValueError.__init__"))
section
variable {X : Cx} {o e : Expr} {es : List Expr} {ta : TA} {x : Str} {U : Addr} {p p1 p2 pos : Pos}
theorem pe_uinit {pl : Sem Bool} (hU : UeC X.K U) (hg : Gl X x) (hm : X.mg x = some (.ref U)) (ha : PA X (e :: es) ta) (hdb : (x == ("__debug__" : Str)) = false := by decide)
    (hc : eval (.Call (.Attribute (.Name x p1) "__init__" p2) (e :: es) [] pos) X.env = (do
      let ov ← eval (.Name x p1) X.env
      standAt p2.atName
      let (f, first) ← holding [ov] (getMethod ov "__init__" pl)
      callWith pos f first (backTo pos (starEach (e :: es) X.env)) (backToKw pos (keywordEach [] X.env))) := by rfl)
    (he : starEach (e :: es) X.env = (false, eval e X.env) :: starEach es X.env := by rfl) (hpl : (backTo pos (starEach es X.env)).any (·.1) = false := by rfl) :
    PE X (.Call (.Attribute (.Name x p1) "__init__" p2) (e :: es) [] pos) (tVeI X.K ta) := by
  refine ⟨fun pins s σ H Q I h => ?_⟩
  refine PySem.W.methodCall_KW (ld_glob I hg hm ?_ hdb) hc
  refine PySem.W.method_cls I.kIn hU.rd.ga (PySem.W.cls_value I.kIn hU.rd.rd hU.at_ rfl ?_)
  show wpAny _ _ (callWith pos (Value.builtin "ValueError.__init__") [] (backTo pos (starEach (e :: es) X.env)) []) _ _ _
  refine PyProof.Rows.callWith_method1 (thn (ha.run pos pins _ σ H _ (I.tok _) h) fun us s1 ⟨vs, H1, I1, r1, a, C, ws, ev, hl, T, ea, q⟩ => ?_) he hpl
  subst ev
  cases r1 with
  | @cons _ u0 _ ur ra rw' =>
    obtain rfl : u0 = Value.ref a := ra
    have hlen : ur.length ≤ sizeLine := by
      rw [← Paired.length rw', sizeLine_eq]
      omega
    exact oinit_ok T I1 ea hlen fun s' J => ⟨.non, H1, J, rfl, q⟩
end
def sp_err0 (C : Addr) : Sp := fun vs H Q _ => ∃ a, vs = [.ref a] ∧ H a = some (exo a C none) ∧ Q .non H
theorem mk_endN {X : Cx} {pins : List (Addr × Obj)} {σ : L2.St} {H1 H2 : Hp} {hp hp2 h2 : Heap} {g1 g2 : Array GenState} {d1 d2 : Drawn} {t1 t2 : Nat} {os1 os2 : OsState} {a C : Addr} (I1 : Inv X pins σ H1 ⟨hp, g1, d1, t1, os1⟩)
    (ha : hp.objs.size ≤ a) (k : ∀ b o, hp.get? b = some o → hp2.get? b = some o) (un : Un (frs X.stack) [] (upd H1 a (exo a C none)) H2 hp2 h2) (hok : HOk X.prog X.w H2 h2) (ho : os2 = os1) (hb : AllBare g2)
    (ea : H2 a = some (exo a C none)) :
    ∃ (t0 : Addr) (G : Heap), Inv X pins σ (del H2 a) ⟨G, g2, d2, t2, os2⟩ ∧ (∀ b o, G.get? b = some o → h2.get? b = some o) ∧ G.get? a = none ∧
      h2.get? a = some ({ cls := .ref C, dict := none, data := .fields #[.ref t0, .none, .none, .none, .bool false, .none] } : Obj) ∧ (del H2 a) a = none := by
  obtain ⟨t0, hoe⟩ := exo_at hok ea
  have hn : H1 a = none := I1.hok.fresh ha
  obtain ⟨G, g1', g2'⟩ := restrict h2 fun b => decide (b ≠ a)
  have gk : ∀ b, b ≠ a → G.get? b = h2.get? b := fun b hb => g1' b (decide_eq_true hb)
  have ge : G.get? a = none := g2' a (by simp)
  have nha : ∀ {b : Addr} {o : Obj}, hp.get? b = some o → b ≠ a := fun {b o} z => Nat.ne_of_lt (Nat.lt_of_lt_of_le (Heap.lt_size z) ha)
  have up : ∀ {b : Addr}, b ≠ a → H1 b = none → upd H1 a (exo a C none) b = none := fun {b} hb n => by rw [upd_ne hb]; exact n
  have U : Un (frs X.stack) [] H1 (del H2 a) hp G := {
    keep := fun b o z n hf hx => by
      rw [gk b (nha z)]
      exact un.keep b o (k b o z) (up (nha z) n) hf hx
    slot := fun b o z n hf hx => by
      rw [gk b (nha z)]
      exact un.slot b o (k b o z) (up (nha z) n) hf hx
    free := fun b o z n hx => by
      rw [del_ne (nha z)]
      exact un.free b o (k b o z) (up (nha z) n) hx
    there := fun b o z hx => by
      rw [gk b (nha z)]
      exact un.there b o (k b o z) hx
    tups := fun b xs z => by
      rw [del_ne (ne_of_none z hn)]
      exact un.tups b xs (by rw [upd_ne (ne_of_none z hn)]; exact z)
    frzs := fun b o v z => by
      rw [del_ne (ne_of_none z hn)]
      exact un.frzs b o v (by rw [upd_ne (ne_of_none z hn)]; exact z)
    tbls := fun b ps z => by
      rw [del_ne (ne_of_none z hn)]
      exact un.tbls b ps (by rw [upd_ne (ne_of_none z hn)]; exact z) }
  have hok3 : HOk X.prog X.w (del H2 a) G := fun b o z => by
    have hba : b ≠ a := fun e => by
      rw [e, del_same] at z
      cases z
    rw [del_ne hba] at z
    have noa : ∀ {c : Addr}, H2 c = some (.own b) → c ≠ a := fun {c} hc => at_ne ea hc exo_own
    exact (hok b o z).stay (fun c v hc y => by
        have hca : c ≠ a := by
          rcases hc with hc | hc
          · rw [hc]
            exact hba
          · exact noa hc
        rw [gk c hca]
        exact y)
      (fun c hc => by rw [del_ne (noa hc)]; exact hc) (fun c xs hc => by rw [del_ne (at_ne ea hc exo_tup)]; exact hc)
  have J : Inv X pins σ (del H2 a) ⟨G, g2, d2, t2, os2⟩ := I1.call' (ch := []) ho U hok3 hb (fun b z => absurd z (by simp))
  refine ⟨t0, G, J, fun b o z => ?_, ge, hoe, del_same⟩
  by_cases hba : b = a
  · rw [hba, ge] at z
    cases z
  · exact (gk b hba).symm.trans z
/-- an own error without fields, made by its name -/
structure ErC (P : Program) (w : World) (K : PySem.W.Frag) (mg : Str → Option Value) (base : Heap) (x : Str) (C : Addr) : Prop where
  ex : ∃ (f : Addr) (fd : FuncData), FnOk P w K mg base CX0 2 f fd ["self"] (sp_err0 C) ∧ OexC K C ∧ PySem.W.findIn K (.ref C) "__init__" = some (some (.ref f)) ∧ PySem.W.typeIn K (.ref f) = some (.type "function") ∧ mg x = some (.ref C) ∧ Binds K fd ["self"] []
theorem pmk_err0 {X : Cx} {C : Addr} {x : Str} {p pos : Pos} (F : ErC X.prog X.w X.K X.mg X.base x C) (hr : Room 3 X.A) (hg : Gl X x) (hdb : (x == ("__debug__" : Str)) = false := by decide) :
    PMk X (.Call (.Name x p) [] [] pos) (fun _ H Q => Q (.ref C) none H) := by
  obtain ⟨f, fd, F1, T, iC, tI, hm, hb⟩ := F.ex
  intro pins s σ H Q I h
  obtain ⟨nm, q, N, bs, bm, sn, sub, ab, col, dd, k0, k1, k2, k3, k5, hC, hbm⟩ := T.cls
  refine wpAny_Call_Name_kw (ld_glob I hg hm ?_ hdb)
  refine PySem.W.callWith_K0 I.kIn T.kC ?_
  show wpAny _ _ (call (.ref C) []) _ _ _
  obtain ⟨hp, g, dr, tk, os⟩ := s
  have hsz : hp.objs.size ≤ hp.objs.size + 1 := Nat.le_succ _
  have hn : H (hp.objs.size + 1) = none := I.hok.fresh hsz
  have kk : ∀ b o, hp.get? b = some o → ((hp.push (PySem.W.kdv_tup [])).push (PySem.HandSPX.excO C hp.objs.size)).get? b = some o := fun b o e => Heap.get?_push_of_some _ (Heap.get?_push_of_some _ e)
  have hget : ((hp.push (PySem.W.kdv_tup [])).push (PySem.HandSPX.excO C hp.objs.size)).get? (hp.objs.size + 1) = some (PySem.HandSPX.excO C hp.objs.size) := by heap_get
  have I2 : Inv X pins σ (upd H (hp.objs.size + 1) (exo (hp.objs.size + 1) C none)) ⟨(hp.push (PySem.W.kdv_tup [])).push (PySem.HandSPX.excO C hp.objs.size), g, dr, tk, os⟩ :=
    I.laid (t' := tk) (a := hp.objs.size + 1) (o := exo (hp.objs.size + 1) C none) (h' := (hp.push (PySem.W.kdv_tup [])).push (PySem.HandSPX.excO C hp.objs.size)) kk hsz (exo_ok hget)
  have r2 : Vals [V.ref (hp.objs.size + 1)] [Value.ref (hp.objs.size + 1)] := .cons rfl .nil
  have b := hb _ [Value.ref (hp.objs.size + 1)] I2.kIn rfl
  have hq : sp_err0 C [V.ref (hp.objs.size + 1)] (upd H (hp.objs.size + 1) (exo (hp.objs.size + 1) C none)) (fun v H2 => v = .non ∧ H2 = upd H (hp.objs.size + 1) (exo (hp.objs.size + 1) C none)) E0 := ⟨_, rfl, upd_same, rfl, rfl⟩
  refine wpAny_call (PySem.HandSPX.call_own _root_.PySem.F.excBase_ValueError (fun Y => PySem.HandSPX.refsVE_contains Y bm hbm) (I.kIn _ _ hC) (PySem.W.looks_findIn I.kIn iC) (fun self => PySem.W.bind_fn I.kIn self tI) (Nat.zero_le _)
    (codeAny_mono (F1.run _ X.stack _ _ ⟨[Value.ref (hp.objs.size + 1)], []⟩ [Value.ref (hp.objs.size + 1)] _ _ E0 (hr.make C [] []) (I2.env0.make C [] []) b r2 hq) fun r s' hq' => ?_))
  cases r with
  | error er => exact (show False from hq').elim
  | ok fl =>
    cases fl with
    | ret u =>
      obtain ⟨v, H2, os2, bare2, un2, hok2, rv, ev, eH⟩ := hq'
      subst ev
      subst eH
      obtain ⟨h2, g2, d2, t2, os'⟩ := s'
      have ed : del (upd H (hp.objs.size + 1) (exo (hp.objs.size + 1) C none)) (hp.objs.size + 1) = H := by
        funext b
        by_cases hb : b = hp.objs.size + 1
        · rw [hb, del_same, hn]
        · rw [del_ne hb, upd_ne hb]
      obtain ⟨t0, G, J, kG, ge, hoe, na⟩ := mk_endN (d2 := d2) (t2 := t2) I hsz kk un2 hok2 os2 bare2 upd_same
      rw [ed] at J na
      exact ⟨rv, _, _, _, ⟨G, g2, d2, t2, os'⟩, _, .ref C, none, rfl, J, kG, ge, hoe, ⟨rfl, rfl⟩, rfl, rfl, na, rfl, bare2, raises_own T.exC T.tyC, h⟩
    | next => exact False.elim hq'
    | brk => exact False.elim hq'
    | cont => exact False.elim hq'
theorem ps_raise0 {X : Cx} {W : WX} {C : Addr} {x : Str} {p pos pos' : Pos} (F : ErC X.prog X.w X.K X.mg X.base x C) (hr : Room 3 X.A) (hc : X.calm = true) (tk : Takes X W) (hg : Gl X x) (hdb : (x == ("__debug__" : Str)) = false := by decide) :
    PS X (.Raise (some (.Call (.Name x p) [] [] pos)) none pos') (fun _ σ H => W (.ref C) none σ H) := ps_raise hc tk (pmk_err0 F hr hg hdb)
/-! ### clauses, with a name or without -/
inductive Cl where
  | pl (c : Value) (ts : Addr → Value → Option Addr → TS)
  | nm (c : Value) (i : Nat) (ts : Addr → Value → Option Addr → TS)
def Ends.unset (D : Ends) (i : Nat) : Ends := { nx := fun σ' H' => D.nx (σ'.set i none) H', rt := fun v H' => D.rt v H', bk := fun σ' H' => D.bk (σ'.set i none) H', ct := fun σ' H' => D.ct (σ'.set i none) H' }
def wCl (K : PySem.W.Frag) (Wout : WX) (D : Ends) : List Cl → WX
  | [] => Wout
  | .pl c ts :: r => fun cls d σ H => ∃ b, PySem.W.exmOne K cls c = some b ∧ (b = true → ∀ a, H a = none → ts a cls d D σ H) ∧ (b = false → wCl K Wout D r cls d σ H)
  | .nm c i ts :: r => fun cls d σ H => ∃ b, PySem.W.exmOne K cls c = some b ∧ (b = true → ∀ a, H a = none → ts a cls d (Ends.unset D i) (σ.set i (some (.ref a))) H) ∧ (b = false → wCl K Wout D r cls d σ H)
inductive ClOk (X : Cx) : List ExceptHandler → List Cl → Prop
  | nil : ClOk X [] []
  | pl {x : Str} {c : Value} {ts : Addr → Value → Option Addr → TS} {b₀ : Stmt} {suite : List Stmt} {np pos' : Pos} {hds : List ExceptHandler} {l : List Cl} (hc : Names X x c)
      (hsu : ∀ (a : Addr) (oe : Obj) (cls : Value) (d : Option Addr) (pn : List (Addr × Obj)), Zc cls d oe → (∃ vs, oe.data = .fields vs) → PSs (X.suite a ((a, oe) :: pn)) (b₀ :: suite) (ts a cls d)) (r : ClOk X hds l) :
      ClOk X (.ExceptHandler (some (.Name x np)) none (b₀ :: suite) pos' :: hds) (.pl c ts :: l)
  | nm {x n : Str} {i : Nat} {c : Value} {ts : Addr → Value → Option Addr → TS} {b₀ : Stmt} {suite : List Stmt} {np pos' : Pos} {hds : List ExceptHandler} {l : List Cl} (hN : X.N.Nodup) (hi : X.N[i]? = some n) (hln : X.env.kindOf n = some .local) (hc : Names X x c)
      (hsu : ∀ (a : Addr) (oe : Obj) (cls : Value) (d : Option Addr) (pn : List (Addr × Obj)), Zc cls d oe → (∃ vs, oe.data = .fields vs) → PSs (X.suite a ((a, oe) :: pn)) (b₀ :: suite) (ts a cls d)) (r : ClOk X hds l) :
      ClOk X (.ExceptHandler (some (.Name x np)) (some n) (b₀ :: suite) pos' :: hds) (.nm c i ts :: l)
section
variable {X : Cx} {body : List Stmt} {h₀ : ExceptHandler} {hds : List ExceptHandler} {l : List Cl} {pos : Pos} {tb : WX → TS} {Wout : WX}
theorem ps_tryCl (hs : X.stack = X.env :: X.outer) (hf : X.env.frame = some X.env.locals) (tk : Takes X Wout)
    (hb : ∀ (W : WX) (pn : List (Addr × Obj)) (xe : Value → Shared → Prop), Takes (X.tr pn xe) W → PassesOwn (model X.prog X.w) X.A X.env xe → PSs (X.tr pn xe) body (tb W))
    (hh : ClOk X (h₀ :: hds) l) : PS X (.Try body (h₀ :: hds) [] [] pos) (fun D σ H => tb (wCl X.K Wout D l) D σ H) := by
  refine ⟨fun pins s σ H D I h => ?_⟩
  have ok := I.ok
  have hfr : X.A.frames = some (X.env :: X.outer) := by rw [ok.frames, hs]
  refine wpAny_Try_except ?_
  refine wpAny_mono ((hb (wCl X.K Wout D l) (X.pn ++ pins) (fun e s₁ => wpAny (model X.prog X.w) X.A (noteFrame e X.env) (fun _ s₂ => wpAny (model X.prog X.w) X.A (setFlight e none) (fun _ s₃ =>
    wpAny (model X.prog X.w) X.A (handleBy e X.env (h₀ :: hds)) (SP X pins D) X.xe s₃) X.xe s₂) X.xe s₁) (fun u s' xx => ?_) PassesOwn.looking).run [] s σ H D (I.toTry _) h) (fun f s1 hsp => ?_) (fun e s1 he => he)
  · -- the catch
    obtain ⟨a, B, sI, pins', σ', H', cls, d, rfl, J', nb, up, sky, na, os, ag, w⟩ := xx
    have J : Inv X pins σ' H' sI := J'.ofTry ok
    have sky' : Sky B (X.env :: X.outer) a (Zc cls d) X.env.locals s'.heap := by rw [← hs]; exact sky
    show wpAny (model X.prog X.w) X.A (noteFrame (.ref a) X.env) _ _ _
    refine Sky.land Zc.steady hfr hf sky' fun h3 fl3 up3 => ?_
    have J3 : Inv X pins σ' H' { s' with heap := h3 } := J.landed nb fl3.1 (up.trans up3) os ag
    obtain ⟨oe3, vs3, he3, hz3, hd3⟩ := fl3.there
    have notFr : ∀ {h : Heap} {o : Obj} {vs : Array Value}, h.FunFrames B (X.env :: X.outer) → h.get? a = some o → o.data = .fields vs → a ∉ frs (X.env :: X.outer) := fun {h o vs} ff e dd hm => by
      obtain ⟨_, o', e', hnf⟩ := ff.mem hm
      rw [e] at e'; cases e'
      exact hnf _ dd
    have nfr := notFr fl3.2.2.1 he3 hd3
    have nL : a ≠ X.env.locals := fun z => nfr (List.mem_filterMap.mpr ⟨X.env, List.mem_cons_self, by rw [hf, z]⟩)
    have nF : a ∉ X.fs := fun hm => by
      obtain ⟨e, he, q⟩ := List.mem_filterMap.mp hm
      exact nfr (List.mem_filterMap.mpr ⟨e, List.mem_cons_of_mem _ he, q⟩)
    have S3 := J3.suite he3 hd3 na nL nF
    have LT : PySem.W.Looks (model X.prog X.w) h3 (typeOf (.ref a)) cls := fun A Q E s k q => wpAny_typeOf_ref (k _ _ he3) (by rw [hz3.1]; exact q)
    have test : ∀ {x : Str} {c : Value} {np : Pos}, Names X x c → ∀ {Q : Value → Shared → Prop} {E : Value → Shared → Prop}, Q c { s' with heap := h3 } → wpAny (model X.prog X.w) (X.A.mark (some (.ref a))) (eval (.Name x np) X.env) Q E { s' with heap := h3 } := fun {x c np} hc {Q E} q => by
      obtain ⟨hg, hdbg, hm | ⟨hm, hv, hnn⟩⟩ := hc
      · exact ld_glob (X := X.suite a ((a, oe3) :: (X.pn ++ pins))) S3 hg hm q hdbg
      · exact ld_blt (X := X.suite a ((a, oe3) :: (X.pn ++ pins))) S3 hg hm hv q hnn hdbg
    have go : ∀ {hds' : List ExceptHandler} {l' : List Cl}, ClOk X hds' l' → wCl X.K Wout D l' cls d σ' H' →
        wpAny (model X.prog X.w) X.A (handleBy (.ref a) X.env hds') (SP X pins D) X.xe { s' with heap := h3 } := by
      intro hds' l' hk
      induction hk with
      | nil =>
        intro w
        refine wpAny_handleBy_nil ?_
        obtain ⟨k1, k2, k3, oe, vs, T, oT, ts', he, hz, hd, h1, hr⟩ := id fl3
        unfold PySem.passOn
        refine wpAny_bind (wpAny_field he hd h1 ?_)
        rw [if_neg (show ¬ ((Value.ref T == Value.none) = true) from by simp)]
        have fin : wpAny (model X.prog X.w) X.A (setFlight (.ref a) X.env.frame) (fun _ s4 => wpAny (model X.prog X.w) X.A (throw (.ref a) : Sem Flow) (SP X pins D) X.xe s4) X.xe { s' with heap := h3 } := by
          rw [hf]
          refine HandSPX.setFlight_upZ fl3 fun h4 hh4 up4 => wpAny_throw (tk _ _ ?_)
          exact ⟨a, B, sI, pins, σ', H', cls, d, rfl, J, nb, (up.trans up3).trans up4, .inr (.inr (by rw [hs]; exact hh4)), na, os, ag, w⟩
        first
          | exact wpAny_bind (wpAny_pure (wpAny_bind fin))
          | exact wpAny_bind fin
      | @pl x c ts b₀ suite np pos' hds2 l2 hc hsu r ih =>
        intro w
        obtain ⟨b, hb1, hyes, hno⟩ := w
        refine wpAny_handleBy_cons (codeAny_handlers_test ?_) (by intro q; cases q)
        have LM := PySem.W.exm_one (M := model X.prog X.w) (J3.kIn) LT hb1
        refine test hc (LM.here ?_)
        cases b with
        | true =>
          refine codeAny_handlers_suite ?_
          refine HandSPX.lands_againZ fl3 fun h4 fl4 up4 => ?_
          have J4 : Inv X pins σ' H' { s' with heap := h4 } := J.landed nb fl4.1 ((up.trans up3).trans up4) os ag
          obtain ⟨oe4, vs4, he4, hz4, hd4⟩ := fl4.there
          have S4 := J4.suite he4 hd4 na nL nF
          refine wpAny_mono ((hsu a oe4 cls d (X.pn ++ pins) hz4 ⟨_, hd4⟩).run [] _ _ H' _ S4 (hyes rfl a na)) (fun f s6 hsp => ?_) (fun _ _ z => False.elim z)
          cases f with
          | next =>
            obtain ⟨σ6, H6, S6, q6⟩ := hsp
            exact ⟨_, _, S6.unsuite ok, q6⟩
          | brk =>
            obtain ⟨σ6, H6, S6, q6⟩ := hsp
            exact ⟨_, _, S6.unsuite ok, q6⟩
          | cont =>
            obtain ⟨σ6, H6, S6, q6⟩ := hsp
            exact ⟨_, _, S6.unsuite ok, q6⟩
          | ret u =>
            obtain ⟨v6, σ6, H6, S6, r6, q6⟩ := hsp
            exact ⟨_, _, _, S6.unsuite ok, r6, q6⟩
        | false =>
          show wpAny _ X.A (handleBy (.ref a) X.env hds2) _ _ _
          exact ih (hno rfl)
      | @nm x n i c ts b₀ suite np pos' hds2 l2 hN hi hln hc hsu r ih =>
        intro w
        have hloc : Loc X.env.scope n := .inl hln
        obtain ⟨b, hb1, hyes, hno⟩ := w
        refine wpAny_handleBy_cons (codeAny_handlers_test ?_) (by intro q; cases q)
        have LM := PySem.W.exm_one (M := model X.prog X.w) (J3.kIn) LT hb1
        refine test hc (LM.here ?_)
        cases b with
        | true =>
          refine codeAny_handlers_suite_as ?_
          refine HandSPX.lands_againZ fl3 fun h4 fl4 up4 => ?_
          have J4 : Inv X pins σ' H' { s' with heap := h4 } := J.landed nb fl4.1 ((up.trans up3).trans up4) os ag
          obtain ⟨oe4, vs4, he4, hz4, hd4⟩ := fl4.there
          have S4 := J4.suite he4 hd4 na nL nF
          refine store_ok (X := X.suite a ((a, oe4) :: (X.pn ++ pins))) (v := .ref a) S4 hN hi hloc rfl (fun s5 S5 => ?_) (.inr hln)
          refine wpAny_mono ((hsu a oe4 cls d (X.pn ++ pins) hz4 ⟨_, hd4⟩).run [] s5 _ H' _ S5 (hyes rfl a na)) (fun f s6 hsp => ?_) (fun _ _ z => False.elim z)
          have end_ : ∀ {σ6 : L2.St} {H6 : Hp} {Q : Shared → Prop}, Inv (X.suite a ((a, oe4) :: (X.pn ++ pins))) [] σ6 H6 s6 → (∀ s7, Inv X pins (σ6.set i none) H6 s7 → Q s7) →
              wpAny (model X.prog X.w) X.A (do bindName X.env n .none; unbindBehindTheSuite X.env n pos') (fun _ s7 => Q s7) X.xe s6 := fun {σ6 H6 Q} S6 hq => gone_ok (S6.unsuite ok) hN hi hln hq
          cases f with
          | next =>
            obtain ⟨σ6, H6, S6, q6⟩ := hsp
            exact end_ S6 fun s7 J7 => ⟨_, _, J7, q6⟩
          | brk =>
            obtain ⟨σ6, H6, S6, q6⟩ := hsp
            exact end_ S6 fun s7 J7 => ⟨_, _, J7, q6⟩
          | cont =>
            obtain ⟨σ6, H6, S6, q6⟩ := hsp
            exact end_ S6 fun s7 J7 => ⟨_, _, J7, q6⟩
          | ret u =>
            obtain ⟨v6, σ6, H6, S6, r6, q6⟩ := hsp
            exact end_ S6 fun s7 J7 => ⟨_, _, _, J7, r6, q6⟩
        | false =>
          show wpAny _ X.A (handleBy (.ref a) X.env hds2) _ _ _
          exact ih (hno rfl)
    exact go hh w
  · cases f with
    | next =>
      obtain ⟨σ', H', J', q⟩ := hsp
      exact wpAny_execs_nil ⟨σ', H', J'.ofTry ok, q⟩
    | brk =>
      obtain ⟨σ', H', J', q⟩ := hsp
      exact ⟨σ', H', J'.ofTry ok, q⟩
    | cont =>
      obtain ⟨σ', H', J', q⟩ := hsp
      exact ⟨σ', H', J'.ofTry ok, q⟩
    | ret u =>
      obtain ⟨v, σ', H', J', r, q⟩ := hsp
      exact ⟨v, σ', H', J'.ofTry ok, r, q⟩
end
/-! ### isinstance of a caught error and several classes -/
def clsA : Value → Addr
  | .ref D => D
  | _ => 0
/-- a suite whose reading has what it knows of the class -/
theorem pss_if {X : Cx} {p : Prop} {b : List Stmt} {t : TS} (h : p → PSs X b t) : PSs X b (fun D σ H => p ∧ t D σ H) :=
  ⟨fun pins s σ H D I z => (h z.1).run pins s σ H D I z.2⟩
def ErrD (K : PySem.W.Frag) (cls : Value) (d : Option Addr) : Prop := ∃ D, cls = .ref D ∧ d = none ∧ ExcC K D
def rIsET (K : PySem.W.Frag) (D a : Addr) : List V → Hp → VK → Prop := fun xs H Q => ∃ (tp : Addr) (cs : List V) (us : List Value) (b : Bool), xs = [.ref a, .ref tp] ∧ H tp = some (.tup cs) ∧ Paired ClsV cs us ∧ PySem.W.kitAny K (.ref D) us = some b ∧ Q (.bl b) H
theorem call_isET {X : Cx} {a : Addr} {cls : Value} {d : Option Addr} {oe : Obj} {pn : List (Addr × Obj)} (C : ErrD X.K cls d) (hz : Zc cls d oe) (hf : ∃ vs, oe.data = .fields vs) : CallR (X.suite a ((a, oe) :: pn)) (.builtin "isinstance") (rIsET X.K (clsA cls) a) := by
  obtain ⟨D, rfl, rfl, C⟩ := C
  intro pins s σ H xs us Q I r h
  obtain ⟨tp, cs, ws, b, rfl, hT, k, e, q⟩ := h
  obtain ⟨u1, u2, rfl, r1, r2⟩ := vals2 r
  cases (show u1 = Value.ref a from r1)
  cases (show u2 = Value.ref tp from r2)
  obtain ⟨hget, _⟩ := I.pin (a, oe) (List.mem_append.mpr (.inl List.mem_cons_self))
  obtain ⟨vs, hv⟩ := hf
  have J : PySem.W.InstAt s.heap a oe D none := by
    obtain ⟨oc, od, oda, osl⟩ := oe
    obtain ⟨h1, h2⟩ := hz
    dsimp only at h1 h2 hv
    subst h1 h2 hv
    exact ⟨hget, rfl, rfl, trivial⟩
  obtain ⟨_, its, rv, o, h1, h2, n, h3⟩ := (show ObjOk X.prog X.w H s.heap tp (.tup cs) from I.hok tp _ hT)
  have e3 := ClsV.all k rv
  subst e3
  obtain ⟨oc, od, dt, sl⟩ := o
  simp only at h2 h3
  subst h2 h3
  exact PySem.W.kia_tup (PySem.W.handS_kitx_exc C.hg C.hk C.hs C.hd C.ha C.hn C.ht C.hm) I.kIn J h1 e (fun z => nomatch z) fun tk => ⟨.bl b, H, I.kept (t' := tk) fun _ _ z => z, rfl, q⟩
theorem call_isED {X : Cx} {a : Addr} {cls : Value} {d : Option Addr} {oe : Obj} {pn : List (Addr × Obj)} (C : ErrD X.K cls d) (hz : Zc cls d oe) (hf : ∃ vs, oe.data = .fields vs) : CallR (X.suite a ((a, oe) :: pn)) (.builtin "isinstance") (rIsE X.K (clsA cls) a) := by
  obtain ⟨D, rfl, rfl, C⟩ := C
  exact call_isE C hz hf
end Kb
namespace Kb
open PySem PySem.Spec PyProof.Rows L2 ClX
theorem ErC.nm {P : Program} {w : World} {K : PySem.W.Frag} {mg : Str → Option Value} {base : Heap} {x : Str} {C : Addr} (F : ErC P w K mg base x C) : mg x = some (.ref C) := let ⟨_, _, _, _, _, _, h, _⟩ := F.ex; h
structure NmC (mg : Str → Option Value) (x : Str) (C : Addr) : Prop where
  nm : mg x = some (.ref C)
end Kb
namespace Kb
open PySem PySem.Spec PyProof.Rows L2 ClX
theorem kit_ownF {K : PySem.W.Frag} {t c : Addr} (hr : PySem.W.subIn K (.ref t) (.ref t) = some true) (hd : PySem.W.hasDictIn K c = true) (ht : PySem.W.typeIn K (.ref c) = some (.type "type")) (h : PySem.W.subIn K (.ref t) (.ref c) = some false) : PySem.W.kitOne K (.ref t) (.ref c) = some false := by
  unfold PySem.W.kitOne
  by_cases e : t = c
  · subst e; rw [hr] at h; cases h
  · obtain ⟨cd, hc, _⟩ := PySem.W.any_some hd
    have e2 : ((PySem.W.clsIn K c).isSome && PySem.W.typeIn K (.ref c) == some (.type "type")) = true := by rw [hc, ht] <;> rfl
    rw [if_neg (fun z => e (Value.ref.inj (beq_iff_eq.mp z)))]
    show (if ((PySem.W.clsIn K c).isSome && PySem.W.typeIn K (.ref c) == some (.type "type")) = true then PySem.W.subIn K (.ref t) (.ref c) else none) = some false
    rw [if_pos e2]
    exact h
theorem kit_ownB {K : PySem.W.Frag} {b : String} {c : Addr} (hd : PySem.W.hasDictIn K c = true) (ht : PySem.W.typeIn K (.ref c) = some (.type "type")) (h : PySem.W.subIn K (.type b) (.ref c) = some false) : PySem.W.kitOne K (.type b) (.ref c) = some false := by
  unfold PySem.W.kitOne
  obtain ⟨cd, hc, _⟩ := PySem.W.any_some hd
  have e2 : ((PySem.W.clsIn K c).isSome && PySem.W.typeIn K (.ref c) == some (.type "type")) = true := by rw [hc, ht] <;> rfl
  rw [if_neg (fun z => nomatch (beq_iff_eq.mp z : Value.type b = Value.ref c))]
  show (if ((PySem.W.clsIn K c).isSome && PySem.W.typeIn K (.ref c) == some (.type "type")) = true then PySem.W.subIn K (.type b) (.ref c) else none) = some false
  rw [if_pos e2]
  exact h
theorem kit_ownT {K : PySem.W.Frag} {t c : Addr} (hd : PySem.W.hasDictIn K c = true) (ht : PySem.W.typeIn K (.ref c) = some (.type "type")) (h : PySem.W.subIn K (.ref t) (.ref c) = some true) : PySem.W.kitOne K (.ref t) (.ref c) = some true := by
  unfold PySem.W.kitOne
  by_cases e : t = c
  · subst e; rw [if_pos (beq_self_eq_true _)]
  · obtain ⟨cd, hc, _⟩ := PySem.W.any_some hd
    have e2 : ((PySem.W.clsIn K c).isSome && PySem.W.typeIn K (.ref c) == some (.type "type")) = true := by rw [hc, ht] <;> rfl
    rw [if_neg (fun z => e (Value.ref.inj (beq_iff_eq.mp z)))]
    show (if ((PySem.W.clsIn K c).isSome && PySem.W.typeIn K (.ref c) == some (.type "type")) = true then PySem.W.subIn K (.ref t) (.ref c) else none) = some true
    rw [if_pos e2]
    exact h
theorem kit_VE {K : PySem.W.Frag} {t : Addr} (h : PySem.W.subIn K (.ref t) (.type "ValueError") = some true) : PySem.W.kitOne K (.ref t) (.type "ValueError") = some true := by
  unfold PySem.W.kitOne
  rw [if_neg (by intro z; have := beq_iff_eq.mp z; cases this)]
  show (if PySem.W.kitMeta "ValueError" = true then PySem.W.subIn K (.ref t) (.type "ValueError") else none) = some true
  rw [if_pos (by decide +kernel)]
  exact h
end Kb

namespace PySem.W
open PySem PySem.Calls PyProof.Rows Builtin
theorem abs_K {prog : Program} {w : World} {A : Around} {E : Value → Shared → Prop} {s : Shared} {K : Frag} {x C f : Addr} {ox : Obj} {od : Option Obj} {Q : Value → Shared → Prop} (X : K.In s.heap) (I : InstAt s.heap x ox C od)
    (hs : findIn K (.ref C) "__abs__" = some (some (.ref f))) (hf : isFn K (.ref f) = true) (h : wpAny (model prog w) A.in1 (call (.ref f) [.ref x]) Q E s) : wpAny (model prog w) A (call (.builtin "abs") [.ref x]) Q E s := by
  refine Calls.call_function_entry kind_abs plain_abs entry_abs (args_abs _) ?_
  unfold Builtin.«abs»
  refine wpAny_bind (m := oneArg "abs" _) (wpAny_pure ?_)
  refine wpAny_bind (m := callSpecial? (.ref x) (Str.ofString "__abs__")) (special_fn X I hs (beq_iff_eq.mp hf) (wpAny_mono h (fun r s' hr => ?_) fun _ _ y => y))
  exact wpAny_pure ⟨_, rfl, hr⟩
def InsP (K : Frag) (x dx C : Addr) (h : Heap) : Prop := K.In h ∧ ∃ od, InstAt h x (instObj C dx) C od
theorem callWith_inst {M : Model} {A : Around} {E : Value → Shared → Prop} {s : Shared} {K : Frag} {env : Env} {pos : Pos} {x dx C : Addr} {Q : Value → Shared → Prop} {e : Expr} {rest : List Expr}
    (h : wpAny M A (spliced (backTo pos (starEach (e :: rest) env))) (fun vs s₁ => InsP K x dx C s₁.heap ∧ wpAny M A (call (.ref x) vs) Q E s₁) E s)
    (he : starEach (e :: rest) env = (false, eval e env) :: starEach rest env := by rfl) (hplain : (backTo pos (starEach rest env)).any (·.1) = false := by rfl) :
    wpAny M A (callWith pos (.ref x) [] (backTo pos (starEach (e :: rest) env)) []) Q E s := by
  rw [he] at h ⊢
  have hp : ((backTo pos ((false, eval e env) :: starEach rest env)).any (·.1) || ([] : List (Option Str × Sem Value)).any (·.1.isNone)) = false := by
    show ((false || (backTo pos (starEach rest env)).any (·.1)) || false) = false
    rw [hplain]; rfl
  have h2 := evalArgs_plain (f := .ref x) (Q := fun (a : Args) s₁ => InsP K x dx C s₁.heap ∧ wpAny M A (call (.ref x) a.pos a.kw) Q E s₁) h
  unfold callWith
  refine wpAny_bind (wpAny_holding (wpAny_mono h2 (fun a s₁ h₁ => wpAny_bind (wpAny_standAt ?_)) fun _ _ y => y))
  obtain ⟨⟨_, od, J⟩, h3⟩ := h₁
  have L := kco_keeper (M := M) J rfl
  simp only [hp]
  refine wpAny_bind (L.here ?_)
  have tail : ∀ {t : Sem Value}, wpAny M A t Q E s₁ → wpAny M A (t >>= fun r => holding [r] point >>= fun _ => pure r) Q E s₁ :=
    fun ht => wpAny_bind (wpAny_mono ht (fun r s₂ hr => wpAny_bind (wpAny_holding (wpAny_point (wpAny_pure hr)))) fun _ _ y => y)
  exact tail (wpAny_operateT h3)
end PySem.W
namespace Kb
open PySem PySem.Spec PyProof.Rows L2 ClX
section
variable {X : Cx} {k : Nat} {C : Addr} {ps : List Str} {sp : Sp}
/-- a method with self alone, called one in, its answer looked at -/
theorem run_self {pins : List (Addr × Obj)} {σ : L2.St} {H : Hp} {s : Shared} {a : Addr} {f : Addr} {fd : FuncData} {Q : VK} {Qf : Value → Shared → Prop} {A : Around} (I : Inv X pins σ H s) (F : FnOk X.prog X.w X.K X.mg X.base CX0 k f fd ["self"] sp) (hr : Room k A) (hb : Binds X.K fd ["self"] []) (h : sp [.ref a] H Q E0)
    (fin : ∀ u s', EP X pins σ Q u s' → Qf u s') (hA : A.frames = X.A.frames) {E : Value → Shared → Prop} : wpAny (model X.prog X.w) A (call (.ref f) [.ref a]) Qf E s := by
  have b := hb s [.ref a] I.kIn rfl
  have e0 : Env0 X.prog X.w X.K X.mg X.base A X.stack s H := ⟨hA.trans I.env0.frames, I.env0.mod, I.env0.bs, I.env0.bsz, I.env0.funs, I.env0.frf, I.env0.hok, I.env0.bare⟩
  refine wpAny_call (codeAny_mono (F.run A X.stack s H ⟨[.ref a], []⟩ ([.ref a] ++ []) [.ref a] Q E0 hr e0 b (Paired.cons (show RelV (V.ref a) (Value.ref a) from rfl) Paired.nil) h) fun r s' hq => ?_)
  cases r with
  | error e => exact (show False from hq).elim
  | ok fl =>
    cases fl with
    | ret u => exact fin u s' (I.after hq)
    | next => exact False.elim hq
    | brk => exact False.elim hq
    | cont => exact False.elim hq
def rSelf (C : Addr) (sp : Sp) : List V → Hp → VK → Prop := fun xs H Q => ∃ (a dx : Addr) (fs : List (Str × V)), xs = [.ref a] ∧ H a = some (.ins C dx fs) ∧ sp [.ref a] H Q E0
/-- abs(x), x an own instance -/
theorem call_absC (F : MtC X.prog X.w X.K X.mg X.base CX0 k C "__abs__" ["self"] sp) (hr : Room (k + 1) X.A) : CallR X (.builtin "abs") (rSelf C sp) := by
  intro pins s σ H xs us Q I r h
  obtain ⟨a, dx, fs, rfl, ha, q⟩ := h
  obtain ⟨f, fd, hf, M, hb⟩ := F.ex
  obtain ⟨u, rfl, ru⟩ := r.one
  cases (show u = Value.ref a from ru)
  obtain ⟨mA, O, _⟩ := ins_get I.hok ha
  obtain ⟨od, J, _⟩ := O.look
  exact PySem.W.abs_K I.kIn J M.at_ M.fn (run_self I hf hr.in1 hb q (fun u s' z => z) rfl)
/-- len(x), x an own instance -/
def rSelfLen (C : Addr) (sp : Sp) : List V → Hp → VK → Prop := fun xs H Q => ∃ (a dx : Addr) (fs : List (Str × V)), xs = [.ref a] ∧ H a = some (.ins C dx fs) ∧ sp [.ref a] H (fun v H' => ∃ n : Int, v = .int n ∧ 0 ≤ n ∧ n < 2 ^ 63 ∧ Q (.int n) H') E0
theorem call_lenC (F : MtC X.prog X.w X.K X.mg X.base CX0 k C "__len__" ["self"] sp) (hr : Room (k + 1) X.A) : CallR X (.builtin "len") (rSelfLen C sp) := by
  intro pins s σ H xs us Q I r h
  obtain ⟨a, dx, fs, rfl, ha, q⟩ := h
  obtain ⟨f, fd, hf, M, hb⟩ := F.ex
  obtain ⟨u, rfl, ru⟩ := r.one
  cases (show u = Value.ref a from ru)
  obtain ⟨mA, O, _⟩ := ins_get I.hok ha
  obtain ⟨od, J, _⟩ := O.look
  obtain ⟨m, hF⟩ := I.fr
  refine PySem.W.len_K hF I.ok.mod.kin J M.at_ M.fn (run_self I hf hr.in1 hb q (fun u s' z => ?_) rfl)
  obtain ⟨v, H', I', rv, n, rfl, n0, n1, q'⟩ := z
  obtain ⟨t, rfl⟩ := rv
  exact ⟨⟨n0, n1⟩, .int n, H', I'.tok _, ⟨_, rfl⟩, q'⟩
/-- str(x), x an own instance -/
def rSelfStr (C : Addr) (sp : Sp) : List V → Hp → VK → Prop := fun xs H Q => ∃ (a dx : Addr) (fs : List (Str × V)), xs = [.ref a] ∧ H a = some (.ins C dx fs) ∧ sp [.ref a] H (fun v H' => ∃ z : Str, v = .str z ∧ Q (.str z) H') E0
theorem call_strC (F : MtC X.prog X.w X.K X.mg X.base CX0 k C "__str__" ["self"] sp) (hr : Room (k + 2) X.A) : CallR X (.type "str") (rSelfStr C sp) := by
  intro pins s σ H xs us Q I r h
  obtain ⟨a, dx, fs, rfl, ha, q⟩ := h
  obtain ⟨f, fd, hf, M, hb⟩ := F.ex
  obtain ⟨u, rfl, ru⟩ := r.one
  cases (show u = Value.ref a from ru)
  obtain ⟨mA, O, _⟩ := ins_get I.hok ha
  obtain ⟨od, J, _⟩ := O.look
  have hu := hr.un
  refine PySem.W.kso_call (by show X.A.units + 1 + 1 < _; omega) I.kIn J M.at_ M.fn (run_self I hf hr.in1.in1 hb q (fun u s' z => ?_) rfl)
  obtain ⟨v, H', I', rv, n, rfl, q'⟩ := z
  obtain ⟨t, rfl⟩ := rv
  exact ⟨.str n, H', I', ⟨_, rfl⟩, q'⟩
end
/-! ### an own instance, called -/
def tInst (i : Nat) (C : Addr) (sp : Sp) (E : L2.St → XK) (t : TA) : TE := fun σ H Q => ∃ (a dx : Addr) (fs : List (Str × V)), σ[i]? = some (some (.ref a)) ∧ H a = some (.ins C dx fs) ∧ t σ H fun vs H1 => (∃ fs', H1 a = some (.ins C dx fs')) ∧ sp (.ref a :: vs) H1 Q (E σ)
section
variable {X : Cx} {CX : CXT} {k i : Nat} {x : Str} {C : Addr} {ps : List Str} {sp : Sp} {E : L2.St → XK} {W : WX} {e : Expr} {es : List Expr} {t : TA} {p pos : Pos}
theorem ins_in1 {A : Around} {k : Nat} (hr : Room (k + 1) A) : Room k A := hr.mono (Nat.le_succ _)
theorem pe_instX (F : MtC X.prog X.w X.K X.mg X.base CX k C "__call__" ps sp) (hfn : ∀ f, Meth X.K C "__call__" f → PySem.W.fnIn X.K f = true) (hr : Room k X.A) (hx : ∀ σ, PassesAt CX X σ (E σ)) (hN : X.N[i]? = some x) (hv : Vis X.env.scope x) (ha : PA X (e :: es) t)
    (hdb : (x == ("__debug__" : Str)) = false := by decide) (hcd : (x == ("__classdict__" : Str)) = false := by decide)
    (he : starEach (e :: es) X.env = (false, eval e X.env) :: starEach es X.env := by rfl) (hpl : (backTo pos (starEach es X.env)).any (·.1) = false := by rfl) :
    PE X (.Call (.Name x p) (e :: es) [] pos) (tInst i C sp E t) := by
  obtain ⟨f, fd, h, M, hb⟩ := F.ex
  refine ⟨fun pins s σ H Q I hh => ?_⟩
  obtain ⟨a, dx, fs, hs, hA, ht⟩ := hh
  refine wpAny_Call_Name_kw (thn ((pe_var (pos := p) hN hv hdb hcd).run pins s σ H (fun v H1 => v = .ref a ∧ H1 = H) I ⟨.ref a, hs, rfl, rfl⟩) fun u s1 ⟨v, H1, I1, r1, q1⟩ => ?_)
  obtain ⟨rfl, rfl⟩ := q1
  cases r1
  refine PySem.W.callWith_inst (K := X.K) (dx := dx) (C := C) (thn (ha.run pos pins s1 σ _ _ I1 ht) fun us s2 ⟨vs, H2, I2, r, ⟨fs', hA2⟩, q⟩ => ?_) he hpl
  obtain ⟨mA, O, _⟩ := ins_get I2.hok hA2
  obtain ⟨od, J, _⟩ := O.look
  refine ⟨⟨I2.kIn, _, J⟩, wpAny_call (PySem.W.kco_code I2.kIn J rfl M.at_ M.fn (hfn f M) ?_)⟩
  have hl : (Value.ref a :: us).length = ps.length := by
    rw [← h.len _ _ _ _ q]
    show us.length + 1 = vs.length + 1
    rw [r.length]
  have b := hb s2 (.ref a :: us) I2.kIn (by rw [List.append_nil]; exact hl)
  rw [List.append_nil] at b
  refine codeAny_mono (h.run X.A X.stack s2 H2 ⟨.ref a :: us, []⟩ (.ref a :: us) (.ref a :: vs) Q (E σ) hr I2.env0 b (.cons rfl r) q) fun r s' hq => ?_
  cases r with
  | error e => exact hx σ _ H2 s2 e s' I2 hq
  | ok fl =>
    cases fl with
    | ret u => exact I2.after hq
    | next => exact False.elim hq
    | brk => exact False.elim hq
    | cont => exact False.elim hq
theorem pe_instC (F : MtC X.prog X.w X.K X.mg X.base CX0 k C "__call__" ps sp) (hfn : ∀ f, Meth X.K C "__call__" f → PySem.W.fnIn X.K f = true) (hr : Room k X.A) (hN : X.N[i]? = some x) (hv : Vis X.env.scope x) (ha : PA X (e :: es) t)
    (hdb : (x == ("__debug__" : Str)) = false := by decide) (hcd : (x == ("__classdict__" : Str)) = false := by decide)
    (he : starEach (e :: es) X.env = (false, eval e X.env) :: starEach es X.env := by rfl) (hpl : (backTo pos (starEach es X.env)).any (·.1) = false := by rfl) :
    PE X (.Call (.Name x p) (e :: es) [] pos) (tInst i C sp (fun _ => E0) t) := pe_instX F hfn hr (fun _ _ _ _ _ _ _ z => (show False from z).elim) hN hv ha hdb hcd he hpl
theorem pe_instS (F : MtC X.prog X.w X.K X.mg X.base (L2.CX X.prog X.w) k C "__call__" ps sp) (hfn : ∀ f, Meth X.K C "__call__" f → PySem.W.fnIn X.K f = true) (hr : Room k X.A) (tk : Takes X W) (hN : X.N[i]? = some x) (hv : Vis X.env.scope x) (ha : PA X (e :: es) t)
    (hdb : (x == ("__debug__" : Str)) = false := by decide) (hcd : (x == ("__classdict__" : Str)) = false := by decide)
    (he : starEach (e :: es) X.env = (false, eval e X.env) :: starEach es X.env := by rfl) (hpl : (backTo pos (starEach es X.env)).any (·.1) = false := by rfl) :
    PE X (.Call (.Name x p) (e :: es) [] pos) (tInst i C sp (WE W) t) := pe_instX F hfn hr (passAt tk) hN hv ha hdb hcd he hpl
end
/-! ### an own class made by keywords alone -/
structure MkKC (P : Program) (w : World) (K : PySem.W.Frag) (mg : Str → Option Value) (base : Heap) (k : Nat) (C : Addr) (x : Str) (ps ks : List Str) (gV : List V → List V → List V) (sp : Sp) : Prop where
  ex : ∃ (f : Addr) (fd : FuncData) (g : List Value → List Value → List Value), FnOk P w K mg base CX0 k f fd ps sp ∧ Mk K C f ∧ mg x = some (.ref C) ∧ KBn K fd ps 1 ks g gV
theorem pe_makeKC {X : Cx} {k : Nat} {C : Addr} {x : Str} {ps ks : List Str} {gV : List V → List V → List V} {sp : Sp} {kws : List Keyword} {tk : TA} {p pos : Pos} (F : MkKC X.prog X.w X.K X.mg X.base k C x ps ks gV sp) (hr : Room (k + 1) X.A) (hg : Gl X x) (hkw : PK X kws tk)
    (hall : (backToKw pos (keywordEach kws X.env)).all (·.1.isSome) = true := by rfl) (hks : (backToKw pos (keywordEach kws X.env)).filterMap (·.1) = ks := by rfl) (hdb : (x == ("__debug__" : Str)) = false := by decide)
    (hpl : ((backTo pos (starEach [] X.env)).any (·.1) || (backToKw pos (keywordEach kws X.env)).any (·.1.isNone)) = false := by rfl) :
    PE X (.Call (.Name x p) [] kws pos) (tMakeK C 0 ks.length sp gV E0 tNil tk) := by
  obtain ⟨f, fd, g, h, M, hm, hb⟩ := F.ex
  exact pe_makeK0 M h hr hg hm hb pass0 hkw hall hks hdb hpl
theorem vals_rev : ∀ {vs : List V} {us : List Value}, Vals vs us → Vals vs.reverse us.reverse
  | _, _, .nil => .nil
  | _, _, .cons r h => by
    rw [List.reverse_cons, List.reverse_cons]
    exact (vals_rev h).append (.cons r .nil)
def kwV : List V → List V → List V := fun vs zs => vs ++ zs.reverse
def kwU : List Value → List Value → List Value := fun vs zs => vs ++ zs.reverse
theorem kwRel {vs : List V} {us : List Value} {zs : List V} {ws : List Value} (r : Vals vs us) (z : Vals zs ws) : Vals (kwV vs zs) (kwU us ws) := r.append (vals_rev z)
theorem meth_fn {K : PySem.W.Frag} {C f g : Addr} {m : Str} (M : Meth K C m f) (h : PySem.W.findIn K (.ref C) m = some (some (.ref g))) (hf : PySem.W.fnIn K g = true) : PySem.W.fnIn K f = true := by
  have e := M.at_.symm.trans h
  cases e
  exact hf
end Kb

/-! ### shown data of ints -/
namespace Kb
open PySem PySem.Spec PyProof.Rows L2 ClX
theorem shown_int {i : Int} (h : i.natAbs < 2 ^ 1000) : (PyData.shown (.int i)).length ≤ 1001 := by
  show (Str.ofString (toString i)).length ≤ 1001
  rw [PySem.ofString_length]
  exact int_text_length_le (by decide) (PySem.Flt.log2_lt_of (by decide) h)
def showsI (i : Int) : Prop := i.natAbs < 2 ^ 1000
theorem weight_int {i : Int} (h : showsI i) : (PyData.int i).weight ≤ 1001 := by
  have := PySem.Flt.log2_lt_of (show 0 < 1000 by decide) h
  show (if i == 0 then 0 else i.natAbs.log2 + 1) ≤ 1001
  split <;> omega
theorem show_int {i : Int} (h : showsI i) : (PyData.int i).showable = true ∧ (PyData.int i).leavesShort 1001 = true := by
  refine ⟨decide_eq_true ?_, decide_eq_true (shown_int h)⟩
  exact Nat.lt_of_lt_of_le (PySem.Flt.log2_lt_of (by decide) h) (by decide)
structure ShOk (d : PyData) : Prop where
  a : d.showable = true
  b : d.hasDict = false
  c : d.depth ≤ 100
  d : d.shown.length ≤ sizeLine
theorem shOk {d : PyData} (h1 : d.showable = true) (h2 : d.hasDict = false) (h3 : d.depth ≤ 100) (h4 : d.leavesShort 1001 = true) (h5 : 1003 * d.weight + 1001 ≤ sizeLine) : ShOk d := ⟨h1, h2, h3, Nat.le_trans (PyData.shown_le 1001 (by decide) d h4) h5⟩
theorem sh2 {a b : Int} (ha : showsI a) (hb : showsI b) : ShOk (.tuple [.int a, .int b]) := by
  have sa := show_int ha
  have sb := show_int hb
  refine shOk ?_ rfl (by show 1 ≤ 100; decide) ?_ ?_
  · show ((PyData.int a).showable && ((PyData.int b).showable && true)) = true
    rw [sa.1, sb.1]; rfl
  · show ((PyData.int a).leavesShort 1001 && ((PyData.int b).leavesShort 1001 && true)) = true
    rw [sa.2, sb.2]; rfl
  · have wa := weight_int ha
    have wb := weight_int hb
    show 1003 * ((PyData.int a).weight + 1 + ((PyData.int b).weight + 1 + 0)) + 1001 ≤ sizeLine
    rw [sizeLine_eq]; omega
theorem sh4 {a b c d : Int} (ha : showsI a) (hb : showsI b) (hc : showsI c) (hd : showsI d) : (PyData.tuple [.int a, .int b, .int c, .int d]).showable = true ∧ (PyData.tuple [.int a, .int b, .int c, .int d]).leavesShort 1001 = true := by
  have sa := show_int ha
  have sb := show_int hb
  have sc := show_int hc
  have sd := show_int hd
  refine ⟨?_, ?_⟩
  · show ((PyData.int a).showable && ((PyData.int b).showable && ((PyData.int c).showable && ((PyData.int d).showable && true)))) = true
    rw [sa.1, sb.1, sc.1, sd.1]; rfl
  · show ((PyData.int a).leavesShort 1001 && ((PyData.int b).leavesShort 1001 && ((PyData.int c).leavesShort 1001 && ((PyData.int d).leavesShort 1001 && true)))) = true
    rw [sa.2, sb.2, sc.2, sd.2]; rfl
theorem shM {a b c d t u : Int} (ha : showsI a) (hb : showsI b) (hc : showsI c) (hd : showsI d) (ht : showsI t) (hu : showsI u) : ShOk (.tuple [.tuple [.int a, .int b, .int c, .int d], .int t, .int u]) := by
  have s4 := sh4 ha hb hc hd
  have st := show_int ht
  have su := show_int hu
  refine shOk ?_ rfl (by show 2 ≤ 100; decide) ?_ ?_
  · show ((PyData.tuple [.int a, .int b, .int c, .int d]).showable && ((PyData.int t).showable && ((PyData.int u).showable && true))) = true
    rw [s4.1, st.1, su.1]; rfl
  · show ((PyData.tuple [.int a, .int b, .int c, .int d]).leavesShort 1001 && ((PyData.int t).leavesShort 1001 && ((PyData.int u).leavesShort 1001 && true))) = true
    rw [s4.2, st.2, su.2]; rfl
  · have wa := weight_int ha
    have wb := weight_int hb
    have wc := weight_int hc
    have wd := weight_int hd
    have wt := weight_int ht
    have wu := weight_int hu
    show 1003 * (((PyData.int a).weight + 1 + ((PyData.int b).weight + 1 + ((PyData.int c).weight + 1 + ((PyData.int d).weight + 1 + 0)))) + 1 + ((PyData.int t).weight + 1 + ((PyData.int u).weight + 1 + 0))) + 1001 ≤ sizeLine
    rw [sizeLine_eq]; omega
end Kb

/-! ### own operators, classmethods without arguments -/
namespace PySem.W
open PySem PySem.Calls PyProof.Rows
section
variable {prog : Program} {w : World} {M : Model} {A : Around} {E : Value → Shared → Prop} {s : Shared} {K : Frag} {x C D L f : Addr} {h₀ : Heap} {m : Str → Option Value} {ox : Obj} {od : Option Obj} {nm : String}
def plainMro (K : Frag) (C : Addr) : Bool := (clsIn K C).any fun cd => cd.mro == [.ref C, .type "object"]
theorem plain_mro (h : plainMro K C = true) : ∃ cd, clsIn K C = some cd ∧ cd.mro = [.ref C, .type "object"] := by
  obtain ⟨cd, hc, hm⟩ := any_some h
  exact ⟨cd, hc, eq_of_beq hm⟩
theorem plain_of {cd : ClassData} (h : clsIn K C = some cd) (hm : cd.mro = [.ref C, .type "object"]) : plainMro K C = true := by
  unfold plainMro
  rw [h]
  show (cd.mro == _) = true
  rw [hm]
  exact beq_self_eq_true _
/-- a class without the operator -/
theorem fills_no {h : Heap} (X : K.In h) (hp : plainMro K D = true) (h1 : findIn K (.ref D) (PySem.dunder nm) = some none) (h2 : findIn K (.ref D) (dunderR nm) = some none) (h3 : findIn K (.type "object") (PySem.dunder nm) = some none) (h4 : findIn K (.type "object") (dunderR nm) = some none) :
    Looks M h (fillsNumberSlot (.ref D) nm) false := by
  intro A Q E s k q
  obtain ⟨cd, hcd, hm⟩ := plain_mro hp
  have Lm := (looks_clsIn (M := M) (X.keeps k) hcd).andThen (f := fun cd => pure cd.mro) .now
  have X' : K.In s.heap := X.keeps k
  have L1 : Looks M s.heap (typeLookup (.ref D) (PySem.dunder nm)) none := looks_findIn X' h1
  have L2 : Looks M s.heap (typeLookup (.ref D) (dunderR nm)) none := looks_findIn X' h2
  have L3 : Looks M s.heap (typeLookup (.type "object") (PySem.dunder nm)) none := looks_findIn X' h3
  have L4 : Looks M s.heap (typeLookup (.type "object") (dunderR nm)) none := looks_findIn X' h4
  unfold fillsNumberSlot
  refine wpAny_bind (Lm.at ?_)
  rw [hm, List.anyM_cons]
  refine wpAny_bind ?_
  show wpAny M A (List.anyM _ [PySem.dunder nm, dunderR nm]) _ _ _
  rw [List.anyM_cons]
  refine wpAny_bind (wpAny_bind (L1.at (wpAny_pure ?_)))
  rw [if_neg Bool.false_ne_true, List.anyM_cons]
  refine wpAny_bind (wpAny_bind (L2.at (wpAny_pure ?_)))
  rw [if_neg Bool.false_ne_true]
  refine wpAny_pure ?_
  rw [if_neg Bool.false_ne_true, List.anyM_cons]
  refine wpAny_bind (wpAny_bind (L3.at (wpAny_bind (L4.at (wpAny_pure ?_)))))
  rw [if_neg (by decide)]
  exact wpAny_pure q
theorem binop_KO {op : Operator} {b : Value} {Q : Value → Shared → Prop} (F : Fr h₀ L s.heap m) (X₀ : K.In h₀) (I : InstAt s.heap x ox C od) (hb : Looks (model prog w) s.heap (typeOf b) (.ref D)) (hne : C ≠ D) (hc : selfFirst K C = true)
    (hs : findIn K (.ref C) (PySem.dunder op.info.2) = some (some (.ref f))) (hf : isFn K (.ref f) = true)
    (hp : plainMro K D = true) (h1 : findIn K (.ref D) (PySem.dunder op.info.2) = some none) (h2 : findIn K (.ref D) (dunderR op.info.2) = some none) (h3 : findIn K (.type "object") (PySem.dunder op.info.2) = some none) (h4 : findIn K (.type "object") (dunderR op.info.2) = some none)
    (h : wpAny (model prog w) A (call (.ref f) [.ref x, b]) (CmpBack Q) E s) : wpAny (model prog w) A (binaryOp op (.ref x) b) Q E s := by
  have X := X₀.keeps F.keep
  obtain ⟨cd, rest, hcd, hm⟩ := ksp_first hc
  have L3 : Looks (model prog w) s.heap (fillsNumberSlot (.ref C) op.info.2) true := fills_K X hcd hm hs
  have L4 : Looks (model prog w) s.heap (fillsNumberSlot (.ref D) op.info.2) false := fills_no X hp h1 h2 h3 h4
  have hn : (Value.ref C == Value.ref D) = false := Bool.eq_false_iff.mpr fun q => hne (Value.ref.inj (beq_iff_eq.mp q))
  have one := ksp_try X I hs hf h
  unfold binaryOp
  refine wpAny_holding (wpAny_bind ?_)
  unfold binaryOp1
  refine wpAny_bind (I.type.here (wpAny_bind (hb.here (wpAny_bind (L3.here ?_)))))
  simp only [hn, Bool.false_eq_true, if_false]
  refine wpAny_bind (L4.here ?_)
  simp only [Bool.and_false, Bool.false_eq_true, if_false, Bool.false_and]
  refine wpAny_bind (wpAny_pure ?_)
  simp only [Bool.false_eq_true, if_false, if_true]
  refine wpAny_bind (m := tryMethod (.ref x) _ b) (wpAny_mono one (fun r s' hr => ?_) fun _ _ e => e)
  obtain ⟨v, rfl, hv⟩ := hr
  exact wpAny_pure (wpAny_pure hv)
theorem fillsI_no {h : Heap} {add : Bool} (X : K.In h) (hp : plainMro K D = true) (h1 : findIn K (.ref D) (dunderI nm) = some none) (h3 : findIn K (.type "object") (dunderI nm) = some none) :
    Looks M h (fillsInplaceSlot (.ref D) nm add) false := by
  intro A Q E s k q
  obtain ⟨cd, hcd, hm⟩ := plain_mro hp
  have Lm := (looks_clsIn (M := M) (X.keeps k) hcd).andThen (f := fun cd => pure cd.mro) .now
  have X' : K.In s.heap := X.keeps k
  have L1 : Looks M s.heap (typeLookup (.ref D) (dunderI nm)) none := looks_findIn X' h1
  have L3 : Looks M s.heap (typeLookup (.type "object") (dunderI nm)) none := looks_findIn X' h3
  unfold fillsInplaceSlot
  refine wpAny_bind (Lm.at ?_)
  rw [hm, List.anyM_cons]
  refine wpAny_bind (wpAny_bind (L1.at (wpAny_pure ?_)))
  rw [if_neg Bool.false_ne_true, List.anyM_cons]
  refine wpAny_bind (wpAny_bind (L3.at (wpAny_pure ?_)))
  rw [if_neg (by decide)]
  exact wpAny_pure q
theorem inplace_K {op : Operator} {b : Value} {Q : Value → Shared → Prop} (F : Fr h₀ L s.heap m) (X₀ : K.In h₀) (I : InstAt s.heap x ox C od) (hb : Looks (model prog w) s.heap (typeOf b) (.ref C)) (hp : plainMro K C = true)
    (hi : findIn K (.ref C) (dunderI op.info.2) = some none) (hi2 : findIn K (.type "object") (dunderI op.info.2) = some none)
    (hs : findIn K (.ref C) (PySem.dunder op.info.2) = some (some (.ref f))) (hf : isFn K (.ref f) = true)
    (h : wpAny (model prog w) A (call (.ref f) [.ref x, b]) (CmpBack Q) E s) : wpAny (model prog w) A (inplaceOp op (.ref x) b) Q E s := by
  have X := X₀.keeps F.keep
  obtain ⟨cd, hcd, hm⟩ := plain_mro hp
  have L3 : Looks (model prog w) s.heap (fillsNumberSlot (.ref C) op.info.2) true := fills_K X hcd hm hs
  have LI : Looks (model prog w) s.heap (fillsInplaceSlot (.ref C) op.info.2 (op == .Add)) false := fillsI_no X hp hi hi2
  have one := ksp_try X I hs hf h
  unfold inplaceOp
  refine wpAny_holding (wpAny_bind (I.type.here (wpAny_bind (LI.here ?_))))
  simp only [Bool.false_eq_true, if_false]
  refine wpAny_bind ?_
  unfold binaryOp1
  refine wpAny_bind (I.type.here (wpAny_bind (hb.here (wpAny_bind (L3.here ?_)))))
  simp only [beq_self_eq_true, if_true]
  refine wpAny_bind (wpAny_pure ?_)
  simp only [Bool.and_false, Bool.false_eq_true, if_false, Bool.false_and]
  refine wpAny_bind (wpAny_pure ?_)
  simp only [Bool.false_eq_true, if_false]
  refine wpAny_bind (m := tryMethod (.ref x) _ b) (wpAny_mono one (fun r s' hr => ?_) fun _ _ e => e)
  obtain ⟨v, rfl, hv⟩ := hr
  exact wpAny_pure (wpAny_pure hv)
end
end PySem.W
namespace Kb
open PySem PySem.Spec PyProof.Rows L2 ClX
/-- the class at C carries the operator -/
structure OpC (K : PySem.W.Frag) (C : Addr) (op : Operator) : Prop where
  sf : PySem.W.selfFirst K C = true
  r : PySem.W.findIn K (.ref C) (dunderR op.info.2) = some none
/-- the class at D doesn't -/
structure OpNo (K : PySem.W.Frag) (D : Addr) (op : Operator) : Prop where
  pm : PySem.W.plainMro K D = true
  h1 : PySem.W.findIn K (.ref D) (PySem.dunder op.info.2) = some none
  h2 : PySem.W.findIn K (.ref D) (dunderR op.info.2) = some none
  h3 : PySem.W.findIn K (.type "object") (PySem.dunder op.info.2) = some none
  h4 : PySem.W.findIn K (.type "object") (dunderR op.info.2) = some none
structure OpInt (K : PySem.W.Frag) (C : Addr) (op : Operator) : Prop where
  h1 : ∃ fo, PySem.W.findIn K (.type "int") (PySem.dunder op.info.2) = some fo
  h2 : ∃ ro, PySem.W.findIn K (.type "int") (dunderR op.info.2) = some ro
  sb : PySem.W.subIn K (.type "int") (.ref C) = some false
structure OpIn (K : PySem.W.Frag) (C : Addr) (op : Operator) : Prop where
  pm : PySem.W.plainMro K C = true
  i1 : PySem.W.findIn K (.ref C) (dunderI op.info.2) = some none
  i2 : PySem.W.findIn K (.type "object") (dunderI op.info.2) = some none
def rBinC (C : Addr) (sp : Sp) : R2 := fun x y H Q => ∃ (a dx : Addr) (fs : List (Str × V)) (b dy : Addr) (gs : List (Str × V)), x = .ref a ∧ y = .ref b ∧ H a = some (.ins C dx fs) ∧ H b = some (.ins C dy gs) ∧ sp [x, y] H Q E0
def rBinD (C D : Addr) (sp : Sp) : R2 := fun x y H Q => ∃ (a dx : Addr) (fs : List (Str × V)) (b dy : Addr) (gs : List (Str × V)), x = .ref a ∧ y = .ref b ∧ H a = some (.ins C dx fs) ∧ H b = some (.ins D dy gs) ∧ sp [x, y] H Q E0
def rBinI (C : Addr) (sp : Sp) : R2 := fun x y H Q => ∃ (a dx : Addr) (fs : List (Str × V)) (n : Int), x = .ref a ∧ y = .int n ∧ H a = some (.ins C dx fs) ∧ sp [x, y] H Q E0
section
variable {X : Cx} {k : Nat} {C D : Addr} {ps : List Str} {sp : Sp} {op : Operator}
theorem run_bin {pins : List (Addr × Obj)} {σ : L2.St} {H : Hp} {s : Shared} {a : Addr} {y : V} {u : Value} {f : Addr} {fd : FuncData} {Q : VK} (I : Inv X pins σ H s) (hf : FnOk X.prog X.w X.K X.mg X.base CX0 k f fd ps sp) (hr : Room k X.A) (hb : Binds X.K fd ps []) (ry : RelV y u) (q : sp [.ref a, y] H Q E0) :
    wpAny (model X.prog X.w) X.A (call (.ref f) [.ref a, u]) (PySem.W.CmpBack (EP X pins σ Q)) X.xe s := by
  refine wpAny_mono (run_fn (us := [.ref a, u]) (vs := [.ref a, y]) hf hr hb .nil pass0 I (.cons rfl (.cons ry .nil)) q) (fun w s' z => ?_) fun _ _ z => z
  obtain ⟨z', H', I', rz, qz⟩ := z
  exact SlX.cmpback rz ⟨z', H', I', rz, qz⟩
theorem op_binC {m : Str} (F : MtC X.prog X.w X.K X.mg X.base CX0 k C m ps sp) (c : OpC X.K C op) (hr : Room k X.A) (hm : PySem.dunder op.info.2 = m := by decide +kernel) : OpR X (binaryOp op) (rBinC C sp) := by
  subst hm
  intro pins s σ H x y v u Q I rx ry h
  obtain ⟨a, dx, fs, b, dy, gs, rfl, rfl, ha, hb', q⟩ := h
  obtain ⟨f, fd, hf, M, hb⟩ := F.ex
  cases (show v = Value.ref a from rx)
  cases (show u = Value.ref b from ry)
  obtain ⟨_, O, _⟩ := ins_get I.hok ha
  obtain ⟨od, J, _⟩ := O.look
  obtain ⟨_, O', _⟩ := ins_get I.hok hb'
  obtain ⟨od', J', _⟩ := O'.look
  obtain ⟨m, hF⟩ := I.fr
  exact PySem.W.binop_K hF I.ok.mod.kin J J'.type c.sf M.at_ M.fn (run_bin (y := .ref b) I hf hr hb (by exact rfl) q)
theorem op_binD {m : Str} (F : MtC X.prog X.w X.K X.mg X.base CX0 k C m ps sp) (c : OpC X.K C op) (d : OpNo X.K D op) (hr : Room k X.A) (hm : PySem.dunder op.info.2 = m := by decide +kernel) : OpR X (binaryOp op) (rBinD C D sp) := by
  subst hm
  intro pins s σ H x y v u Q I rx ry h
  obtain ⟨a, dx, fs, b, dy, gs, rfl, rfl, ha, hb', q⟩ := h
  obtain ⟨f, fd, hf, M, hb⟩ := F.ex
  cases (show v = Value.ref a from rx)
  cases (show u = Value.ref b from ry)
  obtain ⟨_, O, _⟩ := ins_get I.hok ha
  obtain ⟨od, J, _⟩ := O.look
  obtain ⟨_, O', _⟩ := ins_get I.hok hb'
  obtain ⟨od', J', _⟩ := O'.look
  obtain ⟨m, hF⟩ := I.fr
  have hne : C ≠ D := fun e => by
    have h1 := M.at_
    rw [e, d.h1] at h1
    cases h1
  exact PySem.W.binop_KO hF I.ok.mod.kin J J'.type hne c.sf M.at_ M.fn d.pm d.h1 d.h2 d.h3 d.h4 (run_bin (y := .ref b) I hf hr hb (by exact rfl) q)
theorem op_binI {m : Str} (F : MtC X.prog X.w X.K X.mg X.base CX0 k C m ps sp) (c : OpC X.K C op) (d : OpInt X.K C op) (hr : Room k X.A) (hm : PySem.dunder op.info.2 = m := by decide +kernel) : OpR X (binaryOp op) (rBinI C sp) := by
  subst hm
  intro pins s σ H x y v u Q I rx ry h
  obtain ⟨a, dx, fs, n, rfl, rfl, ha, q⟩ := h
  obtain ⟨f, fd, hf, M, hb⟩ := F.ex
  cases (show v = Value.ref a from rx)
  obtain ⟨_, O, _⟩ := ins_get I.hok ha
  obtain ⟨od, J, _⟩ := O.look
  obtain ⟨m, hF⟩ := I.fr
  obtain ⟨fo, h1⟩ := d.h1
  obtain ⟨ro, h2⟩ := d.h2
  obtain ⟨t, rfl⟩ := ry
  exact PySem.W.ksp_binT (T := "int") hF I.ok.mod.kin J rfl c.sf M.at_ M.fn c.r (.inl rfl) h1 h2 d.sb (run_bin (y := .int n) I hf hr hb (by exact ⟨t, rfl⟩) q)
theorem op_inC {m : Str} (F : MtC X.prog X.w X.K X.mg X.base CX0 k C m ps sp) (d : OpIn X.K C op) (hr : Room k X.A) (hm : PySem.dunder op.info.2 = m := by decide +kernel) : OpR X (inplaceOp op) (rBinC C sp) := by
  subst hm
  intro pins s σ H x y v u Q I rx ry h
  obtain ⟨a, dx, fs, b, dy, gs, rfl, rfl, ha, hb', q⟩ := h
  obtain ⟨f, fd, hf, M, hb⟩ := F.ex
  cases (show v = Value.ref a from rx)
  cases (show u = Value.ref b from ry)
  obtain ⟨_, O, _⟩ := ins_get I.hok ha
  obtain ⟨od, J, _⟩ := O.look
  obtain ⟨_, O', _⟩ := ins_get I.hok hb'
  obtain ⟨od', J', _⟩ := O'.look
  obtain ⟨m, hF⟩ := I.fr
  exact PySem.W.inplace_K hF I.ok.mod.kin J J'.type d.pm d.i1 d.i2 M.at_ M.fn (run_bin (y := .ref b) I hf hr hb (by exact rfl) q)
end
/-! ### C.m(), m a classmethod -/
section
variable {X : Cx} {k : Nat} {C : Addr} {x m : Str} {ps : List Str} {sp : Sp} {W : WX} {p pos apos : Pos}
theorem pe_cm0X {CX : CXT} {E : L2.St → XK} {pl : Sem Bool} (F : CmC X.prog X.w X.K X.mg X.base CX k C x m ps sp) (hr : Room k X.A) (hx : ∀ σ, PassesAt CX X σ (E σ)) (hg : Gl X x) (hdb : (x == ("__debug__" : Str)) = false := by decide)
    (ht : eval (.Call (.Attribute (.Name x p) m apos) [] [] pos) X.env = (do
      let ov ← eval (.Name x p) X.env
      standAt apos.atName
      let (f, first) ← holding [ov] (getMethod ov m pl)
      callWith pos f first (backTo pos (starEach [] X.env)) (backToKw pos (keywordEach [] X.env))) := by rfl) :
    PE X (.Call (.Attribute (.Name x p) m apos) [] [] pos) (tCm C sp E tNil) := by
  obtain ⟨f, q, fd, h, r, c, hm, hb⟩ := F.ex
  refine ⟨fun pins s σ H Q I hh => ?_⟩
  refine PySem.W.methodCall_KW (pl := pl) (ld_glob I hg hm ?_ hdb) ht
  refine getmethcm_ok I r c fun s2 I2 => ?_
  refine PySem.W.callWith_M0 (K := X.K) (first := []) ⟨pin_at I2, I2.kIn⟩ c.fi ?_
  have hl : ([Value.ref C] : List Value).length = ps.length := by
    rw [← h.len _ _ _ _ hh]; rfl
  have b := hb s2 [.ref C] I2.kIn (by rw [List.append_nil]; exact hl)
  rw [List.append_nil] at b
  have z : wpAny (model X.prog X.w) X.A (call (.ref s.heap.objs.size) []) (EP X ((s.heap.objs.size, PySem.W.methodObj (.ref f) (.ref C)) :: pins) σ Q) X.xe s2 := by
   refine wpAny_call (PySem.W.method_call (pin_at I2) (codeAny_mono (h.run X.A X.stack s2 H ⟨[.ref C], []⟩ [.ref C] [.ref C] Q (E σ) hr I2.env0 b (.cons rfl .nil) hh) fun r s' hq => ?_))
   cases r with
   | error e => exact hx σ _ H s2 e s' I2 hq
   | ok fl =>
    cases fl with
    | ret u => exact I2.after hq
    | next => exact False.elim hq
    | brk => exact False.elim hq
    | cont => exact False.elim hq
  exact thn z fun _ _ y => unpinE y
theorem pe_cm0C {pl : Sem Bool} (F : CmC X.prog X.w X.K X.mg X.base CX0 k C x m ps sp) (hr : Room k X.A) (hg : Gl X x) (hdb : (x == ("__debug__" : Str)) = false := by decide)
    (ht : eval (.Call (.Attribute (.Name x p) m apos) [] [] pos) X.env = (do
      let ov ← eval (.Name x p) X.env
      standAt apos.atName
      let (f, first) ← holding [ov] (getMethod ov m pl)
      callWith pos f first (backTo pos (starEach [] X.env)) (backToKw pos (keywordEach [] X.env))) := by rfl) :
    PE X (.Call (.Attribute (.Name x p) m apos) [] [] pos) (tCm C sp (fun _ => E0) tNil) := pe_cm0X F hr (fun _ _ _ _ _ _ _ z => (show False from z).elim) hg hdb ht
end
end Kb

/-! ### new objects at an abstract heap, repr of data, what stands in the heap -/
namespace Kb
open PySem PySem.Spec PyProof.Rows L2 ClX
theorem isIte {c A B : Prop} {i : Decidable c} (h : @ite Prop c i A B) : @ite Prop c i A B := h
theorem iteNSI {c A B : Prop} {i : Decidable c} {j : Decidable ((!(@decide c i)) = true)} (hc : c) (h : B) : @ite Prop ((!(@decide c i)) = true) j A B := by
  rw [if_neg (by simp [hc])]; exact h
theorem iteTI {A B : Prop} {j : Decidable (true = true)} (h : A) : @ite Prop (true = true) j A B := by
  rw [if_pos rfl]; exact h
theorem iteFI {A B : Prop} {j : Decidable (false = true)} (h : B) : @ite Prop (false = true) j A B := by
  rw [if_neg Bool.false_ne_true]; exact h
/-- a new object o: whatever heap holds it and all that stood -/
def New (H : Hp) (o : HO) (Q : VK) : Prop := ∀ p H', H p = none → Same H H' → H' p = some o → Q (.ref p) H'
theorem sm_new {H : Hp} {p : Addr} {o : HO} (h : H p = none) : Same H (upd H p o) := fun a u e => by rw [upd_ne (ne_of_none e h)]; exact e
theorem New.at {H : Hp} {o : HO} {Q : VK} (h : New H o Q) {p : Addr} (hp : H p = none) : Q (.ref p) (upd H p o) := h p _ hp (sm_new hp) upd_same
def tTupN (t : TA) : TE := fun σ H Q => t σ H fun xs H1 => xs.length ≤ 1000000 ∧ New H1 (.tup xs) Q
def tLstN (t : TA) : TE := fun σ H Q => t σ H fun xs H1 => xs.length ≤ 1000000 ∧ New H1 (.lst xs) Q
section
variable {X : Cx} {es : List Expr} {t : TA} {pos : Pos}
theorem pe_tupN {x1} (h : PA X es t) : PE X (.Tuple es x1 pos) (tTupN t) := by
  refine ⟨fun pins s σ H Q I hq => ?_⟩
  refine wpAny_Tuple_spliced (thn (h.run pos pins s σ H _ I hq) fun us s1 ⟨xs, H1, I1, r, z, q⟩ => ⟨by rw [← r.length]; exact szl z, ?_⟩)
  have hf : H1 s1.heap.objs.size = none := I1.hok.fresh (Nat.le_refl _)
  refine ⟨.ref s1.heap.objs.size, upd H1 s1.heap.objs.size (.tup xs), I1.laid (t' := s1.toks) (fun b u e => Heap.get?_push_of_some _ e) (Nat.le_refl _) ?_, rfl, q.at hf⟩
  exact ⟨szl z, us, r, ⟨_, Heap.get?_push_size _ rfl, rfl, _, rfl⟩⟩
theorem pe_lstN (h : PA X es t) : PE X (.List es pos) (tLstN t) := by
  refine ⟨fun pins s σ H Q I hq => ?_⟩
  refine wpAny_List_spliced (thn (h.run pos pins s σ H _ I hq) fun us s1 ⟨xs, H1, I1, r, z, q⟩ => ⟨by rw [← r.length]; exact szl z, ?_⟩)
  have hf : H1 s1.heap.objs.size = none := I1.hok.fresh (Nat.le_refl _)
  refine ⟨.ref s1.heap.objs.size, upd H1 s1.heap.objs.size (.lst xs), I1.laid (t' := s1.toks) (fun b u e => Heap.get?_push_of_some _ e) (Nat.le_refl _) ?_, rfl, q.at hf⟩
  exact ⟨szl z, us, 0, r, Heap.get?_push_size _ rfl⟩
end
/-! ### repr -/
structure Shw (d : PyData) (n w : Nat) : Prop where
  a : d.showable = true
  b : d.hasDict = false
  c : d.depth ≤ n
  l : d.leavesShort 1001 = true
  w : d.weight ≤ w
structure ShwL (ds : List PyData) (n w : Nat) : Prop where
  a : PyData.showableAll ds = true
  b : PyData.hasDictAll ds = false
  c : PyData.depthAll ds ≤ n
  l : PyData.leavesShortAll 1001 ds = true
  w : PyData.weightAll ds ≤ w
theorem Shw.int {i : Int} (h : showsI i) : Shw (.int i) 0 1001 := ⟨(show_int h).1, rfl, Nat.le_refl _, (show_int h).2, weight_int h⟩
theorem Shw.bool (b : Bool) : Shw (.bool b) 0 0 := ⟨rfl, rfl, Nat.le_refl _, rfl, Nat.le_refl _⟩
theorem Shw.none : Shw .none 0 0 := ⟨rfl, rfl, Nat.le_refl _, rfl, Nat.le_refl _⟩
theorem Shw.str {z : Str} {m : Nat} (h : z.cps.toList.all (fun c => decide (c < 16 ^ 8)) = true) (hm : z.length ≤ m) : Shw (.str z) 0 m := ⟨rfl, rfl, Nat.le_refl _, h, hm⟩
theorem ShwL.nil : ShwL [] 0 0 := ⟨rfl, rfl, Nat.le_refl _, rfl, Nat.le_refl _⟩
theorem ShwL.cons {d : PyData} {ds : List PyData} {n w n' w' : Nat} (h : Shw d n w) (hs : ShwL ds n' w') : ShwL (d :: ds) (max n n') (w + 1 + w') := by
  refine ⟨?_, ?_, ?_, ?_, ?_⟩
  · show (d.showable && PyData.showableAll ds) = true
    rw [h.a, hs.a]; rfl
  · show (d.hasDict || PyData.hasDictAll ds) = false
    rw [h.b, hs.b]; rfl
  · show max d.depth (PyData.depthAll ds) ≤ _
    have := h.c
    have := hs.c
    omega
  · show (d.leavesShort 1001 && PyData.leavesShortAll 1001 ds) = true
    rw [h.l, hs.l]; rfl
  · show d.weight + 1 + PyData.weightAll ds ≤ _
    have := h.w
    have := hs.w
    omega
theorem Shw.tup {ds : List PyData} {n w : Nat} (h : ShwL ds n w) : Shw (.tuple ds) (n + 1) w := ⟨h.a, h.b, Nat.succ_le_succ h.c, h.l, h.w⟩
theorem Shw.lst {ds : List PyData} {n w : Nat} (h : ShwL ds n w) : Shw (.list ds) (n + 1) w := ⟨h.a, h.b, Nat.succ_le_succ h.c, h.l, h.w⟩
theorem Shw.ok {d : PyData} {n w : Nat} (h : Shw d n w) (hn : n ≤ 100) (hw : 1003 * w + 1001 ≤ 16000000) : ShOk d := shOk h.a h.b (Nat.le_trans h.c hn) h.l (by
  have := h.w
  have e : 1003 * d.weight ≤ 1003 * w := Nat.mul_le_mul_left _ this
  exact Nat.le_trans (show 1003 * d.weight + 1001 ≤ 16000000 by omega) (by decide))
section
variable {X : Cx} {k : Nat}
theorem call_reprW (hg : X.A.guards = some []) (hr : Room k X.A) : CallR X (.builtin "repr") (fun xs H Q => ∃ x d, xs = [x] ∧ Dp X.K H x d ∧ ShOk d ∧ Q (.str d.shown) H) := by
  intro pins s σ H xs us Q I r h
  obtain ⟨x, d, e, hd, hs, q⟩ := h
  exact call_reprD hg hr pins s σ H xs us Q I r ⟨x, d, e, hd, hs.a, hs.b, hs.c, hs.d, q⟩
end
end Kb

/-! ### tuples put together and cut, at an abstract heap -/
namespace Kb
open PySem PySem.Spec PyProof.Rows L2 ClX
def rCatN : R2 := fun x y H Q => ∃ a b xs ys, x = .ref a ∧ y = .ref b ∧ H a = some (.tup xs) ∧ H b = some (.tup ys) ∧ xs.length + ys.length ≤ 1000000 ∧ ∀ p H', Same H H' → H' p = some (.tup (xs ++ ys)) → Q (.ref p) H'
def rSlN : V → Option Int → Option Int → Hp → VK → Prop := fun x lo hi H Q => ∃ a xs, x = .ref a ∧ H a = some (.tup xs) ∧ ∀ p H', Same H H' → H' p = some (.tup (cutV xs lo hi)) → Q (.ref p) H'
section
variable {X : Cx}
theorem op_catN : OpR X (binaryOp .Add) rCatN := by
  intro pins s σ H x y v u Q I rx ry h
  obtain ⟨a, b, xs, ys, e1, e2, ha, hb, hz, q⟩ := h
  refine op_catA pins s σ H x y v u Q I rx ry ⟨a, b, xs, ys, e1, e2, SqT.of ha, SqT.of hb, szl hz, fun e => ?_, fun _ e => ?_, fun _ _ p hp => q p _ (sm_new hp) upd_same⟩
  · refine q b H (Same.refl H) ?_
    rw [hb, e]; rfl
  · refine q a H (Same.refl H) ?_
    rw [ha, e, List.append_nil]
theorem sl_tupN : SlR X rSlN := by
  intro pins s σ H x v vl vu lo hi sl Q I rx hs pl pu h
  obtain ⟨a, xs, e1, ha, q⟩ := h
  refine sl_tupA pins s σ H x v vl vu lo hi sl Q I rx hs pl pu ⟨a, xs, e1, SqT.of ha, fun hw => ?_, fun _ p hp => q p _ (sm_new hp) upd_same⟩
  refine q a H (Same.refl H) ?_
  rw [ha]
  unfold cutV
  rw [hw.1, hw.2]
  simp
end
end Kb

/-! ### NotImplemented told by the left operand's method, the right operand's own reflected operator -/
namespace PySem.W
open PySem PySem.Calls PyProof.Rows
section
variable {prog : Program} {w : World} {M : Model} {A : Around} {E : Value → Shared → Prop} {s : Shared} {K : Frag} {x y C D L f g : Addr} {h₀ : Heap} {m : Str → Option Value} {ox oy : Obj} {od od' : Option Obj} {nm : String}
theorem fills_R {h : Heap} {cd : ClassData} {rest : List Value} (X : K.In h) (hc : clsIn K C = some cd) (hm : cd.mro = .ref C :: rest) (h1 : findIn K (.ref C) (PySem.dunder nm) = some none) (hs : findIn K (.ref C) (dunderR nm) = some (some (.ref f))) : Looks M h (fillsNumberSlot (.ref C) nm) true := by
  intro A Q E s k q
  unfold fillsNumberSlot
  refine wpAny_bind ((looks_clsIn X hc).andThen (f := fun cd => pure cd.mro) .now A _ E s k ?_)
  rw [hm, List.anyM_cons]
  refine wpAny_bind ?_
  show wpAny M A (List.anyM _ [PySem.dunder nm, dunderR nm]) _ _ _
  rw [List.anyM_cons]
  refine wpAny_bind (wpAny_bind (looks_findIn X h1 A _ E s k (wpAny_pure ?_)))
  rw [if_neg Bool.false_ne_true, List.anyM_cons]
  refine wpAny_bind (wpAny_bind (looks_findIn X hs A _ E s k ?_))
  dsimp only
  rw [if_pos (show (!ownNameWrapper (.ref f) (dunderR nm)) = true from rfl)]
  refine wpAny_pure ?_
  rw [if_pos rfl]
  refine wpAny_pure ?_
  rw [if_pos rfl]
  exact wpAny_pure q
theorem inPy_R {h : Heap} (X : K.In h) (h1 : findIn K (.ref C) (PySem.dunder nm) = some none) (hs : findIn K (.ref C) (dunderR nm) = some (some (.ref f))) : Looks M h (numberSlotInPython (.ref C) nm) true := by
  intro A Q E s k q
  obtain ⟨hh, g, d, tt, os⟩ := s
  have X' : K.In hh := X.keeps k
  have L1 : Looks M hh (typeLookup (.ref C) (PySem.dunder nm)) none := looks_findIn X' h1
  have L2 : Looks M hh (typeLookup (.ref C) (dunderR nm)) (some (.ref f)) := looks_findIn X' hs
  unfold numberSlotInPython
  repeat lk
  exact q
theorem try_no {Q : Shared → Prop} {name : Str} {b : Value} (X : K.In s.heap) (I : InstAt s.heap x ox C od) (hs : findIn K (.ref C) name = some (some (.ref f))) (hf : isFn K (.ref f) = true)
    (h : wpAny M A (call (.ref f) [.ref x, b]) (fun v s' => v = .notImplemented ∧ Q s') E s) : wpAny M A (tryMethod (.ref x) name b) (fun r s' => r = none ∧ Q s') E s := by
  unfold tryMethod
  refine wpAny_bind (special_fn X I hs (beq_iff_eq.mp hf) (wpAny_mono h (fun v s' hv => ?_) fun _ _ e => e))
  obtain ⟨rfl, hv⟩ := hv
  exact wpAny_pure ⟨rfl, hv⟩
/-- x op y: the left one's method doesn't know the right one, whose own reflected one answers -/
theorem binop_R {op : Operator} {Q : Value → Shared → Prop} {R : Shared → Prop} (F : Fr h₀ L s.heap m) (X₀ : K.In h₀) (I : InstAt s.heap x ox C od) (J : InstAt s.heap y oy D od') (hne : C ≠ D) (hc : selfFirst K C = true) (hd : selfFirst K D = true) (hsub : subIn K (.ref D) (.ref C) = some false)
    (hs : findIn K (.ref C) (PySem.dunder op.info.2) = some (some (.ref f))) (hf : isFn K (.ref f) = true) (hr : findIn K (.ref C) (dunderR op.info.2) = some none)
    (gs : findIn K (.ref D) (PySem.dunder op.info.2) = some none) (gr : findIn K (.ref D) (dunderR op.info.2) = some (some (.ref g))) (hg : isFn K (.ref g) = true)
    (h : wpAny (model prog w) A (call (.ref f) [.ref x, .ref y]) (fun v s' => v = .notImplemented ∧ R s') E s)
    (h2 : ∀ s', R s' → K.In s'.heap ∧ (∃ ox od, InstAt s'.heap x ox C od) ∧ (∃ oy od', InstAt s'.heap y oy D od') ∧ wpAny (model prog w) A (call (.ref g) [.ref y, .ref x]) (CmpBack Q) E s') : wpAny (model prog w) A (binaryOp op (.ref x) (.ref y)) Q E s := by
  have X := X₀.keeps F.keep
  obtain ⟨cd, rest, hcd, hm⟩ := ksp_first hc
  obtain ⟨ce, rest', hce, hm'⟩ := ksp_first hd
  have hn : (Value.ref C == Value.ref D) = false := Bool.eq_false_iff.mpr fun q => hne (Value.ref.inj (beq_iff_eq.mp q))
  have one := try_no (b := .ref y) (M := model prog w) X I hs hf h
  have L3 : Looks (model prog w) s.heap (fillsNumberSlot (.ref C) op.info.2) true := fills_K X hcd hm hs
  have L4 : Looks (model prog w) s.heap (fillsNumberSlot (.ref D) op.info.2) true := fills_R X hce hm' gs gr
  have L5 : Looks (model prog w) s.heap (isSubtype (.ref D) (.ref C)) false := looks_subIn X hsub
  have L6 : Looks (model prog w) s.heap (numberSlotInPython (.ref C) op.info.2) true := ksp_inPy X hs hr (.inl rfl)
  have L7 : Looks (model prog w) s.heap (numberSlotInPython (.ref D) op.info.2) true := inPy_R X gs gr
  unfold binaryOp
  refine wpAny_holding (wpAny_bind ?_)
  unfold binaryOp1
  refine wpAny_bind (I.type.here (wpAny_bind (J.type.here (wpAny_bind (L3.here ?_)))))
  simp only [hn, Bool.false_eq_true, if_false]
  refine wpAny_bind (L4.here ?_)
  simp only [Bool.and_self, if_true]
  refine wpAny_bind (L5.here ?_)
  simp only [Bool.false_eq_true, if_false]
  refine wpAny_bind (L6.here ?_)
  simp only [if_true]
  refine wpAny_bind (L7.here ?_)
  simp only [Bool.not_true, Bool.false_eq_true, if_false]
  refine wpAny_bind (m := tryMethod (.ref x) _ _) (wpAny_mono one (fun r s' hr => ?_) fun _ _ e => e)
  obtain ⟨rfl, hR⟩ := hr
  obtain ⟨X', ⟨_, _, I'⟩, ⟨_, _, J'⟩, h3⟩ := h2 s' hR
  dsimp only
  have two := ksp_try X' J' gr hg h3
  refine wpAny_bind (I'.type.here (wpAny_bind (J'.type.here ?_)))
  simp only [hn, Bool.false_eq_true, if_false]
  refine wpAny_bind (m := tryMethod (.ref y) _ _) (wpAny_mono two (fun r s' hr => ?_) fun _ _ e => e)
  obtain ⟨v, rfl, hv⟩ := hr
  obtain ⟨hh, gg, d, tt, os⟩ := s'
  ksp_lk
  exact hv
end
end PySem.W
namespace Kb
open PySem PySem.Spec PyProof.Rows L2 ClX
/-- a function that answers NotImplemented and leaves the heap as it was -/
structure FnNi (P : Program) (w : World) (K : PySem.W.Frag) (mg : Str → Option Value) (base : Heap) (k : Nat) (f : Addr) (fd : FuncData) (ps : List Str) (sn : List V → Hp → Prop) : Prop where
  len : ∀ vs H, sn vs H → vs.length = ps.length
  run : ∀ (A : Around) (outer : List Env) (s : Shared) (H : Hp) (args : Args) (us : List Value) (vs : List V), Room k A → Env0 P w K mg base A outer s H → BindsTo s fd args (ps.zip us) → Vals vs us → sn vs H →
    codeAny (model P w) A (.call (.ref f) args) (fun r s' => r = .ok (.ret .notImplemented) ∧ CE outer P w H s (fun _ H' => H' = H) .none s') s
structure PSn (X : Cx) (st : List Stmt) (t : L2.St → Hp → Prop) : Prop where
  run : ∀ (pins : List (Addr × Obj)) (s : Shared) (σ : L2.St) (H : Hp), Inv X pins σ H s → t σ H → wpAny (model X.prog X.w) X.A (execs st X.env) (fun f s' => f = .ret .notImplemented ∧ Inv X pins σ H s') X.xe s
section
variable {X : Cx}
theorem psn_ret {pos p : Pos} (hg : Gl X "NotImplemented") (hm : X.mg "NotImplemented" = none) : PSn X [.Return (some (.Name "NotImplemented" p)) pos] (fun _ _ => True) := by
  refine ⟨fun pins s σ H I _ => ?_⟩
  refine wpAny_execs_cons (wpAny_Return_some (ld_blt I hg hm (show bootBuiltins "NotImplemented" = some .notImplemented by decide +kernel) ⟨rfl, I⟩))
theorem psn_if {c : Expr} {a : List Stmt} {rest : List Stmt} {pos : Pos} {tc : TT} {u : L2.St → Hp → Prop} (hc : PT X c tc) (hr : PSn X rest u) : PSn X (.If c a [] pos :: rest) (fun σ H => tc σ H fun b H1 => b = false ∧ H1 = H ∧ u σ H) := by
  refine ⟨fun pins s σ H I h => ?_⟩
  refine wpAny_execs_cons (wpAny_If (thn (hc.run pins s σ H _ I h) fun d s1 ⟨H1, I1, e, e1, q1⟩ => ?_))
  subst e e1
  exact wpAny_execs_nil (hr.run pins s1 σ _ I1 q1)
end
section
variable {P : Program} {w : World} {K : PySem.W.Frag} {mg : Str → Option Value} {base : Heap}
theorem fn_ofN {k : Nat} {f : Addr} {name qual : Str} {params : Arguments} {body : List Stmt} {scope : Scope} {dV kV doc pm cdv ct oc : Value} {an od : Option Addr} {osl : Array (Option Value)} {N ps : List Str} {sn : List V → Hp → Prop}
    (lk : K.lookup f = some ⟨oc, od, .func (PySem.W.fnOf name qual params body scope dV kV doc pm an cdv ct), osl⟩) (hcd : PySem.W.codeIn K cdv qual = true) (S : FnScope N ps scope) (len : ∀ vs H, sn vs H → vs.length = ps.length)
    (hbody : ∀ (A : Around) (outer : List Env) (s : Shared) (H : Hp) (vs : List V), Room k (A.deeper (envOfC qual scope s.heap.objs.size f cdv)) → sn vs H →
      ∃ t, PSn (cxOf CX0 P w K mg base N qual scope f cdv A outer s H E0).nox body t ∧ t (start N vs) H) :
    FnNi P w K mg base (k + 1) f (PySem.W.fnOf name qual params body scope dV kV doc pm an cdv ct) ps sn := by
  refine ⟨len, fun A outer s H args us vs hr e0 hb r hsp => ?_⟩
  have hl := len _ _ hsp
  have KX : K.In s.heap := e0.mod.kin.keeps fun b o e => (e0.bs b o e).1
  have lim : s.heap.NoLimit := e0.mod.nolimit.keeps fun b o e => (e0.bs b o e).1
  have hkind : ∀ y ∈ ps.zip us, scope.names.lookup y.1 = some .local ∨ (scope.names.lookup y.1 = some .cell ∧ ((cellsFrom (s.heap.objs.size + 1) scope.names []).lookup y.1).isSome = true) := fun ⟨n, v⟩ hy => by
    rcases S.par n (List.of_mem_zip hy).1 with q | q
    · exact .inl q
    · exact .inr ⟨q, PySem.W.cellsFrom_some _ _ _ (.inl q)⟩
  refine codeAny_call_function hr.depth (KX _ _ lk) rfl S.co S.gen rfl (PySem.W.codeRec_of KX hcd) (hb _ _ _ _ ?_)
  refine wpAny_newFunctionEnv_cells S.kind hkind fun env he s1 x => ?_
  subst he
  refine ⟨lim.keeps x.toInCall.keep, codeAny_func ?_⟩
  obtain ⟨t, ht, hq⟩ := hbody A outer s H vs (hr.deeper _) hsp
  have I : Inv (cxOf CX0 P w K mg base N qual scope f cdv A outer s H E0) [] (start N vs) H s1 := inv_start S hr.hd e0 hl r x
  refine wpAny_mono (ht.run [] s1 (start N vs) H (I.wish _) hq) (fun fl s' hs => ?_) fun e s' hs => False.elim hs
  obtain ⟨rfl, J0⟩ := hs
  have J := J0.unwish
  exact ⟨rfl, V.non, _, J.os, J.bare, J.base, J.hok, rfl, rfl⟩
/-- a method that answers NotImplemented -/
structure MtNi (P : Program) (w : World) (K : PySem.W.Frag) (mg : Str → Option Value) (base : Heap) (k : Nat) (C : Addr) (m : Str) (ps : List Str) (sn : List V → Hp → Prop) : Prop where
  ex : ∃ (f : Addr) (fd : FuncData), FnNi P w K mg base k f fd ps sn ∧ Meth K C m f ∧ Binds K fd ps []
theorem Fun.okN {x qual : Str} {st : Stmt} {f : Addr} {fd : FuncData} {N ps : List Str} {k : Nat} {sn : List V → Hp → Prop} (F : Fun K x qual st f fd) (S : FnScope N ps (defScope st)) (len : ∀ vs H, sn vs H → vs.length = ps.length)
    (hbody : ∀ (cdv : Value) (A : Around) (outer : List Env) (s : Shared) (H : Hp) (vs : List V), Room k (A.deeper (envOfC qual (defScope st) s.heap.objs.size f cdv)) → sn vs H →
      ∃ t, PSn (cxOf CX0 P w K mg base N qual (defScope st) f cdv A outer s H E0).nox (defBody st) t ∧ t (start N vs) H) : FnNi P w K mg base (k + 1) f fd ps sn := by
  obtain ⟨oc, od, kV, doc, pm, an, cdv, ct, osl, rfl, lk, hcd⟩ := F.ex
  exact fn_ofN lk hcd S len fun A outer s H vs hr hsp => hbody cdv A outer s H vs hr hsp
end
/-- both classes stand in the order that the reflected operator wants -/
structure OpR2 (K : PySem.W.Frag) (C D : Addr) (op : Operator) : Prop where
  ne : C ≠ D
  sf : PySem.W.selfFirst K C = true
  sg : PySem.W.selfFirst K D = true
  sub : PySem.W.subIn K (.ref D) (.ref C) = some false
  r : PySem.W.findIn K (.ref C) (dunderR op.info.2) = some none
  no : PySem.W.findIn K (.ref D) (PySem.dunder op.info.2) = some none
def rBinR (C D : Addr) (sn : List V → Hp → Prop) (sp : Sp) : R2 := fun x y H Q => ∃ (a dx : Addr) (fs : List (Str × V)) (b dy : Addr) (gs : List (Str × V)), x = .ref a ∧ y = .ref b ∧ H a = some (.ins C dx fs) ∧ H b = some (.ins D dy gs) ∧ sn [x, y] H ∧ sp [y, x] H Q E0
section
variable {X : Cx} {k j : Nat} {C D : Addr} {ps ps' : List Str} {sn : List V → Hp → Prop} {sp : Sp} {op : Operator}
theorem op_binR {m m' : Str} (F : MtNi X.prog X.w X.K X.mg X.base j C m ps' sn) (G : MtC X.prog X.w X.K X.mg X.base CX0 k D m' ps sp) (c : OpR2 X.K C D op) (hr : Room j X.A) (hr' : Room k X.A) (hm : PySem.dunder op.info.2 = m := by decide +kernel) (hm' : dunderR op.info.2 = m' := by decide +kernel) : OpR X (binaryOp op) (rBinR C D sn sp) := by
  subst hm hm'
  intro pins s σ H x y v u Q I rx ry h
  obtain ⟨a, dx, fs, b, dy, gs, rfl, rfl, ha, hb', qn, q⟩ := h
  obtain ⟨f, fd, hf, M, hb⟩ := F.ex
  obtain ⟨g, gd, hg, N, hb2⟩ := G.ex
  cases (show v = Value.ref a from rx)
  cases (show u = Value.ref b from ry)
  obtain ⟨_, O, _⟩ := ins_get I.hok ha
  obtain ⟨od, J, _⟩ := O.look
  obtain ⟨_, O', _⟩ := ins_get I.hok hb'
  obtain ⟨od', J', _⟩ := O'.look
  obtain ⟨m, hF⟩ := I.fr
  refine PySem.W.binop_R hF I.ok.mod.kin J J' c.ne c.sf c.sg c.sub M.at_ M.fn c.r c.no N.at_ N.fn (R := fun s' => Inv X pins σ H s') ?_ fun s' I' => ?_
  · refine wpAny_call (codeAny_mono (hf.run X.A X.stack s H ⟨[.ref a, .ref b], []⟩ [.ref a, .ref b] [.ref a, .ref b] hr I.env0 (by
      have := hb s [.ref a, .ref b] I.kIn (by have := hf.len _ _ qn; exact this)
      rwa [List.append_nil] at this) (.cons rfl (.cons rfl .nil)) qn) fun r s' hq => ?_)
    obtain ⟨rfl, z⟩ := hq
    obtain ⟨_, H', I', _, e⟩ := I.after z
    subst e
    exact ⟨rfl, I'⟩
  · obtain ⟨_, O, _⟩ := ins_get I'.hok ha
    obtain ⟨od, J, _⟩ := O.look
    obtain ⟨_, O', _⟩ := ins_get I'.hok hb'
    obtain ⟨od', J', _⟩ := O'.look
    exact ⟨I'.kIn, ⟨_, _, J⟩, ⟨_, _, J'⟩, run_bin (y := .ref a) I' hg hr' hb2 (by exact rfl) q⟩
end
end Kb
/-! ### the slots made plain -/
namespace Kb
open PySem PySem.Spec PyProof.Rows L2 ClX
abbrev tNrm (t : TS) : TS := fun D σ H => ∀ σ', σ = σ' → t D σ' H
theorem pss_nrm {X : Cx} {st : List Stmt} {t : TS} (h : PSs X st t) : PSs X st (tNrm t) := ⟨fun pins s σ H D I q => h.run pins s σ H D I (q σ rfl)⟩
theorem nrm_of {T : L2.St → Prop} {σ σ' : L2.St} (e : σ = σ') (h : T σ') : ∀ σ'', σ = σ'' → T σ'' := fun _ e' => e' ▸ e ▸ h
end Kb

/-! ### own `in`, own truth, displays of dicts with a tuple as key -/
namespace Kb
open PySem PySem.Spec PyProof.Rows L2 ClX
section
variable {X : Cx} {k : Nat} {m : Str} {C : Addr} {ps : List Str} {sp : Sp} {e : Expr} {te : TE} {pos : Pos}
theorem boolback {P : Bool → Shared → Prop} {z : V} {v : Value} {s' : Shared} {b : Bool} (r : RelV z v) (e : z = .bl b) (h : P b s') : PySem.W.BoolBack P v s' := by
  subst e
  cases (show v = Value.bool b from r)
  exact h
/-- y in x by the class's own def -/
def rOwnIn (C : Addr) (sp : Sp) : R2 := fun y x H Q => ∃ (a dx : Addr) (fs : List (Str × V)), x = .ref a ∧ H a = some (.ins C dx fs) ∧ sp [.ref a, y] H (fun z H' => ∃ b, z = .bl b ∧ Q (.bl b) H') E0
def rOwnNotIn (C : Addr) (sp : Sp) : R2 := fun y x H Q => ∃ (a dx : Addr) (fs : List (Str × V)), x = .ref a ∧ H a = some (.ins C dx fs) ∧ sp [.ref a, y] H (fun z H' => ∃ b, z = .bl b ∧ Q (.bl (!b)) H') E0
theorem op_inO (F : MtC X.prog X.w X.K X.mg X.base CX0 k C "__contains__" ps sp) (hr : Room k X.A) : OpR X (compareOp .In) (rOwnIn C sp) := by
  intro pins s σ H y x u v Q I ry rx h
  obtain ⟨a, dx, fs, rfl, ha, q⟩ := h
  obtain ⟨f, fd, hf, M, hb⟩ := F.ex
  cases (show v = Value.ref a from rx)
  obtain ⟨mA, O, _⟩ := ins_get I.hok ha
  obtain ⟨od, J, _⟩ := O.look
  obtain ⟨m, hF⟩ := I.fr
  refine PySem.W.in_K hF I.ok.mod.kin J M.at_ M.fn ?_
  refine wpAny_mono (run_fn (us := [.ref a, u]) (vs := [.ref a, y]) hf hr hb .nil pass0 I (.cons rfl (.cons ry .nil)) q) (fun w s' z => ?_) fun _ _ z => z
  obtain ⟨z', H', I', rz, b, eb, qz⟩ := z
  subst eb
  cases (show w = Value.bool b from rz)
  exact wpAny_truthy_bool ⟨.bl b, H', I', rfl, qz⟩
theorem op_notInO (F : MtC X.prog X.w X.K X.mg X.base CX0 k C "__contains__" ps sp) (hr : Room k X.A) : OpR X (compareOp .NotIn) (rOwnNotIn C sp) := by
  intro pins s σ H y x u v Q I ry rx h
  obtain ⟨a, dx, fs, rfl, ha, q⟩ := h
  obtain ⟨f, fd, hf, M, hb⟩ := F.ex
  cases (show v = Value.ref a from rx)
  obtain ⟨mA, O, _⟩ := ins_get I.hok ha
  obtain ⟨od, J, _⟩ := O.look
  obtain ⟨m, hF⟩ := I.fr
  refine PySem.W.notIn_K hF I.ok.mod.kin J M.at_ M.fn ?_
  refine wpAny_mono (run_fn (us := [.ref a, u]) (vs := [.ref a, y]) hf hr hb .nil pass0 I (.cons rfl (.cons ry .nil)) q) (fun w s' z => ?_) fun _ _ z => z
  obtain ⟨z', H', I', rz, b, eb, qz⟩ := z
  subst eb
  cases (show w = Value.bool b from rz)
  exact wpAny_truthy_bool ⟨.bl (!b), H', I', rfl, qz⟩
/-- an instance as a test, by its class's own __bool__ -/
def tOwnB (C : Addr) (sp : Sp) (te : TE) : TT := fun σ H Q => te σ H fun x H1 => ∃ (a dx : Addr) (fs : List (Str × V)), x = .ref a ∧ H1 a = some (.ins C dx fs) ∧ sp [.ref a] H1 (fun z H' => ∃ b, z = .bl b ∧ Q b H') E0
theorem pt_ownB (F : MtC X.prog X.w X.K X.mg X.base CX0 k C "__bool__" ps sp) (hr : Room k X.A) (h : PE X e te) (he : ∀ whole, isTrue e X.env whole = (do let v ← whole; standAt e.pos; holding [v] (truthy v)) := by intro _; rfl) : PT X e (tOwnB C sp te) := by
  refine ⟨fun pins s σ H Q I hw => ?_⟩
  refine isTrue_plain (thn (h.run pins s σ H _ I hw) fun v s1 ⟨x, H1, I1, r1, q1⟩ => ?_) (he _)
  obtain ⟨a, dx, fs, rfl, ha, q⟩ := q1
  obtain ⟨f, fd, hf, M, hb⟩ := F.ex
  cases (show v = Value.ref a from r1)
  obtain ⟨mA, O, _⟩ := ins_get I1.hok ha
  obtain ⟨od, J, _⟩ := O.look
  obtain ⟨m, hF⟩ := I1.fr
  refine PySem.W.truthy_K hF I1.ok.mod.kin J M.at_ M.fn ?_
  refine wpAny_mono (run_fn (us := [.ref a]) (vs := [.ref a]) hf hr hb .nil pass0 I1 (.cons rfl .nil) q) (fun w s' z => ?_) fun _ _ z => z
  obtain ⟨z', H', I', rz, b, eb, qz⟩ := z
  exact boolback rz eb ⟨H', I', qz⟩
/-- bool(x) -/
theorem meets_bool_own (prog : Program) (w : World) (x : Addr) : MeetsIn prog w (Builtin.«bool.__new__» ⟨[.type "bool", .ref x], []⟩)
    (fun A R s => wpAny (model prog w) A.in1 (truthy (.ref x)) (fun b s' => R (.ok (.ret (.bool b))) s') (fun e s' => R (.error e) s') s) :=
  .of_wp fun A R s h => by
    have f1 := PySem.F.conv_sub_bool
    unfold Builtin.«bool.__new__»
    repeat (any_goals (first | assumption | (with_reducible refine wpAny_bind (m := truthy (.ref x)) (wpAny_mono h (fun b s' z => ?_) fun _ _ z => z)) | wp_step))
    all_goals first | exact ⟨_, rfl, by assumption⟩ | assumption | skip
def rBoolO (C : Addr) (sp : Sp) : List V → Hp → VK → Prop := fun xs H Q => ∃ (a dx : Addr) (fs : List (Str × V)), xs = [.ref a] ∧ H a = some (.ins C dx fs) ∧ sp [.ref a] H (fun z H' => ∃ b, z = .bl b ∧ Q (.bl b) H') E0
theorem call_boolO (F : MtC X.prog X.w X.K X.mg X.base CX0 k C "__bool__" ps sp) (hr : Room (k + 2) X.A) : CallR X (.type "bool") (rBoolO C sp) := by
  intro pins s σ H xs us Q I r h
  obtain ⟨a, dx, fs, rfl, ha, q⟩ := h
  obtain rfl := Vals.ref1 r
  obtain ⟨f, fd, hf, M, hb⟩ := F.ex
  obtain ⟨mA, O, _⟩ := ins_get I.hok ha
  obtain ⟨od, J, _⟩ := O.look
  obtain ⟨m, hF⟩ := I.fr
  refine callType_newIn (T := "bool") (newId := "bool.__new__") (Bn := Builtin.«bool.__new__») (args := [.ref a]) PySem.F.called_bool PySem.F.newNe_bool (PySem.F.typeCall_bool_1 _) (PySem.F.newCall_bool_1 _) (fun obj => PySem.F.args_object_init_2 obj _) PySem.F.entry_bool_new (meets_bool_own X.prog X.w a) ?_
  show wpAny _ _ (truthy (.ref a)) _ _ _
  refine PySem.W.truthy_K hF I.ok.mod.kin J M.at_ M.fn ?_
  have q' : sp ([V.ref a] ++ []) H (fun z H' => ∃ b, z = .bl b ∧ Q (.bl b) H') E0 := q
  have r2 : Vals ([V.ref a] ++ []) ([Value.ref a] ++ []) := .cons rfl .nil
  have hl : ([Value.ref a] ++ []).length = ps.length := by rw [← r2.length]; exact hf.len _ _ _ _ q'
  have hr2 : Room k X.A.in1.in1 := Room.in1 (Room.in1 (k := k + 1) hr)
  have e3 := I.env0.in1.in1
  have b2 : BindsTo s fd ⟨[Value.ref a], []⟩ (ps.zip ([Value.ref a] ++ [])) := hb s _ I.kIn hl
  have key := hf.run _ _ s H _ _ _ _ E0 hr2 e3 b2 r2 q'
  refine wpAny_call (codeAny_mono key fun r s' hq => ?_)
  cases r with
  | error e => exact (show False from hq).elim
  | ok fl =>
    cases fl with
    | ret w =>
      obtain ⟨z, H', I', rz, b, eb, qz⟩ := I.after hq
      refine boolback rz eb ?_
      exact ⟨rfl, .bl b, H', I', rfl, qz⟩
    | next => exact False.elim hq
    | brk => exact False.elim hq
    | cont => exact False.elim hq
/-! ### {k: v} with a tuple as key -/
def tDisp1T (tk tv : TE) : TE := fun σ H Q => ∀ p, H p = none → tk σ (upd H p (.dT [])) fun x H1 => tv σ H1 fun y H2 => ∃ b key, x = .ref b ∧ H2 b = some (.tup (key.map kV)) ∧ H2 p = some (.dT []) ∧ Q (.ref p) (upd H2 p (.dT [(key, y)]))
theorem pe_disp1T {kx vx : Expr} {tk tv : TE} (hu : X.A.units + 1 < cLine) (hk : PE X kx tk) (hv : PE X vx tv) : PE X (.Dict [some kx] [vx] pos) (tDisp1T tk tv) := by
  refine ⟨fun pins s σ H Q I q => ?_⟩
  have hn := I.hok.fresh (Nat.le_refl s.heap.objs.size)
  have I1 := I.laid (a := s.heap.objs.size) (o := .dT []) (h' := s.heap.push { cls := .type "dict", data := .dict #[] }) (t' := s.toks) (fun _ _ q => Heap.get?_push_of_some _ q) (Nat.le_refl _) (dt_empty s.heap I.big)
  have hz := zip_pairTrees [some kx] [vx] X.env pos rfl rfl
  show wpAny _ _ (eval (.Dict [some kx] [vx] pos) X.env) _ _ _
  rw [arm_eval_Dict, hz, dictDisplay_pairs _ (by simp [pairTrees]) (by simp [pairTrees])]
  refine wpAny_bind (wpAny_standAt (wpAny_bind (wpAny_subDictH (knd := tupleKind (mixKind X.prog X.w)) (Q := fun d s' => wpAny (model X.prog X.w) X.A (pure (Value.ref d)) (EP X pins σ Q) X.xe s') (show (tupleKind (mixKind X.prog X.w)).room X.A from Nat.lt_of_succ_lt hu) (by simp [pairTrees]) ?_)))
  refine pairTrees_cons_walk (thn (hk.run pins _ σ _ _ I1 (q _ hn)) fun u s1 ⟨x, H1, J1, rx, q1⟩ => thn (hv.run pins s1 σ H1 _ J1 q1) fun w2 s2 ⟨y, H2, I2, ry, b, key, ex, hb, hp, q2⟩ => ?_)
  subst ex
  cases (show u = Value.ref b from rx)
  obtain ⟨z, hd, xs, rel, dd⟩ := dt_of I2.hok hp
  cases rel
  refine pairTrees_nil_walk ⟨[(key, b, w2)], ⟨rfl, rfl, key_of I2.hok hb, trivial⟩, dd, fun h' tk dd' hs => wpAny_pure ?_⟩
  obtain ⟨q', es, ep, hq, h2, h3, h4, _, h5⟩ := dd'
  refine ⟨.ref s.heap.objs.size, _, ?_, rfl, q2⟩
  refine d_write I2 (by rw [hp]; exact True.intro) hs ⟨q', hq⟩ ⟨by show 1 ≤ sizeLine; decide, hd, _, .cons ⟨rfl, ?_, ry⟩ .nil, q', es, ep, hq, h2, h3, h4, h5⟩
  rw [upd_ne (ne_of hb hp (fun z => nomatch z))]
  exact hb
/-- len of a dict with tuples as keys -/
theorem call_lenDT : CallR X (.builtin "len") (fun xs H Q => ∃ a kvs, xs = [V.ref a] ∧ H a = some (.dT kvs) ∧ Q (.int kvs.length) H) := by
  intro pins s σ H xs us Q I r h
  obtain ⟨a, kvs, rfl, ha, q⟩ := h
  obtain rfl := Vals.ref1 r
  obtain ⟨z, hd, xs, rel, dd⟩ := dt_of I.hok ha
  have hz : xs.length = kvs.length := (Paired.length rel).symm
  have hm : s.heap.DictKeyed (tupleKind (mixKind X.prog X.w)) a (pairsH xs) := ⟨xs, dd, rfl⟩
  have hl : (pairsH xs).length = kvs.length := by rw [← hz]; simp [pairsH]
  refine PyProof.Rows.call_len_slot (n := ((pairsH xs).length : Int)) hm.typeIs PySem.F.slot_dict_len (fun Q' hq => len_keyed hd hm hq) (by omega) (by rw [sizeLine_eq] at z; omega) ?_
  rw [hl]
  exact ⟨.int kvs.length, H, I.tok _, ⟨_, rfl⟩, q⟩
end
/-! ### for i, x in enumerate(xs) -/
theorem for_enum {K : PySem.W.Frag} {a : Addr} {xs : List V} {g : TG} {tb : TS} {D : Ends} {σ : L2.St} {H : Hp} (Pv : Nat → L2.St → Hp → Prop) (h0 : Pv 0 σ H) (hl : ∀ i σ H, i ≤ xs.length → Pv i σ H → SqL K H a xs)
    (hs : ∀ i x σ H T, xs[i]? = some x → Pv i σ H → H T = none → g (.ref T) σ (upd H T (.tup [.int (i : Nat), x])) fun σ2 H2 => tb { D with nx := Pv (i + 1), ct := Pv (i + 1), bk := D.nx } σ2 H2) (hd : ∀ σ H, Pv xs.length σ H → D.nx σ H) :
    ∃ W : Nat → Nat → L2.St → Hp → Prop, (∃ m, W 0 m σ H) ∧ ∀ i m σ H, W i m σ H →
      ((Ite K a).stop i H ∧ D.nx σ H) ∨ ((Ite K a).go i H ∧ ∃ N : L2.St → Hp → Prop, (∀ σ' H', N σ' H' → ∃ m', m' < m ∧ W (i + 1) m' σ' H') ∧ ∀ x H', (Ite K a).yld i H x H' → g x σ H' fun σ2 H2 => tb { D with nx := N, ct := N, bk := D.nx } σ2 H2) := by
  refine ⟨fun i m σ H => m = xs.length - i ∧ i ≤ xs.length ∧ Pv i σ H, ⟨xs.length, by simp, Nat.zero_le _, h0⟩, ?_⟩
  rintro i m σ H ⟨rfl, hi, p⟩
  have q := hl i σ H hi p
  by_cases hlt : i < xs.length
  · refine .inr ⟨⟨xs, xs[i], q, by simp [hlt]⟩, Pv (i + 1), fun σ' H' p' => ⟨xs.length - (i + 1), by omega, rfl, hlt, p'⟩, fun v H' y => ?_⟩
    obtain ⟨T, x, e1, hT, e2, y⟩ := y
    subst e1
    subst e2
    exact hs i x σ _ T (y xs q) p hT
  · have e : i = xs.length := by omega
    subst e
    exact .inl ⟨⟨xs, q, Nat.le_refl _⟩, hd σ H p⟩
/-! ### x in a tuple of data, a walk over a list or a tuple -/
section
variable {X : Cx}
def rInDT (K : PySem.W.Frag) : R2 := fun x y H Q => ∃ d ds, Dp K H x d ∧ Dp K H y (.tuple ds) ∧ SeqAt.shaped d = true ∧ SeqAt.shaped (.tuple ds) = true ∧ Q (.bl (ds.any fun z => PyData.eqv z d)) H
def rNotInDT (K : PySem.W.Frag) : R2 := fun x y H Q => ∃ d ds, Dp K H x d ∧ Dp K H y (.tuple ds) ∧ SeqAt.shaped d = true ∧ SeqAt.shaped (.tuple ds) = true ∧ Q (.bl (!ds.any fun z => PyData.eqv z d)) H
theorem op_inDT (hu : X.A.units + 65 < cLine) : OpR X (compareOp .In) (rInDT X.K) := by
  intro pins s σ H x y v u Q I rx ry h
  obtain ⟨d, ds, hd, he, sd, se, q⟩ := h
  obtain ⟨as, r1⟩ := Dp.reads I d x v hd rx
  obtain ⟨bs, r2⟩ := Dp.reads I (.tuple ds) y u he ry
  exact SeqAt.in_tuple_reads r2 r1 (SeqAt.canLay_of_shaped se) (SeqAt.canLay_of_shaped sd) (room_in_shaped sd hu) ⟨.bl _, H, I, rfl, q⟩
theorem op_notInDT (hu : X.A.units + 65 < cLine) : OpR X (compareOp .NotIn) (rNotInDT X.K) := by
  intro pins s σ H x y v u Q I rx ry h
  obtain ⟨d, ds, hd, he, sd, se, q⟩ := h
  obtain ⟨as, r1⟩ := Dp.reads I d x v hd rx
  obtain ⟨bs, r2⟩ := Dp.reads I (.tuple ds) y u he ry
  exact SeqAt.notIn_tuple_reads r2 r1 (SeqAt.canLay_of_shaped se) (SeqAt.canLay_of_shaped sd) (room_in_shaped sd hu) ⟨.bl _, H, I, rfl, q⟩
def iSeq (K : PySem.W.Frag) (tl : TE) : TI := fun σ H R => tl σ H fun x H1 => ∃ a, x = .ref a ∧ (((∃ xs, SqL K H1 a xs) ∧ R (Itl K a) H1) ∨ ((∃ xs, SqT K H1 a xs) ∧ R (Itt K a) H1))
theorem pi_seq {tg l : Expr} {tl : TE} (hl : PE X l tl) : PI X tg l (iSeq X.K tl) := by
  refine ⟨fun pins s σ H R I h => ?_⟩
  refine thn (hl.run pins s σ H _ I h) fun v s1 ⟨x, H1, I1, r1, q1⟩ => ?_
  obtain ⟨a, e, q⟩ := q1
  subst e
  cases r1
  rcases q with ⟨⟨xs, hq⟩, q⟩ | ⟨⟨xs, hq⟩, q⟩
  · obtain ⟨its, rv, p, hz⟩ := I1.list hq
    refine wpAny_pyIter_list p.isList ?_
    refine ⟨s1.heap.objs.size, [s1.heap.objs.size], _, _, H1, rfl, I1.kept (t' := s1.toks) fun b o e => Heap.get?_push_of_some _ e, turn_list a _, ⟨_, Heap.get?_push_size _ rfl, rfl, rfl⟩, fun b hb => ?_, q⟩
    have e : b = s1.heap.objs.size := by simpa using hb
    subst e
    exact I1.fpOk (Nat.le_refl _) (I1.hok.fresh (Nat.le_refl _))
  · obtain ⟨its, rv, p, hz⟩ := I1.tuple hq
    refine wpAny_pyIter_tuple (show s1.heap.IsTuple a its.toArray from p) ?_
    refine ⟨s1.heap.objs.size, [s1.heap.objs.size], _, _, H1, rfl, I1.kept (t' := s1.toks) fun b o e => Heap.get?_push_of_some _ e, turn_tuple a _, ⟨_, Heap.get?_push_size _ rfl, rfl, rfl⟩, fun b hb => ?_, q⟩
    have e : b = s1.heap.objs.size := by simpa using hb
    subst e
    exact I1.fpOk (Nat.le_refl _) (I1.hok.fresh (Nat.le_refl _))
theorem pi_seqK {K : PySem.W.Frag} {tg l : Expr} {tl : TE} (h : X.K = K) (hl : PE X l tl) : PI X tg l (iSeq K tl) := h ▸ pi_seq hl
end
theorem lcR_tup {K : PySem.W.Frag} {a : Addr} {xs : List V} {g : TG} {te : TE} {vs : List Nat} {σ : L2.St} {H1 : Hp} {D : Addr} {Qd : Hp → Prop} (M : Nat → Hp → Prop) (h0 : M 0 (upd H1 D (.lst []))) (hl : ∀ i H, i ≤ xs.length → M i H → SqT K H a xs)
    (hs : ∀ i x H, xs[i]? = some x → M i H → g x (wipe σ vs) H fun σ2 H2 => wipe σ2 vs = wipe σ vs ∧ te σ2 H2 fun y H4 => ∃ acc, H4 D = some (.lst acc) ∧ acc.length < sizeLine ∧ M (i + 1) (upd H4 D (.lst (acc ++ [y]))))
    (hm : ∀ x σ H Q Q', (∀ σ2 H2, Q σ2 H2 → Q' σ2 H2) → g x σ H Q → g x σ H Q') (hd : ∀ H, M xs.length H → Qd H) : LcR (Itt K a) g tYes te vs σ H1 D Qd :=
  lc_tup M h0 hl (fun i x H hi m => hm _ _ _ _ _ (fun σ2 H2 z => ⟨z.1, ifT (B := M (i + 1) H2) rfl z.2⟩) (hs i x H hi m)) hd
theorem hu65 {A : Around} {k : Nat} (hr : Room k A) : A.units + 65 < cLine := by have := hr.un; omega
end Kb

/-! ### enumerate of a text, of a tuple -/
namespace Kb
open PySem PySem.Spec PyProof.Rows L2 ClX
/-- one new cell ahead of the enumerate -/
theorem meets_enumerate_new1 {v : Value} {o : Obj} {H : Heap → Prop} (B : Begins v o H) :
    Meets (Builtin.«enumerate.__new__» ⟨[.type "enumerate", v], []⟩) (fun _ R s => H s.heap ∧
      R (.ok (.ret (.ref (s.heap.push o).objs.size))) { s with heap := (s.heap.push o).push { cls := .type "enumerate", data := .fields #[.none, .bool false, .ref s.heap.objs.size, rawInt 0, .none, .none] } }) :=
  .of_wp fun prog w A R s h => by
    obtain ⟨hp, g, d, tk, os⟩ := s; obtain ⟨h1, h⟩ := h
    have hsub := sub_enumerate
    have q1 : ∀ {A' : Around} {E : Value → Shared → Prop} {Q : Value → Shared → Prop}, Q (.ref hp.objs.size) ⟨hp.push o, g, d, tk, os⟩ → wpAny (model prog w) A' (pyIter v) Q E ⟨hp, g, d, tk, os⟩ :=
      fun q => B.iter prog w _ _ ⟨hp, g, d, tk, os⟩ _ h1 q
    wp_walk using q1
    refine wpAny_stack_any fun st => wpAny_pure ?_
    split
    · rename_i c _ _ _ _ _
      cases (c == Value.type "enumerate")
      · wp_walk using q1
        exact ⟨_, rfl, h⟩
      · wp_walk using q1
        exact ⟨_, rfl, h⟩
    · wp_walk using q1
      exact ⟨_, rfl, h⟩
section
variable {prog : Program} {w : World} {A : Around} {E : Value → Shared → Prop} {s : Shared}
theorem enum_begins1 {v : Value} {o : Obj} {H : Heap → Prop} {Q : Value → Shared → Prop} (B : Begins v o H) (h1 : H s.heap)
    (h : ∀ h', IsEnum h' (s.heap.objs.size + 1) s.heap.objs.size 0 .none → h'.get? s.heap.objs.size = some o → h'.objs.size = s.heap.objs.size + 2 →
      (∀ b o, s.heap.get? b = some o → h'.get? b = some o) → Q (.ref (s.heap.objs.size + 1)) { s with heap := h' }) :
    wpAny (model prog w) A (call (.type "enumerate") [v]) Q E s := by
  refine callType_new PySem.F.called_enumerate (by decide) (PySem.F.typeCall_enumerate_1 _) (PySem.F.newCall_enumerate_1 _) (fun obj => PySem.F.args_object_init_2 obj _) PySem.F.entry_enumerate_new
    (meets_enumerate_new1 B) ⟨h1, ?_⟩
  have hz : (s.heap.push o).objs.size = s.heap.objs.size + 1 := Heap.size_push ..
  show _ ∧ _
  rw [hz]
  have he : IsEnum ((s.heap.push o).push { cls := .type "enumerate", data := .fields #[.none, .bool false, .ref s.heap.objs.size, rawInt 0, .none, .none] }) (s.heap.objs.size + 1) s.heap.objs.size 0 .none := by
    have := Heap.get?_push_size (s.heap.push o) (o := { cls := .type "enumerate", data := .fields #[.none, .bool false, .ref s.heap.objs.size, rawInt 0, .none, .none] }) rfl
    rw [hz] at this; exact this
  refine ⟨⟨_, he, rfl⟩, h _ he (Heap.get?_push_of_some _ (Heap.get?_push_size _ B.free)) (by rw [Heap.size_push, hz]) fun b o x => Heap.get?_push_of_some _ (Heap.get?_push_of_some _ x)⟩
end
/-- what stands behind an enumerate: n items, each a new pair -/
def ItE (n : Hp → Nat → Prop) (val : Hp → Nat → V → Prop) : It :=
  ⟨fun i H => ∃ m, n H m ∧ i < m, fun i H v H' => ∃ T x, v = .ref T ∧ H T = none ∧ H' = upd H T (.tup [.int (i : Nat), x]) ∧ val H i x, fun i H => n H i⟩
/-- the items of the iterator within, as the reading has them -/
structure EnD (P : Program) (w : World) (K : PySem.W.Frag) (it : Addr) (n : Hp → Nat → Prop) (val : Hp → Nat → V → Prop) (St : Nat → Heap → Prop) : Prop where
  run : ∀ (X : Cx), X.prog = P → X.w = w → X.K = K → X.calm = true → ∀ (pins : List (Addr × Obj)) (s : Shared) (σ : L2.St) (H : Hp) (m : Nat), Inv X pins σ H s → n H m →
    ∃ (fp : List Addr) (P' : Nat → Value → Prop) (St' : Nat → Heap → Prop), Draws P w X.A.in1 it fp m P' St' ∧ (∀ i, St i s.heap → St' i s.heap) ∧ (∀ i h, St' i h → St i h) ∧ (∀ i u, P' i u → ∃ x, RelV x u ∧ val H i x) ∧ ∀ e, (∃ b old i, IsEnum s.heap e b i old) → e ≠ it → e ∉ fp
theorem turn_enumE {P : Program} {w : World} {K : PySem.W.Frag} {elts : List Expr} {kk : Nat} {tpos : Pos} {n : Hp → Nat → Prop} {val : Hp → Nat → V → Prop} {St : Nat → Heap → Prop} (e it : Addr) (D : EnD P w K it n val St)
    (live : ∀ i h, St i h → ∃ o, h.get? it = some o ∧ ∀ v, o.data ≠ .cell v) (fr1 : ∀ i h h', St i h → (∀ o, h.get? it = some o → h'.get? it = some o) → St i h') :
    Turn P w K (.Tuple elts kk tpos) (ItE n val) [e, it] e (fun i h => (∃ old, IsEnum h e it ((i : Nat) : Int) old) ∧ St i h ∧ e ≠ it) where
  mem := by simp
  obj := fun i h st b hb => by
    obtain ⟨⟨old, he⟩, hs, _⟩ := st
    have e' : b = e ∨ b = it := by simpa using hb
    rcases e' with z | z
    · rw [z]; exact ⟨_, he, fun v q => nomatch q⟩
    · rw [z]; exact live i h hs
  keep := fun i h h' st k => let ⟨⟨old, he⟩, hi, hne⟩ := st; ⟨⟨old, k e (by simp) _ he⟩, fr1 i h h' hi fun o q => k it (by simp) o q, hne⟩
  item := by
    intro X hP hw hK hc i pins s σ H E I hf st hg
    obtain ⟨⟨old, he⟩, hst, hne⟩ := st
    obtain ⟨m, hm, him⟩ := hg
    obtain ⟨fp, P', St', DD, h1, h2, h3, h4⟩ := D.run X hP hw hK hc pins s σ H m I hm
    subst hP hw hK
    have hel : e < s.heap.objs.size := Heap.lt_size he
    have hil : it < s.heap.objs.size := by obtain ⟨_, q, _⟩ := live i _ hst; exact Heap.lt_size q
    refine wpAny_pyNext_enum_itemD DD he (h1 i hst) him hne (h4 e ⟨_, _, _, he⟩ hne) fun u h' tk hPu ho hit' hT hsz hk => ?_
    obtain ⟨x, ru, hv⟩ := h3 i u hPu
    refine ⟨_, rfl, wpAny_letOwnedTupleGo_enum (s := { s with heap := h', toks := tk + 1 }) ho fun h'' he' sb => ?_⟩
    have hT2 : h''.get? s.heap.objs.size = some { cls := .type "tuple", data := .seq #[.int i tk, u] } := (sb.2 _ (Nat.ne_of_gt hel)).trans hT
    have new : ObjOk X.prog X.w (upd H s.heap.objs.size (.tup [.int (i : Nat), x])) h'' s.heap.objs.size (.tup [.int (i : Nat), x]) :=
      ⟨by show 2 ≤ sizeLine; decide, [.int i tk, u], .cons ⟨_, rfl⟩ (.cons ru .nil), ⟨_, hT2, rfl, _, rfl⟩⟩
    have I1 : Inv X pins σ (upd H s.heap.objs.size (.tup [.int (i : Nat), x])) { s with heap := h'', toks := tk + 1 } :=
      I.turnedNew (ch := [e, it]) (fun b ob hb q => (sb.2 b (fun z => hb (by simp [z]))).trans (hk b ob (fun z => hb (by simp [z])) (fun z => hb (by simp [z])) q)) hf (Nat.le_refl _) new
    refine ⟨.ref s.heap.objs.size, _, I1, rfl, ⟨_, x, rfl, I.hok.fresh (Nat.le_refl _), rfl, hv⟩, ⟨⟨u, ?_⟩, fr1 _ _ _ (h2 _ _ hit') (fun o q => (sb.2 it (Ne.symm hne)).trans q), hne⟩, fun b hb => ?_⟩
    · have e1 : ((i + 1 : Nat) : Int) = (i : Int) + 1 := by omega
      rw [e1]; exact he'
    · have hb' : b < s.heap.objs.size := by
        have e' : b = e ∨ b = it := by simpa using hb
        rcases e' with z | z
        · rw [z]; exact hel
        · rw [z]; exact hil
      rw [upd_ne (Nat.ne_of_lt hb')]
      exact (hf b hb).1
  done := by
    intro X hP hw hK hc i pins s σ H E I hf st hg
    obtain ⟨⟨old, he⟩, hst, hne⟩ := st
    obtain ⟨fp, P', St', DD, h1, h2, h3, h4⟩ := D.run X hP hw hK hc pins s σ H i I hg
    subst hP hw hK
    obtain ⟨f0, f1, f2, f3, f4, f5⟩ := hf it (by simp)
    exact wpAny_pyNext_enum_endD DD he (h1 i hst) fun h' eb => ⟨rfl, I.turned (t' := s.toks) (fun b o hb q => eb b o hb q) f0 f1 f3 f4 f5⟩
  self := fun A i s Q E st h => let ⟨⟨_, he⟩, _⟩ := st; wpAny_pyIter_enum he h
/-! texts -/
def nS (z : Str) : Hp → Nat → Prop := fun _ m => m = z.cps.size
def vS (z : Str) : Hp → Nat → V → Prop := fun _ i x => ∃ c, z.cps[i]? = some c ∧ x = .str ⟨#[c]⟩
theorem enD_str {P : Program} {w : World} {K : PySem.W.Frag} (it : Addr) (z : Str) (t : Tok) : EnD P w K it (nS z) (vS z) (fun i h => h.IsStrIter it (strIterType z) z t i) where
  run := by
    intro X hP hw hK hc pins s σ H m I hm
    subst hP hw hK
    cases (show m = z.cps.size from hm)
    refine ⟨[it], _, _, Draws.text (show X.A.in1.handled = none from I.ok.hd hc) it z t, fun i h => h, fun i h q => q, fun i u q => ?_, fun e _ hne h => hne (List.mem_singleton.mp h)⟩
    obtain ⟨c, u', hc', rfl⟩ := q
    exact ⟨.str ⟨#[c]⟩, ⟨_, rfl⟩, c, hc', rfl⟩
def iEnS (ta : TA) : TI := fun σ H R => ta σ H fun vs H1 => ∃ z, vs = [.str z] ∧ R (ItE (nS z) (vS z)) H1
theorem pi_enumS {X : Cx} {e : Expr} {ta : TA} {p pos tpos : Pos} {elts : List Expr} {kk : Nat} (hg : Gl X "enumerate") (hm : X.mg "enumerate" = none) (ha : PA X [e] ta) (hs : starEach [e] X.env = [(false, eval e X.env)] := by rfl) :
    PI X (.Tuple elts kk tpos) (.Call (.Name "enumerate" p) [e] [] pos) (iEnS ta) := by
  refine ⟨fun pins s σ H R I h => ?_⟩
  refine Call_ (ld_blt I hg hm boot_enumerate (PyProof.Rows.callWith_type1 (thn (ha.run pos pins s σ H _ I h) fun us s1 ⟨vs, H1, I1, r1, q1⟩ => ?_) hs rfl))
  obtain ⟨z, ex, q⟩ := q1
  subst ex
  cases r1 with
  | cons r rr =>
    cases rr
    obtain ⟨t, rfl⟩ := r
    refine call_enumerate_str fun h' he hit hsz hk => wpAny_pyIter_enum he ?_
    have I2 : Inv X pins σ H1 { s1 with heap := h' } := I1.kept (t' := s1.toks) hk
    refine ⟨s1.heap.objs.size + 1, [s1.heap.objs.size + 1, s1.heap.objs.size], _, _, H1, rfl, I2, turn_enumE (s1.heap.objs.size + 1) s1.heap.objs.size (enD_str _ z t) (fun i h st => ?_) (fun i h h' st k => ?_), ⟨⟨.none, he⟩, hit, Nat.succ_ne_self _⟩, fun b hb => ?_, q⟩
    · obtain ⟨o, ho, hc, hd⟩ := st
      exact ⟨o, ho, fun v q => by rw [hd] at q; cases q⟩
    · obtain ⟨o, ho, hc, hd⟩ := st
      exact ⟨o, k o ho, hc, hd⟩
    · have e' : b = s1.heap.objs.size + 1 ∨ b = s1.heap.objs.size := by simpa using hb
      have hle : s1.heap.objs.size ≤ b := by
        rcases e' with z | z
        · rw [z]; exact Nat.le_add_right _ _
        · rw [z]; exact Nat.le_refl _
      exact I1.fpOk hle (I1.hok.fresh hle)
/-! tuples -/
def nT (K : PySem.W.Frag) (a : Addr) (xs : List V) : Hp → Nat → Prop := fun H m => SqT K H a xs ∧ m = xs.length
def vT (xs : List V) : Hp → Nat → V → Prop := fun _ i x => xs[i]? = some x
theorem enD_tup {P : Program} {w : World} {K : PySem.W.Frag} (it a : Addr) (xs : List V) : EnD P w K it (nT K a xs) (vT xs) (fun i h => h.IsTupleIter it a i ∧ a ≠ it) where
  run := by
    intro X hP hw hK hc pins s σ H m I hm
    subst hP hw hK
    obtain ⟨hq, rfl⟩ := hm
    obtain ⟨its, rv, p, hz⟩ := I.tuple hq
    by_cases hne : a = it
    · subst hne
      refine ⟨[a], fun _ _ => False, fun _ _ => False, ⟨fun _ _ h => h.elim, fun _ _ _ h => h.elim, fun _ _ _ _ _ h => h.elim, fun _ _ _ h => h.elim⟩, fun i h => absurd rfl h.2, fun i h q => q.elim, fun i u q => q.elim, fun e _ hne h => hne (List.mem_singleton.mp h)⟩
    · have hl : xs.length = its.toArray.size := by rw [List.size_toArray]; exact rv.length
      refine ⟨[it, a], _, _, hl ▸ Draws.tuple (show X.A.in1.handled = none from I.ok.hd hc) it a hne its.toArray, fun i h => ⟨h.1, p⟩, fun i h q => ⟨q.1, hne⟩, fun i u q => ?_, fun e he hne' h => ?_⟩
      · rw [List.getElem?_toArray] at q
        obtain ⟨x, hx⟩ : ∃ x, xs[i]? = some x := by
          have := (List.getElem?_eq_some_iff.mp q).1
          exact ⟨_, List.getElem?_eq_getElem (show i < xs.length by rw [rv.length]; exact this)⟩
        obtain ⟨u', hu, ru⟩ := rv.get hx
        rw [hu] at q
        cases q
        exact ⟨x, ru, hx⟩
      · rcases List.mem_cons.mp h with z | z
        · exact hne' z
        · have z := List.mem_singleton.mp z
          subst z
          obtain ⟨b, old, i, he⟩ := he
          obtain ⟨o, ho, hc', _⟩ := p
          rw [show s.heap.get? e = _ from he] at ho
          cases ho
          injection hc' with z
          exact absurd z (by decide)
def iEnT (K : PySem.W.Frag) (ta : TA) : TI := fun σ H R => ta σ H fun vs H1 => ∃ a xs, vs = [.ref a] ∧ SqT K H1 a xs ∧ R (ItE (nT K a xs) (vT xs)) H1
theorem pi_enumT {X : Cx} {e : Expr} {ta : TA} {p pos tpos : Pos} {elts : List Expr} {kk : Nat} (hg : Gl X "enumerate") (hm : X.mg "enumerate" = none) (ha : PA X [e] ta) (hs : starEach [e] X.env = [(false, eval e X.env)] := by rfl) :
    PI X (.Tuple elts kk tpos) (.Call (.Name "enumerate" p) [e] [] pos) (iEnT X.K ta) := by
  refine ⟨fun pins s σ H R I h => ?_⟩
  refine Call_ (ld_blt I hg hm boot_enumerate (PyProof.Rows.callWith_type1 (thn (ha.run pos pins s σ H _ I h) fun us s1 ⟨vs, H1, I1, r1, q1⟩ => ?_) hs rfl))
  obtain ⟨a, xs, ex, hq, q⟩ := q1
  subst ex
  cases r1 with
  | cons r rr =>
    cases rr
    cases r
    obtain ⟨its, rv, p', hz⟩ := I1.tuple hq
    have hlt : a < s1.heap.objs.size := by obtain ⟨o, ho, _⟩ := p'; exact Heap.lt_size ho
    refine enum_begins1 (begins_tuple a its.toArray) (show s1.heap.IsTuple a its.toArray from p') fun h' he hit hsz hk => wpAny_pyIter_enum he ?_
    have I2 : Inv X pins σ H1 { s1 with heap := h' } := I1.kept (t' := s1.toks) hk
    refine ⟨s1.heap.objs.size + 1, [s1.heap.objs.size + 1, s1.heap.objs.size], _, _, H1, rfl, I2, turn_enumE (s1.heap.objs.size + 1) s1.heap.objs.size (enD_tup _ a xs) (fun i h st => ?_) (fun i h h' st k => ?_), ⟨⟨.none, he⟩, ⟨⟨_, hit, rfl, rfl⟩, Nat.ne_of_lt hlt⟩, Nat.succ_ne_self _⟩, fun b hb => ?_, q⟩
    · obtain ⟨⟨o, ho, hc, hd⟩, _⟩ := st
      exact ⟨o, ho, fun v q => by rw [hd] at q; cases q⟩
    · obtain ⟨⟨o, ho, hc, hd⟩, hne⟩ := st
      exact ⟨⟨o, k o ho, hc, hd⟩, hne⟩
    · have e' : b = s1.heap.objs.size + 1 ∨ b = s1.heap.objs.size := by simpa using hb
      have hle : s1.heap.objs.size ≤ b := by
        rcases e' with z | z
        · rw [z]; exact Nat.le_add_right _ _
        · rw [z]; exact Nat.le_refl _
      exact I1.fpOk hle (I1.hok.fresh hle)
theorem pi_enumTK {X : Cx} {K : PySem.W.Frag} {e : Expr} {ta : TA} {p pos tpos : Pos} {elts : List Expr} {kk : Nat} (hK : X.K = K) (hg : Gl X "enumerate") (hm : X.mg "enumerate" = none) (ha : PA X [e] ta) (hs : starEach [e] X.env = [(false, eval e X.env)] := by rfl) :
    PI X (.Tuple elts kk tpos) (.Call (.Name "enumerate" p) [e] [] pos) (iEnT K ta) := hK ▸ pi_enumT hg hm ha hs
/-- the loop over such an enumerate -/
theorem for_enE {n : Hp → Nat → Prop} {val : Hp → Nat → V → Prop} {g : TG} {tb : TS} {D : Ends} {σ : L2.St} {H : Hp} (m : Nat) (Pv : Nat → L2.St → Hp → Prop) (h0 : Pv 0 σ H) (hn : ∀ i σ H, i ≤ m → Pv i σ H → n H m)
    (hs : ∀ i x σ H T, i < m → val H i x → Pv i σ H → H T = none → g (.ref T) σ (upd H T (.tup [.int (i : Nat), x])) fun σ2 H2 => tb { D with nx := Pv (i + 1), ct := Pv (i + 1), bk := D.nx } σ2 H2) (hd : ∀ σ H, Pv m σ H → D.nx σ H) :
    ∃ W : Nat → Nat → L2.St → Hp → Prop, (∃ m, W 0 m σ H) ∧ ∀ i m σ H, W i m σ H →
      ((ItE n val).stop i H ∧ D.nx σ H) ∨ ((ItE n val).go i H ∧ ∃ N : L2.St → Hp → Prop, (∀ σ' H', N σ' H' → ∃ m', m' < m ∧ W (i + 1) m' σ' H') ∧ ∀ x H', (ItE n val).yld i H x H' → g x σ H' fun σ2 H2 => tb { D with nx := N, ct := N, bk := D.nx } σ2 H2) := by
  refine ⟨fun i k σ H => k = m - i ∧ i ≤ m ∧ Pv i σ H, ⟨m, by simp, Nat.zero_le _, h0⟩, ?_⟩
  rintro i k σ H ⟨rfl, hi, p⟩
  have q := hn i σ H hi p
  by_cases hlt : i < m
  · refine .inr ⟨⟨m, q, hlt⟩, Pv (i + 1), fun σ' H' p' => ⟨m - (i + 1), by omega, rfl, hlt, p'⟩, fun v H' y => ?_⟩
    obtain ⟨T, x, e1, hT, e2, y⟩ := y
    subst e1
    subst e2
    exact hs i x σ _ T hlt y p hT
  · have e : i = m := by omega
    subst e
    exact .inl ⟨q, hd σ H p⟩
end Kb

/-! ### a list of truths: count; a comprehension over an enumerate -/
namespace Kb
open PySem PySem.Spec PyProof.Rows L2 ClX
def eqb (k : Bool) : Value → Bool
  | .bool b => b == k
  | _ => false
theorem bools_eq {k : Bool} : ∀ {us : List Value} {bs : List Bool}, Vals (bs.map V.bl) us → (∀ y ∈ us, ∃ b, y = .bool b) ∧ us.countP (eqb k) = bs.count k
  | _, [], h => by cases h; exact ⟨fun y hy => (nomatch hy), rfl⟩
  | _, b :: bs, h => by
    rw [List.map_cons] at h
    cases h with
    | cons r t =>
      obtain ⟨h1, h2⟩ := bools_eq (k := k) t
      cases r
      refine ⟨fun y hy => ?_, ?_⟩
      · rcases List.mem_cons.mp hy with e | e
        · exact ⟨b, e⟩
        · exact h1 y e
      · rw [List.countP_cons, List.count_cons, h2] <;> rfl
section
variable {X : Cx}
def rCntB (K : PySem.W.Frag) : V → List V → Hp → VK → Prop := fun x xs H Q => ∃ (p : Addr) (bs : List Bool) (k : Bool), x = .ref p ∧ xs = [.bl k] ∧ SqL K H p (bs.map V.bl) ∧ Q (.int (bs.count k : Nat)) H
theorem mt_lcountB : MtR X "list.count" (rCntB X.K) := by
  intro pins s σ H x xs v us Q I rx rxs h
  obtain ⟨p, bs, k, rfl, rfl, hs, q⟩ := h
  cases rx
  obtain ⟨u, rfl, ru⟩ := rxs.one
  cases (show u = Value.bool k from ru)
  obtain ⟨its, rv, ⟨⟨cls, dd, data, sl⟩, n, ho, hc, hdn, hd⟩, hlen⟩ := I.list hs
  simp only at hc hd
  subst hc hd
  obtain ⟨h1, h2⟩ := bools_eq (k := k) rv
  refine call_meets PySem.F.slot_list_count ⟨_, ho, rfl⟩ PySem.F.entry_list_count (PySem.F.args_list_count_2 _ _)
    (SeqAt.list_countAt p its.toArray n dd sl (.bool k) (eqb k)) ⟨ho, fun y hy => ?_, ?_⟩
  · obtain ⟨b, rfl⟩ := h1 y (by simpa using hy)
    exact SeqAt.EqAt.bool_bool b k
  · refine ⟨.int (bs.count k : Nat), H, I.tok _, ⟨s.toks, ?_⟩, q⟩
    show Value.int ((its.toArray.toList.countP (eqb k) : Nat) : Int) s.toks = Value.int ((bs.count k : Nat) : Int) s.toks
    rw [show its.toArray.toList = its from rfl, h2]
end
theorem lcR_enE {n : Hp → Nat → Prop} {val : Hp → Nat → V → Prop} {g : TG} {te : TE} {vs : List Nat} {σ : L2.St} {H1 : Hp} {D : Addr} {Qd : Hp → Prop} (m : Nat) (M : Nat → Hp → Prop) (h0 : M 0 (upd H1 D (.lst []))) (hn : ∀ i H, i ≤ m → M i H → n H m)
    (hs : ∀ i x H T, i < m → val H i x → M i H → H T = none → g (.ref T) (wipe σ vs) (upd H T (.tup [.int (i : Nat), x])) fun σ2 H2 => wipe σ2 vs = wipe σ vs ∧ te σ2 H2 fun y H4 => ∃ acc, H4 D = some (.lst acc) ∧ acc.length < sizeLine ∧ M (i + 1) (upd H4 D (.lst (acc ++ [y]))))
    (hm : ∀ x σ H Q Q', (∀ σ2 H2, Q σ2 H2 → Q' σ2 H2) → g x σ H Q → g x σ H Q') (hd : ∀ H, M m H → Qd H) : LcR (ItE n val) g tYes te vs σ H1 D Qd := by
  refine ⟨fun i k H => k = m - i ∧ i ≤ m ∧ M i H, ⟨m, by simp, Nat.zero_le _, h0⟩, ?_⟩
  rintro i k H ⟨rfl, hi, p⟩
  have q := hn i H hi p
  by_cases hlt : i < m
  · refine .inr ⟨⟨m, q, hlt⟩, M (i + 1), fun H' p' => ⟨m - (i + 1), by omega, rfl, hlt, p'⟩, fun v H' y => ?_⟩
    obtain ⟨T, x, e1, hT, e2, y⟩ := y
    subst e1
    subst e2
    exact hm _ _ _ _ _ (fun σ2 H2 z => ⟨z.1, ifT (B := M (i + 1) H2) rfl z.2⟩) (hs i x _ T hlt y p hT)
  · have e : i = m := by omega
    subst e
    exact .inl ⟨q, hd H p⟩
end Kb

/-! ### is True, is not True -/
namespace Kb
open PySem PySem.Spec PyProof.Rows L2 ClX
section
variable {X : Cx}
theorem op_isT : OpR X (compareOp .Is) (fun x y H Q => ∃ k, y = .bl k ∧ ((x = .non ∧ Q (.bl false) H) ∨ ∃ j, x = .bl j ∧ Q (.bl (decide (j = k))) H)) := by
  intro pins s σ H x y v u Q I rx ry h
  obtain ⟨k, rfl, h⟩ := h
  cases (show u = Value.bool k from ry)
  rcases h with ⟨rfl, q⟩ | ⟨j, rfl, q⟩
  · cases rx
    exact wpAny_is_other rfl (fun z => nomatch z) ⟨.bl false, H, I, rfl, q⟩
  · cases (show v = Value.bool j from rx)
    by_cases e : j = k
    · subst e
      exact wpAny_is_self rfl ⟨.bl true, H, I, rfl, by simpa using q⟩
    · exact wpAny_is_other rfl (fun z => e (Value.bool.inj z)) ⟨.bl false, H, I, rfl, by simpa [e] using q⟩
theorem op_notT : OpR X (compareOp .IsNot) (fun x y H Q => ∃ k, y = .bl k ∧ ((x = .non ∧ Q (.bl true) H) ∨ ∃ j, x = .bl j ∧ Q (.bl (!decide (j = k))) H)) := by
  intro pins s σ H x y v u Q I rx ry h
  obtain ⟨k, rfl, h⟩ := h
  cases (show u = Value.bool k from ry)
  rcases h with ⟨rfl, q⟩ | ⟨j, rfl, q⟩
  · cases rx
    exact wpAny_isNot_other rfl (fun z => nomatch z) ⟨.bl true, H, I, rfl, q⟩
  · cases (show v = Value.bool j from rx)
    by_cases e : j = k
    · subst e
      exact wpAny_isNot_self rfl ⟨.bl false, H, I, rfl, by simpa using q⟩
    · exact wpAny_isNot_other rfl (fun z => e (Value.bool.inj z)) ⟨.bl true, H, I, rfl, by simpa [e] using q⟩
end
end Kb

/-! ### ~x of an own instance; a promise that nothing meets -/
namespace Kb
open PySem PySem.Spec PyProof.Rows L2 ClX
section
variable {X : Cx} {k : Nat} {C : Addr} {ps : List Str} {sp : Sp}
def rOwnU (C : Addr) (sp : Sp) : V → Hp → VK → Prop := fun x H Q => ∃ (a dx : Addr) (fs : List (Str × V)), x = .ref a ∧ H a = some (.ins C dx fs) ∧ sp [.ref a] H Q E0
theorem un_own (F : MtC X.prog X.w X.K X.mg X.base CX0 k C "__invert__" ps sp) (hr : Room k X.A) : UnR X (unaryOp .Invert) (rOwnU C sp) := by
  intro pins s σ H x v Q I rx h
  obtain ⟨a, dx, fs, rfl, ha, q⟩ := h
  obtain ⟨f, fd, hf, M, hb⟩ := F.ex
  cases (show v = Value.ref a from rx)
  obtain ⟨mA, O, _⟩ := ins_get I.hok ha
  obtain ⟨od, J, _⟩ := O.look
  obtain ⟨m, hF⟩ := I.fr
  refine PySem.W.ksp_inv hF I.ok.mod.kin J M.at_ M.fn ?_
  exact run_fn (us := [.ref a]) (vs := [.ref a]) hf hr hb .nil pass0 I (.cons rfl .nil) q
end
theorem fn_false {P : Program} {w : World} {K : PySem.W.Frag} {mg : Str → Option Value} {base : Heap} {CX : CXT} {k : Nat} {f : Addr} {fd : FuncData} {ps : List Str} : FnOk P w K mg base CX k f fd ps (fun _ _ _ _ => False) :=
  ⟨fun _ _ _ _ h => h.elim, fun _ _ _ _ _ _ _ _ _ _ _ _ _ h => h.elim⟩
end Kb

/-! ### rules that name the written part, for blocks of comprehensions -/
namespace Kb
open PySem PySem.Spec PyProof.Rows L2 ClX
section
variable {X : Cx} {K : PySem.W.Frag}
theorem op_in_seqK (h : X.K = K) : OpR X (compareOp .In) (rIn K false) := h ▸ op_in_seq
theorem op_notIn_seqK (h : X.K = K) : OpR X (compareOp .NotIn) (rIn K true) := h ▸ op_notIn_seq
theorem op_eqDK (h : X.K = K) (hu : X.A.units + 64 < cLine) : OpR X (compareOp .Eq) (rEqD K) := h ▸ op_eqD hu
theorem op_neDK (h : X.K = K) (hu : X.A.units + 64 < cLine) : OpR X (compareOp .NotEq) (rNeD K) := h ▸ op_neD hu
end
end Kb

/-! ### a builtin value on the left, an own object on the right whose class has the reflected operator -/
namespace PySem.W
open PySem PySem.Calls PyProof.Rows
section
variable {prog : Program} {w : World} {M : Model} {A : Around} {E : Value → Shared → Prop} {s : Shared} {K : Frag} {y D L g : Addr} {h₀ : Heap} {m : Str → Option Value} {oy : Obj} {od : Option Obj} {nm T : String}
theorem binop_LT {op : Operator} {a : Value} {fo ro : Option Value} {Q : Value → Shared → Prop} (F : Fr h₀ L s.heap m) (X₀ : K.In h₀) (J : InstAt s.heap y oy D od) (ha : typeOf a = pure (.type T)) (hd : selfFirst K D = true)
    (gs : findIn K (.ref D) (PySem.dunder op.info.2) = some none) (gr : findIn K (.ref D) (dunderR op.info.2) = some (some (.ref g))) (hg : isFn K (.ref g) = true)
    (h1 : findIn K (.type T) (PySem.dunder op.info.2) = some fo) (h2 : findIn K (.type T) (dunderR op.info.2) = some ro) (hl : ((fo.isSome && !isSeqSlot fo) || (ro.isSome && !isSeqSlot ro)) = false)
    (h : wpAny (model prog w) A (call (.ref g) [.ref y, a]) (CmpBack Q) E s) : wpAny (model prog w) A (binaryOp op a (.ref y)) Q E s := by
  have X := X₀.keeps F.keep
  obtain ⟨ce, rest', hce, hm'⟩ := ksp_first hd
  have one := ksp_try X J gr hg h
  have L1 : Looks (model prog w) s.heap (typeOf a) (.type T) := Looks.of_pure ha
  have L3 : Looks (model prog w) s.heap (fillsNumberSlot (.type T) op.info.2) false := hl ▸ ksp_fillsT X h1 h2
  have L4 : Looks (model prog w) s.heap (fillsNumberSlot (.ref D) op.info.2) true := fills_R X hce hm' gs gr
  have hn : (Value.type T == Value.ref D) = false := Bool.eq_false_iff.mpr fun q => by cases beq_iff_eq.mp q
  unfold binaryOp
  refine wpAny_holding (wpAny_bind ?_)
  unfold binaryOp1
  refine wpAny_bind (L1.here (wpAny_bind (J.type.here (wpAny_bind (L3.here ?_)))))
  simp only [hn, Bool.false_eq_true, if_false]
  refine wpAny_bind (L4.here ?_)
  simp only [Bool.false_and, Bool.false_eq_true, if_false]
  refine wpAny_bind (wpAny_pure ?_)
  simp only [Bool.not_false, Bool.and_self, if_true, Bool.false_eq_true, if_false]
  refine wpAny_bind (m := tryMethod (.ref y) _ _) (wpAny_mono one (fun r s' hr => ?_) fun _ _ e => e)
  obtain ⟨v, rfl, hv⟩ := hr
  obtain ⟨hh, gg, d, tt, os⟩ := s'
  ksp_lk
  exact hv
theorem int_add_declines {n : Int} {t : Tok} {dx : Addr} {Q : Value → Shared → Prop} (J : s.heap.get? y = some (instObj D dx)) (hq : Q .notImplemented s) :
    wpAny (model prog w) A (Builtin.«int.__add__» ⟨[.int n t, .ref y], []⟩) (fun f s' => ∃ v, f = .done (.ret v) ∧ Q v s') E s := by
  obtain ⟨hp, g, d, tk, os⟩ := s
  unfold Builtin.«int.__add__» Builtin.Int.intBinary
  have L : Looks (model prog w) hp (asInt? (.ref y)) none := by
    intro A Q E s k q
    unfold asInt?
    exact wpAny_bind (wpAny_load (k _ _ J) (wpAny_pure q))
  repeat (first | lk | wp_step)
  exact ⟨_, rfl, hq⟩
/-- a builtin value on the left whose own method declines -/
theorem binop_LN {op : Operator} {a : Value} {Q : Value → Shared → Prop} (Fh : Fr h₀ L s.heap m) (X₀ : K.In h₀) (J : InstAt s.heap y oy D od) (ha : typeOf a = pure (.type T)) (hd : selfFirst K D = true) (hsub : subIn K (.ref D) (.type T) = some false)
    (gs : findIn K (.ref D) (PySem.dunder op.info.2) = some none) (gr : findIn K (.ref D) (dunderR op.info.2) = some (some (.ref g))) (hg : isFn K (.ref g) = true)
    (hfl : fillsNumberSlot (.type T) op.info.2 = pure true)
    (two : wpAny (model prog w) A (tryMethod a (PySem.dunder op.info.2) (.ref y)) (fun r s' => r = none ∧ s' = s) E s)
    (h : wpAny (model prog w) A (call (.ref g) [.ref y, a]) (CmpBack Q) E s) : wpAny (model prog w) A (binaryOp op a (.ref y)) Q E s := by
  have X := X₀.keeps Fh.keep
  obtain ⟨ce, rest', hce, hm'⟩ := ksp_first hd
  have one := ksp_try X J gr hg h
  have L1 : Looks (model prog w) s.heap (typeOf a) (.type T) := Looks.of_pure ha
  have L3 : Looks (model prog w) s.heap (fillsNumberSlot (.type T) op.info.2) true := Looks.of_pure hfl
  have L4 : Looks (model prog w) s.heap (fillsNumberSlot (.ref D) op.info.2) true := fills_R X hce hm' gs gr
  have L5 : Looks (model prog w) s.heap (isSubtype (.ref D) (.type T)) false := looks_subIn X hsub
  have L7 : Looks (model prog w) s.heap (numberSlotInPython (.type T) op.info.2) false := Looks.of_pure rfl
  have hn : (Value.type T == Value.ref D) = false := Bool.eq_false_iff.mpr fun q => by cases beq_iff_eq.mp q
  unfold binaryOp
  refine wpAny_holding (wpAny_bind ?_)
  unfold binaryOp1
  refine wpAny_bind (L1.here (wpAny_bind (J.type.here (wpAny_bind (L3.here ?_)))))
  simp only [hn, Bool.false_eq_true, if_false]
  refine wpAny_bind (L4.here ?_)
  simp only [Bool.and_self, if_true]
  refine wpAny_bind (L5.here ?_)
  simp only [Bool.false_eq_true, if_false]
  refine wpAny_bind (L7.here ?_)
  simp only [Bool.false_eq_true, if_false, if_true]
  refine wpAny_bind (m := tryMethod a _ _) (wpAny_mono two (fun r s' hr => ?_) fun _ _ e => e)
  obtain ⟨rfl, rfl⟩ := hr
  dsimp only
  simp only [Bool.not_false, Bool.and_self, if_true]
  refine wpAny_bind (m := tryMethod (.ref y) _ _) (wpAny_mono one (fun r s' hr => ?_) fun _ _ e => e)
  obtain ⟨v, rfl, hv⟩ := hr
  obtain ⟨hh, gg, d, tt, os⟩ := s'
  ksp_lk
  exact hv
theorem try_int_add {n : Int} {t : Tok} {dx : Addr} (J : s.heap.get? y = some (instObj D dx)) : wpAny (model prog w) A (tryMethod (.int n t) (PySem.dunder "add") (.ref y)) (fun r s' => r = none ∧ s' = s) E s :=
  wpAny_tryMethod_declines (typeIs_int s n t) PySem.F.slot_int_add (wpAny_call_entry PySem.F.slot_int_add (typeIs_int s n t) PySem.F.entry_int_add (int_add_declines J ⟨rfl, rfl, rfl⟩) (PySem.F.args_int_add_2 _ _))
end
end PySem.W

/-! ### the head by one run of the top: the facts are looked at in the run -/
namespace Kb
open PySem PySem.Spec PyProof.Rows L2 ClX
/-- a def: where it stands, its name, qualified name, parameters, body, scope -/
structure FZ where
  at_ : PySem.W.Frag → Addr
  name : Str
  qual : Str
  st : Stmt
def FZ.val (d : FZ) : He.FnV := some (d.name, d.qual, defArgs d.st, .stmts (defBody d.st), defScope d.st, mainGlobals, [], .none, builtinsNs)
def fzObs (K : PySem.W.Frag) (a : Addr) : He.FnV := match K.lookup a with
  | some ⟨_, _, .func fd, _⟩ => some (fd.name, fd.qualname, fd.params, fd.body, fd.scope, fd.globals, fd.closure, fd.defaults, fd.builtins)
  | _ => none
def fzCode (K : PySem.W.Frag) (a : Addr) (q : Str) : Bool := match K.lookup a with
  | some ⟨_, _, .func fd, _⟩ => PySem.W.codeIn K fd.code q
  | _ => false
theorem fz_ok {K : PySem.W.Frag} {d : FZ} (seen : fzObs K (d.at_ K) = d.val) (coded : fzCode K (d.at_ K) d.qual = true) :
    ∃ cl di sl kw dc md an cv cm, K.lookup (d.at_ K) = some ⟨cl, di, .func (PySem.W.fnOf d.name d.qual (defArgs d.st) (defBody d.st) (defScope d.st) .none kw dc md an cv cm), sl⟩ ∧ PySem.W.codeIn K cv d.qual = true := by
  unfold fzCode at coded
  unfold fzObs FZ.val at seen
  split at coded
  · rename_i cl di fun_ sl here
    rw [here] at seen
    cases fun_ with
    | mk nm qn pa bo sc gl clo df kw dc md an cv cm bn =>
      have same := Option.some.inj seen
      simp only [Prod.mk.injEq] at same
      rcases same with ⟨rfl, rfl, rfl, rfl, rfl, rfl, rfl, rfl, rfl⟩
      exact ⟨cl, di, sl, kw, dc, md, an, cv, cm, here, coded⟩
  · cases coded
abbrev AlZ : Type := Bool × List He.FnV
def obsZ (fs : List (PySem.W.Frag → Bool)) (fn : List FZ) (K : PySem.W.Frag) : AlZ := ((fs.all fun f => f K) && fn.all fun d => fzCode K (d.at_ K) d.qual, fn.map fun d => fzObs K (d.at_ K))
def valZ (fn : List FZ) : AlZ := (true, fn.map FZ.val)
def SaysZ (fs : List (PySem.W.Frag → Bool)) (fn : List FZ) (K : PySem.W.Frag) : Prop := obsZ fs fn K = valZ fn
/-- what an object of the text names -/
def refsZ (o : Obj) : List Addr := match o.data with
  | .seq its _ => its.toList.flatMap He.refV
  | .dict es _ => es.toList.flatMap fun e => He.refV e.val
  | .func fd => He.refV fd.code
  | .cls cd => [cd.ns]
  | .fields vs => vs.toList.flatMap He.refV
  | _ => []
def stepZ (g : Addr → Option Obj) (as : List Addr) : List Addr := as.flatMap fun a => match g a with
  | some o => refsZ o
  | none => []
def lvZ (g : Addr → Option Obj) : Nat → List Addr → List Addr
  | 0, as => as
  | n + 1, as => as ++ lvZ g n (stepZ g as)
def asZ (g : Addr → Option Obj) (n : Nat) : List Addr := lvZ g n [mainGlobals] ++ [cStatics]
def obsZG (n : Nat) (fs : List (PySem.W.Frag → Bool)) (fn : List FZ) (g : Addr → Option Obj) : AlZ := obsZ fs fn (He.frG g (asZ g n))
def hookZ (n : Nat) (fs : List (PySem.W.Frag → Bool)) (fn : List FZ) : PySem.W.Hook :=
  ⟨AlZ, fun s => obsZG n fs fn s.heap.get?, fun _ => valZ fn, fun _ h => ∃ F : PySem.W.Frag, F.In h ∧ SaysZ fs fn F, fun _ s z => ⟨He.frG s.heap.get? (asZ s.heap.get? n), He.frG_in, z⟩, fun _ _ _ said more => said.elim fun F z => ⟨F, PySem.W.Frag.In.keeps z.1 more, z.2⟩⟩
theorem obsZG_eq {n : Nat} {fs : List (PySem.W.Frag → Bool)} {fn : List FZ} {g : Addr → Option Obj} {s : Shared} (h : ∀ a, g a = s.heap.get? a) : obsZG n fs fn g = (hookZ n fs fn).obs s := congrArg (obsZG n fs fn) (funext h)
section
variable {fs : List (PySem.W.Frag → Bool)} {fn : List FZ} {K : PySem.W.Frag}
theorem SaysZ.parts (z : SaysZ fs fn K) : (∀ f ∈ fs, f K = true) ∧ (∀ d ∈ fn, fzCode K (d.at_ K) d.qual = true) ∧ ∀ d ∈ fn, fzObs K (d.at_ K) = d.val := by
  obtain ⟨zb, zl⟩ := Prod.mk.inj (show ((fs.all fun f => f K) && fn.all fun d => fzCode K (d.at_ K) d.qual, fn.map fun d => fzObs K (d.at_ K)) = (true, fn.map FZ.val) from z)
  rw [Bool.and_eq_true, List.all_eq_true, List.all_eq_true] at zb
  exact ⟨zb.1, zb.2, fun d hd => List.map_inj_left.mp zl d hd⟩
theorem SaysZ.fact (z : SaysZ fs fn K) (i : Nat) {f : PySem.W.Frag → Bool} (h : fs[i]? = some f) : f K = true := z.parts.1 f (List.mem_iff_getElem?.mpr ⟨i, h⟩)
theorem SaysZ.def_ (z : SaysZ fs fn K) (i : Nat) {d : FZ} (h : fn[i]? = some d) :
    ∃ cl di sl kw dc md an cv cm, K.lookup (d.at_ K) = some ⟨cl, di, .func (PySem.W.fnOf d.name d.qual (defArgs d.st) (defBody d.st) (defScope d.st) .none kw dc md an cv cm), sl⟩ ∧ PySem.W.codeIn K cv d.qual = true :=
  have hd := List.mem_iff_getElem?.mpr ⟨i, h⟩
  fz_ok (z.parts.2.2 d hd) (z.parts.2.1 d hd)
end
/-- the run looked at in parts -/
theorem run_parts {S B : Type} {X : Option S} {lk : S → Bool} {sn : S → B} {Kf : S → PySem.W.Frag} {good : B} {fs : List (PySem.W.Frag → Bool)} {fn fa fb : List FZ} (e : fn = fa ++ fb)
    (h1 : X.map (fun s => (lk s, sn s, fs.all fun f => f (Kf s))) = some (true, good, true)) (h2 : X.map (fun s => (fa.all (fun d => fzCode (Kf s) (d.at_ (Kf s)) d.qual), fa.map fun d => fzObs (Kf s) (d.at_ (Kf s)))) = some (true, fa.map FZ.val))
    (h3 : X.map (fun s => (fb.all (fun d => fzCode (Kf s) (d.at_ (Kf s)) d.qual), fb.map fun d => fzObs (Kf s) (d.at_ (Kf s)))) = some (true, fb.map FZ.val)) :
    X.map (fun s => (lk s, sn s, obsZ fs fn (Kf s))) = some (true, good, valZ fn) := by
  subst e
  cases X with
  | none => cases h1
  | some s =>
    have e1 := Prod.mk.inj (Option.some.inj h1)
    have e2 := Prod.mk.inj e1.2
    have e3 := Prod.mk.inj (Option.some.inj h2)
    have e4 := Prod.mk.inj (Option.some.inj h3)
    show some (lk s, sn s, obsZ fs (fa ++ fb) (Kf s)) = _
    unfold obsZ valZ
    rw [List.all_append, List.map_append, List.map_append, e1.1, e2.1, e2.2, e3.1, e3.2, e4.1, e4.2]
    rfl
/-! addresses and facts by names -/
section
variable {K : PySem.W.Frag}
def gloB (K : PySem.W.Frag) (x : Str) : Bool := match PySem.W.nsIn K mainGlobals x with
  | some (some (.ref _)) => true
  | _ => false
theorem gloB_ok {x : Str} (h : gloB K x = true) : PySem.W.nsIn K mainGlobals x = some (some (.ref (He.ga K x))) := by
  unfold gloB at h
  unfold He.ga
  split at h
  · rename_i a e; rw [e]
  · cases h
def freeB (K : PySem.W.Frag) (x : Str) : Bool := match PySem.W.nsIn K mainGlobals x with
  | some none => true
  | _ => false
theorem freeB_ok {x : Str} (h : freeB K x = true) : PySem.W.nsIn K mainGlobals x = some none := by
  unfold freeB at h
  split at h
  · assumption
  · cases h
def methB (K : PySem.W.Frag) (C : Addr) (m : Str) : Bool := match PySem.W.findIn K (.ref C) m with
  | some (some (.ref _)) => true
  | _ => false
theorem methB_ok {C : Addr} {m : Str} (h : methB K C m = true) : PySem.W.findIn K (.ref C) m = some (some (.ref (He.ma K C m))) := by
  unfold methB at h
  unfold He.ma
  split at h
  · rename_i a e; rw [e]
  · cases h
/-- what a property, a class method holds -/
def rcA (K : PySem.W.Frag) (p : Addr) (T : String) : Addr := match PySem.W.recIn K p T with
  | some (.ref f :: _) => f
  | _ => 0
def rcB (K : PySem.W.Frag) (p : Addr) (T : String) : Bool := match PySem.W.recIn K p T with
  | some (.ref _ :: _) => true
  | _ => false
theorem rcB_ok {p : Addr} {T : String} (h : rcB K p T = true) : ∃ rc, PySem.W.recIn K p T = some (.ref (rcA K p T) :: rc) := by
  unfold rcB at h
  unfold rcA
  split at h
  · rename_i f rc e; exact ⟨rc, by rw [e]⟩
  · cases h
def cmA (K : PySem.W.Frag) (C : Addr) (m : Str) : Addr := match PySem.W.findCls K (.ref C) (.type "type") m with
  | some (.get _ (.ref p) _ _) => p
  | _ => 0
def cmB (K : PySem.W.Frag) (C : Addr) (m : Str) : Bool := match PySem.W.findCls K (.ref C) (.type "type") m with
  | some (.get g (.ref _) o t) => decide (g = .builtin "classmethod.__get__") && (decide (o = .none) && decide (t = .ref C))
  | _ => false
theorem cmB_ok {C : Addr} {m : Str} (h : cmB K C m = true) : PySem.W.findCls K (.ref C) (.type "type") m = some (.get (.builtin "classmethod.__get__") (.ref (cmA K C m)) .none (.ref C)) := by
  unfold cmB at h
  unfold cmA
  split at h
  · rename_i g p o t e
    obtain ⟨h1, h2⟩ := He.ba h
    obtain ⟨h2, h3⟩ := He.ba h2
    have h1 := of_decide_eq_true h1
    have h2 := of_decide_eq_true h2
    have h3 := of_decide_eq_true h3
    subst h1 h2 h3
    rw [e]
  · cases h
def clsB (K : PySem.W.Frag) (C : Addr) (m : Str) (v : Value) : Bool := match PySem.W.findCls K (.ref C) (.type "type") m with
  | some (.val u) => decide (u = v)
  | _ => false
theorem clsB_ok {C : Addr} {m : Str} {v : Value} (h : clsB K C m v = true) : PySem.W.findCls K (.ref C) (.type "type") m = some (.val v) := by
  unfold clsB at h
  split at h
  · rename_i u e; rw [e, of_decide_eq_true h]
  · cases h
/-- a constant tuple: its items -/
def tupIt (K : PySem.W.Frag) (a : Addr) : List Value := match K.lookup a with
  | some ⟨.type _, _, .seq its _, _⟩ => its.toList
  | _ => []
def tupRef (K : PySem.W.Frag) (a : Addr) (i : Nat) : Addr := match (tupIt K a)[i]? with
  | some (.ref b) => b
  | _ => 0
def tupB (K : PySem.W.Frag) (a : Addr) (p : List Value → Bool) : Bool := match K.lookup a with
  | some ⟨.type t, _, .seq its _, _⟩ => decide (t = "tuple") && p its.toList
  | _ => false
theorem tupB_ok {a : Addr} {p : List Value → Bool} (h : tupB K a p = true) : ∃ o n s, K.lookup a = some ⟨.type "tuple", o, .seq (tupIt K a).toArray n, s⟩ ∧ p (tupIt K a) = true := by
  unfold tupB at h
  unfold tupIt
  split at h
  · rename_i t o its n s e
    obtain ⟨h1, h2⟩ := He.ba h
    have h1 := of_decide_eq_true h1
    subst h1
    refine ⟨o, n, s, ?_, ?_⟩
    · rw [e]
    · exact h2
  · cases h
def isInts : List Int → List Value → Bool
  | [], [] => true
  | i :: is, .int j _ :: vs => decide (i = j) && isInts is vs
  | _, _ => false
theorem isInts_cons {i : Int} {is : List Int} {vs : List Value} (h : isInts (i :: is) vs = true) : ∃ t r, vs = .int i t :: r ∧ isInts is r = true := by
  cases vs with
  | nil => cases h
  | cons v vs =>
    cases v <;> first
      | (cases h; done)
      | (rename_i j t
         simp only [isInts, Bool.and_eq_true, decide_eq_true_eq] at h
         obtain ⟨rfl, h⟩ := h
         exact ⟨t, vs, rfl, h⟩)
theorem isInts_nil {vs : List Value} (h : isInts [] vs = true) : vs = [] := by
  cases vs with
  | nil => rfl
  | cons v vs => cases v <;> cases h
theorem isInts2 {i j : Int} {vs : List Value} (h : isInts [i, j] vs = true) : ∃ a b, vs = [.int i a, .int j b] := by
  obtain ⟨a, r1, e1, h1⟩ := isInts_cons h
  obtain ⟨b, r2, e2, h2⟩ := isInts_cons h1
  exact ⟨a, b, by rw [e1, e2, isInts_nil h2]⟩
theorem isInts4 {i j k l : Int} {vs : List Value} (h : isInts [i, j, k, l] vs = true) : ∃ a b c d, vs = [.int i a, .int j b, .int k c, .int l d] := by
  obtain ⟨a, r1, e1, h1⟩ := isInts_cons h
  obtain ⟨b, r2, e2, h2⟩ := isInts_cons h1
  obtain ⟨c, r3, e3, h3⟩ := isInts_cons h2
  obtain ⟨d, r4, e4, h4⟩ := isInts_cons h3
  exact ⟨a, b, c, d, by rw [e1, e2, e3, e4, isInts_nil h4]⟩
def isRef1 : List Value → Bool
  | [.ref _] => true
  | _ => false
def isBR (b : Bool) : List Value → Bool
  | [.bool c, .ref _] => decide (b = c)
  | _ => false
theorem tab_ok {a : Addr} {b : Bool} (h0 : tupB K a isRef1 = true) (h1 : tupB K (tupRef K a 0) (isBR b) = true) (h2 : tupB K (tupRef K (tupRef K a 0) 1) (isInts [0, 0]) = true) :
    ∃ a1 a2 o0 n0 s0 o1 n1 s1 o2 n2 s2 t1 t2, K.lookup a = some ⟨.type "tuple", o0, .seq #[.ref a1] n0, s0⟩ ∧ K.lookup a1 = some ⟨.type "tuple", o1, .seq #[.bool b, .ref a2] n1, s1⟩ ∧ K.lookup a2 = some ⟨.type "tuple", o2, .seq #[.int 0 t1, .int 0 t2] n2, s2⟩ := by
  obtain ⟨o0, n0, s0, e0, p0⟩ := tupB_ok h0
  obtain ⟨o1, n1, s1, e1, p1⟩ := tupB_ok h1
  obtain ⟨o2, n2, s2, e2, p2⟩ := tupB_ok h2
  obtain ⟨x, hx⟩ : ∃ x, tupIt K a = [.ref x] := by
    revert p0; generalize tupIt K a = l
    intro p0
    match l, p0 with
    | [.ref x], _ => exact ⟨x, rfl⟩
  have r0 : tupRef K a 0 = x := by unfold tupRef; rw [hx]; rfl
  rw [r0] at e1 p1 e2 p2
  obtain ⟨y, hy⟩ : ∃ y, tupIt K x = [.bool b, .ref y] := by
    revert p1; generalize tupIt K x = l
    intro p1
    match l, p1 with
    | [.bool c, .ref y], p1 => exact ⟨y, by rw [of_decide_eq_true p1]⟩
  have r1 : tupRef K x 1 = y := by unfold tupRef; rw [hy]; rfl
  rw [r1] at e2 p2
  obtain ⟨t1, t2, hz⟩ := isInts2 p2
  rw [hx] at e0
  rw [hy] at e1
  rw [hz] at e2
  exact ⟨x, y, o0, n0, s0, o1, n1, s1, o2, n2, s2, t1, t2, e0, e1, e2⟩
def isBools (bs : List Bool) (vs : List Value) : Bool := decide (vs = bs.map Value.bool)
theorem rule_ok {a : Addr} {bs : List Bool} (h : tupB K a (isBools bs) = true) : ∃ o n s, K.lookup a = some ⟨.type "tuple", o, .seq (bs.map Value.bool).toArray n, s⟩ := by
  obtain ⟨o, n, s, e, p⟩ := tupB_ok h
  rw [of_decide_eq_true p] at e
  exact ⟨o, n, s, e⟩
theorem ints4_ok {a : Addr} {i j k l : Int} (h : tupB K a (isInts [i, j, k, l]) = true) : ∃ o n s t1 t2 t3 t4, K.lookup a = some ⟨.type "tuple", o, .seq #[.int i t1, .int j t2, .int k t3, .int l t4] n, s⟩ := by
  obtain ⟨o, n, s, e, p⟩ := tupB_ok h
  obtain ⟨t1, t2, t3, t4, hz⟩ := isInts4 p
  rw [hz] at e
  exact ⟨o, n, s, t1, t2, t3, t4, e⟩
/-- an error's class -/
def errB (K : PySem.W.Frag) (C U : Addr) : Bool := match K.lookup C with
  | some ⟨.type t, _, .cls cd, sl⟩ => decide (t = "type") && (decide (cd.mro = [.ref C, .ref U, .type "ValueError", .type "Exception", .type "BaseException", .type "object"]) && (cd.hasDict && (!cd.hasDel && (match sl.toList with
    | [_, _, _, _, some (.builtin n), _] => decide (n = "ValueError.__new__")
    | _ => false))))
  | _ => false
theorem errB_ok {C U : Addr} (h : errB K C U = true) : ∃ nm q N bs sn sub ab col dd m0 m1 m2 m3 m5, K.lookup C = some (excClassObj nm q C N bs [.ref U, .type "ValueError", .type "Exception", .type "BaseException", .type "object"] true sn sub ab col dd m0 m1 m2 m3 m5 "ValueError.__new__") := by
  unfold errB at h
  split at h
  · rename_i t dd cd sl e
    obtain ⟨hA, hB⟩ := He.ba h
    obtain ⟨hC, hD⟩ := He.ba hB
    obtain ⟨hE, hF⟩ := He.ba hD
    obtain ⟨hG, hI⟩ := He.ba hF
    clear h hB hD hF
    have hA := of_decide_eq_true hA
    have hC := of_decide_eq_true hC
    split at hI
    · rename_i k0 k1 k2 k3 n k5 es
      have hJ := of_decide_eq_true hI
      have esl : sl = #[k0, k1, k2, k3, some (.builtin n), k5] := by cases sl; exact congrArg Array.mk es
      obtain ⟨nm, bs, mro, N, q, hd, sn, sub, ab, col, del⟩ := cd
      have hH : (!del) = true := hG
      have hL : del = false := by cases del <;> first | rfl | cases hH
      clear hG hH
      have hE : hd = true := hE
      have hC : mro = _ := hC
      subst hA hJ hC hE hL esl
      exact ⟨nm, q, N, bs, sn, sub, ab, col, dd, k0, k1, k2, k3, k5, e⟩
    · cases hI
  · cases h
end
/-- a law over a head by facts; repr in it -/
theorem walk_ofGE {l : PySem.W.OpenLaw} {n k : Nat} {q : Program} {loose : List Str} {XP : (Str → Option Value) → Heap → Prop} {YP : World → Heap → Prop} {d : DefRec} {x : Str}
    (hn : l.most = some n) (hn2 : n ≤ sizeLine) (hdf : d.params.defaults = []) (hr : Room k callerA)
    (F : ∀ (w : World) (mg : Str → Option Value) (fa : Addr) (h : Heap), YP w h → h.Ns mainGlobals mg → mg d.name = some (.ref fa) →
      ∃ (K : PySem.W.Frag) (fd : FuncData) (sp : Sp), K.In h ∧ (∀ (s : Shared) (u : Value), BindsTo s fd ⟨[u], []⟩ [(x, u)]) ∧
        (∀ (H : Hp) (a : Addr) (ns : List Int), ns.length ≤ n → Only H → SqL K H a (ns.map V.int) → sp [.ref a] H (fun v _ => v = .bl true) E0) ∧
        ∀ base : Heap, K.In base → base.Ns mainGlobals mg → FnOkG l.prog w K mg base CX0 k fa fd [x] sp) :
    PySem.W.WalkO q loose XP YP l.row.toRowW d [] (fun f vs => PySem.call f vs) := by
  refine Att.attach_call hn hdf fun w s₀ s₁ mg mb fa o pm cd doc a vs ns G Y ho hd hcd hmg hobj hints hlen hg => ?_
  obtain ⟨K, fd, sp, KX, hb, hsp, hF⟩ := F w mg fa _ Y G.T.g hmg
  exact lawG KX G.T.g G.T.b G.T.builtins G.T.nolimit hg hobj hints (Nat.le_trans hlen hn2) hr hF hb fun H hO hS => hsp H a ns hlen hO hS
end Kb

/-! ### a method called, a builtin value + an own object, where the def may raise; a value or another by a test -/
namespace PySem.W
open PySem PySem.Calls PyProof.Rows
section
variable {prog : Program} {w : World} {M : Model} {A : Around} {E : Value → Shared → Prop} {s : Shared} {K : Frag} {y D L g : Addr} {h₀ : Heap} {m : Str → Option Value} {oy : Obj} {od : Option Obj} {nm T : String}
theorem binop_LT2 {op : Operator} {a : Value} {fo ro : Option Value} {Q : Value → Shared → Prop} (F : Fr h₀ L s.heap m) (X₀ : K.In h₀) (J : InstAt s.heap y oy D od) (L1 : Looks (model prog w) s.heap (typeOf a) (.type T)) (hd : selfFirst K D = true)
    (gs : findIn K (.ref D) (PySem.dunder op.info.2) = some none) (gr : findIn K (.ref D) (dunderR op.info.2) = some (some (.ref g))) (hg : isFn K (.ref g) = true)
    (h1 : findIn K (.type T) (PySem.dunder op.info.2) = some fo) (h2 : findIn K (.type T) (dunderR op.info.2) = some ro) (hl : ((fo.isSome && !isSeqSlot fo) || (ro.isSome && !isSeqSlot ro)) = false)
    (h : wpAny (model prog w) A (call (.ref g) [.ref y, a]) (CmpBack Q) E s) : wpAny (model prog w) A (binaryOp op a (.ref y)) Q E s := by
  have X := X₀.keeps F.keep
  obtain ⟨ce, rest', hce, hm'⟩ := ksp_first hd
  have one := ksp_try X J gr hg h
  have L3 : Looks (model prog w) s.heap (fillsNumberSlot (.type T) op.info.2) false := hl ▸ ksp_fillsT X h1 h2
  have L4 : Looks (model prog w) s.heap (fillsNumberSlot (.ref D) op.info.2) true := fills_R X hce hm' gs gr
  have hn : (Value.type T == Value.ref D) = false := Bool.eq_false_iff.mpr fun q => by cases beq_iff_eq.mp q
  unfold binaryOp
  refine wpAny_holding (wpAny_bind ?_)
  unfold binaryOp1
  refine wpAny_bind (L1.here (wpAny_bind (J.type.here (wpAny_bind (L3.here ?_)))))
  simp only [hn, Bool.false_eq_true, if_false]
  refine wpAny_bind (L4.here ?_)
  simp only [Bool.false_and, Bool.false_eq_true, if_false]
  refine wpAny_bind (wpAny_pure ?_)
  simp only [Bool.not_false, Bool.and_self, if_true, Bool.false_eq_true, if_false]
  refine wpAny_bind (m := tryMethod (.ref y) _ _) (wpAny_mono one (fun r s' hr => ?_) fun _ _ e => e)
  obtain ⟨v, rfl, hv⟩ := hr
  obtain ⟨hh, gg, d, tt, os⟩ := s'
  ksp_lk
  exact hv
end
end PySem.W
namespace Kb
open PySem PySem.Spec PyProof.Rows L2 ClX
/-- what the class at D must have for a builtin value + its instance -/
structure RaC (K : PySem.W.Frag) (D : Addr) : Prop where
  sf : PySem.W.selfFirst K D = true
  no : PySem.W.findIn K (.ref D) "__add__" = some none
  s1 : PySem.W.findIn K (.type "str") "__add__" = some (some (.builtin "str.__add__"))
  s2 : PySem.W.findIn K (.type "str") "__radd__" = some none
  l1 : PySem.W.findIn K (.type "list") "__add__" = some (some (.builtin "list.__add__"))
  l2 : PySem.W.findIn K (.type "list") "__radd__" = some none
  t1 : PySem.W.findIn K (.type "tuple") "__add__" = some (some (.builtin "tuple.__add__"))
  t2 : PySem.W.findIn K (.type "tuple") "__radd__" = some none
  n1 : PySem.W.findIn K (.type "NoneType") "__add__" = some none
  n2 : PySem.W.findIn K (.type "NoneType") "__radd__" = some none
  si : PySem.W.subIn K (.ref D) (.type "int") = some false
/-- a value that may stand on the left -/
inductive Lf (H : Hp) : V → Prop
  | non : Lf H .non
  | int (i : Int) : Lf H (.int i)
  | str (z : Str) : Lf H (.str z)
  | tup {p : Addr} {xs : List V} (h : H p = some (.tup xs)) : Lf H (.ref p)
  | lst {p : Addr} {xs : List V} (h : H p = some (.lst xs)) : Lf H (.ref p)
section
variable {X : Cx} {CX : CXT} {k : Nat} {C : Addr} {m : Str} {ps : List Str} {sp : Sp} {E : L2.St → XK} {W : WX} {a b o e : Expr} {es : List Expr} {ta tb te : TE} {t : TA} {pos apos : Pos}
def tRadd (C : Addr) (sp : Sp) (E : L2.St → XK) (ta tb : TE) : TE := fun σ H Q => ta σ H fun x H1 => tb σ H1 fun y H2 => ∃ (p dx : Addr) (fs : List (Str × V)), y = .ref p ∧ H2 p = some (.ins C dx fs) ∧ Lf H2 x ∧ sp [.ref p, x] H2 Q (E σ)
theorem pe_raddX (F : MtC X.prog X.w X.K X.mg X.base CX k C "__radd__" ps sp) (R : RaC X.K C) (hr : Room k X.A) (hx : ∀ σ, PassesAt CX X σ (E σ)) (ha : PE X a ta) (hb : PE X b tb) : PE X (.BinOp a .Add b pos) (tRadd C sp E ta tb) := by
  refine ⟨fun pins s σ H Q I h => ?_⟩
  refine wpAny_BinOp (binT ha hb I h fun v u s2 x y H2 I2 rx ry q => ?_)
  obtain ⟨p, dx, fs, rfl, hp, lf, q⟩ := q
  cases (show u = Value.ref p from ry)
  obtain ⟨f, fd, hf, M, hbd⟩ := F.ex
  obtain ⟨mA, O, _⟩ := ins_get I2.hok hp
  obtain ⟨od, J, _⟩ := O.look
  obtain ⟨mm, hF⟩ := I2.fr
  have go : wpAny (model X.prog X.w) X.A (call (.ref f) [.ref p, v]) (PySem.W.CmpBack (EP X pins σ Q)) X.xe s2 := by
    refine wpAny_mono (run_fnSD (us := [.ref p, v]) (vs := [.ref p, x]) (dvs := []) (ds := []) hf hr hbd .nil (hx σ) I2 (.cons rfl (.cons rx .nil)) q) (fun w s' z => ?_) fun _ _ z => z
    obtain ⟨z', H', I', rz, qz⟩ := z
    exact SlX.cmpback rz ⟨z', H', I', rz, qz⟩
  have ty : ∀ {T : String}, TyX X.K H2 x (.type T) → ∀ {fo ro : Option Value}, PySem.W.findIn X.K (.type T) "__add__" = some fo → PySem.W.findIn X.K (.type T) "__radd__" = some ro → ((fo.isSome && !PySem.isSeqSlot fo) || (ro.isSome && !PySem.isSeqSlot ro)) = false → wpAny (model X.prog X.w) X.A (binaryOp .Add v (.ref p)) (EP X pins σ Q) X.xe s2 := fun {T} ht {fo ro} h1 h2 hl => by
    obtain ⟨P, Z, hP, _⟩ := kit_of I2 rx ht
    exact PySem.W.binop_LT2 (op := .Add) (T := T) hF I2.ok.mod.kin J (Z.ty _ _ I2.kIn hP) R.sf R.no M.at_ M.fn h1 h2 hl go
  cases lf with
  | non => exact ty (.base .non) R.n1 R.n2 rfl
  | str z => exact ty (.base (.str z)) R.s1 R.s2 (by decide +kernel)
  | tup h => exact ty (.base (.tup h)) R.t1 R.t2 (by decide +kernel)
  | lst h => exact ty (.base (.lst h)) R.l1 R.l2 (by decide +kernel)
  | int i =>
    obtain ⟨t, rfl⟩ := (show ∃ t, v = Value.int i t from rx)
    exact PySem.W.binop_LN (op := .Add) (T := "int") hF I2.ok.mod.kin J rfl R.sf R.si R.no M.at_ M.fn rfl (PySem.W.try_int_add J.1) go
theorem pe_raddS (F : MtC X.prog X.w X.K X.mg X.base (L2.CX X.prog X.w) k C "__radd__" ps sp) (R : RaC X.K C) (hr : Room k X.A) (tk : Takes X W) (ha : PE X a ta) (hb : PE X b tb) : PE X (.BinOp a .Add b pos) (tRadd C sp (WE W) ta tb) := pe_raddX F R hr (passAt tk) ha hb
theorem pe_raddC (F : MtC X.prog X.w X.K X.mg X.base CX0 k C "__radd__" ps sp) (R : RaC X.K C) (hr : Room k X.A) (ha : PE X a ta) (hb : PE X b tb) : PE X (.BinOp a .Add b pos) (tRadd C sp (fun _ => E0) ta tb) := pe_raddX F R hr (fun _ _ _ _ _ _ _ z => (show False from z).elim) ha hb
/-- x.m(..) -/
def tMethX (C : Addr) (m : Str) (sp : Sp) (E : L2.St → XK) (te : TE) (t : TA) : TE := fun σ H Q => te σ H fun x H1 => ∃ (p dx : Addr) (fs : List (Str × V)), x = .ref p ∧ H1 p = some (.ins C dx fs) ∧ fs.lookup m = none ∧ t σ H1 fun vs H2 => sp (.ref p :: vs) H2 Q (E σ)
theorem pe_methX {pl : Sem Bool} (F : MtC X.prog X.w X.K X.mg X.base CX k C m ps sp) (c : Cls X.K C) (hr : Room k X.A) (hx : ∀ σ, PassesAt CX X σ (E σ)) (he : PE X o te) (ha : PA X (e :: es) t)
    (hst : starEach (e :: es) X.env = (false, eval e X.env) :: starEach es X.env := by rfl) (hpl : (backTo pos (starEach es X.env)).any (·.1) = false := by rfl)
    (ht : eval (.Call (.Attribute o m apos) (e :: es) [] pos) X.env = (do
      let ov ← eval o X.env
      standAt apos.atName
      let (f, first) ← holding [ov] (getMethod ov m pl)
      callWith pos f first (backTo pos (starEach (e :: es) X.env)) (backToKw pos (keywordEach [] X.env))) := by rfl) :
    PE X (.Call (.Attribute o m apos) (e :: es) [] pos) (tMethX C m sp E te t) := by
  obtain ⟨f, fd, hf, M, hb⟩ := F.ex
  refine ⟨fun pins s σ H Q I h => ?_⟩
  refine PySem.W.methodCall_KW (pl := pl) (thn (he.run pins s σ H _ I h) fun u s1 ⟨x, H1, I1, rx, p, dx, fs, ex, ea, l, q⟩ => ?_) ht
  subst ex
  obtain rfl : u = Value.ref p := rx
  refine getmeth_ok I1 ea c M l ?_
  refine PySem.W.callWith_K (first := [.ref p]) (h₀ := X.base) I.ok.mod.kin M.kp (thn (ha.run pos pins s1 σ H1 _ I1 q) fun us s2 ⟨vs, H2, I2, r, q2⟩ => ⟨I2.kIn, ?_⟩) hst hpl
  exact run_fnSD (us := .ref p :: us) (vs := .ref p :: vs) (dvs := []) (ds := []) hf hr hb .nil (hx σ) I2 (.cons rfl r) (by rw [List.append_nil]; exact q2)
theorem pe_methSC {pl : Sem Bool} (F : MtC X.prog X.w X.K X.mg X.base (L2.CX X.prog X.w) k C m ps sp) (c : Cls X.K C) (hr : Room k X.A) (tk : Takes X W) (he : PE X o te) (ha : PA X (e :: es) t)
    (hst : starEach (e :: es) X.env = (false, eval e X.env) :: starEach es X.env := by rfl) (hpl : (backTo pos (starEach es X.env)).any (·.1) = false := by rfl)
    (ht : eval (.Call (.Attribute o m apos) (e :: es) [] pos) X.env = (do
      let ov ← eval o X.env
      standAt apos.atName
      let (f, first) ← holding [ov] (getMethod ov m pl)
      callWith pos f first (backTo pos (starEach (e :: es) X.env)) (backToKw pos (keywordEach [] X.env))) := by rfl) :
    PE X (.Call (.Attribute o m apos) (e :: es) [] pos) (tMethX C m sp (WE W) te t) := pe_methX F c hr (passAt tk) he ha hst hpl ht
end
end Kb

/-! ### x[i] by the class's own `__getitem__` -/
namespace Kb
open PySem PySem.Spec PyProof.Rows L2 ClX
structure IxC (K : PySem.W.Frag) (C : Addr) : Prop where
  ex : ∃ f : Addr, PySem.W.findIn K (.ref C) "__getitem__" = some (some (.ref f)) ∧ PySem.W.fnIn K f = true
theorem ix_c {K : PySem.W.Frag} {C f : Addr} {cl : Value} {di : Option Addr} {fd : FuncData} {sl : Array (Option Value)} (h : PySem.W.findIn K (.ref C) "__getitem__" = some (some (.ref f))) (l : K.lookup f = some ⟨cl, di, .func fd, sl⟩) : IxC K C :=
  ⟨f, h, by unfold PySem.W.fnIn; rw [l]⟩
section
variable {X : Cx} {k : Nat} {C : Addr} {ps : List Str} {sp : Sp} {a b : Expr} {ta tb : TE} {pos : Pos}
def rOwnIx (C : Addr) (sp : Sp) : R2 := fun x y H Q => ∃ (p dx : Addr) (fs : List (Str × V)), x = .ref p ∧ H p = some (.ins C dx fs) ∧ sp [.ref p, y] H Q E0
theorem pe_ixO (F : MtC X.prog X.w X.K X.mg X.base CX0 k C "__getitem__" ps sp) (G : IxC X.K C) (hr : Room (k + 1) X.A) (ha : PE X a ta) (hb : PE X b tb)
    (hs : ∀ o i, subscripted b true o i = runValue (.builtin "lifetime.subscript" ⟨[o, i], []⟩) := by intro _ _; rfl) : PE X (.Subscript a b pos) (tOp (rOwnIx C sp) ta tb) := by
  refine ⟨fun pins s σ H Q I h => ?_⟩
  refine Subscript_ (binT ha hb I h fun v u s2 x y H2 I2 rx ry q => ?_)
  obtain ⟨p, dx, fs, rfl, hp, q⟩ := q
  cases (show v = Value.ref p from rx)
  obtain ⟨f, fd, hf, M, hbd⟩ := F.ex
  obtain ⟨g, hg1, hg2⟩ := G.ex
  obtain ⟨mA, O, _⟩ := ins_get I2.hok hp
  obtain ⟨od, J, _⟩ := O.look
  obtain ⟨m, hF⟩ := I2.fr
  have e : g = f := by rw [M.at_] at hg1; cases hg1; rfl
  subst e
  refine PySem.W.sub_K hF I2.ok.mod.kin J M.at_ hg2 M.fn ?_ (hs _ _)
  have q' : sp ([V.ref p, y] ++ []) H2 Q E0 := q
  have r2 : Vals ([V.ref p, y] ++ []) ([Value.ref p, u] ++ []) := .cons rfl (.cons ry .nil)
  have hl : ([Value.ref p, u] ++ []).length = ps.length := by rw [← r2.length]; exact hf.len _ _ _ _ q'
  have hr2 : Room k X.A.in1 := Room.in1 (k := k) hr
  have e3 := I2.env0.in1
  have b2 : BindsTo s2 fd ⟨[Value.ref p, u], []⟩ (ps.zip ([Value.ref p, u] ++ [])) := hbd s2 _ I2.kIn hl
  have key := hf.run _ _ s2 H2 _ _ _ _ E0 hr2 e3 b2 r2 q'
  refine wpAny_call (codeAny_mono key fun r s' hq => ?_)
  cases r with
  | error e => exact (show False from hq).elim
  | ok fl =>
    cases fl with
    | ret w =>
      obtain ⟨z, H', I', rz, qz⟩ := I2.after hq
      exact ⟨z, H', I', rz, qz⟩
    | next => exact False.elim hq
    | brk => exact False.elim hq
    | cont => exact False.elim hq
end
end Kb

/-! ### an own error with one field; isinstance of a caught error that has fields; x[i] by an own `__getitem__` that may raise -/
namespace Kb
open PySem PySem.Spec PyProof.Rows L2 ClX
def sp_err1 (C : Addr) (fl : Str) : Sp := fun vs H Q _ => ∃ (a : Addr) (v : V), vs = [.ref a, v] ∧ H a = some (exo a C none) ∧ ∀ dx, H dx = none → dx ≠ a → Q .non (upd (upd H dx (exd dx [(fl, v)])) a (exo a C (some dx)))
/-- an own error with one field, made by its name -/
structure Er1 (P : Program) (w : World) (K : PySem.W.Frag) (mg : Str → Option Value) (base : Heap) (x : Str) (C : Addr) (par fl : Str) : Prop where
  ex : ∃ (f : Addr) (fd : FuncData), FnOk P w K mg base CX0 2 f fd ["self", par] (sp_err1 C fl) ∧ OexC K C ∧ PySem.W.findIn K (.ref C) "__init__" = some (some (.ref f)) ∧ PySem.W.typeIn K (.ref f) = some (.type "function") ∧ mg x = some (.ref C) ∧ Binds K fd ["self", par] []
theorem Er1.nm {P : Program} {w : World} {K : PySem.W.Frag} {mg : Str → Option Value} {base : Heap} {x : Str} {C : Addr} {par fl : Str} (F : Er1 P w K mg base x C par fl) : mg x = some (.ref C) := let ⟨_, _, _, _, _, _, h, _⟩ := F.ex; h
theorem pmk_err1 {X : Cx} {C : Addr} {x par fl : Str} {e : Expr} {ta : TA} {p pos : Pos} (F : Er1 X.prog X.w X.K X.mg X.base x C par fl) (hr : Room 3 X.A) (hg : Gl X x) (ha : PA X [e] ta) (hdb : (x == ("__debug__" : Str)) = false := by decide)
    (he : starEach [e] X.env = (false, eval e X.env) :: starEach [] X.env := by rfl) (hpl : (backTo pos (starEach [] X.env)).any (·.1) = false := by rfl) : PMk X (.Call (.Name x p) [e] [] pos) (tMkO C (sp_err1 C fl) [] ta) := by
  obtain ⟨f, fd, F1, T, iC, tI, hm, hb⟩ := F.ex
  exact pmk_oex (ds := []) (dvs := []) T iC tI F1 hr hb .nil (fun _ _ _ _ _ _ _ z => (show False from z).elim) hg hm ha hdb he hpl
theorem ps_raise1 {X : Cx} {W : WX} {C : Addr} {x par fl : Str} {e : Expr} {ta : TA} {p pos pos' : Pos} (F : Er1 X.prog X.w X.K X.mg X.base x C par fl) (hr : Room 3 X.A) (hc : X.calm = true) (tk : Takes X W) (hg : Gl X x) (ha : PA X [e] ta) (hdb : (x == ("__debug__" : Str)) = false := by decide)
    (he : starEach [e] X.env = (false, eval e X.env) :: starEach [] X.env := by rfl) (hpl : (backTo pos (starEach [] X.env)).any (·.1) = false := by rfl) :
    PS X (.Raise (some (.Call (.Name x p) [e] [] pos)) none pos') (fun _ σ H => tMkO C (sp_err1 C fl) [] ta σ H fun c d H' => W c d σ H') := ps_raise hc tk (pmk_err1 F hr hg ha hdb he hpl)
theorem mk_err1H {C : Addr} {fl : Str} {v : V} {H : Hp} {Q : XK} (k : ∀ dd, H dd = none → Q (.ref C) (some dd) (upd H dd (.xd [(fl, v)]))) :
    [v].length ≤ 1000 ∧ ∀ a, H a = none → sp_err1 C fl (.ref a :: ([v] ++ [])) (upd H a (exo a C none))
      (fun u H2 => u = .non ∧ ∃ (d : Addr) (fs : List (Str × V)), H2 a = some (exo a C (some d)) ∧ H2 d = some (exd d fs) ∧ H d = none ∧ Q (.ref C) (some d) (upd (del H2 a) d (.xd fs))) (fun _ _ _ => False) := by
  refine ⟨by show 1 ≤ 1000; decide, fun a hn => ⟨a, v, rfl, upd_same, fun dx hx ne => ⟨rfl, dx, [(fl, v)], upd_same, ?_, ?_, ?_⟩⟩⟩
  · rw [upd_ne ne, upd_same]
  · rw [upd_ne ne] at hx; exact hx
  · have hx' : H dx = none := by rw [upd_ne ne] at hx; exact hx
    have e : upd (del (upd (upd (upd H a (exo a C none)) dx (exd dx [(fl, v)])) a (exo a C (some dx))) a) dx (.xd [(fl, v)]) = upd H dx (.xd [(fl, v)]) := by
      funext b
      by_cases c : b = dx
      · rw [c, upd_same, upd_same]
      · rw [upd_ne c, upd_ne c]
        by_cases c2 : b = a
        · rw [c2, del_same, hn]
        · rw [del_ne c2, upd_ne c2, upd_ne c, upd_ne c2]
    rw [e]
    exact k dx hx'
/-- isinstance(e, c), e the caught error, with its dict -/
def rIsX (K : PySem.W.Frag) (cls : Value) (d : Option Addr) (a : Addr) : List V → Hp → VK → Prop := fun xs H Q => ∃ (D : Addr) (c : V) (cv : Value) (b : Bool) (dd : Addr) (fs : List (Str × V)), cls = .ref D ∧ d = some dd ∧ H dd = some (.xd fs) ∧ ExcC K D ∧ xs = [.ref a, c] ∧ (∀ u, RelV c u → u = cv) ∧ PySem.W.kitOne K (.ref D) cv = some b ∧ Q (.bl b) H
theorem call_isX {X : Cx} {a : Addr} {cls : Value} {d : Option Addr} {oe : Obj} {pn : List (Addr × Obj)} (hz : Zc cls d oe) (hf : ∃ vs, oe.data = .fields vs) : CallR (X.suite a ((a, oe) :: pn)) (.builtin "isinstance") (rIsX X.K cls d a) := by
  intro pins s σ H xs us Q I r h
  obtain ⟨D, c, cv, b, dd, fs, rfl, rfl, hx, C, rfl, hcv, e, q⟩ := h
  obtain ⟨u1, u2, rfl, r1, r2⟩ := vals2 r
  cases (show u1 = Value.ref a from r1)
  have ec := hcv _ r2
  subst ec
  have hget := (I.pin (a, oe) (List.mem_append.mpr (.inl List.mem_cons_self))).1
  have ho : ObjOk X.prog X.w H s.heap dd (.xd fs) := I.hok dd _ hx
  obtain ⟨mA, hns, _⟩ := ho
  obtain ⟨od, hod, _⟩ := lookIn_ns hns
  obtain ⟨vs, hv⟩ := hf
  have J : PySem.W.InstAt s.heap a oe D (some od) := ⟨hget, hz.1, (by unfold PySem.W.notCls; rw [hv] <;> rfl), (by rw [hz.2]; exact hod)⟩
  obtain ⟨cd, hcd, _⟩ := PySem.W.any_some C.hd
  exact PySem.W.kia_one (PySem.W.kitx_exc (by rw [hcd]; rfl) C.hg C.hk C.hs C.ha C.hn C.ht C.hm) I.kIn J e (fun z => nomatch z) fun tk => ⟨.bl b, H, I.kept (t' := tk) fun _ _ z => z, rfl, q⟩
section
variable {X : Cx} {CX : CXT} {k : Nat} {C : Addr} {ps : List Str} {sp : Sp} {E : L2.St → XK} {W : WX} {a b : Expr} {ta tb : TE} {pos : Pos}
def tOwnIx (C : Addr) (sp : Sp) (E : L2.St → XK) (ta tb : TE) : TE := fun σ H Q => ta σ H fun x H1 => tb σ H1 fun y H2 => ∃ (p dx : Addr) (fs : List (Str × V)), x = .ref p ∧ H2 p = some (.ins C dx fs) ∧ sp [.ref p, y] H2 Q (E σ)
theorem pe_ownIxX (F : MtC X.prog X.w X.K X.mg X.base CX k C "__getitem__" ps sp) (G : IxC X.K C) (hr : Room (k + 1) X.A) (hx : ∀ σ, PassesAt CX X σ (E σ)) (ha : PE X a ta) (hb : PE X b tb)
    (hs : ∀ o i, subscripted b true o i = runValue (.builtin "lifetime.subscript" ⟨[o, i], []⟩) := by intro _ _; rfl) : PE X (.Subscript a b pos) (tOwnIx C sp E ta tb) := by
  refine ⟨fun pins s σ H Q I h => ?_⟩
  refine Subscript_ (binT ha hb I h fun v u s2 x y H2 I2 rx ry q => ?_)
  obtain ⟨p, dx, fs, rfl, hp, q⟩ := q
  cases (show v = Value.ref p from rx)
  obtain ⟨f, fd, hf, M, hbd⟩ := F.ex
  obtain ⟨g, hg1, hg2⟩ := G.ex
  obtain ⟨mA, O, _⟩ := ins_get I2.hok hp
  obtain ⟨od, J, _⟩ := O.look
  obtain ⟨m, hF⟩ := I2.fr
  have e : g = f := by rw [M.at_] at hg1; cases hg1; rfl
  subst e
  refine PySem.W.sub_K hF I2.ok.mod.kin J M.at_ hg2 M.fn ?_ (hs _ _)
  have q' : sp ([V.ref p, y] ++ []) H2 Q (E σ) := q
  have r2 : Vals ([V.ref p, y] ++ []) ([Value.ref p, u] ++ []) := .cons rfl (.cons ry .nil)
  have hl : ([Value.ref p, u] ++ []).length = ps.length := by rw [← r2.length]; exact hf.len _ _ _ _ q'
  have hr2 : Room k X.A.in1 := Room.in1 (k := k) hr
  have e3 := I2.env0.in1
  have b2 : BindsTo s2 fd ⟨[Value.ref p, u], []⟩ (ps.zip ([Value.ref p, u] ++ [])) := hbd s2 _ I2.kIn hl
  have key := hf.run _ _ s2 H2 _ _ _ _ (E σ) hr2 e3 b2 r2 q'
  refine wpAny_call (codeAny_mono key fun r s' hq => ?_)
  cases r with
  | error e => exact hx σ pins H2 s2 e s' I2 hq
  | ok fl =>
    cases fl with
    | ret w =>
      obtain ⟨z, H', I', rz, qz⟩ := I2.after hq
      exact ⟨z, H', I', rz, qz⟩
    | next => exact False.elim hq
    | brk => exact False.elim hq
    | cont => exact False.elim hq
theorem pe_ownIxS (F : MtC X.prog X.w X.K X.mg X.base (L2.CX X.prog X.w) k C "__getitem__" ps sp) (G : IxC X.K C) (hr : Room (k + 1) X.A) (tk : Takes X W) (ha : PE X a ta) (hb : PE X b tb)
    (hs : ∀ o i, subscripted b true o i = runValue (.builtin "lifetime.subscript" ⟨[o, i], []⟩) := by intro _ _; rfl) : PE X (.Subscript a b pos) (tOwnIx C sp (WE W) ta tb) := pe_ownIxX F G hr (passAt tk) ha hb hs
end
end Kb

/-! ### sorted(texts, key=str) -/
namespace Kb
open PySem PySem.Spec PyProof.Rows L2 ClX
def sLe (a b : Str) : Bool := !decide (b.cps.toList < a.cps.toList)
section
variable {X : Cx}
def rSortedStr (K : PySem.W.Frag) : List V → List V → Hp → VK → Prop := fun vs zs H Q => ∃ (a : Addr) (ss : List Str), vs = [.ref a] ∧ zs = [.ty "str"] ∧ SqL K H a (ss.map V.str) ∧ ∀ (ys : List Str) (p : Addr), ys.Perm ss → ys.Pairwise (fun x y => sLe x y = true) → H p = none → Q (.ref p) (upd H p (.lst (ys.map V.str)))
theorem each_str : ∀ {us : List Value} {ss : List Str}, Vals (ss.map V.str) us → PySem.W.EachIs (fun v x => ∃ t, v = Value.str x t) us ss := by
  intro us ss
  induction ss generalizing us with
  | nil => intro r; cases r; exact .nil
  | cons a ss ih => intro r; cases r with
    | cons r1 r2 => exact .cons r1 (ih r2)
theorem str_each : ∀ {us : List Value} {ss : List Str}, PySem.W.EachIs (fun v x => ∃ t, v = Value.str x t) us ss → Vals (ss.map V.str) us := by
  intro us ss h
  induction h with
  | nil => exact .nil
  | cons h1 _ ih => exact .cons h1 ih
theorem le_str (a b : Str) : PySem.W.dataLe false (fun x => PyData.str x) a b = sLe a b := by
  show (!lexLt itemOrd [.inr b.cps.toList] [.inr a.cps.toList]) = _
  unfold sLe
  congr 1
  rw [Bool.eq_iff_iff, lex_true]
  show decide (b.cps.toList < a.cps.toList) = true ∨ _ ↔ _
  constructor
  · rintro (h | ⟨_, h⟩)
    · exact h
    · cases h
  · intro h
    exact .inl h
theorem cr_sortedKeyStr (hu : X.A.units + 64 < cLine) : CallRK X (.builtin "sorted") [Str.ofString "key"] (rSortedStr X.K) := by
  intro pins s σ H vs zs us ws Q I r rz h
  obtain ⟨a, ss, rfl, rfl, hs, q⟩ := h
  obtain rfl := Vals.ref1 r
  obtain ⟨w1, rfl, e1⟩ := vals1 rz
  obtain rfl : w1 = Value.type "str" := e1
  obtain ⟨its, rv, hl, hz⟩ := I.list hs
  rw [List.length_map] at hz
  refine PySem.W.sorted_key_data (b := false) (f := .type "str") (R := fun v x => ∃ t, v = Value.str x t) (bs := ss) (fun x => PyData.str x) hl.isList (each_str rv) ?hal (.inr ?hk) hz ?hu (ksk_s1 _ _) (fun _ => ksk_l1 _ _) (fun _ => rfl) ?turn ?fin
  case hal =>
    intro d hd d' hd'
    obtain ⟨x, _, rfl⟩ := List.mem_map.mp hd
    obtain ⟨y, _, rfl⟩ := List.mem_map.mp hd'
    rfl
  case hk =>
    intro d hd
    obtain ⟨x, _, rfl⟩ := List.mem_map.mp hd
    exact ⟨fun z => (nomatch z), fun _ z => (nomatch z)⟩
  case hu =>
    intro x _
    show X.A.units + 2 + 0 < cLine
    omega
  case turn =>
    rintro v x ⟨t, rfl⟩ hx h tk k
    exact PySem.P.str_of_str ⟨h, tk, rfl, fun _ _ q => q, .str x t⟩
  case fin =>
    intro out c h' tk keep fresh hp len each
    have hv := str_each each
    have pm : (ss.mergeSort (PySem.W.dataLe false fun x => PyData.str x)).Perm ss := List.mergeSort_perm _ _
    have tot := PySem.W.sortLe_total (listOrd itemOrd) false fun b : Str => PySem.W.keyToks (PyData.str b)
    have pw : (ss.mergeSort (PySem.W.dataLe false fun x => PyData.str x)).Pairwise (fun x y => sLe x y = true) := (List.pairwise_mergeSort (fun a b c h1 h2 => tot.trans a b c h1 h2) (fun a b => by rw [Bool.or_eq_true]; exact tot.total a b) ss).imp fun {x y} h => by rw [← le_str]; exact h
    refine ⟨.ref _, upd H (s.heap.objs.size + 1) (.lst ((ss.mergeSort (PySem.W.dataLe false fun x => PyData.str x)).map V.str)), I.laid (t' := tk) keep (Nat.le_succ _) ⟨by rw [List.length_map, pm.length_eq]; exact hz, out, c, hv, hp⟩, rfl, q _ _ pm pw (I.hok.fresh (Nat.le_succ _))⟩
end
end Kb

namespace Lw
open PySem PySem.Spec PyProof.Rows L2 ClX Kb
def top (i : Nat) : Stmt := PySem.Challenge.pw_unmarked_k09_whole_words_and_changes.main.body.getD i (.Pass ⟨0, 0, 0, 0⟩)
abbrev S__law_take : Stmt := (top 27)
abbrev N__law_take : List Str := ["_law_box_here", "_law_many", "_law_digit", "_law_raw", "_law_wide"]
theorem SC__law_take : FnScope N__law_take ["_law_box_here", "_law_many"] (defScope S__law_take) := ⟨rfl, rfl, rfl, by decide +kernel, rfl, by decide +kernel, by decide +kernel⟩
abbrev S__law_pick : Stmt := (top 28)
abbrev N__law_pick : List Str := ["_law_box_here", "_law_items"]
theorem SC__law_pick : FnScope N__law_pick ["_law_box_here", "_law_items"] (defScope S__law_pick) := ⟨rfl, rfl, rfl, by decide +kernel, rfl, by decide +kernel, by decide +kernel⟩
abbrev S__law_box : Stmt := (top 26)
abbrev N__law_box : List Str := ["_law_script", "_law_k", "_law_own", "_law_cell", "_law_seed"]
theorem SC__law_box : FnScope N__law_box ["_law_script", "_law_k", "_law_own"] (defScope S__law_box) := ⟨rfl, rfl, rfl, by decide +kernel, rfl, by decide +kernel, by decide +kernel⟩
abbrev S__law_pair : Stmt := (top 30)
abbrev N__law_pair : List Str := ["_law_word_here", "_law_first", "_law_second", "_law_letter"]
theorem SC__law_pair : FnScope N__law_pair ["_law_word_here"] (defScope S__law_pair) := ⟨rfl, rfl, rfl, by decide +kernel, rfl, by decide +kernel, by decide +kernel⟩
abbrev S__law_drawn_word : Stmt := (top 31)
abbrev N__law_drawn_word : List Str := ["_law_box_here", "_law_most", "_law_form", "_law_many", "_law_found", "_law_piece", "_law_more", "_law_first", "_law_second", "_law_turn"]
theorem SC__law_drawn_word : FnScope N__law_drawn_word ["_law_box_here", "_law_most"] (defScope S__law_drawn_word) := ⟨rfl, rfl, rfl, by decide +kernel, rfl, by decide +kernel, by decide +kernel⟩
abbrev S_is_integer : Stmt := (top 10)
abbrev N_is_integer : List Str := ["value"]
theorem SC_is_integer : FnScope N_is_integer ["value"] (defScope S_is_integer) := ⟨rfl, rfl, rfl, by decide +kernel, rfl, by decide +kernel, by decide +kernel⟩
abbrev S_is_length : Stmt := (top 11)
abbrev N_is_length : List Str := ["value"]
theorem SC_is_length : FnScope N_is_length ["value"] (defScope S_is_length) := ⟨rfl, rfl, rfl, by decide +kernel, rfl, by decide +kernel, by decide +kernel⟩
abbrev S_need_word : Stmt := (top 12)
abbrev N_need_word : List Str := ["value", "letter"]
theorem SC_need_word : FnScope N_need_word ["value"] (defScope S_need_word) := ⟨rfl, rfl, rfl, by decide +kernel, rfl, by decide +kernel, by decide +kernel⟩
abbrev S_common_length : Stmt := (top 15)
abbrev N_common_length : List Str := ["first", "second"]
theorem SC_common_length : FnScope N_common_length ["first", "second"] (defScope S_common_length) := ⟨rfl, rfl, rfl, by decide +kernel, rfl, by decide +kernel, by decide +kernel⟩
abbrev S_word_of_lengths : Stmt := (top 16)
abbrev N_word_of_lengths : List Str := ["first", "second", "parts", "many"]
theorem SC_word_of_lengths : FnScope N_word_of_lengths ["first", "second"] (defScope S_word_of_lengths) := ⟨rfl, rfl, rfl, by decide +kernel, rfl, by decide +kernel, by decide +kernel⟩
abbrev S_lengths_made : Stmt := (top 20)
abbrev N_lengths_made : List Str := ["numbers", "first", "second", "a", "b", "c", "d"]
theorem SC_lengths_made : FnScope N_lengths_made ["numbers", "first", "second"] (defScope S_lengths_made) := ⟨rfl, rfl, rfl, by decide +kernel, rfl, by decide +kernel, by decide +kernel⟩
abbrev S_InvalidWord__init_ : Stmt := (inClass (top 3) 0)
abbrev N_InvalidWord__init_ : List Str := ["self"]
theorem SC_InvalidWord__init_ : FnScope N_InvalidWord__init_ ["self"] (defScope S_InvalidWord__init_) := ⟨rfl, rfl, rfl, by decide +kernel, rfl, by decide +kernel, by decide +kernel⟩
abbrev S_InvalidRatio__init_ : Stmt := (inClass (top 4) 0)
abbrev N_InvalidRatio__init_ : List Str := ["self"]
theorem SC_InvalidRatio__init_ : FnScope N_InvalidRatio__init_ ["self"] (defScope S_InvalidRatio__init_) := ⟨rfl, rfl, rfl, by decide +kernel, rfl, by decide +kernel, by decide +kernel⟩
abbrev S_InvalidChange__init_ : Stmt := (inClass (top 5) 0)
abbrev N_InvalidChange__init_ : List Str := ["self"]
theorem SC_InvalidChange__init_ : FnScope N_InvalidChange__init_ ["self"] (defScope S_InvalidChange__init_) := ⟨rfl, rfl, rfl, by decide +kernel, rfl, by decide +kernel, by decide +kernel⟩
abbrev S_Ratio__init_ : Stmt := (inClass (top 17) 0)
abbrev N_Ratio__init_ : List Str := ["self", "first", "second", "unit"]
theorem SC_Ratio__init_ : FnScope N_Ratio__init_ ["self", "first", "second"] (defScope S_Ratio__init_) := ⟨rfl, rfl, rfl, by decide +kernel, rfl, by decide +kernel, by decide +kernel⟩
abbrev S_Ratio_of_word : Stmt := (inClass (top 17) 1)
abbrev N_Ratio_of_word : List Str := ["cls", "word", "first", "second", "letter"]
theorem SC_Ratio_of_word : FnScope N_Ratio_of_word ["cls", "word"] (defScope S_Ratio_of_word) := ⟨rfl, rfl, rfl, by decide +kernel, rfl, by decide +kernel, by decide +kernel⟩
abbrev S_Ratio_word : Stmt := (inClass (top 17) 3)
abbrev N_Ratio_word : List Str := ["self"]
theorem SC_Ratio_word : FnScope N_Ratio_word ["self"] (defScope S_Ratio_word) := ⟨rfl, rfl, rfl, by decide +kernel, rfl, by decide +kernel, by decide +kernel⟩
abbrev S_Ratio_turned : Stmt := (inClass (top 17) 4)
abbrev N_Ratio_turned : List Str := ["self"]
theorem SC_Ratio_turned : FnScope N_Ratio_turned ["self"] (defScope S_Ratio_turned) := ⟨rfl, rfl, rfl, by decide +kernel, rfl, by decide +kernel, by decide +kernel⟩
abbrev S_Ratio__eq_ : Stmt := (inClass (top 17) 6)
abbrev N_Ratio__eq_ : List Str := ["self", "other"]
theorem SC_Ratio__eq_ : FnScope N_Ratio__eq_ ["self", "other"] (defScope S_Ratio__eq_) := ⟨rfl, rfl, rfl, by decide +kernel, rfl, by decide +kernel, by decide +kernel⟩
abbrev S_Ratio__lt_ : Stmt := (inClass (top 17) 7)
abbrev N_Ratio__lt_ : List Str := ["self", "other"]
theorem SC_Ratio__lt_ : FnScope N_Ratio__lt_ ["self", "other"] (defScope S_Ratio__lt_) := ⟨rfl, rfl, rfl, by decide +kernel, rfl, by decide +kernel, by decide +kernel⟩
abbrev S_Ratio__le_ : Stmt := (inClass (top 17) 8)
abbrev N_Ratio__le_ : List Str := ["self", "other"]
theorem SC_Ratio__le_ : FnScope N_Ratio__le_ ["self", "other"] (defScope S_Ratio__le_) := ⟨rfl, rfl, rfl, by decide +kernel, rfl, by decide +kernel, by decide +kernel⟩
abbrev S_Ratio__gt_ : Stmt := (inClass (top 17) 9)
abbrev N_Ratio__gt_ : List Str := ["self", "other"]
theorem SC_Ratio__gt_ : FnScope N_Ratio__gt_ ["self", "other"] (defScope S_Ratio__gt_) := ⟨rfl, rfl, rfl, by decide +kernel, rfl, by decide +kernel, by decide +kernel⟩
abbrev S_Ratio__ge_ : Stmt := (inClass (top 17) 10)
abbrev N_Ratio__ge_ : List Str := ["self", "other"]
theorem SC_Ratio__ge_ : FnScope N_Ratio__ge_ ["self", "other"] (defScope S_Ratio__ge_) := ⟨rfl, rfl, rfl, by decide +kernel, rfl, by decide +kernel, by decide +kernel⟩
abbrev S_Change__init_ : Stmt := (inClass (top 24) 0)
abbrev N_Change__init_ : List Str := ["self", "a", "b", "c", "d", "numbers", "number"]
theorem SC_Change__init_ : FnScope N_Change__init_ ["self", "a", "b", "c", "d"] (defScope S_Change__init_) := ⟨rfl, rfl, rfl, by decide +kernel, rfl, by decide +kernel, by decide +kernel⟩
abbrev S_Change__abs_ : Stmt := (inClass (top 24) 8)
abbrev N_Change__abs_ : List Str := ["self"]
theorem SC_Change__abs_ : FnScope N_Change__abs_ ["self"] (defScope S_Change__abs_) := ⟨rfl, rfl, rfl, by decide +kernel, rfl, by decide +kernel, by decide +kernel⟩
abbrev S_Change__eq_ : Stmt := (inClass (top 24) 9)
abbrev N_Change__eq_ : List Str := ["self", "other"]
theorem SC_Change__eq_ : FnScope N_Change__eq_ ["self", "other"] (defScope S_Change__eq_) := ⟨rfl, rfl, rfl, by decide +kernel, rfl, by decide +kernel, by decide +kernel⟩
abbrev S_numbers_behind : Stmt := (top 21)
abbrev N_numbers_behind : List Str := ["numbers", "letter", "a", "b", "c", "d"]
theorem SC_numbers_behind : FnScope N_numbers_behind ["numbers", "letter"] (defScope S_numbers_behind) := ⟨rfl, rfl, rfl, by decide +kernel, rfl, by decide +kernel, by decide +kernel⟩
abbrev S_numbers_of_word : Stmt := (top 22)
abbrev N_numbers_of_word : List Str := ["word", "found", "letter"]
theorem SC_numbers_of_word : FnScope N_numbers_of_word ["word"] (defScope S_numbers_of_word) := ⟨rfl, rfl, rfl, by decide +kernel, rfl, by decide +kernel, by decide +kernel⟩
abbrev S_numbers_joined : Stmt := (top 23)
abbrev N_numbers_joined : List Str := ["one", "other", "a", "b", "c", "d", "e", "f", "g", "h"]
theorem SC_numbers_joined : FnScope N_numbers_joined ["one", "other"] (defScope S_numbers_joined) := ⟨rfl, rfl, rfl, by decide +kernel, rfl, by decide +kernel, by decide +kernel⟩
abbrev S_Change_exchange : Stmt := (inClass (top 24) 2)
abbrev N_Change_exchange : List Str := ["cls"]
theorem SC_Change_exchange : FnScope N_Change_exchange ["cls"] (defScope S_Change_exchange) := ⟨rfl, rfl, rfl, by decide +kernel, rfl, by decide +kernel, by decide +kernel⟩
abbrev S_Change_of_word : Stmt := (inClass (top 24) 3)
abbrev N_Change_of_word : List Str := ["cls", "word", "a", "b", "c", "d"]
theorem SC_Change_of_word : FnScope N_Change_of_word ["cls", "word"] (defScope S_Change_of_word) := ⟨rfl, rfl, rfl, by decide +kernel, rfl, by decide +kernel, by decide +kernel⟩
abbrev S_Change__mul_ : Stmt := (inClass (top 24) 6)
abbrev N_Change__mul_ : List Str := ["self", "other", "a", "b", "c", "d", "first", "second"]
theorem SC_Change__mul_ : FnScope N_Change__mul_ ["self", "other"] (defScope S_Change__mul_) := ⟨rfl, rfl, rfl, by decide +kernel, rfl, by decide +kernel, by decide +kernel⟩
abbrev S__law_mirror : Stmt := (top 32)
abbrev N__law_mirror : List Str := ["_law_word_here", "_law_letter"]
theorem SC__law_mirror : FnScope N__law_mirror ["_law_word_here"] (defScope S__law_mirror) := ⟨rfl, rfl, rfl, by decide +kernel, rfl, by decide +kernel, by decide +kernel⟩
abbrev S__law_small_words : Stmt := (top 33)
abbrev N__law_small_words : List Str := ["_law_most", "_law_found", "_law_before", "_law_turn"]
theorem SC__law_small_words : FnScope N__law_small_words ["_law_most"] (defScope S__law_small_words) := ⟨rfl, rfl, rfl, by decide +kernel, rfl, by decide +kernel, by decide +kernel⟩
abbrev S__law_longer : Stmt := (top 34)
abbrev N__law_longer : List Str := ["_law_words", "_law_found", "_law_word_here"]
theorem SC__law_longer : FnScope N__law_longer ["_law_words"] (defScope S__law_longer) := ⟨rfl, rfl, rfl, by decide +kernel, rfl, by decide +kernel, by decide +kernel⟩
abbrev S__law_place : Stmt := (top 35)
abbrev N__law_place : List Str := ["_law_word_here", "_law_letter"]
theorem SC__law_place : FnScope N__law_place ["_law_word_here"] (defScope S__law_place) := ⟨rfl, rfl, rfl, by decide +kernel, rfl, by decide +kernel, by decide +kernel⟩
abbrev S_law : Stmt := (top 36)
abbrev N_law : List Str := ["_law_script", "_law_small", "_law_keys", "_law_before", "_law_row", "_law_word_here", "_law_ratio", "_law_k", "_law_box_here", "_law_one", "_law_other", "_law_both", "_law_swap", "_law_sign"]
theorem SC_law : FnScope N_law ["_law_script"] (defScope S_law) := ⟨rfl, rfl, rfl, by decide +kernel, rfl, by decide +kernel, by decide +kernel⟩
structure Txt (K : PySem.W.Frag) (mg : Str → Option Value) : Prop where
  b_ValueError : mg "ValueError" = none
  b_abs : mg "abs" = none
  b_all : mg "all" = none
  b_any : mg "any" = none
  b_bool : mg "bool" = none
  b_enumerate : mg "enumerate" = none
  b_int : mg "int" = none
  b_isinstance : mg "isinstance" = none
  b_len : mg "len" = none
  b_list : mg "list" = none
  b_max : mg "max" = none
  b_min : mg "min" = none
  b_range : mg "range" = none
  b_repr : mg "repr" = none
  b_sorted : mg "sorted" = none
  b_str : mg "str" = none
  b_sum : mg "sum" = none
  b_tuple : mg "tuple" = none
  b_zip : mg "zip" = none
/-! ## words -/
namespace Wd
def cd (b : Bool) : Nat := if b then 114 else 108
/-- the text of a word: true is r -/
def enc (u : List Bool) : Str := ⟨(u.map cd).toArray⟩
theorem enc_cps (u : List Bool) : (enc u).cps.toList = u.map cd := by simp [enc]
theorem enc_len (u : List Bool) : (enc u).length = u.length := by show (u.map cd).toArray.size = _; simp
theorem enc_app (u v : List Bool) : enc u ++ enc v = enc (u ++ v) := by
  show (⟨(enc u).cps ++ (enc v).cps⟩ : Str) = _
  simp [enc]
theorem cd_inj {a b : Bool} (h : cd a = cd b) : a = b := by revert h; cases a <;> cases b <;> decide
theorem map_cd_inj : ∀ {u v : List Bool}, u.map cd = v.map cd → u = v
  | [], [], _ => rfl
  | [], _ :: _, h => by simp at h
  | _ :: _, [], h => by simp at h
  | a :: u, b :: v, h => by
    rw [List.map_cons, List.map_cons, List.cons.injEq] at h
    rw [cd_inj h.1, map_cd_inj h.2]
theorem enc_inj {u v : List Bool} (h : enc u = enc v) : u = v := map_cd_inj (by rw [← enc_cps, ← enc_cps, h])
theorem enc_rev (u : List Bool) : revS (enc u) = enc u.reverse := by
  unfold revS
  rw [enc_cps]
  simp [enc]
theorem enc_rep (b : Bool) (n : Nat) : repS (enc [b]) n = enc (List.replicate n b) := by
  unfold repS
  rw [enc_cps]
  simp only [enc, List.map_replicate, List.map_cons, List.map_nil]
  congr 2
  induction n with
  | zero => rfl
  | succ n ih => rw [List.replicate_succ, List.flatten_cons, ih]; rfl
theorem enc_take (u : List Bool) {k : Int} (h : 0 ≤ k) : cutS (enc u) none (some k) = enc (u.take k.toNat) := by
  unfold cutS
  rw [enc_cps, enc_len]
  have e1 : HT.sIx u.length 0 none = 0 := rfl
  have e2 : HT.sIx u.length u.length (some k) = min k.toNat u.length := by
    unfold HT.sIx
    first | omega | (simp; omega) | (split <;> omega) | (simp only; split <;> omega)
  rw [e1, e2, List.drop_zero, Nat.sub_zero]
  unfold enc
  rw [List.map_take, List.take_eq_take_iff.mpr]
  simp
theorem lit_l : ("l" : Str) = enc [false] := by decide +kernel
theorem lit_r : ("r" : Str) = enc [true] := by decide +kernel
theorem lit_e : ("" : Str) = enc [] := by decide +kernel
theorem lit_lr : ("lr" : Str) = enc [false, true] := by decide +kernel
theorem foldl_cps : ∀ (ps : List Str) (a : Array Nat), (ps.foldl (fun acc p => acc ++ (#[] : Array Nat) ++ p.cps) a).toList = a.toList ++ (ps.map (·.cps.toList)).flatten
  | [], a => by simp
  | p :: ps, a => by
    rw [List.foldl_cons, foldl_cps ps]
    simp
theorem join_cps (ys : List Str) : Txt.join ("" : Str) ys = ⟨(ys.map (·.cps.toList)).flatten.toArray⟩ := by
  cases ys with
  | nil => rfl
  | cons y ys =>
    show (⟨(ys.foldl (fun acc p => acc ++ (#[] : Array Nat) ++ p.cps) y.cps)⟩ : Str) = _
    have e := foldl_cps ys y.cps
    refine congrArg Str.mk (Array.toList_inj.mp ?_)
    rw [e]
    simp
theorem join_enc (us : List (List Bool)) : Txt.join ("" : Str) (us.map enc) = enc us.flatten := by
  rw [join_cps, List.map_map]
  have e : (us.map ((fun y : Str => y.cps.toList) ∘ enc)) = us.map (List.map cd) := List.map_congr_left fun u _ => enc_cps u
  rw [e]
  simp [enc, List.map_flatten]
theorem join_chars (cs : List Nat) : Txt.join ("" : Str) (cs.map fun c => (⟨#[c]⟩ : Str)) = ⟨cs.toArray⟩ := by
  rw [join_cps, List.map_map]
  refine congrArg Str.mk (Array.toList_inj.mp ?_)
  simp only
  induction cs with
  | nil => rfl
  | cons c r ih => simpa using ih
theorem sum_chars (cs : List Nat) : ((cs.map fun c => (⟨#[c]⟩ : Str)).map (·.length)).sum = cs.length := by
  induction cs with
  | nil => rfl
  | cons c r ih => rw [List.map_cons, List.map_cons, List.sum_cons, ih, List.length_cons]; show 1 + r.length = _; omega
theorem empty_len : ("" : Str).length = 0 := by decide +kernel
theorem enc_at {u : List Bool} {i c : Nat} (h : (enc u).cps[i]? = some c) : ∃ b, u[i]? = some b ∧ c = cd b := by
  rw [← Array.getElem?_toList, enc_cps, List.getElem?_map] at h
  cases e : u[i]? with
  | none => rw [e] at h; cases h
  | some b => rw [e] at h; exact ⟨b, rfl, (Option.some.inj h).symm⟩
/-- the lengths of a word -/
def pr : List Bool → Nat × Nat
  | [] => (1, 1)
  | b :: u => if b then ((pr u).1 + (pr u).2, (pr u).2) else ((pr u).1, (pr u).1 + (pr u).2)
theorem pr_pos (u : List Bool) : 0 < (pr u).1 ∧ 0 < (pr u).2 := by
  induction u with
  | nil => decide
  | cons b u ih => unfold pr; cases b <;> simp <;> omega
theorem pr_le (u : List Bool) : (pr u).1 + (pr u).2 ≤ 2 ^ (u.length + 1) := by
  induction u with
  | nil => decide
  | cons b u ih =>
    have := pr_pos u
    have e : 2 ^ (u.length + 1 + 1) = 2 * 2 ^ (u.length + 1) := by rw [Nat.pow_succ]; omega
    cases b <;> simp only [pr, List.length_cons, Bool.false_eq_true, if_false, if_true] <;> omega
end Wd
open Wd

local macro_rules | `(tactic| walk_at "kbs") => `(tactic| first | omega | decide | exact .inl ⟨by omega, by omega⟩ | exact .inr ⟨by omega, by omega⟩ | exact ⟨by omega, by omega⟩ | exact ⟨by decide, by decide, by decide⟩ | assumption | exact szl (by simp only [enc_len, List.length_cons, List.length_nil, List.length_append, List.length_replicate, List.length_take]; omega))
local macro_rules | `(tactic| walk_at "kb1") => `(tactic| first
  | refine ⟨_, rfl, ?_⟩
  | (refine ⟨_, _, rfl, rfl, ?_⟩; try refine And.intro (by walk_at "kbs") ?_)
  | refine ⟨_, _, _, _, rfl, rfl, (by first | assumption | exact SqL.of (by assumption) | exact SqT.of (by assumption)), rfl, ?_⟩
  | refine ⟨_, _, rfl, (show SqL _ _ _ _ ∨ SqT _ _ _ _ from by first | assumption | exact .inl (by assumption) | exact .inr (by assumption) | exact .inl (SqL.of (by assumption)) | exact .inr (SqT.of (by assumption))), ?_⟩
  | refine ⟨_, _, rfl, ?_⟩
  | refine And.intro (show scal _ _ = true from rfl) ?_
  | refine And.intro (by walk_at "kbs") ?_
  | refine And.intro ⟨_, rfl⟩ ?_)
local macro_rules | `(tactic| walk_at "kb") => `(tactic| repeat (walk_at "kb1"))

/-! ## draws -/
namespace Dr
def BoxAt (H : Hp) (b : Addr) : Prop := ∃ c s n : Int, H b = some (.lst [.int c, .int s, .int n]) ∧ 0 ≤ c ∧ 0 ≤ s ∧ s < 4294967296
def Keep (b : Addr) (H H' : Hp) : Prop := ∀ a o, a ≠ b → H a = some o → H' a = some o
theorem Keep.refl (b : Addr) (H : Hp) : Keep b H H := fun _ _ _ h => h
theorem Keep.trans {b : Addr} {H H1 H2 : Hp} (x : Keep b H H1) (y : Keep b H1 H2) : Keep b H H2 := fun a o n h => y a o n (x a o n h)
theorem Keep.same {b : Addr} {H H' : Hp} (x : Same H H') : Keep b H H' := fun a o _ h => x a o h
theorem Keep.upd (b : Addr) (H : Hp) (o : HO) : Keep b H (upd H b o) := fun a u n h => by rw [upd_ne n]; exact h
theorem Keep.new {b p : Addr} {H : Hp} {o : HO} (h : H p = none) : Keep b H (L2.upd H p o) := fun a u n e => by rw [upd_ne (ne_of_none e h)]; exact e
theorem Keep.put {b p : Addr} {H H1 : Hp} {o : HO} (x : Keep b H H1) (h : H p = none) : Keep b H (L2.upd H1 p o) := fun a u n e => by rw [upd_ne (ne_of_none e h)]; exact x a u n e
theorem BoxAt.ne {H : Hp} {b p : Addr} (x : BoxAt H b) (h : H p = none) : p ≠ b := fun e => by
  obtain ⟨c, s, n, q, _⟩ := x
  rw [e, q] at h; cases h
theorem BoxAt.lst {H : Hp} {b : Addr} (x : BoxAt H b) : ∃ xs, H b = some (.lst xs) := let ⟨_, _, _, q, _⟩ := x; ⟨_, q⟩
theorem BoxAt.keep {H H' : Hp} {b : Addr} (x : BoxAt H b) (h : ∀ o, H b = some o → H' b = some o) : BoxAt H' b := by
  obtain ⟨c, s, n, q, z⟩ := x
  exact ⟨c, s, n, h _ q, z⟩
theorem BoxAt.same {H H' : Hp} {b : Addr} (x : BoxAt H b) (h : Same H H') : BoxAt H' b := x.keep fun o => h b o
theorem BoxAt.new {H : Hp} {b p : Addr} {o : HO} (x : BoxAt H b) (h : H p = none) : BoxAt (upd H p o) b := x.keep fun u e => by rw [upd_ne (ne_of_none e h)]; exact e
/-- what stood nowhere ahead stands nowhere behind a smaller heap -/
theorem Keep.free {b p : Addr} {H H' : Hp} (x : Keep b H H') (hb : ∃ o, H' b = some o) (h : H' p = none) : H p = none := by
  cases e : H p with
  | none => rfl
  | some o =>
    by_cases c : p = b
    · obtain ⟨u, hu⟩ := hb
      rw [c, hu] at h; cases h
    · rw [x p o c e] at h; cases h
theorem BoxAt.any {H : Hp} {b : Addr} (x : BoxAt H b) : ∃ o, H b = some o := let ⟨_, q⟩ := x.lst; ⟨_, q⟩

def sp_take : Sp := fun vs H Q _ => ∃ (b : Addr) (m : Int), vs = [.ref b, .int m] ∧ BoxAt H b ∧ 0 < m ∧ m ≤ 1000000000000 ∧ ∀ (d : Int) (H' : Hp), 0 ≤ d → d < m → Keep b H H' → BoxAt H' b → Q (.int d) H'
def sp_pick (K : PySem.W.Frag) : Sp := fun vs H Q _ => ∃ (b l : Addr) (xs : List V), vs = [.ref b, .ref l] ∧ BoxAt H b ∧ l ≠ b ∧ (SqL K H l xs ∨ SqT K H l xs) ∧ 0 < xs.length ∧ xs.length ≤ 100000 ∧ ∀ (d : Nat) (v : V) (H' : Hp), xs[d]? = some v → Keep b H H' → BoxAt H' b → Q v H'
def sp_box (K : PySem.W.Frag) : Sp := fun vs H Q _ => ∃ (a : Addr) (ns : List Int) (k own : Int), vs = [.ref a, .int k, .int own] ∧ SqL K H a (ns.map V.int) ∧ ns.length ≤ 63 ∧ 0 ≤ k ∧ 0 ≤ own ∧ ∀ (p : Addr) (H' : Hp), H p = none → Same H H' → BoxAt H' p → Q (.ref p) H'
end Dr
open Dr
section
variable {P : Program} {w : World} {K : PySem.W.Frag} {mg : Str → Option Value} {base : Heap}
theorem ok_take {f : Addr} {fd : FuncData} (F : Fun K "_law_take" "_law_take" S__law_take f fd) (T : Txt K mg) : FnOk P w K mg base CX0 1 f fd ["_law_box_here", "_law_many"] sp_take := by
  refine F.ok SC__law_take (fun vs H Q E h => ?_) (fun cdv A outer s H vs Q E hr h => ?_)
  · obtain ⟨b, m, rfl, _⟩ := h
    rfl
  · obtain ⟨b, m, rfl, ⟨c, sd, n, hb, hc, hs0, hs1⟩, m0, m1, k⟩ := h
    refine ⟨_, (pss_cons (ps_if (pt_cmpR op_gt (pe_ix ix_list (pv 0) pe_int (fun _ _ => rfl)) pe_int (nomark _)) (pss_cons (ps_set (i := 2) SC__law_take.nd rfl (.inl rfl) (pe_op op_mod (pe_callTy call_intI (by rfl) T.b_int (by decide +kernel) (pa_cons (pe_ix ix_list (pv 0) pe_int (fun _ _ => rfl)) pa_nil)) (pv 1)))
      (pss_cons (ps_asg (pe_op op_fdivW (pe_ix ix_list (pv 0) pe_int (fun _ _ => rfl)) (pv 1)) (pg_sub (pv 0) pe_int set_list))
      (pss_one (ps_ret (pv 2))))) pss_nil)
      (pss_cons (ps_asg (pe_op op_add (pe_ix ix_list (pv 0) pe_int (fun _ _ => rfl)) pe_int) (pg_sub (pv 0) pe_int set_list))
      (pss_cons (ps_set (i := 3) SC__law_take.nd rfl (.inl rfl) (pe_op op_mod (pe_callTy call_intI (by rfl) T.b_int (by decide +kernel) (pa_cons (pe_op op_mul (pe_op op_add (pe_ix ix_list (pv 0) pe_int (fun _ _ => rfl)) (pe_op op_mul pe_int (pe_ix ix_list (pv 0) pe_int (fun _ _ => rfl)))) pe_int) pa_nil)) pe_int))
      (pss_cons (ps_asg (pe_op op_add (pe_op op_mod (pe_callTy call_intI (by rfl) T.b_int (by decide +kernel) (pa_cons (pe_op op_add (pe_op op_mul (pv 3) pe_int) pe_int) pa_nil)) pe_int) pe_int) (pg_sub (pv 0) pe_int set_list))
      (pss_cons (ps_if (pt_cmpR op_lt (pv 1) (pe_op op_pow pe_int pe_int) (nomark _)) (pss_one (ps_ret (pe_op op_mod (pe_callTy call_intI (by rfl) T.b_int (by decide +kernel) (pa_cons (pe_op op_fdiv (pe_op op_add (pe_op op_mul (pv 3) pe_int) (pe_ix ix_list (pv 0) pe_int (fun _ _ => rfl))) pe_int) pa_nil)) (pv 1)))) pss_nil)
      (pss_cons (ps_set (i := 4) SC__law_take.nd rfl (.inl rfl) (pe_op op_mul (pe_op op_add (pe_op op_mul (pv 3) pe_int) (pe_ix ix_list (pv 0) pe_int (fun _ _ => rfl))) (pe_op op_pow pe_int pe_int)))
      (pss_one (ps_ret (pe_op op_mod (pe_callTy call_intI (by rfl) T.b_int (by decide +kernel) (pa_cons (pe_op op_add (pe_op op_add (pv 4) (pe_op op_mul (pe_op op_pow (pe_ix ix_list (pv 0) pe_int (fun _ _ => rfl)) pe_int) pe_int)) (pv 3)) pa_nil)) (pv 1)))))))))), ?_⟩
    refine ⟨_, rfl, b, _, 0, _, rfl, rfl, SqL.of hb, rfl, _, _, rfl, rfl, _, rfl, ite2 (fun h => ?_) fun h => ?_⟩
    · have hc0 : 0 < c := of_decide_eq_true h
      refine ⟨_, rfl, b, _, 0, _, rfl, rfl, SqL.of hb, rfl, _, rfl, _, rfl, _, _, rfl, rfl, m0, ?_⟩
      refine ⟨_, rfl, b, _, 0, _, rfl, rfl, SqL.of hb, rfl, _, rfl, _, _, rfl, rfl, ⟨m0, ?_⟩, _, rfl, b, _, 0, 0, rfl, rfl, hb, rfl, ?_⟩
      · have q : m.natAbs < 2 ^ 64 := by omega
        exact Nat.lt_of_lt_of_le (PySem.Flt.log2_lt_of (by decide) q) (by decide)
      · refine ⟨_, rfl, k (c % m) _ (Int.emod_nonneg _ (by omega)) (Int.emod_lt_of_pos _ m0) (Keep.upd _ _ _) ⟨c / m, sd, n, upd_same, Int.ediv_nonneg hc (by omega), hs0, hs1⟩⟩
    · refine ⟨_, rfl, b, _, 2, _, rfl, rfl, SqL.of hb, rfl, _, _, rfl, rfl, _, rfl, b, _, 2, 2, rfl, rfl, hb, rfl, ?_⟩
      have hb1 : (upd H b (.lst ([V.int c, V.int sd, V.int n].set 2 (V.int (n + 1))))) b = some (.lst [.int c, .int sd, .int (n + 1)]) := upd_same
      refine ⟨_, rfl, b, _, 1, _, rfl, rfl, SqL.of hb1, rfl, _, rfl, b, _, 2, _, rfl, rfl, SqL.of hb1, rfl, _, _, rfl, rfl, .inl ⟨by decide, by decide⟩, _, _, rfl, rfl, _, _, rfl, rfl, .inr ⟨by decide, by decide⟩, _, rfl, _, _, rfl, rfl, (by show (0 : Int) < 2147483647; decide), ?_⟩
      refine ⟨_, rfl, _, _, rfl, rfl, .inr ⟨by decide, by decide⟩, _, _, rfl, rfl, _, rfl, _, _, rfl, rfl, (by show (0 : Int) < 2147483629; decide), _, _, rfl, rfl, _, rfl, b, _, 1, 1, rfl, rfl, hb1, rfl, ?_⟩
      refine ⟨_, rfl, _, _, rfl, rfl, ⟨by decide, by decide, by decide⟩, _, _, rfl, rfl, _, rfl, ?_⟩
      have hlt : m < 2 ^ (40 : Int).toNat := by
        have e : (2 : Int) ^ (40 : Int).toNat = 1099511627776 := by decide
        rw [e]; omega
      refine ifT (decide_eq_true hlt) ?_
      have hb2 : ∀ y : Int, (upd (upd H b (.lst ([V.int c, V.int sd, V.int n].set 2 (V.int (n + 1))))) b (.lst ([V.int c, V.int sd, V.int (n + 1)].set 1 (V.int y)))) b = some (.lst [.int c, .int y, .int (n + 1)]) := fun _ => upd_same
      refine ⟨_, rfl, _, _, rfl, rfl, .inr ⟨by decide, by decide⟩, _, rfl, b, _, 1, _, rfl, rfl, SqL.of (hb2 _), rfl, _, _, rfl, rfl, _, _, rfl, rfl, ⟨by decide, by decide⟩, _, rfl, _, rfl, _, _, rfl, rfl, m0, ?_⟩
      exact k _ _ (Int.emod_nonneg _ (by omega)) (Int.emod_lt_of_pos _ m0) ((Keep.upd _ _ _).trans (Keep.upd _ _ _)) ⟨c, _, n + 1, hb2 _, hc, by omega, by omega⟩
theorem ok_pick {f : Addr} {fd : FuncData} (F : Fun K "_law_pick" "_law_pick" S__law_pick f fd) (T : Txt K mg) (C_take : FnC P w K mg base CX0 1 "_law_take" ["_law_box_here", "_law_many"] sp_take) : FnOk P w K mg base CX0 2 f fd ["_law_box_here", "_law_items"] (sp_pick K) := by
  refine F.ok SC__law_pick (fun vs H Q E h => ?_) (fun cdv A outer s H vs Q E hr h => ?_)
  · obtain ⟨b, l, xs, rfl, _⟩ := h
    rfl
  · obtain ⟨b, l, xs, rfl, hb, hne, hS, h0, h1, k⟩ := h
    refine ⟨_, (pss_one (ps_ret (pe_ix ix_seq (pv 1) (pe_callC C_take (hr.mono (by decide)) rfl (pa_cons (pv 0) (pa_cons (pe_callB call_len_seq (by rfl) T.b_len (by decide +kernel) (pa_cons (pv 1) pa_nil)) pa_nil))) (fun _ _ => rfl)))), ?_⟩
    refine ⟨_, rfl, _, rfl, _, rfl, l, xs, rfl, hS, b, _, rfl, hb, ?_, ?_, fun d H' d0 d1 kp hb' => ?_⟩
    · show (0 : Int) < (xs.length : Int); omega
    · show (xs.length : Int) ≤ 1000000000000; omega
    · have hd : d.toNat < xs.length := by have d1 : d < (xs.length : Int) := d1; omega
      have hat : atI xs d = some xs[d.toNat] := at_of (by omega) (List.getElem?_eq_getElem hd)
      have kS : SqL K H' l xs ∨ SqT K H' l xs := by
        have rd : ∀ u, Rd H l u → Rd H' l u := fun u q => q.elim (fun q => .inl (kp _ _ hne q)) fun ⟨o, q⟩ => .inr ⟨o, kp _ _ hne q⟩
        exact hS.elim (fun q => .inl (q.elim (fun q => .inl (rd _ q)) .inr)) fun q => .inr (q.elim (fun q => .inl (rd _ q)) .inr)
      have fin : Q xs[d.toNat] H' := k d.toNat _ H' (List.getElem?_eq_getElem hd) kp hb'
      rcases kS with q | q
      · exact .inl ⟨l, xs, d, _, rfl, rfl, q, hat, fin⟩
      · exact .inr (.inl ⟨l, xs, d, _, rfl, rfl, q, hat, fin⟩)
theorem ok_box {f : Addr} {fd : FuncData} (F : Fun K "_law_box" "_law_box" S__law_box f fd) (T : Txt K mg) : FnOk P w K mg base CX0 1 f fd ["_law_script", "_law_k", "_law_own"] (sp_box K) := by
  refine F.ok SC__law_box (fun vs H Q E h => ?_) (fun cdv A outer s H vs Q E hr h => ?_)
  · obtain ⟨a, ns, k, own, rfl, _⟩ := h
    rfl
  · obtain ⟨a, ns, k, own, rfl, hS, hlen, hk, ho, q⟩ := h
    refine ⟨_, (pss_cons (ps_set (i := 3) SC__law_box.nd rfl (.inl rfl) (pe_op op_add (pe_op op_add (pe_op op_mul pe_int (pv 1)) (pe_op op_mul pe_int (pv 2))) pe_int))
      (pss_mid (ps_if (pt_cmpR op_lt (pv 1) (pe_callB call_len_seq (by rfl) T.b_len (by decide +kernel) (pa_cons (pv 0) pa_nil)) (nomark _)) (pss_one (ps_set (i := 3) SC__law_box.nd rfl (.inl rfl) (pe_callB call_abs (by rfl) T.b_abs (by decide +kernel) (pa_cons (pe_ix ix_list (pv 0) (pv 1) (fun _ _ => rfl)) pa_nil)))) (pss_one (ps_if (pt_cmpR op_gt (pe_callB call_len_seq (by rfl) T.b_len (by decide +kernel) (pa_cons (pv 0) pa_nil)) pe_int (nomark _)) (pss_one (ps_set (i := 3) SC__law_box.nd rfl (.inl rfl) (pe_op op_add (pv 3) (pe_op op_mul (pe_op op_mod (pe_callTy call_intI (by rfl) T.b_int (by decide +kernel) (pa_cons (pe_callB call_abs (by rfl) T.b_abs (by decide +kernel) (pa_cons (pe_ix ix_list (pv 0) (pe_op op_mod (pe_callTy call_intI (by rfl) T.b_int (by decide +kernel) (pa_cons (pv 1) pa_nil)) (pe_callB call_len_seq (by rfl) T.b_len (by decide +kernel) (pa_cons (pv 0) pa_nil))) (fun _ _ => rfl)) pa_nil)) pa_nil)) pe_int) pe_int)))) pss_nil)))
      (pss_cons (ps_set (i := 4) SC__law_box.nd rfl (.inl rfl) (pe_op op_add (pe_op op_mod (pe_callTy call_intI (by rfl) T.b_int (by decide +kernel) (pa_cons (pe_op op_add (pe_op op_mul (pe_op op_mod (pe_callTy call_intI (by rfl) T.b_int (by decide +kernel) (pa_cons (pv 3) pa_nil)) pe_int) pe_int) (pe_op op_mul pe_int (pe_op op_add (pv 1) (pe_op op_mul pe_int (pv 2))))) pa_nil)) pe_int) pe_int))
      (pss_one (ps_ret (pe_lst (pa_cons (pe_ix ix_list (pe_lst (pa_cons pe_int (pa_cons (pv 3) pa_nil))) (pe_callTy call_intB (by rfl) T.b_int (by decide +kernel) (pa_cons (pe_cmpR op_ge (pv 3) (pe_op op_pow pe_int pe_int) (nomark _)) pa_nil)) (fun _ _ => rfl)) (pa_cons (pv 4) (pa_cons pe_int pa_nil))))))))), ?_⟩
    walk_at "kb"
    refine ⟨fun σ' H' => H' = H ∧ ∃ c : Int, 0 ≤ c ∧ σ' = [some (.ref a), some (.int k), some (.int own), some (.int c), none], ?_, fun σ1 H1 z => ?_⟩
    · have hl : ((ns.map V.int).length : Int) = ns.length := by rw [List.length_map]
      walk_at "kb"
      refine ite2 (fun h => ?_) (fun h => ?_)
      · have h1 : k < (ns.length : Int) := by have := of_decide_eq_true h; omega
        have h2 : k.toNat < ns.length := by omega
        refine ⟨_, rfl, _, rfl, a, _, k, _, rfl, rfl, hS, at_of (j := k.toNat) (by omega) (by rw [List.getElem?_map, List.getElem?_eq_getElem h2]; rfl), ?_⟩
        walk_at "kb"
        exact ⟨rfl, _, by split <;> omega, rfl⟩
      · walk_at "kb"
        refine ite2 (fun h' => ?_) (fun h' => ?_)
        · have h0 : 0 < (ns.length : Int) := by have := of_decide_eq_true h'; omega
          walk_at "kb"
          have m0 := Int.emod_nonneg k (show ((ns.map V.int).length : Int) ≠ 0 by omega)
          have m1 := Int.emod_lt_of_pos k (show (0 : Int) < ((ns.map V.int).length : Int) by omega)
          have h2 : (k % ((ns.map V.int).length : Int)).toNat < ns.length := by omega
          refine ⟨a, _, _, _, rfl, rfl, hS, at_of (j := (k % ((ns.map V.int).length : Int)).toNat) (by omega) (by rw [List.getElem?_map, List.getElem?_eq_getElem h2]; rfl), ?_⟩
          walk_at "kb"
          exact ⟨rfl, _, by omega, rfl⟩
        · exact ⟨rfl, _, by omega, rfl⟩
    · obtain ⟨rfl, c, hc, rfl⟩ := z
      walk_at "kb"
      intro l hl
      walk_at "kb"
      have hB : SqL K (upd H1 l (.lst [.int 0, .int c])) l [.int 0, .int c] := SqL.of upd_same
      have hi : ∃ v : Int, 0 ≤ v ∧ atI [V.int 0, V.int c] (if decide ((10 : Int) ^ (18 : Int).toNat ≤ c) = true then 1 else 0) = some (.int v) := by
        by_cases hd : (10 : Int) ^ (18 : Int).toNat ≤ c
        · rw [if_pos (decide_eq_true hd)]
          exact ⟨c, hc, atI_nat (j := 1) rfl⟩
        · rw [if_neg fun z => hd (of_decide_eq_true z)]
          exact ⟨0, Int.le_refl 0, atI_nat (j := 0) rfl⟩
      obtain ⟨v, hv, hi⟩ := hi
      refine ⟨l, _, _, _, rfl, rfl, hB, hi, ?_⟩
      walk_at "kb"
      intro p hp
      have hp1 : H1 p = none := by
        have hne : p ≠ l := fun e => by rw [e, upd_same] at hp; cases hp
        rw [upd_ne hne] at hp; exact hp
      refine q p _ hp1 (fun b o e => ?_) ⟨v, _, 0, upd_same, hv, ?_, ?_⟩
      · rw [upd_ne (ne_of_none e hp1), upd_ne (ne_of_none e hl)]; exact e
      · omega
      · omega
end

/-! ## drawn words -/
namespace Dw
def sp_pair : Sp := fun vs H Q _ => ∃ u : List Bool, vs = [.str (enc u)] ∧ u.length ≤ 100000 ∧ ∀ (p : Addr) (H' : Hp), H p = none → Same H H' → H' p = some (.tup [.int (pr u).1, .int (pr u).2]) → Q (.ref p) H'
def sp_drawn : Sp := fun vs H Q _ => ∃ (b : Addr) (most : Int), vs = [.ref b, .int most] ∧ BoxAt H b ∧ 0 ≤ most ∧ most ≤ 1000 ∧ ∀ (u : List Bool) (H' : Hp), (u.length : Int) ≤ most → Keep b H H' → BoxAt H' b → Q (.str (enc u)) H'
theorem pick_lr {d : Nat} {v : V} (h : [V.str ("l" : Str), V.str ("r" : Str)][d]? = some v) : ∃ x : Bool, v = .str (enc [x]) := by
  match d, h with
  | 0, h => exact ⟨false, by rw [← lit_l]; exact (Option.some.inj h).symm⟩
  | 1, h => exact ⟨true, by rw [← lit_r]; exact (Option.some.inj h).symm⟩
  | d + 2, h => simp at h
/-- [_law_pick(box, ["l", "r"]) for .. in range(n)] -/
theorem comp_letters {K : PySem.W.Frag} {b : Addr} {σ : L2.St} {vs : List Nat} {s n : Nat} {H1 : Hp} {D : Addr} {Qd : Hp → Prop} (hb : BoxAt H1 b) (hD : H1 D = none) (hσ : ∀ v, ((wipe σ vs).set s v)[0]? = some (some (.ref b))) (hw : ∀ v, wipe ((wipe σ vs).set s v) vs = wipe σ vs) (hn : n ≤ 1000)
    (hd : ∀ (bits : List Bool) (H : Hp), bits.length = n → Keep b H1 H → BoxAt H b → H D = some (.lst (bits.map fun x => V.str (enc [x]))) → Qd H) :
    LcR (Itr 0 n) (gName s) tYes (tCall (sp_pick K) [] E0 (tCons (tVar 0) (tCons (tLst (tCons (tC (.str "l")) (tCons (tC (.str "r")) tNil))) tNil))) vs σ H1 D Qd := by
  refine lcR_range (fun i H' => Keep b H1 H' ∧ BoxAt H' b ∧ ∃ bits : List Bool, bits.length = i ∧ H' D = some (.lst (bits.map fun x => V.str (enc [x])))) ⟨Keep.new hD, hb.new hD, [], rfl, upd_same⟩ (fun i H hi m => ?_) (gName_mono s) (fun H m => ?_)
  · obtain ⟨kp, hb', bits, hl, hH⟩ := m
    refine ⟨hw _, _, hσ _, by show 2 ≤ sizeLine; decide, fun l hl' => ?_⟩
    refine ⟨b, l, _, rfl, hb'.new hl', hb'.ne hl', .inl (SqL.of upd_same), by decide, by decide, fun d v H' hv kp' hb2 => ?_⟩
    obtain ⟨x, rfl⟩ := pick_lr hv
    have hDb : D ≠ b := hb.ne hD
    have hDl : D ≠ l := ne_of_none hH hl'
    have hH' : H' D = some (.lst (bits.map fun x => V.str (enc [x]))) := kp' D _ hDb (by rw [upd_ne hDl]; exact hH)
    refine ⟨_, hH', by rw [List.length_map]; exact Nat.lt_of_le_of_lt (by omega : bits.length ≤ 1000) (by decide), fun a o n e => by rw [upd_ne (ne_of_none e hD)]; exact ((kp.put (kp.free hb'.any hl')).trans kp') a o n e, hb2.keep fun o e => by rw [upd_ne hDb.symm]; exact e, bits ++ [x], by simp [hl], by rw [upd_same]; simp⟩
  · obtain ⟨kp, hb', bits, hl, hH⟩ := m
    exact hd bits H hl kp hb' hH
theorem join_bits (bits : List Bool) : Txt.join ("" : Str) (bits.map fun x => enc [x]) = enc bits := by
  have h := join_enc (bits.map fun x => [x])
  have e : (bits.map fun x => [x]).flatten = bits := by induction bits with
    | nil => rfl
    | cons x r ih => rw [List.map_cons, List.flatten_cons, ih (join_enc _)]; rfl
  rw [List.map_map, e] at h
  exact h
theorem sum_ones (bits : List Bool) : ((bits.map fun x => enc [x]).map (·.length)).sum = bits.length := by
  induction bits with
  | nil => rfl
  | cons x r ih => rw [List.map_cons, List.map_cons, List.sum_cons, ih, enc_len]; simp; omega
theorem rJ1 {K : PySem.W.Frag} {p : Addr} {bits : List Bool} {H : Hp} (h : H p = some (.lst (bits.map fun x => V.str (enc [x])))) : SqL K H p ((bits.map fun x => enc [x]).map V.str) := SqL.of (by rw [List.map_map]; exact h)
theorem rJ2 {bits : List Bool} (hl : bits.length ≤ 1000) : ((bits.map fun x => enc [x]).map (·.length)).sum + (bits.map fun x => enc [x]).length * ("" : Str).length ≤ 16777216 := by
  rw [sum_ones]
  have e : ("" : Str).length = 0 := by decide +kernel
  rw [e]
  omega
end Dw
open Dw

section
variable {P : Program} {w : World} {K : PySem.W.Frag} {mg : Str → Option Value} {base : Heap}
--@pair
theorem ok_pair {f : Addr} {fd : FuncData} (F : Fun K "_law_pair" "_law_pair" S__law_pair f fd) (T : Txt K mg) : FnOk P w K mg base CX0 1 f fd ["_law_word_here"] sp_pair := by
  refine F.ok SC__law_pair (fun vs H Q E h => ?_) (fun cdv A outer s H vs Q E hr h => ?_)
  · obtain ⟨u, rfl, _⟩ := h
    rfl
  · obtain ⟨u, rfl, hu, q⟩ := h
    refine ⟨_, (pss_cons (ps_asg (pe_tup (pa_cons pe_int (pa_cons pe_int pa_nil))) (pg_tup rfl (pgs_cons (pg_name (i := 1) SC__law_pair.nd rfl (.inl rfl)) (pgs_cons (pg_name (i := 2) SC__law_pair.nd rfl (.inl rfl)) pgs_nil))))
      (pss_cons (ps_for PassesOwn.never rfl (pi_str (pe_revS (pv 0))) (pg_name (i := 3) SC__law_pair.nd rfl (.inl rfl)) (pss_one (ps_if (pt_cmpR op_eq (pv 3) pe_str (nomark _)) (pss_one (ps_set (i := 2) SC__law_pair.nd rfl (.inl rfl) (pe_op op_add (pv 1) (pv 2)))) (pss_one (ps_set (i := 1) SC__law_pair.nd rfl (.inl rfl) (pe_op op_add (pv 1) (pv 2)))))))
      (pss_one (ps_ret (pe_tup (pa_cons (pv 1) (pa_cons (pv 2) pa_nil))))))), ?_⟩
    refine ⟨by show 2 ≤ sizeLine; decide, fun p0 hp0 => ⟨p0, _, rfl, SqT.of upd_same, rfl, _, _, rfl, _, _, rfl, rfl, ?_⟩⟩
    have hz : (enc u.reverse).cps.size = u.length := by show (enc u.reverse).length = _; rw [enc_len, List.length_reverse]
    refine ⟨_, rfl, enc u, rfl, by rw [enc_len]; exact Nat.le_trans hu (by decide), enc u.reverse, congrArg V.str (enc_rev u), for_it (walk_str (z := enc u.reverse)) (fun i σ H' => Same H H' ∧ ∃ x : Option V, σ = [some (.str (enc u)), some (.int (pr (u.reverse.take i).reverse).1), some (.int (pr (u.reverse.take i).reverse).2), x])
      ⟨fun a o e => by rw [upd_ne (ne_of_none e hp0)]; exact e, none, rfl⟩ (fun _ _ _ _ _ => trivial) (fun i v σ H1 H2 hi hP hY => ?_) (fun σ H1 hP => ?_)⟩
    · obtain ⟨sm, x, rfl⟩ := hP
      obtain ⟨rfl, c, hc, rfl⟩ := hY
      have hi' : i < u.reverse.length := by rw [List.length_reverse, ← hz]; exact hi
      have ec : c = cd u.reverse[i] := by
        rw [← Array.getElem?_toList, enc_cps, List.getElem?_map, List.getElem?_eq_getElem hi'] at hc
        exact (Option.some.inj hc).symm
      have et : (u.reverse.take (i + 1)).reverse = u.reverse[i] :: (u.reverse.take i).reverse := by
        rw [List.take_succ_eq_append_getElem hi', List.reverse_append]; rfl
      generalize u.reverse[i] = y at ec et
      subst ec
      walk_at "kb"
      have step : pr (u.reverse.take (i + 1)).reverse = pr (y :: (u.reverse.take i).reverse) := by rw [et]
      refine ite2 (fun h => ?_) (fun h => ?_)
      · have e := of_decide_eq_true h
        have ey : y = false := by revert e; cases y <;> decide +kernel
        subst ey
        walk_at "kb"
        exact ⟨some (.str ⟨#[cd false]⟩), by rw [step]; simp [pr, Int.add_comm]⟩
      · have e := fun z => h (decide_eq_true z)
        have ey : y = true := by revert e; cases y <;> decide +kernel
        subst ey
        walk_at "kb"
        exact ⟨some (.str ⟨#[cd true]⟩), by rw [step]; simp [pr]⟩
    · obtain ⟨sm, x, rfl⟩ := hP
      rw [hz]
      walk_at "kb"
      refine fun p hp => q p _ (sm.free hp) (fun a o e => by rw [upd_ne (ne_of_none (sm a o e) hp)]; exact sm a o e) ?_
      rw [upd_same]
      have e : (u.reverse.take u.length).reverse = u := by rw [List.take_of_length_le (by rw [List.length_reverse]; exact Nat.le_refl _), List.reverse_reverse]
      rw [e]
--@drawn
theorem ok_drawn {f : Addr} {fd : FuncData} (F : Fun K "_law_drawn_word" "_law_drawn_word" S__law_drawn_word f fd) (T : Txt K mg) (C_take : FnC P w K mg base CX0 1 "_law_take" ["_law_box_here", "_law_many"] sp_take)
    (C_pick : FnC P w K mg base CX0 2 "_law_pick" ["_law_box_here", "_law_items"] (sp_pick K)) (C_pair : FnC P w K mg base CX0 1 "_law_pair" ["_law_word_here"] sp_pair) : FnOk P w K mg base CX0 3 f fd ["_law_box_here", "_law_most"] sp_drawn := by
  refine F.ok SC__law_drawn_word (fun vs H Q E h => ?_) (fun cdv A outer s H vs Q E hr h => ?_)
  · obtain ⟨b, m, rfl, _⟩ := h
    rfl
  · obtain ⟨b, m, rfl, hb, m0, m1, q⟩ := h
    refine ⟨_, (pss_cons (ps_par (i := 2) (j := 3) (by rfl) SC__law_drawn_word.nd rfl rfl (by decide) rfl rfl (pa_cons (pe_callC C_take (hr.mono (by decide)) rfl (pa_cons (pv 0) (pa_cons pe_int pa_nil))) (pa_cons (pe_callC C_take (hr.mono (by decide)) rfl (pa_cons (pv 0) (pa_cons (pe_op op_add (pv 1) pe_int) pa_nil))) pa_nil)) (by rfl))
      (pss_cons (ps_if (pt_cmpR op_eq (pv 2) pe_int (nomark _)) (pss_one (ps_ret (pe_join pe_str (pe_lc (own := [("_law_turn", 9)]) (g := gName 9) (by rfl) SC__law_drawn_word.nd (pi_range1 (by rfl) T.b_range (pa_cons (pe_callB (call_min2 rfl) (by rfl) T.b_min (by decide +kernel) (pa_cons (pe_callTy call_intI (by rfl) T.b_int (by decide +kernel) (pa_cons (pv 3) pa_nil)) (pa_cons pe_int pa_nil))) pa_nil)) (blkOk_by (own := [("_law_turn", 9)]) (N := N__law_drawn_word) (sc := defScope S__law_drawn_word) (by decide +kernel)) (fun _ _ _ _ _ => pg_name (i := 9) SC__law_drawn_word.nd rfl (Or.inl rfl)) (fun _ _ _ _ _ => pts_nil) (fun _ _ _ _ _ => (pe_callC C_pick (hr.mono (by decide)) rfl (pa_cons (pv 0) (pa_cons (pe_lst (pa_cons pe_str (pa_cons pe_str pa_nil))) pa_nil)))))))) pss_nil)
      (pss_cons (ps_set (i := 4) SC__law_drawn_word.nd rfl (.inl rfl) pe_str)
      (pss_cons (ps_set (i := 5) SC__law_drawn_word.nd rfl (.inl rfl) (pe_join pe_str (pe_lc (own := [("_law_turn", 9)]) (g := gName 9) (by rfl) SC__law_drawn_word.nd (pi_range1 (by rfl) T.b_range (pa_cons (pe_op op_add pe_int (pe_callC C_take (hr.mono (by decide)) rfl (pa_cons (pv 0) (pa_cons pe_int pa_nil)))) pa_nil)) (blkOk_by (own := [("_law_turn", 9)]) (N := N__law_drawn_word) (sc := defScope S__law_drawn_word) (by decide +kernel)) (fun _ _ _ _ _ => pg_name (i := 9) SC__law_drawn_word.nd rfl (Or.inl rfl)) (fun _ _ _ _ _ => pts_nil) (fun _ _ _ _ _ => (pe_callC C_pick (hr.mono (by decide)) rfl (pa_cons (pv 0) (pa_cons (pe_lst (pa_cons pe_str (pa_cons pe_str pa_nil))) pa_nil)))))))
      (pss_cons (ps_while PassesOwn.never (pt_cmpR op_lt (pe_callB call_len_str (by rfl) T.b_len (by decide +kernel) (pa_cons (pv 4) pa_nil)) (pv 3) (nomark _)) (pss_cons (ps_set (i := 6) SC__law_drawn_word.nd rfl (.inl rfl) (pv 5))
      (pss_mid (ps_if (pt_cmpR op_ne (pv 2) pe_int (nomark _)) (pss_one (ps_set (i := 6) SC__law_drawn_word.nd rfl (.inl rfl) (pe_op op_mul_str (pe_callC C_pick (hr.mono (by decide)) rfl (pa_cons (pv 0) (pa_cons (pe_lst (pa_cons pe_str (pa_cons pe_str pa_nil))) pa_nil))) (pe_op op_add pe_int (pe_callC C_take (hr.mono (by decide)) rfl (pa_cons (pv 0) (pa_cons pe_int pa_nil))))))) pss_nil)
      (pss_one (ps_set (i := 4) SC__law_drawn_word.nd rfl (.inl rfl) (pe_op op_add_str (pv 4) (pv 6)))))))
      (pss_cons (ps_set (i := 4) SC__law_drawn_word.nd rfl (.inl rfl) (pe_slice sl_str (pv 4) po_none (po_some (pv 3))))
      (pss_cons (ps_asg (pe_callC C_pair (hr.mono (by decide)) rfl (pa_cons (pv 4) pa_nil)) (pg_tup rfl (pgs_cons (pg_name (i := 7) SC__law_drawn_word.nd rfl (.inl rfl)) (pgs_cons (pg_name (i := 8) SC__law_drawn_word.nd rfl (.inl rfl)) pgs_nil))))
      (pss_one (ps_ret (pe_ifExp (PW.pt (pw_and (pt_cmpR op_le (pv 7) (pe_op op_pow pe_int pe_int) (nomark _)) (pw_and1 (pt_cmpR op_le (pv 8) (pe_op op_pow pe_int pe_int) (nomark _))))) (pv 4) (pe_slice sl_str (pv 4) po_none (po_some pe_int)))))))))))), ?_⟩
    refine ⟨_, rfl, b, 3, rfl, hb, by decide, by decide, fun fm H1 f0 f1 kp1 hb1 => ?_⟩
    walk_at "kb"
    intro mn H2 n0 n1 kp2 hb2
    walk_at "kb"
    refine ite2 (fun h => ?_) (fun h => ?_)
    · walk_at "kb"
      intro D hD
      refine comp_letters hb2 hD (fun v => rfl) (fun v => rfl) (by split <;> omega) (fun bits H3 hl kp3 hb3 hH3 => ?_)
      have hl' : bits.length ≤ 40 ∧ (bits.length : Int) ≤ m := by rw [hl]; split <;> omega
      refine ⟨_, _, _, rfl, rfl, .inl (rJ1 hH3), rJ2 (by omega), ?_⟩
      rw [join_bits]
      exact q bits H3 hl'.2 ((kp1.trans kp2).trans kp3) hb3
    · walk_at "kb"
      intro pc H3 p0 p1 kp3 hb3
      walk_at "kb"
      intro D hD
      refine comp_letters hb3 hD (fun v => rfl) (fun v => rfl) (by omega) (fun bits H4 hl kp4 hb4 hH4 => ?_)
      have kpA : Keep b H H4 := ((kp1.trans kp2).trans kp3).trans kp4
      have hl1 : 1 ≤ bits.length ∧ bits.length ≤ 5 := by omega
      refine ⟨_, _, _, rfl, rfl, .inl (rJ1 hH4), rJ2 (by omega), ?_⟩
      rw [join_bits]
      refine while_by (fun σ H' => Keep b H H' ∧ BoxAt H' b ∧ ∃ (u : List Bool) (x : Option V), (u.length : Int) ≤ mn + 100 ∧ σ = [some (.ref b), some (.int m), some (.int fm), some (.int mn), some (.str (enc u)), some (.str (enc bits)), x, none, none, none])
        (fun σ _ => match σ with | [_, _, _, _, some (.str z), _, _, _, _, _] => 2000 - z.length | _ => 0) ⟨kpA, hb4, [], none, by simp; omega, by rw [← lit_e]; rfl⟩ (fun σ H5 hP => ?_) (fun σ H Q Q' h q => ?_)
      · obtain ⟨kp5, hb5, u, x, hu, rfl⟩ := hP
        walk_at "kb"
        refine ite2 (fun h => ?_) (fun h => ?_)
        · have hlt : (u.length : Int) < mn := by have := of_decide_eq_true h; rw [enc_len] at this; exact this
          walk_at "kb"
          refine ⟨fun σ' H' => Keep b H H' ∧ BoxAt H' b ∧ ∃ v : List Bool, 1 ≤ v.length ∧ v.length ≤ 60 ∧ σ' = [some (.ref b), some (.int m), some (.int fm), some (.int mn), some (.str (enc u)), some (.str (enc bits)), some (.str (enc v)), none, none, none], ?_, fun σ6 H6 hP => ?_⟩
          · walk_at "kb"
            refine ite2 (fun h => ?_) (fun h => ?_)
            · refine ⟨_, rfl, by show 2 ≤ sizeLine; decide, fun l hl => ?_⟩
              refine ⟨b, l, _, rfl, hb5.new hl, hb5.ne hl, .inl (SqL.of upd_same), by decide, by decide, fun d v H6 hv kp6 hb6 => ?_⟩
              obtain ⟨y, rfl⟩ := pick_lr hv
              walk_at "kb"
              intro c H7 c0 c1 kp7 hb7
              walk_at "kb"
              refine ⟨by rw [enc_len, List.length_singleton]; omega, ?_⟩
              refine ⟨((kp5.put (kp5.free hb5.any hl)).trans kp6).trans kp7, hb7, List.replicate (1 + c).toNat y, by rw [List.length_replicate]; omega, by rw [List.length_replicate]; omega, ?_⟩
              rw [enc_rep]
              rfl
            · exact ⟨kp5, hb5, bits, hl1.1, by omega, rfl⟩
          · obtain ⟨kp6, hb6, v, v1, v2, rfl⟩ := hP
            walk_at "kb"
            try refine And.intro (by rw [enc_len, enc_len]; exact szl (by omega)) ?_
            refine ⟨⟨kp6, hb6, u ++ v, some (.str (enc v)), by rw [List.length_append]; omega, by rw [enc_app]; rfl⟩, ?_⟩
            show 2000 - (enc u ++ enc v).length < 2000 - (enc u).length
            rw [enc_app, enc_len, enc_len, List.length_append]
            omega
        · walk_at "kb"
          try refine And.intro (by rw [enc_len]; exact szl (by omega)) ?_
          rw [enc_take u n0]
          walk_at "kb"
          have hl2 : (u.take mn.toNat).length ≤ mn.toNat := by rw [List.length_take]; omega
          refine ⟨by omega, fun p H6 hp sm6 hH6 => ?_⟩
          refine ⟨p, _, rfl, SqT.of hH6, rfl, _, _, rfl, _, _, rfl, rfl, ?_⟩
          have kp6 : Keep b H H6 := kp5.trans (Keep.same sm6)
          have hb6 : BoxAt H6 b := hb5.same sm6
          have yes : Q (.str (enc (u.take mn.toNat))) H6 := q _ H6 (by omega) kp6 hb6
          have no : Q (.str (enc ((u.take mn.toNat).take 120))) H6 := q _ H6 (by rw [List.length_take]; omega) kp6 hb6
          walk_at "kb"
          refine ite2 (fun h => ?_) (fun h => ?_)
          · walk_at "kb"
            refine ite2 (fun h => ?_) (fun h => ?_)
            · exact ⟨_, rfl, yes⟩
            · walk_at "kb"
              try refine And.intro (by rw [enc_len]; exact szl (by omega)) ?_
              rw [enc_take _ (by decide)]
              exact no
          · refine ifF rfl ?_
            walk_at "kb"
            try refine And.intro (by rw [enc_len]; exact szl (by omega)) ?_
            rw [enc_take _ (by decide)]
            exact no
      · obtain ⟨v, h1, z, h2, h3, w, h4, i, j, e1, e2, k, e3, q⟩ := q
        exact ⟨v, h1, z, h2, h3, w, h4, i, j, e1, e2, k, e3, h _ _ q⟩
--@*
end

/-! ## words in order -/
namespace Wd
theorem pr_cop (u : List Bool) : Nat.gcd (pr u).1 (pr u).2 = 1 := by
  induction u with
  | nil => rfl
  | cons b u ih =>
    cases b
    · show Nat.gcd (pr u).1 ((pr u).1 + (pr u).2) = 1
      rw [Nat.gcd_self_add_right]; exact ih
    · show Nat.gcd ((pr u).1 + (pr u).2) (pr u).2 = 1
      rw [Nat.gcd_add_self_left]; exact ih
theorem cross_eq {a b c d : Nat} (h1 : Nat.gcd a b = 1) (h2 : Nat.gcd c d = 1) (h : a * d = c * b) : a = c ∧ b = d := by
  have e1 : a ∣ c := Nat.Coprime.dvd_of_dvd_mul_right h1 (h ▸ Nat.dvd_mul_right a d)
  have e2 : c ∣ a := Nat.Coprime.dvd_of_dvd_mul_right h2 (h ▸ Nat.dvd_mul_right c b)
  have ea : a = c := Nat.dvd_antisymm e1 e2
  have e3 : b ∣ d := Nat.Coprime.dvd_of_dvd_mul_left (Nat.Coprime.symm h1) (h ▸ Nat.dvd_mul_left b c)
  have e4 : d ∣ b := Nat.Coprime.dvd_of_dvd_mul_left (Nat.Coprime.symm h2) (h ▸ Nat.dvd_mul_left d a)
  exact ⟨ea, Nat.dvd_antisymm e3 e4⟩
/-- the sign of a letter in the order of words: the end between l and r -/
def pc (b : Bool) : Nat := if b then 99 else 97
def plcL (u : List Bool) : List Nat := u.map pc ++ [98]
theorem pr_lt (u : List Bool) : ∀ v : List Bool, (pr u).1 * (pr v).2 < (pr v).1 * (pr u).2 ↔ plcL u < plcL v := by
  induction u with
  | nil =>
    intro v
    cases v with
    | nil => decide
    | cons c v =>
      have p := pr_pos v
      cases c <;> simp only [pr, plcL, pc, List.map_nil, List.nil_append, List.map_cons, List.cons_append, List.cons_lt_cons_iff, Bool.false_eq_true, if_false, if_true] <;> omega
  | cons b u ih =>
    intro v
    have q := pr_pos u
    cases v with
    | nil =>
      cases b <;> simp only [pr, plcL, pc, List.map_nil, List.nil_append, List.map_cons, List.cons_append, List.cons_lt_cons_iff, Bool.false_eq_true, if_false, if_true] <;> omega
    | cons c v =>
      have p := pr_pos v
      have ih := ih v
      have same : ∀ b : Bool, plcL (b :: u) < plcL (b :: v) ↔ plcL u < plcL v := fun b => by
        show pc b :: plcL u < pc b :: plcL v ↔ _
        rw [List.cons_lt_cons_iff]
        constructor
        · rintro (h | h)
          · omega
          · exact h.2
        · exact fun h => .inr ⟨rfl, h⟩
      have c1 : (pr u).1 * (pr v).1 = (pr v).1 * (pr u).1 := Nat.mul_comm _ _
      have c2 : (pr u).2 * (pr v).2 = (pr v).2 * (pr u).2 := Nat.mul_comm _ _
      have c3 : (pr u).1 * (pr v).2 = (pr v).2 * (pr u).1 := Nat.mul_comm _ _
      have c4 : (pr u).2 * (pr v).1 = (pr v).1 * (pr u).2 := Nat.mul_comm _ _
      have p1 : 0 < (pr v).1 * (pr u).2 := Nat.mul_pos p.1 q.2
      have p2 : 0 < (pr v).1 * (pr u).1 := Nat.mul_pos p.1 q.1
      cases b <;> cases c
      · rw [same, ← ih]; simp only [pr, Bool.false_eq_true, if_false, Nat.mul_add, Nat.add_mul]; omega
      · simp only [pr, plcL, pc, List.map_cons, List.cons_append, List.cons_lt_cons_iff, Bool.false_eq_true, if_false, if_true, Nat.mul_add, Nat.add_mul]; omega
      · simp only [pr, plcL, pc, List.map_cons, List.cons_append, List.cons_lt_cons_iff, Bool.false_eq_true, if_false, if_true, Nat.mul_add, Nat.add_mul]; omega
      · rw [same, ← ih]; simp only [pr, if_true, Nat.mul_add, Nat.add_mul]; omega
end Wd

/-! ## errors -/
section
variable {P : Program} {w : World} {K : PySem.W.Frag} {mg : Str → Option Value} {base : Heap}
theorem ok_err_InvalidWord {f C U : Addr} {fd : FuncData} (F : Fun K "__init__" "InvalidWord.__init__" S_InvalidWord__init_ f fd) (hU : UeC K U) (hm : mg "UnmarkedError" = some (.ref U)) (O : OexC K C) : FnOk P w K mg base CX0 1 f fd ["self"] (sp_err0 C) := by
  refine F.ok SC_InvalidWord__init_ (fun vs H Q E h => ?_) (fun cdv A outer s H vs Q E hr h => ?_)
  · obtain ⟨a, rfl, _⟩ := h
    rfl
  · obtain ⟨a, rfl, ha, q⟩ := h
    refine ⟨_, (pss_one (ps_expr (pe_uinit hU rfl hm (pa_cons (pv 0) (pa_cons pe_str pa_nil))))), ?_⟩
    exact ⟨_, rfl, a, C, _, rfl, by decide, O, ha, q⟩
theorem ok_err_InvalidRatio {f C U : Addr} {fd : FuncData} (F : Fun K "__init__" "InvalidRatio.__init__" S_InvalidRatio__init_ f fd) (hU : UeC K U) (hm : mg "UnmarkedError" = some (.ref U)) (O : OexC K C) : FnOk P w K mg base CX0 1 f fd ["self"] (sp_err0 C) := by
  refine F.ok SC_InvalidRatio__init_ (fun vs H Q E h => ?_) (fun cdv A outer s H vs Q E hr h => ?_)
  · obtain ⟨a, rfl, _⟩ := h
    rfl
  · obtain ⟨a, rfl, ha, q⟩ := h
    refine ⟨_, (pss_one (ps_expr (pe_uinit hU rfl hm (pa_cons (pv 0) (pa_cons pe_str pa_nil))))), ?_⟩
    exact ⟨_, rfl, a, C, _, rfl, by decide, O, ha, q⟩
theorem ok_err_InvalidChange {f C U : Addr} {fd : FuncData} (F : Fun K "__init__" "InvalidChange.__init__" S_InvalidChange__init_ f fd) (hU : UeC K U) (hm : mg "UnmarkedError" = some (.ref U)) (O : OexC K C) : FnOk P w K mg base CX0 1 f fd ["self"] (sp_err0 C) := by
  refine F.ok SC_InvalidChange__init_ (fun vs H Q E h => ?_) (fun cdv A outer s H vs Q E hr h => ?_)
  · obtain ⟨a, rfl, _⟩ := h
    rfl
  · obtain ⟨a, rfl, ha, q⟩ := h
    refine ⟨_, (pss_one (ps_expr (pe_uinit hU rfl hm (pa_cons (pv 0) (pa_cons pe_str pa_nil))))), ?_⟩
    exact ⟨_, rfl, a, C, _, rfl, by decide, O, ha, q⟩
end

/-! ## lengths and ratios -/
namespace Rt
def isI : V → Bool | .int _ => true | .bl _ => true | _ => false
def isB : V → Bool | .bl _ => true | _ => false
def isS : V → Bool | .str _ => true | _ => false
def isLen : V → Bool | .int i => decide (1 ≤ i) | _ => false
/-- what isinstance tells of a value against int, bool and str -/
structure Kd (K : PySem.W.Frag) (H : Hp) (x : V) : Prop where
  ex : ∃ t, TyX K H x t ∧ PySem.W.kitOne K t (.type "int") = some (isI x) ∧ PySem.W.kitOne K t (.type "bool") = some (isB x) ∧ PySem.W.kitOne K t (.type "str") = some (isS x)
theorem Kd.int {K : PySem.W.Frag} {H : Hp} (i : Int) : Kd K H (.int i) := ⟨_, .base (.int i), kit_ty (show kitB "int" "int" = some true by decide +kernel), kit_ty (show kitB "int" "bool" = some false by decide +kernel), kit_ty (show kitB "int" "str" = some false by decide +kernel)⟩
theorem Kd.bl {K : PySem.W.Frag} {H : Hp} (i : Bool) : Kd K H (.bl i) := ⟨_, .base (.bl i), kit_ty (show kitB "bool" "int" = some true by decide +kernel), kit_ty (show kitB "bool" "bool" = some true by decide +kernel), kit_ty (show kitB "bool" "str" = some false by decide +kernel)⟩
theorem Kd.str {K : PySem.W.Frag} {H : Hp} (i : Str) : Kd K H (.str i) := ⟨_, .base (.str i), kit_ty (show kitB "str" "int" = some false by decide +kernel), kit_ty (show kitB "str" "bool" = some false by decide +kernel), kit_ty (show kitB "str" "str" = some true by decide +kernel)⟩
theorem Kd.non {K : PySem.W.Frag} {H : Hp} : Kd K H .non := ⟨_, .base .non, kit_ty (show kitB "NoneType" "int" = some false by decide +kernel), kit_ty (show kitB "NoneType" "bool" = some false by decide +kernel), kit_ty (show kitB "NoneType" "str" = some false by decide +kernel)⟩
theorem Kd.lst {K : PySem.W.Frag} {H : Hp} {p : Addr} {xs : List V} (h : H p = some (.lst xs)) : Kd K H (.ref p) := ⟨_, .base (.lst h), kit_ty (show kitB "list" "int" = some false by decide +kernel), kit_ty (show kitB "list" "bool" = some false by decide +kernel), kit_ty (show kitB "list" "str" = some false by decide +kernel)⟩
theorem Kd.tup {K : PySem.W.Frag} {H : Hp} {p : Addr} {xs : List V} (h : H p = some (.tup xs)) : Kd K H (.ref p) := ⟨_, .base (.tup h), kit_ty (show kitB "tuple" "int" = some false by decide +kernel), kit_ty (show kitB "tuple" "bool" = some false by decide +kernel), kit_ty (show kitB "tuple" "str" = some false by decide +kernel)⟩
theorem tyX_at {K : PySem.W.Frag} {H H' : Hp} {x : V} {t : Value} (h : TyX K H x t) (s : ∀ a o, x = .ref a → H a = some o → H' a = some o) : TyX K H' x t := by
  cases h with
  | base h => exact .base (by
      cases h with
      | non => exact .non
      | bl x => exact .bl x
      | int i => exact .int i
      | str x => exact .str x
      | flt x => exact .flt x
      | lst e => exact .lst (s _ _ rfl e)
      | frz e => exact .frz (s _ _ rfl e)
      | tup e => exact .tup (s _ _ rfl e)
      | dK e => exact .dK (s _ _ rfl e)
      | dT e => exact .dT (s _ _ rfl e)
      | ins e cl ha hn htk hm => exact .ins (s _ _ rfl e) cl ha hn htk hm)
  | byt b => exact .byt b
  | set e => exact .set (s _ _ rfl e)
  | kList e c => exact .kList e c
  | kTuple e c => exact .kTuple e c
  | kDict e c => exact .kDict e c
  | fTuple e => exact .fTuple (s _ _ rfl e)
  | fDict e => exact .fDict (s _ _ rfl e)
theorem Kd.at {K : PySem.W.Frag} {H H' : Hp} {x : V} (h : Kd K H x) (s : ∀ a o, x = .ref a → H a = some o → H' a = some o) : Kd K H' x := let ⟨t, ty, r⟩ := h.ex; ⟨t, tyX_at ty s, r⟩
theorem Kd.same {K : PySem.W.Frag} {H H' : Hp} {x : V} (h : Kd K H x) (s : Same H H') : Kd K H' x := h.at fun a o _ => s a o
def sp_isint (K : PySem.W.Frag) : Sp := fun vs H Q _ => ∃ x, vs = [x] ∧ Kd K H x ∧ Q (.bl (isI x && !isB x)) H
def sp_islen (K : PySem.W.Frag) : Sp := fun vs H Q _ => ∃ x, vs = [x] ∧ Kd K H x ∧ Q (.bl (isLen x)) H
def sp_common : Sp := fun vs H Q _ => ∃ i j : Int, vs = [.int i, .int j] ∧ 0 < i ∧ 0 < j ∧ Q (.int (Int.gcd i j)) H
/-- the attributes of a ratio -/
def rf (a b : Int) : List (Str × V) := putF "second" (.int b) (putF "first" (.int a) [])
theorem n_fs : ¬ (("first" : Str) = "second") := by decide +kernel
theorem n_sf : ¬ (("second" : Str) = "first") := by decide +kernel
theorem rf1 (a b : Int) : (rf a b).lookup ("first" : Str) = some (.int a) := by
  unfold rf; rw [lookup_putF, if_neg n_fs, lookup_putF, if_pos rfl]
theorem rf2 (a b : Int) : (rf a b).lookup ("second" : Str) = some (.int b) := by
  unfold rf; rw [lookup_putF, if_pos rfl]
def RatAt (C : Addr) (H : Hp) (p : Addr) (a b : Int) : Prop := ∃ dx, H p = some (.ins C dx (rf a b))
theorem RatAt.same {C : Addr} {H H' : Hp} {p : Addr} {a b : Int} (x : RatAt C H p a b) (s : Same H H') : RatAt C H' p a b := let ⟨d, h⟩ := x; ⟨d, s _ _ h⟩
structure RatT (K : PySem.W.Frag) (mg : Str → Option Value) (C : Addr) : Prop where
  ins : C8.InsC K C
  n1 : NoAttr K C "first"
  n2 : NoAttr K C "second"
  mgC : mg "Ratio" = some (.ref C)
  nf : PySem.W.notFirst K C (.ref C) = true
  ne : PySem.W.findIn K (.ref C) "__ne__" = some (some (.builtin "object.__ne__"))
  so : PySem.W.subIn K (.ref C) (.type "object") = some true
theorem RatT.cl {K : PySem.W.Frag} {mg : Str → Option Value} {C : Addr} (T : RatT K mg C) : Cls K C := T.ins.cl
theorem RatT.ty {K : PySem.W.Frag} {mg : Str → Option Value} {C : Addr} (T : RatT K mg C) {H : Hp} {p dx : Addr} {fs : List (Str × V)} (h : H p = some (.ins C dx fs)) : TyX K H (.ref p) (.ref C) := .base (.ins h T.ins.cl T.ins.ha T.ins.hn T.ins.htk T.ins.hm)
/-- Ratio(first, second): made, or refused -/
def sp_init (C IR : Addr) (K : PySem.W.Frag) : Sp := fun vs H Q E => ∃ (x dx : Addr) (u v : V), vs = [.ref x, u, v] ∧ Kd K H u ∧ Kd K H v ∧ H x = some (.ins C dx []) ∧
  (isLen u = true → isLen v = true → ∃ i j : Int, u = .int i ∧ v = .int j ∧ i.natAbs < 2 ^ 1000 ∧ j.natAbs < 2 ^ 1000 ∧ ∀ H' : Hp, (∀ a o, a ≠ x → H a = some o → H' a = some o) → RatAt C H' x (i / (Int.gcd i j : Nat)) (j / (Int.gcd i j : Nat)) → Q .non H') ∧
  ((isLen u && isLen v) = false → E (.ref IR) none H)
/-- a comparison of two ratios -/
def sp_cmp (C : Addr) (r : Int → Int → Int → Int → Bool) : Sp := fun vs H Q _ => ∃ (p q : Addr) (a b c d : Int), vs = [.ref p, .ref q] ∧ RatAt C H p a b ∧ RatAt C H q c d ∧ a.natAbs < 2 ^ 1000 ∧ b.natAbs < 2 ^ 1000 ∧ c.natAbs < 2 ^ 1000 ∧ d.natAbs < 2 ^ 1000 ∧ Q (.bl (r a b c d)) H
def r_eq (a b c d : Int) : Bool := decide (V.int a = V.int c) && decide (V.int b = V.int d)
def r_lt (a b c d : Int) : Bool := decide (a * d < c * b)
def r_le (a b c d : Int) : Bool := decide (a * d ≤ c * b)
def r_gt (a b c d : Int) : Bool := decide (c * b < a * d)
def r_ge (a b c d : Int) : Bool := decide (c * b ≤ a * d)
theorem gcd_step {x y : Int} (hx : 0 ≤ x) (hy : 0 ≤ y) : Int.gcd y (x % y) = Int.gcd x y := by
  obtain ⟨a, rfl⟩ := Int.eq_ofNat_of_zero_le hx
  obtain ⟨b, rfl⟩ := Int.eq_ofNat_of_zero_le hy
  show Nat.gcd b ((a : Int) % (b : Int)).natAbs = Nat.gcd a b
  have e : ((a : Int) % (b : Int)).natAbs = a % b := by
    rw [← Int.natCast_emod, Int.natAbs_natCast]
  rw [e, Nat.gcd_comm b, ← Nat.gcd_rec, Nat.gcd_comm]
theorem wm {i j : Int} (h1 : i.natAbs < 2 ^ 1000) (h2 : j.natAbs < 2 ^ 1000) : CMulW i j := wide_mul h1 h2 (by decide) (by decide) (by decide)
/-- a text of l and r alone -/
def goodC (z : Str) : Bool := (z.cps.toList.map fun c => decide (c ∈ ("lr" : Str).cps.toList)).all id
def goodW : V → Bool | .str z => goodC z | _ => false
theorem lr_cps : ("lr" : Str).cps.toList = [108, 114] := by decide +kernel
theorem good_enc (u : List Bool) : goodC (enc u) = true := by
  unfold goodC
  rw [enc_cps, List.map_map, List.all_eq_true]
  intro x hx
  obtain ⟨b, _, rfl⟩ := List.mem_map.mp hx
  cases b <;> decide +kernel
theorem good_is {z : Str} (h : goodC z = true) : ∃ u, z = enc u := by
  have hm : ∀ c ∈ z.cps.toList, c = 108 ∨ c = 114 := fun c hc => by
    unfold goodC at h
    rw [List.all_eq_true] at h
    have e := h _ (List.mem_map.mpr ⟨c, hc, rfl⟩)
    have e := of_decide_eq_true (show decide (c ∈ ("lr" : Str).cps.toList) = true from e)
    rw [lr_cps] at e
    simpa using e
  refine ⟨z.cps.toList.map fun c => decide (c = 114), ?_⟩
  obtain ⟨cps⟩ := z
  unfold enc
  rw [List.map_map]
  congr 1
  have : ∀ l : List Nat, (∀ c ∈ l, c = 108 ∨ c = 114) → l.map (cd ∘ fun c => decide (c = 114)) = l := by
    intro l
    induction l with
    | nil => intro _; rfl
    | cons c l ih =>
      intro h
      rw [List.map_cons, ih fun c hc => h c (List.mem_cons_of_mem _ hc)]
      rcases h c (List.mem_cons_self) with rfl | rfl <;> rfl
  rw [this _ hm]
def sp_need (IW : Addr) (K : PySem.W.Frag) : Sp := fun vs H Q E => ∃ x, vs = [x] ∧ Kd K H x ∧ (∀ z, x = .str z → z.length ≤ 100000) ∧ (goodW x = true → ∀ H', Same H H' → Q .non H') ∧ (goodW x = false → ∀ H', Same H H' → E (.ref IW) none H')
/-- the word's ratio, or refused -/
def sp_ofword (C IW : Addr) (K : PySem.W.Frag) : Sp := fun vs H Q E => ∃ x, vs = [.ref C, x] ∧ Kd K H x ∧ (∀ z, x = .str z → z.length ≤ 900) ∧ (∀ u, x = .str (enc u) → ∀ (p : Addr) (H' : Hp), H p = none → Same H H' → RatAt C H' p (pr u).1 (pr u).2 → Q (.ref p) H') ∧ (goodW x = false → ∀ H', Same H H' → E (.ref IW) none H')
def sp_wol : Sp := fun vs H Q _ => ∃ u : List Bool, vs = [.int (pr u).1, .int (pr u).2] ∧ u.length ≤ 900 ∧ ∀ H', Same H H' → Q (.str (enc u)) H'
def sp_word (C : Addr) : Sp := fun vs H Q _ => ∃ (p : Addr) (u : List Bool), vs = [.ref p] ∧ RatAt C H p (pr u).1 (pr u).2 ∧ u.length ≤ 900 ∧ ∀ H', Same H H' → Q (.str (enc u)) H'
theorem pr_small {u : List Bool} (h : u.length ≤ 900) : ((pr u).1 : Int).natAbs < 2 ^ 1000 ∧ ((pr u).2 : Int).natAbs < 2 ^ 1000 := by
  have q := pr_le u
  have p := pr_pos u
  have e : 2 ^ (u.length + 1) ≤ 2 ^ 1000 := Nat.pow_le_pow_right (by decide) (by omega)
  rw [Int.natAbs_natCast, Int.natAbs_natCast]
  omega
theorem pr_div (u : List Bool) : ((pr u).1 : Int) / ((Int.gcd ((pr u).1 : Int) ((pr u).2 : Int) : Nat) : Int) = (pr u).1 ∧ ((pr u).2 : Int) / ((Int.gcd ((pr u).1 : Int) ((pr u).2 : Int) : Nat) : Int) = (pr u).2 := by
  have e : Int.gcd ((pr u).1 : Int) ((pr u).2 : Int) = 1 := pr_cop u
  rw [e]
  simp
theorem pr_eq {u : List Bool} (h : (pr u).1 = (pr u).2) : u = [] := by
  cases u with
  | nil => rfl
  | cons b u => have := pr_pos u; cases b <;> simp only [pr, Bool.false_eq_true, if_false, if_true] at h <;> omega
/-- a run of r ahead -/
theorem pr_run_r (u : List Bool) (h : (pr u).2 < (pr u).1) : ∃ u' : List Bool, u = List.replicate (((pr u).1 - 1) / (pr u).2) true ++ u' ∧ pr u' = ((pr u).1 - (((pr u).1 - 1) / (pr u).2) * (pr u).2, (pr u).2) := by
  induction u with
  | nil => exact absurd h (by decide)
  | cons b u ih =>
    have p := pr_pos u
    cases b with
    | false => simp only [pr, Bool.false_eq_true, if_false] at h; omega
    | true =>
      simp only [pr, if_true] at h ⊢
      generalize hx : (pr u).1 = x at *
      generalize hy : (pr u).2 = y at *
      have d1 : (x + y - 1) / y = (x - 1) / y + 1 := by
        rw [show x + y - 1 = (x - 1) + y by omega, Nat.add_div_right _ p.2]
      by_cases c : y < x
      · obtain ⟨u', e1, e2⟩ := ih c
        refine ⟨u', ?_, ?_⟩
        · rw [d1, List.replicate_succ, List.cons_append, ← e1]
        · rw [d1, e2, Nat.add_mul]
          congr 1
          omega
      · have z : (x - 1) / y = 0 := Nat.div_eq_of_lt (by omega)
        refine ⟨u, ?_, ?_⟩
        · rw [d1, z]; rfl
        · rw [d1, z]
          rw [← hx, ← hy]
          simp
theorem pr_run_l (u : List Bool) (h : (pr u).1 < (pr u).2) : ∃ u' : List Bool, u = List.replicate (((pr u).2 - 1) / (pr u).1) false ++ u' ∧ pr u' = ((pr u).1, (pr u).2 - (((pr u).2 - 1) / (pr u).1) * (pr u).1) := by
  induction u with
  | nil => exact absurd h (by decide)
  | cons b u ih =>
    have p := pr_pos u
    cases b with
    | true => simp only [pr, if_true] at h; omega
    | false =>
      simp only [pr, Bool.false_eq_true, if_false] at h ⊢
      generalize hx : (pr u).1 = x at *
      generalize hy : (pr u).2 = y at *
      have d1 : (x + y - 1) / x = (y - 1) / x + 1 := by
        rw [show x + y - 1 = (y - 1) + x by omega, Nat.add_div_right _ p.1]
      by_cases c : x < y
      · obtain ⟨u', e1, e2⟩ := ih c
        refine ⟨u', ?_, ?_⟩
        · rw [d1, List.replicate_succ, List.cons_append, ← e1]
        · rw [d1, e2, Nat.add_mul]
          congr 1
          omega
      · have z : (y - 1) / x = 0 := Nat.div_eq_of_lt (by omega)
        refine ⟨u, ?_, ?_⟩
        · rw [d1, z]; rfl
        · rw [d1, z]
          rw [← hx, ← hy]
          simp
end Rt
open Rt

section
variable {P : Program} {w : World} {K : PySem.W.Frag} {mg : Str → Option Value} {base : Heap}
theorem ok_isint {f : Addr} {fd : FuncData} (F : Fun K "is_integer" "is_integer" S_is_integer f fd) (T : Txt K mg) : FnOk P w K mg base CX0 1 f fd ["value"] (sp_isint K) := by
  refine F.ok SC_is_integer (fun vs H Q E h => ?_) (fun cdv A outer s H vs Q E hr h => ?_)
  · obtain ⟨x, rfl, _⟩ := h
    rfl
  · obtain ⟨x, rfl, ⟨t, ty, h1, h2, _⟩, q⟩ := h
    refine ⟨_, (pss_one (ps_ret (pe_and (pe_callB call_isi (by rfl) T.b_isinstance (by decide +kernel) (pa_cons (pv 0) (pa_cons (pe_bltn (v := .ty "int") (by rfl) T.b_int boot_int rfl) pa_nil))) (pe_one (pe_not (pe_callB call_isi (by rfl) T.b_isinstance (by decide +kernel) (pa_cons (pv 0) (pa_cons (pe_bltn (v := .ty "bool") (by rfl) T.b_bool boot_bool rfl) pa_nil)))))))), ?_⟩
    refine ⟨_, rfl, x, _, t, _, _, rfl, .ty _, ty, h1, isI x, rfl, ?_⟩
    by_cases c : isI x = true
    · rw [c] at q ⊢
      refine ifT rfl ?_
      refine ⟨_, rfl, x, _, t, _, _, rfl, .ty _, ty, h2, isB x, rfl, q⟩
    · rw [Bool.not_eq_true] at c
      rw [c] at q ⊢
      exact ifF rfl q
theorem ok_islen {f : Addr} {fd : FuncData} (F : Fun K "is_length" "is_length" S_is_length f fd) (T : Txt K mg) (C_isint : FnC P w K mg base CX0 1 "is_integer" ["value"] (sp_isint K)) : FnOk P w K mg base CX0 2 f fd ["value"] (sp_islen K) := by
  refine F.ok SC_is_length (fun vs H Q E h => ?_) (fun cdv A outer s H vs Q E hr h => ?_)
  · obtain ⟨x, rfl, _⟩ := h
    rfl
  · obtain ⟨x, rfl, kd, q⟩ := h
    refine ⟨_, (pss_one (ps_ret (pe_and (pe_callC C_isint hr rfl (pa_cons (pv 0) pa_nil)) (pe_one (pe_cmpR op_ge (pv 0) pe_int (nomark _)))))), ?_⟩
    refine ⟨_, rfl, x, rfl, kd, _, rfl, ?_⟩
    cases x with
    | int i =>
      refine ifT rfl ?_
      walk_at "kb"
      exact q
    | bl b => exact ifF rfl q
    | non => exact ifF rfl q
    | str z => exact ifF rfl q
    | byt z => exact ifF rfl q
    | flt z => exact ifF rfl q
    | ref z => exact ifF rfl q
    | ty z => exact ifF rfl q
theorem ok_common {f : Addr} {fd : FuncData} (F : Fun K "common_length" "common_length" S_common_length f fd) (T : Txt K mg) : FnOk P w K mg base CX0 1 f fd ["first", "second"] sp_common := by
  refine F.ok SC_common_length (fun vs H Q E h => ?_) (fun cdv A outer s H vs Q E hr h => ?_)
  · obtain ⟨i, j, rfl, _⟩ := h
    rfl
  · obtain ⟨i, j, rfl, h1, h2, q⟩ := h
    refine ⟨_, (pss_cons (ps_while PassesOwn.never (pt_cmpR op_ne (pv 1) pe_int (nomark _)) (pss_one (ps_par (i := 0) (j := 1) (by rfl) SC_common_length.nd rfl rfl (by decide) rfl rfl (pa_cons (pv 1) (pa_cons (pe_op op_mod (pv 0) (pv 1)) pa_nil)) (by rfl))))
      (pss_one (ps_ret (pv 0)))), ?_⟩
    refine while_by (fun σ H' => H' = H ∧ ∃ x y : Int, 0 < x ∧ 0 ≤ y ∧ Int.gcd x y = Int.gcd i j ∧ σ = [some (.int x), some (.int y)]) (fun σ _ => match σ with | [_, some (.int y)] => y.toNat | _ => 0)
      ⟨rfl, i, j, h1, Int.le_of_lt h2, rfl, rfl⟩ (fun σ H1 hP => ?_) (fun σ H Q Q' h q => ?_)
    · obtain ⟨rfl, x, y, hx, hy, hg, rfl⟩ := hP
      walk_at "kb"
      refine ite2 (fun h => ?_) (fun h => ?_)
      · have hy0 : y ≠ 0 := fun e => by subst e; exact absurd h (by decide)
        walk_at "kb"
        refine ⟨⟨rfl, y, x % y, by omega, Int.emod_nonneg _ hy0, ?_, rfl⟩, ?_⟩
        · rw [← hg]; exact gcd_step (Int.le_of_lt hx) hy
        · show (x % y).toNat < y.toNat
          have := Int.emod_lt_of_pos x (show 0 < y by omega)
          omega
      · have hy0 : y = 0 := by
          have : decide (V.int y = V.int 0) = true := by simpa using h
          exact V.int.inj (of_decide_eq_true this)
        subst hy0
        refine ⟨_, rfl, ?_⟩
        have e : x = ((Int.gcd i j : Nat) : Int) := by rw [← hg, Int.gcd_zero_right]; omega
        rw [e]
        exact q
    · obtain ⟨v, h1, e, v2, e2, q⟩ := q
      exact ⟨v, h1, e, v2, e2, h _ _ q⟩
theorem ok_init {f C IR : Addr} {fd : FuncData} (F : Fun K "__init__" "Ratio.__init__" S_Ratio__init_ f fd) (T : Txt K mg) (R : RatT K mg C) (E_InvalidRatio : ErC P w K mg base "InvalidRatio" IR) (C_islen : FnC P w K mg base CX0 2 "is_length" ["value"] (sp_islen K)) (C_common : FnC P w K mg base CX0 1 "common_length" ["first", "second"] sp_common) :
    FnOk P w K mg base (L2.CX P w) 4 f fd ["self", "first", "second"] (sp_init C IR K) := by
  refine F.okX SC_Ratio__init_ (fun vs H Q E h => ?_) (fun cdv A outer s H vs Q E hr h => ?_)
  · obtain ⟨x, dx, u, v, rfl, _⟩ := h
    rfl
  · obtain ⟨x, dx, u, v, rfl, ku, kv, hx, ok, bad⟩ := h
    refine ⟨_, (pss_cons (ps_if (PW.pt (pw_or (pt_not (pt_val (pe_callC C_islen (hr.mono (by decide)) rfl (pa_cons (pv 1) pa_nil)))) (pw_or1 (pt_not (pt_val (pe_callC C_islen (hr.mono (by decide)) rfl (pa_cons (pv 2) pa_nil))))))) (pss_one (ps_raise0 E_InvalidRatio (hr.mono (by decide)) rfl (takes_of rfl rfl rfl rfl) rfl)) pss_nil)
      (pss_cons (ps_set (i := 3) SC_Ratio__init_.nd rfl (.inl rfl) (pe_callC C_common (hr.mono (by decide)) rfl (pa_cons (pv 1) (pa_cons (pv 2) pa_nil))))
      (pss_cons (ps_fld (pv 0) (pe_op op_fdivW (pv 1) (pv 3)) rfl)
      (pss_one (ps_fld (pv 0) (pe_op op_fdivW (pv 2) (pv 3)) rfl))))), ?_⟩
    refine ⟨_, rfl, _, rfl, ku, isLen u, rfl, ?_⟩
    by_cases lu : isLen u = true
    · rw [lu]
      refine ifF rfl ⟨_, rfl, _, rfl, kv, isLen v, rfl, ?_⟩
      by_cases lv : isLen v = true
      · rw [lv]
        refine ifF rfl ?_
        obtain ⟨i, j, rfl, rfl, i1, j1, q⟩ := ok lu lv
        have i0 : 0 < i := by have := of_decide_eq_true lu; omega
        have j0 : 0 < j := by have := of_decide_eq_true lv; omega
        have g0 : 0 < ((Int.gcd i j : Nat) : Int) := by have := Int.gcd_pos_of_ne_zero_left j (show i ≠ 0 by omega); omega
        have g1 : ((Int.gcd i j : Nat) : Int) ≤ i := Int.le_of_dvd i0 (Int.gcd_dvd_left _ _)
        have hd : CDivW i ((Int.gcd i j : Nat) : Int) := wide_div (b := 1000) g0 (by omega) (by decide) (by decide)
        have hd2 : CDivW j ((Int.gcd i j : Nat) : Int) := hd
        walk_at "kb"
        refine ⟨x, C, dx, _, rfl, hx, R.ins.cl, R.n1, by show 0 < 1000; decide, ?_⟩
        walk_at "kb"
        refine ⟨x, C, dx, _, rfl, upd_same, R.ins.cl, R.n2, by show 1 < 1000; decide, ?_⟩
        refine q _ (fun a o n e => by rw [upd_ne n, upd_ne n]; exact e) ⟨dx, by rw [upd_same]; rfl⟩
      · rw [Bool.not_eq_true] at lv
        rw [lv]
        refine ifT rfl ?_
        exact bad (by rw [lv, Bool.and_false])
    · rw [Bool.not_eq_true] at lu
      rw [lu]
      refine ifT rfl ?_
      exact bad (by rw [lu]; rfl)
theorem ok_need {f IW : Addr} {fd : FuncData} (F : Fun K "need_word" "need_word" S_need_word f fd) (T : Txt K mg) (E_InvalidWord : ErC P w K mg base "InvalidWord" IW) : FnOk P w K mg base (L2.CX P w) 4 f fd ["value"] (sp_need IW K) := by
  refine F.okX SC_need_word (fun vs H Q E h => ?_) (fun cdv A outer s H vs Q E hr h => ?_)
  · obtain ⟨x, rfl, _⟩ := h
    rfl
  · obtain ⟨x, rfl, ⟨t, ty, _, _, h3⟩, hz, ok, bad⟩ := h
    refine ⟨_, (pss_one (ps_if (PW.pt (pw_or (pt_not (pt_val (pe_callB call_isi (by rfl) T.b_isinstance (by decide +kernel) (pa_cons (pv 0) (pa_cons (pe_bltn (v := .ty "str") (by rfl) T.b_str boot_str rfl) pa_nil))))) (pw_or1 (pt_not (pt_val (pe_callB (cr_all rfl) (by rfl) T.b_all (by decide +kernel) (pa_cons (pe_lc (own := [("letter", 1)]) (g := gName 1) (by rfl) SC_need_word.nd (pi_str (pv 0)) (blkOk_by (own := [("letter", 1)]) (N := N_need_word) (sc := defScope S_need_word) (by decide +kernel)) (fun _ _ _ _ _ => pg_name (i := 1) SC_need_word.nd rfl (Or.inl rfl)) (fun _ _ _ _ _ => pts_nil) (fun _ _ _ _ _ => (pe_cmpR op_in_sign (pv 1) pe_str rfl))) pa_nil))))))) (pss_one (ps_raise0 E_InvalidWord (hr.mono (by decide)) rfl (takes_of rfl rfl rfl rfl) rfl)) pss_nil)), ?_⟩
    refine ⟨_, rfl, x, _, t, _, _, rfl, .ty _, ty, h3, isS x, rfl, ?_⟩
    by_cases c : isS x = true
    · rw [c]
      obtain ⟨z, rfl⟩ : ∃ z, x = .str z := by cases x <;> first | exact ⟨_, rfl⟩ | cases c
      have hl := hz z rfl
      refine ifF rfl ?_
      walk_at "kb"
      intro D hD
      refine lcR_str (z := z) (fun i H' => (∀ b o, b ≠ D → H b = some o → H' b = some o) ∧ H' D = some (.lst (((z.cps.toList.take i).map fun c => decide (c ∈ ("lr" : Str).cps.toList)).map V.bl))) ⟨fun b o n e => by rw [upd_ne n]; exact e, upd_same⟩ (fun i c H1 hi hc m => ?_) (gName_mono _) (fun H1 m => ?_)
      · obtain ⟨kp, hH⟩ := m
        have hc' : z.cps.toList[i]? = some c := by rw [Array.getElem?_toList]; exact hc
        refine ⟨rfl, _, rfl, c, _, rfl, rfl, _, hH, ?_, fun b o n e => by rw [upd_ne n]; exact kp b o n e, ?_⟩
        · rw [List.length_map, List.length_map, List.length_take]
          exact szs (by have : i < z.length := hi; omega)
        · rw [upd_same, List.take_succ, hc', List.map_append, List.map_append]; rfl
      · obtain ⟨kp, hH⟩ := m
        have hz' : z.cps.size = z.cps.toList.length := by simp
        rw [hz', List.take_length] at hH
        have sm : Same H H1 := fun b o e => kp b o (ne_of_none e hD) e
        refine ⟨_, _, rfl, SqL.of hH, _, rfl, ?_⟩
        show if (!(goodC z)) = true then _ else _
        by_cases g : goodC z = true
        · rw [g]
          exact ifF rfl (ok g H1 sm)
        · rw [Bool.not_eq_true] at g
          rw [g]
          exact ifT rfl (bad g H1 sm)
    · rw [Bool.not_eq_true] at c
      rw [c]
      refine ifT rfl ?_
      refine bad ?_ H (Same.refl H)
      cases x <;> first | rfl | cases c
end

namespace Rt
theorem sum_enc (ys : List (List Bool)) : ((ys.map enc).map (·.length)).sum = ys.flatten.length := by
  induction ys with
  | nil => rfl
  | cons y r ih => rw [List.map_cons, List.map_cons, List.sum_cons, ih, enc_len, List.flatten_cons, List.length_append]
theorem wd {i j : Int} (h : 0 < j) (h1 : j.natAbs < 2 ^ 1000) : CDivW i j := wide_div (b := 1000) h h1 (by decide) (by decide)
theorem int_run {a b : Nat} (h : b < a) (hb : 0 < b) : ((a : Int) - 1) / (b : Int) = (((a - 1) / b : Nat) : Int) := by
  rw [show ((a : Int) - 1) = ((a - 1 : Nat) : Int) by omega, ← Int.natCast_ediv]
theorem int_sub {a b : Nat} (h : b < a) : (a : Int) - (((a - 1) / b : Nat) : Int) * (b : Int) = ((a - (a - 1) / b * b : Nat) : Int) := by
  have e : (a - 1) / b * b ≤ a - 1 := Nat.div_mul_le_self _ _
  rw [Int.natCast_sub (by omega), Int.natCast_mul]
theorem run_pos {a b : Nat} (h : b < a) (hb : 0 < b) : 1 ≤ (a - 1) / b := (Nat.le_div_iff_mul_le hb).mpr (by omega)
end Rt
section
variable {P : Program} {w : World} {K : PySem.W.Frag} {mg : Str → Option Value} {base : Heap}
theorem ok_wol {f : Addr} {fd : FuncData} (F : Fun K "word_of_lengths" "word_of_lengths" S_word_of_lengths f fd) (T : Txt K mg) : FnOk P w K mg base CX0 1 f fd ["first", "second"] sp_wol := by
  refine F.ok SC_word_of_lengths (fun vs H Q E h => ?_) (fun cdv A outer s H vs Q E hr h => ?_)
  · obtain ⟨u, rfl, _⟩ := h
    rfl
  · obtain ⟨u, rfl, hu, q⟩ := h
    refine ⟨_, (pss_cons (ps_set (i := 2) SC_word_of_lengths.nd rfl (.inl rfl) (pe_lst pa_nil))
      (pss_cons (ps_while PassesOwn.never (pt_cmpR op_ne (pv 0) (pv 1) (nomark _)) (pss_one (ps_if (pt_cmpR op_gt (pv 0) (pv 1) (nomark _)) (pss_cons (ps_set (i := 3) SC_word_of_lengths.nd rfl (.inl rfl) (pe_op op_fdivW (pe_op op_sub (pv 0) pe_int) (pv 1)))
      (pss_cons (ps_expr (pe_bm PySem.F.plainAttrs_list PySem.F.slot_list_append PySem.F.type_list_append mt_append (pv 2) (pa_cons (pe_op op_mul_str pe_str (pv 3)) pa_nil)))
      (pss_one (ps_set (i := 0) SC_word_of_lengths.nd rfl (.inl rfl) (pe_op op_sub (pv 0) (pe_op op_mulW (pv 3) (pv 1))))))) (pss_cons (ps_set (i := 3) SC_word_of_lengths.nd rfl (.inl rfl) (pe_op op_fdivW (pe_op op_sub (pv 1) pe_int) (pv 0)))
      (pss_cons (ps_expr (pe_bm PySem.F.plainAttrs_list PySem.F.slot_list_append PySem.F.type_list_append mt_append (pv 2) (pa_cons (pe_op op_mul_str pe_str (pv 3)) pa_nil)))
      (pss_one (ps_set (i := 1) SC_word_of_lengths.nd rfl (.inl rfl) (pe_op op_sub (pv 1) (pe_op op_mulW (pv 3) (pv 0))))))))))
      (pss_one (ps_ret (pe_join pe_str (pv 2)))))), ?_⟩
    refine ⟨by show 0 ≤ sizeLine; decide, fun D hD => ?_⟩
    refine while_by (fun σ H' => (∀ b o, b ≠ D → H b = some o → H' b = some o) ∧ ∃ (ys : List (List Bool)) (v : List Bool) (x : Option V), ys.flatten ++ v = u ∧ ys.length + v.length ≤ u.length ∧ H' D = some (.lst (ys.map fun y => V.str (enc y))) ∧ σ = [some (.int (pr v).1), some (.int (pr v).2), some (.ref D), x])
      (fun σ _ => match σ with | [some (.int a), some (.int b), _, _] => (a + b).toNat | _ => 0) ⟨fun b o n e => by rw [upd_ne n]; exact e, [], u, none, rfl, by simp, upd_same, rfl⟩ (fun σ H1 hP => ?_) (fun σ H Q Q' h q => ?_)
    · obtain ⟨kp, ys, v, x, hf, hl, hH, rfl⟩ := hP
      have p := pr_pos v
      have hvl : v.length ≤ 900 := by omega
      have hyl : ys.length ≤ 900 := by omega
      have sm := pr_small hvl
      have n1 : (pr v).1 < 2 ^ 1000 := by have := sm.1; rwa [Int.natAbs_natCast] at this
      have n2 : (pr v).2 < 2 ^ 1000 := by have := sm.2; rwa [Int.natAbs_natCast] at this
      walk_at "kb"
      refine ite2 (fun h => ?_) (fun h => ?_)
      · walk_at "kb"
        refine ite2 (fun h2 => ?_) (fun h2 => ?_)
        · have lt : (pr v).2 < (pr v).1 := by have := of_decide_eq_true h2; omega
          obtain ⟨v', e1, e2⟩ := pr_run_r v lt
          have m1 := run_pos lt p.2
          have ml : ((pr v).1 - 1) / (pr v).2 ≤ v.length := by have := congrArg List.length e1; rw [List.length_append, List.length_replicate] at this; omega
          walk_at "kb"
          refine ⟨wd (by omega) sm.2, _, rfl, .inl ⟨rfl, _, SqL.of hH⟩, ?_⟩
          dsimp only
          rw [int_run lt p.2]
          walk_at "kb"
          refine ⟨by rw [show ("r" : Str).length = 1 by decide +kernel]; omega, ?_⟩
          refine ⟨D, _, _, rfl, rfl, hH, by rw [List.length_map]; exact szs (by omega), ?_⟩
          walk_at "kb"
          refine ⟨wm (by rw [Int.natAbs_natCast]; exact Nat.lt_of_le_of_lt (Nat.le_trans ml hvl) (by decide)) sm.2, ?_⟩
          refine ⟨_, _, rfl, rfl, ?_⟩
          dsimp only
          rw [int_sub lt]
          have l1 : (ys ++ [List.replicate (((pr v).1 - 1) / (pr v).2) true]).length = ys.length + 1 := by rw [List.length_append]; rfl
          have l2 : v.length = ((pr v).1 - 1) / (pr v).2 + v'.length := by have := congrArg List.length e1; rwa [List.length_append, List.length_replicate] at this
          refine ⟨⟨fun b o n e => by rw [upd_ne n]; exact kp b o n e, ys ++ [List.replicate (((pr v).1 - 1) / (pr v).2) true], v', some (.int (((pr v).1 - 1) / (pr v).2 : Nat)), ?_, by omega, ?_, ?_⟩, ?_⟩
          · rw [List.flatten_append, List.flatten_cons, List.flatten_nil, List.append_nil, List.append_assoc, ← e1]; exact hf
          · rw [upd_same, List.map_append, List.map_cons, List.map_nil, ← enc_rep, ← lit_r]; rfl
          · rw [e2]; rfl
          · have e3 : ((pr v).1 - 1) / (pr v).2 * (pr v).2 ≤ (pr v).1 - 1 := Nat.div_mul_le_self _ _
            have e4 : (pr v).2 ≤ ((pr v).1 - 1) / (pr v).2 * (pr v).2 := Nat.le_mul_of_pos_left _ m1
            show (((pr v).1 - ((pr v).1 - 1) / (pr v).2 * (pr v).2 : Nat) + ((pr v).2 : Int)).toNat < (((pr v).1 : Int) + (pr v).2).toNat
            omega
        · have ne : (pr v).1 ≠ (pr v).2 := fun e => by
            rw [e] at h
            simp at h
          have h3 : ¬ ((pr v).2 : Int) < (pr v).1 := fun z => h2 (decide_eq_true z)
          have lt : (pr v).1 < (pr v).2 := by omega
          obtain ⟨v', e1, e2⟩ := pr_run_l v lt
          have m1 := run_pos lt p.1
          have ml : ((pr v).2 - 1) / (pr v).1 ≤ v.length := by have := congrArg List.length e1; rw [List.length_append, List.length_replicate] at this; omega
          walk_at "kb"
          refine ⟨wd (by omega) sm.1, _, rfl, .inl ⟨rfl, _, SqL.of hH⟩, ?_⟩
          dsimp only
          rw [int_run lt p.1]
          walk_at "kb"
          refine ⟨by rw [show ("l" : Str).length = 1 by decide +kernel]; omega, ?_⟩
          refine ⟨D, _, _, rfl, rfl, hH, by rw [List.length_map]; exact szs (by omega), ?_⟩
          walk_at "kb"
          refine ⟨wm (by rw [Int.natAbs_natCast]; exact Nat.lt_of_le_of_lt (Nat.le_trans ml hvl) (by decide)) sm.1, ?_⟩
          refine ⟨_, _, rfl, rfl, ?_⟩
          dsimp only
          rw [int_sub lt]
          have l1 : (ys ++ [List.replicate (((pr v).2 - 1) / (pr v).1) false]).length = ys.length + 1 := by rw [List.length_append]; rfl
          have l2 : v.length = ((pr v).2 - 1) / (pr v).1 + v'.length := by have := congrArg List.length e1; rwa [List.length_append, List.length_replicate] at this
          refine ⟨⟨fun b o n e => by rw [upd_ne n]; exact kp b o n e, ys ++ [List.replicate (((pr v).2 - 1) / (pr v).1) false], v', some (.int (((pr v).2 - 1) / (pr v).1 : Nat)), ?_, by omega, ?_, ?_⟩, ?_⟩
          · rw [List.flatten_append, List.flatten_cons, List.flatten_nil, List.append_nil, List.append_assoc, ← e1]; exact hf
          · rw [upd_same, List.map_append, List.map_cons, List.map_nil, ← enc_rep, ← lit_l]; rfl
          · rw [e2]; rfl
          · have e3 : ((pr v).2 - 1) / (pr v).1 * (pr v).1 ≤ (pr v).2 - 1 := Nat.div_mul_le_self _ _
            have e4 : (pr v).1 ≤ ((pr v).2 - 1) / (pr v).1 * (pr v).1 := Nat.le_mul_of_pos_left _ m1
            show (((pr v).1 : Int) + ((pr v).2 - ((pr v).2 - 1) / (pr v).1 * (pr v).1 : Nat)).toNat < (((pr v).1 : Int) + (pr v).2).toNat
            omega
      · have ev : v = [] := pr_eq (by
          have z : decide (V.int (pr v).1 = V.int (pr v).2) = true := by simpa using h
          have := V.int.inj (of_decide_eq_true z)
          omega)
        subst ev
        walk_at "kb"
        refine ⟨_, _, ys.map enc, rfl, rfl, .inl (SqL.of (by rw [List.map_map]; exact hH)), ?_, ?_⟩
        · rw [sum_enc, empty_len]
          have := congrArg List.length hf
          rw [List.length_append] at this
          simp only [List.length_nil] at this
          omega
        · rw [join_enc]
          rw [List.append_nil] at hf
          rw [hf]
          exact q H1 fun b o e => kp b o (ne_of_none e hD) e
    · obtain ⟨v1, e1, v2, e2, z, b, eb, q⟩ := q
      exact ⟨v1, e1, v2, e2, z, b, eb, h _ _ q⟩
theorem ok_word {f C : Addr} {fd : FuncData} (F : Fun K "word" "Ratio.word" S_Ratio_word f fd) (T : Txt K mg) (R : RatT K mg C) (C_wol : FnC P w K mg base CX0 1 "word_of_lengths" ["first", "second"] sp_wol) : FnOk P w K mg base CX0 2 f fd ["self"] (sp_word C) := by
  refine F.ok SC_Ratio_word (fun vs H Q E h => ?_) (fun cdv A outer s H vs Q E hr h => ?_)
  · obtain ⟨p, u, rfl, _⟩ := h
    rfl
  · obtain ⟨p, u, rfl, ⟨dx, hp⟩, hu, q⟩ := h
    refine ⟨_, (pss_one (ps_ret (pe_callC C_wol hr rfl (pa_cons (pe_fld (pv 0) rfl) (pa_cons (pe_fld (pv 0) rfl) pa_nil))))), ?_⟩
    exact ⟨_, rfl, p, C, dx, _, _, rfl, hp, R.ins.cl, R.n1, rf1 _ _, _, rfl, p, C, dx, _, _, rfl, hp, R.ins.cl, R.n2, rf2 _ _, u, rfl, hu, q⟩
--@ofword
theorem ok_ofword {f C IR IW : Addr} {fd : FuncData} (F : Fun K "of_word" "Ratio.of_word" S_Ratio_of_word f fd) (T : Txt K mg) (C_need : FnC P w K mg base (L2.CX P w) 4 "need_word" ["value"] (sp_need IW K)) (C_ratioX : MkC P w K mg base (L2.CX P w) 4 C "Ratio" ["self", "first", "second"] (sp_init C IR K)) :
    FnOk P w K mg base (L2.CX P w) 6 f fd ["cls", "word"] (sp_ofword C IW K) := by
  refine F.okX SC_Ratio_of_word (fun vs H Q E h => ?_) (fun cdv A outer s H vs Q E hr h => ?_)
  · obtain ⟨x, rfl, _⟩ := h
    rfl
  · obtain ⟨x, rfl, kd, hz, ok, bad⟩ := h
    refine ⟨_, (pss_cons (ps_expr (pe_callSC C_need (hr.mono (by decide)) (takes_of rfl rfl rfl rfl) rfl (pa_cons (pv 1) pa_nil)))
      (pss_cons (ps_asg (pe_tup (pa_cons pe_int (pa_cons pe_int pa_nil))) (pg_tup rfl (pgs_cons (pg_name (i := 2) SC_Ratio_of_word.nd rfl (.inl rfl)) (pgs_cons (pg_name (i := 3) SC_Ratio_of_word.nd rfl (.inl rfl)) pgs_nil))))
      (pss_cons (ps_for (passes_of rfl) rfl (pi_str (pe_revS (pv 1))) (pg_name (i := 4) SC_Ratio_of_word.nd rfl (.inl rfl)) (pss_one (ps_if (pt_cmpR op_eq (pv 4) pe_str (nomark _)) (pss_one (ps_set (i := 3) SC_Ratio_of_word.nd rfl (.inl rfl) (pe_op op_add (pv 3) (pv 2)))) (pss_one (ps_set (i := 2) SC_Ratio_of_word.nd rfl (.inl rfl) (pe_op op_add (pv 2) (pv 3)))))))
      (pss_one (ps_ret (pe_makeL (i := 0) C_ratioX (hr.mono (by decide)) (takes_of rfl rfl rfl rfl) rfl (.inl rfl) (pa_cons (pv 2) (pa_cons (pv 3) pa_nil)))))))), ?_⟩
    refine ⟨_, rfl, x, rfl, kd, fun z e => Nat.le_trans (hz z e) (by decide), fun g H1 sm1 => ?_, fun g H1 sm1 => bad g H1 sm1⟩
    obtain ⟨u, rfl⟩ : ∃ u, x = .str (enc u) := by
      cases x with
      | str z => obtain ⟨u, rfl⟩ := good_is g; exact ⟨u, rfl⟩
      | _ => cases g
    have hu : u.length ≤ 900 := by have := hz _ rfl; rwa [enc_len] at this
    refine ⟨by show 2 ≤ sizeLine; decide, fun p0 hp0 => ⟨p0, _, rfl, SqT.of upd_same, rfl, _, _, rfl, _, _, rfl, rfl, ?_⟩⟩
    have hlr : (enc u.reverse).cps.size = u.length := by show (enc u.reverse).length = _; rw [enc_len, List.length_reverse]
    refine ⟨_, rfl, enc u, rfl, by rw [enc_len]; exact Nat.le_trans hu (by decide), enc u.reverse, congrArg V.str (enc_rev u), for_it (walk_str (z := enc u.reverse)) (fun i σ H' => Same H H' ∧ ∃ x : Option V, σ = [some (.ref C), some (.str (enc u)), some (.int (pr (u.reverse.take i).reverse).1), some (.int (pr (u.reverse.take i).reverse).2), x])
      ⟨fun a o e => by rw [upd_ne (ne_of_none (sm1 a o e) hp0)]; exact sm1 a o e, none, rfl⟩ (fun _ _ _ _ _ => trivial) (fun i v σ H1 H2 hi hP hY => ?_) (fun σ H2 hP => ?_)⟩
    · obtain ⟨sm, x, rfl⟩ := hP
      obtain ⟨rfl, c, hc, rfl⟩ := hY
      have hi' : i < u.reverse.length := by rw [List.length_reverse, ← hlr]; exact hi
      have ec : c = cd u.reverse[i] := by
        rw [← Array.getElem?_toList, enc_cps, List.getElem?_map, List.getElem?_eq_getElem hi'] at hc
        exact (Option.some.inj hc).symm
      have et : (u.reverse.take (i + 1)).reverse = u.reverse[i] :: (u.reverse.take i).reverse := by
        rw [List.take_succ_eq_append_getElem hi', List.reverse_append]; rfl
      generalize u.reverse[i] = y at ec et
      subst ec
      walk_at "kb"
      have step : pr (u.reverse.take (i + 1)).reverse = pr (y :: (u.reverse.take i).reverse) := by rw [et]
      refine ite2 (fun h => ?_) (fun h => ?_)
      · have e := of_decide_eq_true h
        have ey : y = false := by revert e; cases y <;> decide +kernel
        subst ey
        walk_at "kb"
        exact ⟨some (.str ⟨#[cd false]⟩), by rw [step]; simp [pr, Int.add_comm]⟩
      · have e := fun z => h (decide_eq_true z)
        have ey : y = true := by revert e; cases y <;> decide +kernel
        subst ey
        walk_at "kb"
        exact ⟨some (.str ⟨#[cd true]⟩), by rw [step]; simp [pr]⟩
    · obtain ⟨sm, x, rfl⟩ := hP
      rw [hlr]
      have eu : (u.reverse.take u.length).reverse = u := by rw [List.take_of_length_le (by rw [List.length_reverse]; exact Nat.le_refl _), List.reverse_reverse]
      rw [eu]
      have p := pr_pos u
      have sz := pr_small hu
      refine ⟨rfl, _, rfl, _, rfl, fun r dx hr' hdx hne => ?_⟩
      refine ⟨r, dx, _, _, rfl, Kd.int _, Kd.int _, upd_same, fun _ _ => ⟨_, _, rfl, rfl, sz.1, sz.2, fun H4 k4 hR4 => ⟨rfl, ?_⟩⟩, fun b => ?_⟩
      · rw [(pr_div u).1, (pr_div u).2] at hR4
        exact ok u rfl r H4 (sm.free hr') (fun b o e => k4 b o (ne_of_none (sm b o e) hr') (by rw [upd_ne (ne_of_none (sm b o e) hr'), upd_ne (ne_of_none (sm b o e) hdx)]; exact sm b o e)) hR4
      · have b1 : isLen (.int ((pr u).1 : Int)) = true := decide_eq_true (by omega)
        have b2 : isLen (.int ((pr u).2 : Int)) = true := decide_eq_true (by omega)
        rw [b1, b2] at b
        cases b
--@*
end

section
variable {P : Program} {w : World} {K : PySem.W.Frag} {mg : Str → Option Value} {base : Heap}
theorem ok_lt {f C : Addr} {fd : FuncData} (F : Fun K "__lt__" "Ratio.__lt__" S_Ratio__lt_ f fd) (T : Txt K mg) (R : RatT K mg C) : FnOk P w K mg base CX0 1 f fd ["self", "other"] (sp_cmp C r_lt) := by
  refine F.ok SC_Ratio__lt_ (fun vs H Q E h => ?_) (fun cdv A outer s H vs Q E hr h => ?_)
  · obtain ⟨p, q, a, b, c, d, rfl, _⟩ := h
    rfl
  · obtain ⟨p, q, a, b, c, d, rfl, ⟨dx, hp⟩, ⟨dy, hq⟩, a1, b1, c1, d1, k⟩ := h
    refine ⟨_, (pss_cons (ps_if (pt_not (pt_val (pe_callB call_isi (by rfl) T.b_isinstance (by decide +kernel) (pa_cons (pv 1) (pa_cons (pe_glob (v := .ref C) (by rfl) R.mgC rfl) pa_nil))))) (pss_one ps_never) pss_nil)
      (pss_one (ps_ret (pe_cmpR op_lt (pe_op op_mulW (pe_fld (pv 0) rfl) (pe_fld (pv 1) rfl)) (pe_op op_mulW (pe_fld (pv 1) rfl) (pe_fld (pv 0) rfl)) (nomark _))))), ?_⟩
    refine ⟨_, rfl, .ref q, _, .ref C, _, true, rfl, .own C, R.ty hq, R.ins.me, _, rfl, ifF rfl ?_⟩
    refine ⟨_, rfl, p, C, dx, _, _, rfl, hp, R.ins.cl, R.n1, rf1 _ _, _, rfl, q, C, dy, _, _, rfl, hq, R.ins.cl, R.n2, rf2 _ _, _, _, rfl, rfl, wm a1 d1, ?_⟩
    refine ⟨_, rfl, q, C, dy, _, _, rfl, hq, R.ins.cl, R.n1, rf1 _ _, _, rfl, p, C, dx, _, _, rfl, hp, R.ins.cl, R.n2, rf2 _ _, _, _, rfl, rfl, wm c1 b1, ?_⟩
    exact ⟨_, _, rfl, rfl, k⟩
theorem ok_le {f C : Addr} {fd : FuncData} (F : Fun K "__le__" "Ratio.__le__" S_Ratio__le_ f fd) (T : Txt K mg) (R : RatT K mg C) : FnOk P w K mg base CX0 1 f fd ["self", "other"] (sp_cmp C r_le) := by
  refine F.ok SC_Ratio__le_ (fun vs H Q E h => ?_) (fun cdv A outer s H vs Q E hr h => ?_)
  · obtain ⟨p, q, a, b, c, d, rfl, _⟩ := h
    rfl
  · obtain ⟨p, q, a, b, c, d, rfl, ⟨dx, hp⟩, ⟨dy, hq⟩, a1, b1, c1, d1, k⟩ := h
    refine ⟨_, (pss_cons (ps_if (pt_not (pt_val (pe_callB call_isi (by rfl) T.b_isinstance (by decide +kernel) (pa_cons (pv 1) (pa_cons (pe_glob (v := .ref C) (by rfl) R.mgC rfl) pa_nil))))) (pss_one ps_never) pss_nil)
      (pss_one (ps_ret (pe_cmpR op_le (pe_op op_mulW (pe_fld (pv 0) rfl) (pe_fld (pv 1) rfl)) (pe_op op_mulW (pe_fld (pv 1) rfl) (pe_fld (pv 0) rfl)) (nomark _))))), ?_⟩
    refine ⟨_, rfl, .ref q, _, .ref C, _, true, rfl, .own C, R.ty hq, R.ins.me, _, rfl, ifF rfl ?_⟩
    refine ⟨_, rfl, p, C, dx, _, _, rfl, hp, R.ins.cl, R.n1, rf1 _ _, _, rfl, q, C, dy, _, _, rfl, hq, R.ins.cl, R.n2, rf2 _ _, _, _, rfl, rfl, wm a1 d1, ?_⟩
    refine ⟨_, rfl, q, C, dy, _, _, rfl, hq, R.ins.cl, R.n1, rf1 _ _, _, rfl, p, C, dx, _, _, rfl, hp, R.ins.cl, R.n2, rf2 _ _, _, _, rfl, rfl, wm c1 b1, ?_⟩
    exact ⟨_, _, rfl, rfl, k⟩
theorem ok_gt {f C : Addr} {fd : FuncData} (F : Fun K "__gt__" "Ratio.__gt__" S_Ratio__gt_ f fd) (T : Txt K mg) (R : RatT K mg C) : FnOk P w K mg base CX0 1 f fd ["self", "other"] (sp_cmp C r_gt) := by
  refine F.ok SC_Ratio__gt_ (fun vs H Q E h => ?_) (fun cdv A outer s H vs Q E hr h => ?_)
  · obtain ⟨p, q, a, b, c, d, rfl, _⟩ := h
    rfl
  · obtain ⟨p, q, a, b, c, d, rfl, ⟨dx, hp⟩, ⟨dy, hq⟩, a1, b1, c1, d1, k⟩ := h
    refine ⟨_, (pss_cons (ps_if (pt_not (pt_val (pe_callB call_isi (by rfl) T.b_isinstance (by decide +kernel) (pa_cons (pv 1) (pa_cons (pe_glob (v := .ref C) (by rfl) R.mgC rfl) pa_nil))))) (pss_one ps_never) pss_nil)
      (pss_one (ps_ret (pe_cmpR op_gt (pe_op op_mulW (pe_fld (pv 0) rfl) (pe_fld (pv 1) rfl)) (pe_op op_mulW (pe_fld (pv 1) rfl) (pe_fld (pv 0) rfl)) (nomark _))))), ?_⟩
    refine ⟨_, rfl, .ref q, _, .ref C, _, true, rfl, .own C, R.ty hq, R.ins.me, _, rfl, ifF rfl ?_⟩
    refine ⟨_, rfl, p, C, dx, _, _, rfl, hp, R.ins.cl, R.n1, rf1 _ _, _, rfl, q, C, dy, _, _, rfl, hq, R.ins.cl, R.n2, rf2 _ _, _, _, rfl, rfl, wm a1 d1, ?_⟩
    refine ⟨_, rfl, q, C, dy, _, _, rfl, hq, R.ins.cl, R.n1, rf1 _ _, _, rfl, p, C, dx, _, _, rfl, hp, R.ins.cl, R.n2, rf2 _ _, _, _, rfl, rfl, wm c1 b1, ?_⟩
    exact ⟨_, _, rfl, rfl, k⟩
theorem ok_ge {f C : Addr} {fd : FuncData} (F : Fun K "__ge__" "Ratio.__ge__" S_Ratio__ge_ f fd) (T : Txt K mg) (R : RatT K mg C) : FnOk P w K mg base CX0 1 f fd ["self", "other"] (sp_cmp C r_ge) := by
  refine F.ok SC_Ratio__ge_ (fun vs H Q E h => ?_) (fun cdv A outer s H vs Q E hr h => ?_)
  · obtain ⟨p, q, a, b, c, d, rfl, _⟩ := h
    rfl
  · obtain ⟨p, q, a, b, c, d, rfl, ⟨dx, hp⟩, ⟨dy, hq⟩, a1, b1, c1, d1, k⟩ := h
    refine ⟨_, (pss_cons (ps_if (pt_not (pt_val (pe_callB call_isi (by rfl) T.b_isinstance (by decide +kernel) (pa_cons (pv 1) (pa_cons (pe_glob (v := .ref C) (by rfl) R.mgC rfl) pa_nil))))) (pss_one ps_never) pss_nil)
      (pss_one (ps_ret (pe_cmpR op_ge (pe_op op_mulW (pe_fld (pv 0) rfl) (pe_fld (pv 1) rfl)) (pe_op op_mulW (pe_fld (pv 1) rfl) (pe_fld (pv 0) rfl)) (nomark _))))), ?_⟩
    refine ⟨_, rfl, .ref q, _, .ref C, _, true, rfl, .own C, R.ty hq, R.ins.me, _, rfl, ifF rfl ?_⟩
    refine ⟨_, rfl, p, C, dx, _, _, rfl, hp, R.ins.cl, R.n1, rf1 _ _, _, rfl, q, C, dy, _, _, rfl, hq, R.ins.cl, R.n2, rf2 _ _, _, _, rfl, rfl, wm a1 d1, ?_⟩
    refine ⟨_, rfl, q, C, dy, _, _, rfl, hq, R.ins.cl, R.n1, rf1 _ _, _, rfl, p, C, dx, _, _, rfl, hp, R.ins.cl, R.n2, rf2 _ _, _, _, rfl, rfl, wm c1 b1, ?_⟩
    exact ⟨_, _, rfl, rfl, k⟩
theorem ok_eq {f C : Addr} {fd : FuncData} (F : Fun K "__eq__" "Ratio.__eq__" S_Ratio__eq_ f fd) (T : Txt K mg) (R : RatT K mg C) : FnOk P w K mg base CX0 1 f fd ["self", "other"] (sp_cmp C r_eq) := by
  refine F.ok SC_Ratio__eq_ (fun vs H Q E h => ?_) (fun cdv A outer s H vs Q E hr h => ?_)
  · obtain ⟨p, q, a, b, c, d, rfl, _⟩ := h
    rfl
  · obtain ⟨p, q, a, b, c, d, rfl, ⟨dx, hp⟩, ⟨dy, hq⟩, a1, b1, c1, d1, k⟩ := h
    refine ⟨_, (pss_one (ps_ret (pe_and (pe_callB call_isi (by rfl) T.b_isinstance (by decide +kernel) (pa_cons (pv 1) (pa_cons (pe_glob (v := .ref C) (by rfl) R.mgC rfl) pa_nil))) (pe_and (pe_cmpR op_eq (pe_fld (pv 0) rfl) (pe_fld (pv 1) rfl) (nomark _)) (pe_one (pe_cmpR op_eq (pe_fld (pv 0) rfl) (pe_fld (pv 1) rfl) (nomark _))))))), ?_⟩
    refine ⟨_, rfl, .ref q, _, .ref C, _, true, rfl, .own C, R.ty hq, R.ins.me, _, rfl, ifT rfl ?_⟩
    refine ⟨_, rfl, p, C, dx, _, _, rfl, hp, R.ins.cl, R.n1, rf1 _ _, _, rfl, q, C, dy, _, _, rfl, hq, R.ins.cl, R.n1, rf1 _ _, rfl, _, rfl, ?_⟩
    refine ite2 (fun h => ?_) (fun h => ?_)
    · refine ⟨_, rfl, p, C, dx, _, _, rfl, hp, R.ins.cl, R.n2, rf2 _ _, _, rfl, q, C, dy, _, _, rfl, hq, R.ins.cl, R.n2, rf2 _ _, rfl, ?_⟩
      have e : r_eq a b c d = decide (V.int b = V.int d) := by unfold r_eq; rw [h]; rfl
      rw [e] at k
      exact k
    · have e : r_eq a b c d = false := by unfold r_eq; rw [Bool.eq_false_iff.mpr h]; rfl
      rw [e] at k
      exact k
end

/-! ## changes -/
namespace Ch
def isNat : V → Bool | .int i => decide (0 ≤ i) | _ => false
def cf (q : Addr) (t : Int) : List (Str × V) := putF "turn" (.int t) (putF "numbers" (.ref q) [])
theorem n_nt : ¬ (("numbers" : Str) = "turn") := by decide +kernel
theorem n_tn : ¬ (("turn" : Str) = "numbers") := by decide +kernel
theorem cf1 (q : Addr) (t : Int) : (cf q t).lookup ("numbers" : Str) = some (.ref q) := by
  unfold cf; rw [lookup_putF, if_neg n_nt, lookup_putF, if_pos rfl]
theorem cf2 (q : Addr) (t : Int) : (cf q t).lookup ("turn" : Str) = some (.int t) := by
  unfold cf; rw [lookup_putF, if_pos rfl]
def ChAt (CC : Addr) (H : Hp) (p : Addr) (a b c d : Int) : Prop := ∃ dx q, H p = some (.ins CC dx (cf q (a * d - b * c))) ∧ H q = some (.tup [.int a, .int b, .int c, .int d])
theorem ChAt.same {C : Addr} {H H' : Hp} {p : Addr} {a b c d : Int} (x : ChAt C H p a b c d) (s : Same H H') : ChAt C H' p a b c d := let ⟨d, q, h, k⟩ := x; ⟨d, q, s _ _ h, s _ _ k⟩
structure ChT (K : PySem.W.Frag) (mg : Str → Option Value) (C : Addr) : Prop where
  ins : C8.InsC K C
  n1 : NoAttr K C "numbers"
  n2 : NoAttr K C "turn"
  mgC : mg "Change" = some (.ref C)
  nf : PySem.W.notFirst K C (.ref C) = true
  ne : PySem.W.findIn K (.ref C) "__ne__" = some (some (.builtin "object.__ne__"))
  so : PySem.W.subIn K (.ref C) (.type "object") = some true
theorem ChT.cl {K : PySem.W.Frag} {mg : Str → Option Value} {C : Addr} (T : ChT K mg C) : Cls K C := T.ins.cl
theorem ChT.ty {K : PySem.W.Frag} {mg : Str → Option Value} {C : Addr} (T : ChT K mg C) {H : Hp} {p dx : Addr} {fs : List (Str × V)} (h : H p = some (.ins C dx fs)) : TyX K H (.ref p) (.ref C) := .base (.ins h T.ins.cl T.ins.ha T.ins.hn T.ins.htk T.ins.hm)
def nats (u1 u2 u3 u4 : V) : Bool := isNat u1 && isNat u2 && isNat u3 && isNat u4
/-- Change(a, b, c, d): made, or refused -/
def sp_chinit (CC IC : Addr) (K : PySem.W.Frag) : Sp := fun vs H Q E => ∃ (x dx : Addr) (u1 u2 u3 u4 : V), vs = [.ref x, u1, u2, u3, u4] ∧ (Kd K H u1 ∧ Kd K H u2 ∧ Kd K H u3 ∧ Kd K H u4) ∧ H x = some (.ins CC dx []) ∧
  (nats u1 u2 u3 u4 = true → ∃ i j m n : Int, u1 = .int i ∧ u2 = .int j ∧ u3 = .int m ∧ u4 = .int n ∧ (i.natAbs < 2 ^ 1000 ∧ j.natAbs < 2 ^ 1000 ∧ m.natAbs < 2 ^ 1000 ∧ n.natAbs < 2 ^ 1000) ∧
    (i * n ≠ j * m → ∀ H', (∀ a o, a ≠ x → H a = some o → H' a = some o) → ChAt CC H' x i j m n → Q .non H') ∧ (i * n = j * m → ∀ H', Same H H' → E (.ref IC) none H')) ∧
  (nats u1 u2 u3 u4 = false → ∀ H', Same H H' → E (.ref IC) none H')
theorem lcR_tupC {K : PySem.W.Frag} {a : Addr} {xs : List V} {g : TG} {te : TE} {vs : List Nat} {σ : L2.St} {H1 : Hp} {D : Addr} {Qd : Hp → Prop} (M : Nat → Hp → Prop) (h0 : M 0 (upd H1 D (.lst []))) (hl : ∀ i H, i ≤ xs.length → M i H → SqT K H a xs)
    (hs : ∀ i x H, xs[i]? = some x → M i H → g x (wipe σ vs) H fun σ2 H2 => wipe σ2 vs = wipe σ vs ∧ te σ2 H2 fun y H4 => ∃ acc, H4 D = some (.lst acc) ∧ acc.length < sizeLine ∧ M (i + 1) (upd H4 D (.lst (acc ++ [y]))))
    (hm : ∀ x σ H Q Q', (∀ σ2 H2, Q σ2 H2 → Q' σ2 H2) → g x σ H Q → g x σ H Q') (hd : ∀ H, M xs.length H → Qd H) : LcR (Itt K a) g tYes te vs σ H1 D Qd :=
  lc_it walk_tup M h0 hl (fun i x H H' hi m y => by
    obtain ⟨e, hx⟩ := y
    subst e
    exact hm _ _ _ _ _ (fun σ2 H2 z => ⟨z.1, ifT (B := M (i + 1) H2) rfl z.2⟩) (hs i x _ hx m)) hd
theorem isNat_int {x : V} (h : isNat x = true) : ∃ i, x = .int i := by cases x <;> first | exact ⟨_, rfl⟩ | cases h
def sp_lm : Sp := fun vs H Q _ => ∃ (q : Addr) (a b c d x y : Int), vs = [.ref q, .int x, .int y] ∧ H q = some (.tup [.int a, .int b, .int c, .int d]) ∧ (a.natAbs < 2 ^ 1000 ∧ b.natAbs < 2 ^ 1000 ∧ c.natAbs < 2 ^ 1000 ∧ d.natAbs < 2 ^ 1000 ∧ x.natAbs < 2 ^ 1000 ∧ y.natAbs < 2 ^ 1000) ∧
  ∀ (p : Addr) (H' : Hp), H p = none → Same H H' → H' p = some (.tup [.int (a * x + b * y), .int (c * x + d * y)]) → Q (.ref p) H'
def sp_call (CC NP : Addr) (K : PySem.W.Frag) : Sp := fun vs H Q E => ∃ (p : Addr) (u v : V) (a b c d : Int), vs = [.ref p, u, v] ∧ Kd K H u ∧ Kd K H v ∧ ChAt CC H p a b c d ∧ (a.natAbs < 2 ^ 1000 ∧ b.natAbs < 2 ^ 1000 ∧ c.natAbs < 2 ^ 1000 ∧ d.natAbs < 2 ^ 1000) ∧
  (isLen u = true → isLen v = true → ∃ x y : Int, u = .int x ∧ v = .int y ∧ x.natAbs < 2 ^ 1000 ∧ y.natAbs < 2 ^ 1000 ∧ ∀ (r : Addr) (H' : Hp), H r = none → Same H H' → H' r = some (.tup [.int (a * x + b * y), .int (c * x + d * y)]) → Q (.ref r) H') ∧
  ((isLen u && isLen v) = false → E (.ref NP) none H)
def sp_abs (CC : Addr) : Sp := fun vs H Q _ => ∃ (p : Addr) (a b c d : Int), vs = [.ref p] ∧ ChAt CC H p a b c d ∧ Q (.int (if a * d - b * c < 0 then -(a * d - b * c) else a * d - b * c)) H
def sp_cheq (CC : Addr) (K : PySem.W.Frag) : Sp := fun vs H Q _ => ∃ (p : Addr) (y : V) (a b c d : Int), vs = [.ref p, y] ∧ ChAt CC H p a b c d ∧
  ((∃ (q : Addr) (a' b' c' d' : Int), y = .ref q ∧ ChAt CC H q a' b' c' d' ∧ Q (.bl (decide (a = a' ∧ b = b' ∧ c = c' ∧ d = d'))) H) ∨ (∃ t, TyX K H y t ∧ PySem.W.kitOne K t (.ref CC) = some false ∧ Q (.bl false) H))
theorem eqv4 (a b c d a' b' c' d' : Int) : PyData.eqv (.tuple [.int a, .int b, .int c, .int d]) (.tuple [.int a', .int b', .int c', .int d']) = decide (a = a' ∧ b = b' ∧ c = c' ∧ d = d') := by
  simp only [PyData.eqv, PyData.eqvAll, Bool.and_true]
  rw [Bool.eq_iff_iff]
  simp
theorem dp4 {K : PySem.W.Frag} {H : Hp} {q : Addr} {a b c d : Int} (h : H q = some (.tup [.int a, .int b, .int c, .int d])) : Dp K H (.ref q) (.tuple [.int a, .int b, .int c, .int d]) := .tup (SqT.of h) (.cons (.int _) (.cons (.int _) (.cons (.int _) (.cons (.int _) .nil))))
end Ch
open Ch
section
variable {P : Program} {w : World} {K : PySem.W.Frag} {mg : Str → Option Value} {base : Heap}
theorem ok_chinit {f CC IC : Addr} {fd : FuncData} (F : Fun K "__init__" "Change.__init__" S_Change__init_ f fd) (T : Txt K mg) (Rc : ChT K mg CC) (E_InvalidChange : ErC P w K mg base "InvalidChange" IC) (C_isint : FnC P w K mg base CX0 1 "is_integer" ["value"] (sp_isint K)) :
    FnOk P w K mg base (L2.CX P w) 4 f fd ["self", "a", "b", "c", "d"] (sp_chinit CC IC K) := by
  refine F.okX SC_Change__init_ (fun vs H Q E h => ?_) (fun cdv A outer s H vs Q E hr h => ?_)
  · obtain ⟨x, dx, u1, u2, u3, u4, rfl, _⟩ := h
    rfl
  · obtain ⟨x, dx, u1, u2, u3, u4, rfl, ⟨k1, k2, k3, k4⟩, hx, ok, bad⟩ := h
    refine ⟨_, (pss_cons (ps_set (i := 5) SC_Change__init_.nd rfl (.inl rfl) (pe_tup (pa_cons (pv 1) (pa_cons (pv 2) (pa_cons (pv 3) (pa_cons (pv 4) pa_nil))))))
      (pss_cons (ps_if (PW.pt (pw_or (pt_not (pt_val (pe_callB (cr_all rfl) (by rfl) T.b_all (by decide +kernel) (pa_cons (pe_lc (own := [("number", 6)]) (g := gName 6) (by rfl) SC_Change__init_.nd (pi_tup (pv 5)) (blkOk_by (own := [("number", 6)]) (N := N_Change__init_) (sc := defScope S_Change__init_) (by decide +kernel)) (fun _ _ _ _ _ => pg_name (i := 6) SC_Change__init_.nd rfl (Or.inl rfl)) (fun _ _ _ _ _ => pts_nil) (fun _ _ _ _ _ => (pe_and (pe_callC C_isint (hr.mono (by decide)) rfl (pa_cons (pv 6) pa_nil)) (pe_one (pe_cmpR op_ge (pv 6) pe_int (nomark _)))))) pa_nil)))) (pw_or1 (pt_cmpR op_eq (pe_op op_mulW (pv 1) (pv 4)) (pe_op op_mulW (pv 2) (pv 3)) (nomark _))))) (pss_one (ps_raise0 E_InvalidChange (hr.mono (by decide)) rfl (takes_of rfl rfl rfl rfl) rfl)) pss_nil)
      (pss_cons (ps_fld (pv 0) (pv 5) rfl)
      (pss_one (ps_fld (pv 0) (pe_op op_sub (pe_op op_mulW (pv 1) (pv 4)) (pe_op op_mulW (pv 2) (pv 3))) rfl))))), ?_⟩
    walk_at "kb"
    intro q hq
    have sq : Same H (upd H q (.tup [u1, u2, u3, u4])) := fun a o e => by rw [upd_ne (ne_of_none e hq)]; exact e
    walk_at "kb"
    refine ⟨⟨_, SqT.of upd_same⟩, fun D hD => ?_⟩
    have qD : q ≠ D := ne_of_none upd_same hD
    have each : ∀ (i : Nat) v, [u1, u2, u3, u4][i]? = some v → Kd K H v := fun i v h => by
      match i, h with
      | 0, h => cases h; exact k1
      | 1, h => cases h; exact k2
      | 2, h => cases h; exact k3
      | 3, h => cases h; exact k4
      | i + 4, h => simp at h
    refine lcR_tupC (xs := [u1, u2, u3, u4]) (fun i H' => (∀ b o, b ≠ D → (upd H q (.tup [u1, u2, u3, u4])) b = some o → H' b = some o) ∧ H' D = some (.lst ((([u1, u2, u3, u4].take i).map isNat).map V.bl))) ⟨fun b o n e => by rw [upd_ne n]; exact e, upd_same⟩
      (fun i H' _ m => SqT.of (m.1 q _ qD upd_same)) (fun i v H1 hi m => ?_) (gName_mono _) (fun H1 m => ?_)
    · obtain ⟨kp, hH⟩ := m
      have kd := (each i v hi).same sq
      have kd1 : Kd K H1 v := kd.at fun a o e h => kp a o (ne_of_none h hD) h
      have hilt : i < 4 := (List.getElem?_eq_some_iff.mp hi).1
      have fin : ∃ acc, H1 D = some (.lst acc) ∧ acc.length < sizeLine ∧ ((∀ b o, b ≠ D → (upd H q (.tup [u1, u2, u3, u4])) b = some o → (upd H1 D (.lst (acc ++ [.bl (isNat v)]))) b = some o) ∧ (upd H1 D (.lst (acc ++ [.bl (isNat v)]))) D = some (.lst ((([u1, u2, u3, u4].take (i + 1)).map isNat).map V.bl))) := by
        refine ⟨_, hH, ?_, fun b o n e => by rw [upd_ne n]; exact kp b o n e, ?_⟩
        · rw [List.length_map, List.length_map, List.length_take]
          exact szs (by show min i 4 ≤ _; omega)
        · rw [upd_same, List.take_succ, hi, List.map_append, List.map_append]; rfl
      refine ⟨rfl, _, rfl, v, rfl, kd1, _, rfl, ?_⟩
      cases v with
      | int j => exact ifT rfl ⟨_, rfl, _, _, rfl, rfl, fin⟩
      | bl b => exact ifF rfl fin
      | non => exact ifF rfl fin
      | str z => exact ifF rfl fin
      | byt z => exact ifF rfl fin
      | flt z => exact ifF rfl fin
      | ref z => exact ifF rfl fin
      | ty z => exact ifF rfl fin
    · obtain ⟨kp, hH⟩ := m
      have sm1 : Same H H1 := fun b o e => kp b o (ne_of_none (sq b o e) hD) (sq b o e)
      have hq1 : H1 q = some (.tup [u1, u2, u3, u4]) := kp q _ qD upd_same
      refine ⟨_, _, rfl, SqL.of hH, _, rfl, ?_⟩
      have en : ((List.map isNat (List.take [u1, u2, u3, u4].length [u1, u2, u3, u4])).all id) = nats u1 u2 u3 u4 := by
        show (isNat u1 && (isNat u2 && (isNat u3 && (isNat u4 && true)))) = _
        unfold nats
        cases isNat u1 <;> cases isNat u2 <;> cases isNat u3 <;> cases isNat u4 <;> rfl
      rw [en]
      by_cases hn : nats u1 u2 u3 u4 = true
      · rw [hn]
        refine ifF rfl ?_
        obtain ⟨i, j, m, n, rfl, rfl, rfl, rfl, ⟨b1, b2, b3, b4⟩, yes, no⟩ := ok hn
        refine ⟨_, rfl, _, rfl, _, _, rfl, rfl, wm b1 b4, _, rfl, _, rfl, _, _, rfl, rfl, wm b2 b3, ?_⟩
        walk_at "kb"
        refine ite2 (fun h => ?_) (fun h => ?_)
        · exact no (V.int.inj (of_decide_eq_true h)) H1 sm1
        · have hne : i * n ≠ j * m := fun e => h (decide_eq_true (congrArg V.int e))
          have nqx : q ≠ x := fun e => by rw [e] at hq1; have := sm1 x _ hx; rw [hq1] at this; cases this
          walk_at "kb"
          refine ⟨x, CC, dx, _, rfl, sm1 x _ hx, Rc.ins.cl, Rc.n1, by show 0 < 1000; decide, ?_⟩
          walk_at "kb"
          refine ⟨wm b1 b4, _, rfl, _, rfl, _, _, rfl, rfl, wm b2 b3, _, _, rfl, rfl, ?_⟩
          refine ⟨_, rfl, x, CC, dx, _, rfl, upd_same, Rc.ins.cl, Rc.n2, by show 1 < 1000; decide, ?_⟩
          exact yes hne _ (fun a o nn e => by rw [upd_ne nn, upd_ne nn]; exact sm1 a o e) ⟨dx, q, by rw [upd_same]; rfl, by rw [upd_ne nqx, upd_ne nqx]; exact hq1⟩
      · rw [Bool.not_eq_true] at hn
        rw [hn]
        exact ifT rfl (bad hn H1 sm1)
theorem ok_lm {f : Addr} {fd : FuncData} (F : Fun K "lengths_made" "lengths_made" S_lengths_made f fd) (T : Txt K mg) : FnOk P w K mg base CX0 1 f fd ["numbers", "first", "second"] sp_lm := by
  refine F.ok SC_lengths_made (fun vs H Q E h => ?_) (fun cdv A outer s H vs Q E hr h => ?_)
  · obtain ⟨q, a, b, c, d, x, y, rfl, _⟩ := h
    rfl
  · obtain ⟨q, a, b, c, d, x, y, rfl, hq, ⟨b1, b2, b3, b4, b5, b6⟩, k⟩ := h
    refine ⟨_, (pss_cons (ps_asg (pv 0) (pg_tup rfl (pgs_cons (pg_name (i := 3) SC_lengths_made.nd rfl (.inl rfl)) (pgs_cons (pg_name (i := 4) SC_lengths_made.nd rfl (.inl rfl)) (pgs_cons (pg_name (i := 5) SC_lengths_made.nd rfl (.inl rfl)) (pgs_cons (pg_name (i := 6) SC_lengths_made.nd rfl (.inl rfl)) pgs_nil))))))
      (pss_one (ps_ret (pe_tup (pa_cons (pe_op op_add (pe_op op_mulW (pv 3) (pv 1)) (pe_op op_mulW (pv 4) (pv 2))) (pa_cons (pe_op op_add (pe_op op_mulW (pv 5) (pv 1)) (pe_op op_mulW (pv 6) (pv 2))) pa_nil)))))), ?_⟩
    refine ⟨_, rfl, q, _, rfl, SqT.of hq, rfl, _, _, rfl, _, _, rfl, _, _, rfl, _, _, rfl, rfl, ?_⟩
    refine ⟨_, rfl, _, rfl, _, _, rfl, rfl, wm b1 b5, _, rfl, _, rfl, _, _, rfl, rfl, wm b2 b6, _, _, rfl, rfl, ?_⟩
    refine ⟨_, rfl, _, rfl, _, _, rfl, rfl, wm b3 b5, _, rfl, _, rfl, _, _, rfl, rfl, wm b4 b6, _, _, rfl, rfl, ?_⟩
    exact ⟨by show 2 ≤ sizeLine; decide, fun p hp => k p _ hp (fun o u e => by rw [upd_ne (ne_of_none e hp)]; exact e) upd_same⟩
theorem ok_abs {f CC : Addr} {fd : FuncData} (F : Fun K "__abs__" "Change.__abs__" S_Change__abs_ f fd) (T : Txt K mg) (Rc : ChT K mg CC) : FnOk P w K mg base CX0 1 f fd ["self"] (sp_abs CC) := by
  refine F.ok SC_Change__abs_ (fun vs H Q E h => ?_) (fun cdv A outer s H vs Q E hr h => ?_)
  · obtain ⟨p, a, b, c, d, rfl, _⟩ := h
    rfl
  · obtain ⟨p, a, b, c, d, rfl, ⟨dx, q, hp, hq⟩, k⟩ := h
    refine ⟨_, (pss_one (ps_ret (pe_callB call_abs (by rfl) T.b_abs (by decide +kernel) (pa_cons (pe_fld (pv 0) rfl) pa_nil)))), ?_⟩
    exact ⟨_, rfl, p, CC, dx, _, _, rfl, hp, Rc.ins.cl, Rc.n2, cf2 _ _, _, rfl, k⟩
theorem ok_cheq {f CC : Addr} {fd : FuncData} (F : Fun K "__eq__" "Change.__eq__" S_Change__eq_ f fd) (T : Txt K mg) (Rc : ChT K mg CC) : FnOk P w K mg base CX0 1 f fd ["self", "other"] (sp_cheq CC K) := by
  refine F.ok SC_Change__eq_ (fun vs H Q E h => ?_) (fun cdv A outer s H vs Q E hr h => ?_)
  · obtain ⟨p, y, a, b, c, d, rfl, _⟩ := h
    rfl
  · obtain ⟨p, y, a, b, c, d, rfl, ⟨dx, q, hp, hq⟩, k⟩ := h
    refine ⟨_, (pss_one (ps_ret (pe_and (pe_callB call_isi (by rfl) T.b_isinstance (by decide +kernel) (pa_cons (pv 1) (pa_cons (pe_glob (v := .ref CC) (by rfl) Rc.mgC rfl) pa_nil))) (pe_one (pe_cmpR (op_eqD hr.units) (pe_fld (pv 0) rfl) (pe_fld (pv 1) rfl) (nomark _)))))), ?_⟩
    rcases k with ⟨r, a', b', c', d', rfl, ⟨dy, q', hr', hq'⟩, k⟩ | ⟨t, ty, kt, k⟩
    · refine ⟨_, rfl, .ref r, _, .ref CC, _, true, rfl, .own CC, Rc.ty hr', Rc.ins.me, _, rfl, ifT rfl ?_⟩
      refine ⟨_, rfl, p, CC, dx, _, _, rfl, hp, Rc.ins.cl, Rc.n1, cf1 _ _, _, rfl, r, CC, dy, _, _, rfl, hr', Rc.ins.cl, Rc.n1, cf1 _ _, ?_⟩
      refine ⟨_, _, dp4 hq, dp4 hq', rfl, rfl, ?_⟩
      rw [eqv4]
      exact k
    · exact ⟨_, rfl, y, _, t, _, false, rfl, .own CC, ty, kt, _, rfl, ifF rfl k⟩
end

/-! ## what stands in the heap, kept as a list -/
namespace Wl
structure Wo (B : Addr) (H0 H : Hp) (L : List (Addr × HO)) : Prop where
  box : BoxAt H B
  kp : Keep B H0 H
  at_ : ∀ x ∈ L, x.1 ≠ B ∧ H x.1 = some x.2
structure Ho (H0 H : Hp) (L : List (Addr × HO)) : Prop where
  sm : Same H0 H
  at_ : ∀ x ∈ L, H x.1 = some x.2
section
variable {B p : Addr} {o : HO} {H0 H H' : Hp} {L L' : List (Addr × HO)}
theorem Wo.get (w : Wo B H0 H L) (h : (p, o) ∈ L) : H p = some o := (w.at_ _ h).2
theorem Ho.get (w : Ho H0 H L) (h : (p, o) ∈ L) : H p = some o := w.at_ _ h
theorem Wo.ne (w : Wo B H0 H L) (h : (p, o) ∈ L) : p ≠ B := (w.at_ _ h).1
theorem Wo.same (w : Wo B H0 H L) (s : Same H H') : Wo B H0 H' L := ⟨w.box.same s, w.kp.trans (Keep.same s), fun x h => ⟨(w.at_ x h).1, s _ _ (w.at_ x h).2⟩⟩
theorem Ho.same (w : Ho H0 H L) (s : Same H H') : Ho H0 H' L := ⟨w.sm.trans s, fun x h => s _ _ (w.at_ x h)⟩
theorem Wo.keep (w : Wo B H0 H L) (k : Keep B H H') (b : BoxAt H' B) : Wo B H0 H' L := ⟨b, w.kp.trans k, fun x h => ⟨(w.at_ x h).1, k _ _ (w.at_ x h).1 (w.at_ x h).2⟩⟩
theorem Wo.add (w : Wo B H0 H L) (h : H p = some o) (n : p ≠ B) : Wo B H0 H ((p, o) :: L) := ⟨w.box, w.kp, fun x hx => by
  rcases List.mem_cons.mp hx with rfl | hx
  · exact ⟨n, h⟩
  · exact w.at_ x hx⟩
theorem Ho.add (w : Ho H0 H L) (h : H p = some o) : Ho H0 H ((p, o) :: L) := ⟨w.sm, fun x hx => by
  rcases List.mem_cons.mp hx with rfl | hx
  · exact h
  · exact w.at_ x hx⟩
/-- an object that is no list isn't the box -/
theorem Wo.addN (w : Wo B H0 H L) (h : H p = some o) (n : ∀ xs, o ≠ .lst xs) : Wo B H0 H ((p, o) :: L) := w.add h fun e => by
  obtain ⟨xs, q⟩ := w.box.lst
  rw [← e, h] at q
  exact n xs (Option.some.inj q)
theorem Wo.tup {vs : List V} (w : Wo B H0 H L) (h : H p = some (.tup vs)) : Wo B H0 H ((p, .tup vs) :: L) := w.addN h (fun _ e => nomatch e)
theorem Wo.insA {C dx : Addr} {fs : List (Str × V)} (w : Wo B H0 H L) (h : H p = some (.ins C dx fs)) : Wo B H0 H ((p, .ins C dx fs) :: L) := w.addN h (fun _ e => nomatch e)
theorem Wo.fresh (w : Wo B H0 H L) (h : H p = none) : p ≠ B := w.box.ne h
theorem Wo.call (w : Wo B H0 H L) (hn : H p = none) (s : Same H H') (h : H' p = some o) : Wo B H0 H' ((p, o) :: L) := (w.same s).add h (w.fresh hn)
theorem Ho.call (w : Ho H0 H L) (s : Same H H') (h : H' p = some o) : Ho H0 H' ((p, o) :: L) := (w.same s).add h
theorem Wo.sub (w : Wo B H0 H L) (h : ∀ x ∈ L', x ∈ L) : Wo B H0 H L' := ⟨w.box, w.kp, fun x hx => w.at_ x (h x hx)⟩
theorem Wo.free (w : Wo B H0 H L) (h : H p = none) : H0 p = none := w.kp.free w.box.any h
theorem Wo.nw {Q : VK} (w : Wo B H0 H L) (k : ∀ p H', H0 p = none → Wo B H0 H' ((p, o) :: L) → Q (.ref p) H') : New H o Q := fun p H' hn s h => k p H' (w.free hn) (w.call hn s h)
theorem Ho.nw {Q : VK} (w : Ho H0 H L) (k : ∀ p H', H0 p = none → Ho H0 H' ((p, o) :: L) → Q (.ref p) H') : New H o Q := fun p H' hn s h => k p H' (w.sm.free hn) (w.call s h)
def isLst : HO → Bool
  | .lst _ => true
  | _ => false
theorem of_notLst {o : HO} (h : isLst o = false) : ∀ xs, o ≠ .lst xs := fun xs e => by subst e; cases h
/-- a list of one's own is changed -/
theorem Wo.set {l : Addr} {xs : List V} (w : Wo B H0 H L) (hl : H l = some (.lst xs)) (n : l ≠ B) (hf : H0 l = none) (o : HO) : Wo B H0 (upd H l o) ((l, o) :: L.filter fun x => !isLst x.2) := by
  have ne : ∀ x ∈ L.filter (fun x => !isLst x.2), x.1 ≠ l := fun x hx e => by
    have h1 := (List.mem_filter.mp hx)
    have h2 := (w.at_ x h1.1).2
    rw [e, hl] at h2
    have h3 : isLst x.2 = true := by rw [← Option.some.inj h2]; rfl
    rw [h3] at h1
    cases h1.2
  refine ⟨w.box.keep fun u e => by rw [upd_ne n.symm]; exact e, fun a u na e => by rw [upd_ne (ne_of_none e hf)]; exact w.kp a u na e, fun x hx => ?_⟩
  rcases List.mem_cons.mp hx with rfl | hx
  · exact ⟨n, upd_same⟩
  · refine ⟨(w.at_ x (List.mem_filter.mp hx).1).1, ?_⟩
    rw [upd_ne (ne x hx)]
    exact (w.at_ x (List.mem_filter.mp hx).1).2
theorem Ho.set {l : Addr} {xs : List V} (w : Ho H0 H L) (hl : H l = some (.lst xs)) (hf : H0 l = none) (o : HO) : Ho H0 (upd H l o) ((l, o) :: L.filter fun x => !isLst x.2) := by
  have ne : ∀ x ∈ L.filter (fun x => !isLst x.2), x.1 ≠ l := fun x hx e => by
    have h1 := (List.mem_filter.mp hx)
    have h2 := w.at_ x h1.1
    rw [e, hl] at h2
    have h3 : isLst x.2 = true := by rw [← Option.some.inj h2]; rfl
    rw [h3] at h1
    cases h1.2
  refine ⟨fun a u e => by rw [upd_ne (ne_of_none e hf)]; exact w.sm a u e, fun x hx => ?_⟩
  rcases List.mem_cons.mp hx with rfl | hx
  · exact upd_same
  · rw [upd_ne (ne x hx)]
    exact w.at_ x (List.mem_filter.mp hx).1
theorem Wo.drop2 {x y : Addr × HO} (w : Wo B H0 H (x :: y :: L)) : Wo B H0 H (x :: L) := w.sub fun z hz => by
  rcases List.mem_cons.mp hz with rfl | hz
  · exact .head _
  · exact .tail _ (.tail _ hz)
theorem Ho.drop2 {x y : Addr × HO} (w : Ho H0 H (x :: y :: L)) : Ho H0 H (x :: L) := ⟨w.sm, fun z hz => by
  rcases List.mem_cons.mp hz with rfl | hz
  · exact w.at_ _ (.head _)
  · exact w.at_ _ (.tail _ (.tail _ hz))⟩
theorem Wo.tl {x : Addr × HO} (w : Wo B H0 H (x :: L)) : Wo B H0 H L := w.sub fun _ hx => .tail _ hx
theorem Wo.one {x : Addr × HO} (w : Wo B H0 H (x :: L)) : Wo B H0 H [x] := w.sub fun z hz => by cases List.mem_singleton.mp hz; exact .head _
theorem Wo.nil (w : Wo B H0 H L) : Wo B H0 H [] := w.sub fun z hz => nomatch hz
theorem Ho.one {x : Addr × HO} (w : Ho H0 H (x :: L)) : Ho H0 H [x] := ⟨w.sm, fun z hz => by cases List.mem_singleton.mp hz; exact w.at_ _ (.head _)⟩
theorem Ho.tl {x : Addr × HO} (w : Ho H0 H (x :: L)) : Ho H0 H L := ⟨w.sm, fun z hz => w.at_ _ (.tail _ hz)⟩
theorem Ho.nil (w : Ho H0 H L) : Ho H0 H [] := ⟨w.sm, fun z hz => nomatch hz⟩
theorem filter_not {L : List (Addr × HO)} (h : ∀ x ∈ L, isLst x.2 = false) : (L.filter fun x => !isLst x.2) = L := List.filter_eq_self.mpr fun x hx => by rw [h x hx]; rfl
theorem Wo.set2 {l : Addr} {u : HO} (w : Wo B H0 H ((l, u) :: L)) (hu : isLst u = true) (h : ∀ x ∈ L, isLst x.2 = false) (hf : H0 l = none) (o : HO) : Wo B H0 (upd H l o) ((l, o) :: L) := by
  obtain ⟨xs, rfl⟩ : ∃ xs, u = .lst xs := by
    cases u with
    | lst xs => exact ⟨xs, rfl⟩
    | _ => cases hu
  have e := w.set (w.get (.head _)) (w.ne (.head _)) hf o
  rw [List.filter_cons] at e
  rw [show (!isLst (HO.lst xs)) = false from rfl, filter_not h] at e
  exact e
/-- within a list being made at a new place D -/
theorem Wo.inD {D : Addr} (w : Wo B H0 H L) (hD : H D = none) (k : ∀ b o, b ≠ D → H b = some o → H' b = some o) : Wo B H0 H' L :=
  ⟨w.box.keep fun o e => k _ _ (w.fresh hD).symm e, fun a o n e => k a o (ne_of_none (w.kp a o n e) hD) (w.kp a o n e), fun x h => ⟨(w.at_ x h).1, k _ _ (ne_of_none (w.at_ x h).2 hD) (w.at_ x h).2⟩⟩
theorem Ho.inD {D : Addr} (w : Ho H0 H L) (hD : H D = none) (k : ∀ b o, b ≠ D → H b = some o → H' b = some o) : Ho H0 H' L :=
  ⟨fun a o e => k a o (ne_of_none (w.sm a o e) hD) (w.sm a o e), fun x h => k _ _ (ne_of_none (w.at_ x h) hD) (w.at_ x h)⟩
theorem Ho.start (H : Hp) : Ho H H [] := ⟨Same.refl H, fun _ h => nomatch h⟩
theorem Wo.start (b : BoxAt H B) : Wo B H H [] := ⟨b, Keep.refl _ _, fun _ h => nomatch h⟩
/-- the draws -/
theorem Wo.take {m : Int} {Q : VK} {E : XK} (w : Wo B H0 H L) (m0 : 0 < m) (m1 : m ≤ 1000000000000) (k : ∀ d H', 0 ≤ d → d < m → Wo B H0 H' L → Q (.int d) H') : sp_take [.ref B, .int m] H Q E :=
  ⟨B, m, by rfl, w.box, m0, m1, fun d H' d0 d1 kp hb => k d H' d0 d1 (w.keep kp hb)⟩
theorem Wo.pick {K : PySem.W.Frag} {l : Addr} {xs : List V} {Q : VK} {E : XK} (w : Wo B H0 H L) (hl : H l = some (.lst xs)) (n : l ≠ B) (m0 : 0 < xs.length) (m1 : xs.length ≤ 100000) (k : ∀ (d : Nat) v H', xs[d]? = some v → Wo B H0 H' L → Q v H') : sp_pick K [.ref B, .ref l] H Q E :=
  ⟨B, l, xs, by rfl, w.box, n, .inl (SqL.of hl), m0, m1, fun d v H' hv kp hb => k d v H' hv (w.keep kp hb)⟩
end
end Wl
open Wl

local macro_rules | `(tactic| walk_at "mem") => `(tactic| first | exact List.Mem.head _ | (refine List.Mem.tail _ ?_; walk_at "mem"))
local macro_rules | `(tactic| walk_at "hp") => `(tactic| first | assumption | exact Wo.get (by assumption) (by walk_at "mem") | exact Ho.get (by assumption) (by walk_at "mem") | exact upd_same)
local macro_rules | `(tactic| walk_at "seq") => `(tactic| first | assumption | exact SqL.of (by walk_at "hp") | exact SqT.of (by walk_at "hp"))
local macro_rules | `(tactic| walk_at "sqo") => `(tactic| first | assumption | exact .inl (by walk_at "seq") | exact .inr (by walk_at "seq"))
local macro_rules | `(tactic| walk_at "dp") => `(tactic| first | exact .int _ | exact .str _ | exact .bl _ | exact .non | exact .tup (SqT.of (by walk_at "hp")) (by walk_at "dps") | exact .lst (SqL.of (by walk_at "hp")) (by walk_at "dps"))
local macro_rules | `(tactic| walk_at "dps") => `(tactic| first | exact .nil | exact .cons (by walk_at "dp") (by walk_at "dps"))
local macro_rules | `(tactic| walk_at "shw") => `(tactic| first | exact Shw.int (by assumption) | exact Shw.int (by unfold showsI; decide) | exact Shw.tup (by walk_at "shwl") | exact Shw.lst (by walk_at "shwl") | exact Shw.bool _ | exact Shw.none | exact Shw.str (by decide +kernel) (Nat.le_refl _))
local macro_rules | `(tactic| walk_at "shwl") => `(tactic| first | exact ShwL.nil | exact ShwL.cons (by walk_at "shw") (by walk_at "shwl"))
local macro_rules | `(tactic| walk_at "sho") => `(tactic| first | assumption | (refine' Shw.ok ?shwa ?shwb ?shwc; (case shwa => walk_at "shw"); (case shwb => decide); (case shwc => decide)))
local macro_rules | `(tactic| walk_at "cls") => `(tactic| first | assumption | exact ChT.cl (by assumption) | exact RatT.cl (by assumption))
local macro_rules | `(tactic| walk_at "noat") => `(tactic| first | assumption | exact ChT.n1 (by assumption) | exact ChT.n2 (by assumption) | exact RatT.n1 (by assumption) | exact RatT.n2 (by assumption))
local macro_rules | `(tactic| walk_at "flk") => `(tactic| first | exact cf1 _ _ | exact cf2 _ _ | exact rf1 _ _ | exact rf2 _ _)
local macro_rules | `(tactic| walk_at "new") => `(tactic| first | refine Wo.nw (by assumption) fun _ _ _ _ => ?_ | refine Ho.nw (by assumption) fun _ _ _ _ => ?_)
local macro_rules | `(tactic| walk_at "kws") => `(tactic| first | exact wm (by assumption) (by assumption) | exact Nat.le_of_ble_eq_true rfl | exact szl (by omega) | walk_at "kbs")
local macro_rules | `(tactic| walk_at "kw1") => `(tactic| first
  | refine And.intro (show scal _ _ = true from rfl) ?_
  | refine ⟨_, rfl, ?_⟩
  | (refine ⟨_, _, rfl, rfl, ?_⟩; try refine And.intro (by walk_at "kws") ?_)
  | refine ⟨_, _, _, _, rfl, rfl, (by walk_at "seq"), rfl, ?_⟩
  | refine ⟨_, _, _, _, _, rfl, (by walk_at "hp"), (by walk_at "cls"), (by walk_at "noat"), (by walk_at "flk"), ?_⟩
  | refine ⟨_, _, rfl, (show SqL _ _ _ _ ∨ SqT _ _ _ _ from by walk_at "sqo"), ?_⟩
  | refine ⟨_, _, rfl, (show SqT _ _ _ _ from by walk_at "seq"), rfl, ?_⟩
  | refine ⟨_, _, rfl, (show Dp _ _ _ _ from by walk_at "dp"), (show ShOk _ from by walk_at "sho"), ?_⟩
  | refine ⟨_, _, (show Dp _ _ _ _ from by walk_at "dp"), (show Dp _ _ _ _ from by walk_at "dp"), (by first | rfl | decide +kernel), (by first | rfl | decide +kernel), ?_⟩
  | refine ⟨_, _, rfl, ?_⟩
  | refine And.intro (show _ ≤ 1000000 by walk_at "kws") ?_
  | walk_at "new"
  | refine And.intro (by walk_at "kws") ?_
  | refine And.intro ⟨_, rfl⟩ ?_
  | refine And.intro (show _ = some (some _) from rfl) ?_)
local macro_rules | `(tactic| walk_at "kw") => `(tactic| repeat (first | ((with_reducible refine iteNSI ?_ ?_); (with_reducible rfl)) | (with_reducible refine iteTI ?_) | (with_reducible refine iteFI ?_) | ((fail_if_success (with_reducible refine isIte ?_)); walk_at "kw1")))

local macro_rules | `(tactic| walk_at "kw1") => `(tactic| refine ⟨_, _, rfl, (show SqL _ _ _ _ from by walk_at "seq"), rfl, ?_⟩)
local macro_rules | `(tactic| walk_at "kw1") => `(tactic| ((refine' nrm_of ?nre ?nrg); (case nre => ((try simp only [L2.start, List.map, List.length_cons, List.length_nil, Nat.reduceAdd, Nat.reduceSub, Nat.zero_add, List.reduceReplicate, List.cons_append, List.nil_append, List.set_cons_succ, List.set_cons_zero]); exact rfl))))
local macro_rules | `(tactic| walk_at "nrm") => `(tactic| ((show ∀ sl : L2.St, _ = sl → _); (refine' nrm_of ?nre ?nrg); (case nre => ((try simp only [L2.start, List.map, List.length_cons, List.length_nil, Nat.reduceAdd, Nat.reduceSub, Nat.zero_add, List.reduceReplicate, List.cons_append, List.nil_append, List.set_cons_succ, List.set_cons_zero]); exact rfl))))

namespace Rt
theorem mk_ratH' {H : Hp} {C IR : Addr} {K : PySem.W.Frag} {R : Hp → Prop} {E : XK} {i j : Int} (hi : 1 ≤ i) (hj : 1 ≤ j) (bi : i.natAbs < 2 ^ 1000) (bj : j.natAbs < 2 ^ 1000) {x dx : Addr} (hx : H x = none) (hdx : H dx = none) (hne : dx ≠ x) (k : ∀ H', Same H H' → RatAt C H' x (i / (Int.gcd i j : Nat)) (j / (Int.gcd i j : Nat)) → R H') :
    sp_init C IR K (.ref x :: [.int i, .int j]) (upd (upd H dx (.own x)) x (.ins C dx [])) (fun v H2 => v = .non ∧ R H2) E := by
  have sm : Same H (upd (upd H dx (.own x)) x (.ins C dx [])) := (sm_new hdx).trans (sm_new (by rw [upd_ne (Ne.symm hne)]; exact hx))
  refine ⟨x, dx, _, _, rfl, .int _, .int _, upd_same, fun _ _ => ⟨_, _, rfl, rfl, bi, bj, fun H' k' ch => ⟨rfl, ?_⟩⟩, fun g => ?_⟩
  · exact k H' (fun a o e => k' a o (ne_of_none e hx) (sm a o e)) ch
  · have b1 : isLen (.int i) = true := decide_eq_true hi
    have b2 : isLen (.int j) = true := decide_eq_true hj
    rw [b1, b2] at g
    cases g
theorem Wo.rat {B r C : Addr} {H0 H H' : Hp} {L : List (Addr × HO)} {a b : Int} (w : Wo B H0 H L) (s : Same H H') (c : RatAt C H' r a b) : ∃ dx, Wo B H0 H' ((r, .ins C dx (rf a b)) :: L) := by
  obtain ⟨dx, h1⟩ := c
  exact ⟨dx, (w.same s).insA h1⟩
end Rt

/-! ## ratios: turned, their length, == with anything -/
namespace Rt
def sp_rlen (C : Addr) : Sp := fun vs H Q _ => ∃ (p : Addr) (u : List Bool), vs = [.ref p] ∧ RatAt C H p (pr u).1 (pr u).2 ∧ u.length ≤ 900 ∧ ∀ H', Same H H' → Q (.int u.length) H'
def sp_turned (C : Addr) : Sp := fun vs H Q _ => ∃ (p : Addr) (a b : Int), vs = [.ref p] ∧ RatAt C H p a b ∧ 1 ≤ a ∧ 1 ≤ b ∧ Int.gcd a b = 1 ∧ a.natAbs < 2 ^ 1000 ∧ b.natAbs < 2 ^ 1000 ∧ ∀ r H', H r = none → Same H H' → RatAt C H' r b a → Q (.ref r) H'
def sp_req (C : Addr) (K : PySem.W.Frag) : Sp := fun vs H Q _ => ∃ (p : Addr) (y : V) (a b : Int), vs = [.ref p, y] ∧ RatAt C H p a b ∧
  ((∃ (q : Addr) (c d : Int), y = .ref q ∧ RatAt C H q c d ∧ Q (.bl (r_eq a b c d)) H) ∨ (∃ t, TyX K H y t ∧ PySem.W.kitOne K t (.ref C) = some false ∧ Q (.bl false) H))
theorem pr_inj : ∀ (u v : List Bool), pr u = pr v → u = v
  | [], v, h => (pr_eq (by rw [← h]; rfl)).symm
  | b :: u, [], h => by have := pr_eq (u := b :: u) (by rw [h]; rfl); cases this
  | b :: u, c :: v, h => by
    have p := pr_pos u
    have q := pr_pos v
    cases b <;> cases c <;> simp only [pr, Bool.false_eq_true, if_false, if_true, Prod.mk.injEq] at h
    · rw [pr_inj u v (Prod.ext h.1 (by omega))]
    · omega
    · omega
    · rw [pr_inj u v (Prod.ext (by omega) h.2)]
theorem pr_mir (u : List Bool) : pr (u.map not) = ((pr u).2, (pr u).1) := by
  induction u with
  | nil => rfl
  | cons b u ih => cases b <;> simp only [List.map_cons, pr, ih, Bool.not_true, Bool.not_false, Bool.false_eq_true, if_false, if_true, Nat.add_comm]
end Rt
section
variable {P : Program} {w : World} {K : PySem.W.Frag} {mg : Str → Option Value} {base : Heap}
theorem ok_rturned {f C IR : Addr} {fd : FuncData} (F : Fun K "turned" "Ratio.turned" S_Ratio_turned f fd) (T : Txt K mg) (R : RatT K mg C) (C_ratio : MkC P w K mg base CX0 4 C "Ratio" ["self", "first", "second"] (Kb.calm (sp_init C IR K))) : FnOk P w K mg base CX0 6 f fd ["self"] (sp_turned C) := by
  refine F.ok SC_Ratio_turned (fun vs H Q E h => ?_) (fun cdv A outer s H vs Q E hr h => ?_)
  · obtain ⟨p, a, b, rfl, _⟩ := h
    rfl
  · obtain ⟨p, a, b, rfl, ⟨dx, hp⟩, a1, b1, hg, ab, bb, k⟩ := h
    refine ⟨_, (pss_one (ps_ret (pe_makeC C_ratio (hr.mono (by decide)) rfl (pa_cons (pe_fld (pv 0) rfl) (pa_cons (pe_fld (pv 0) rfl) pa_nil))))), ?_⟩
    refine ⟨_, rfl, p, C, dx, _, _, rfl, hp, R.ins.cl, R.n2, rf2 _ _, _, rfl, p, C, dx, _, _, rfl, hp, R.ins.cl, R.n1, rf1 _ _, ?_⟩
    refine fun x e hx he hn => mk_ratH' b1 a1 bb ab hx he hn fun H' s' c => ?_
    have g : Int.gcd b a = 1 := by rw [Int.gcd_comm]; exact hg
    rw [g, show ((1 : Nat) : Int) = 1 from rfl, Int.ediv_one, Int.ediv_one] at c
    exact k x H' hx s' c
theorem ok_req {f C : Addr} {fd : FuncData} (F : Fun K "__eq__" "Ratio.__eq__" S_Ratio__eq_ f fd) (T : Txt K mg) (R : RatT K mg C) : FnOk P w K mg base CX0 1 f fd ["self", "other"] (sp_req C K) := by
  refine F.ok SC_Ratio__eq_ (fun vs H Q E h => ?_) (fun cdv A outer s H vs Q E hr h => ?_)
  · obtain ⟨p, y, a, b, rfl, _⟩ := h
    rfl
  · obtain ⟨p, y, a, b, rfl, ⟨dx, hp⟩, ⟨q, c, d, rfl, ⟨dy, hq⟩, k⟩ | ⟨t, ty, kt, k⟩⟩ := h
    · refine ⟨_, (pss_one (ps_ret (pe_and (pe_callB call_isi (by rfl) T.b_isinstance (by decide +kernel) (pa_cons (pv 1) (pa_cons (pe_glob (v := .ref C) (by rfl) R.mgC rfl) pa_nil))) (pe_and (pe_cmpR op_eq (pe_fld (pv 0) rfl) (pe_fld (pv 1) rfl) (nomark _)) (pe_one (pe_cmpR op_eq (pe_fld (pv 0) rfl) (pe_fld (pv 1) rfl) (nomark _))))))), ?_⟩
      refine ⟨_, rfl, .ref q, _, .ref C, _, true, rfl, .own C, R.ty hq, R.ins.me, _, rfl, ifT rfl ?_⟩
      refine ⟨_, rfl, p, C, dx, _, _, rfl, hp, R.ins.cl, R.n1, rf1 _ _, _, rfl, q, C, dy, _, _, rfl, hq, R.ins.cl, R.n1, rf1 _ _, rfl, _, rfl, ?_⟩
      refine ite2 (fun h => ?_) (fun h => ?_)
      · refine ⟨_, rfl, p, C, dx, _, _, rfl, hp, R.ins.cl, R.n2, rf2 _ _, _, rfl, q, C, dy, _, _, rfl, hq, R.ins.cl, R.n2, rf2 _ _, rfl, ?_⟩
        have e : r_eq a b c d = decide (V.int b = V.int d) := by unfold r_eq; rw [h]; rfl
        rw [e] at k
        exact k
      · have e : r_eq a b c d = false := by unfold r_eq; rw [Bool.eq_false_iff.mpr h]; rfl
        rw [e] at k
        exact k
    · refine ⟨_, (pss_one (ps_ret (pe_and (pe_callB call_isi (by rfl) T.b_isinstance (by decide +kernel) (pa_cons (pv 1) (pa_cons (pe_glob (v := .ref C) (by rfl) R.mgC rfl) pa_nil))) (pe_and (pe_cmpR op_eq (pe_fld (pv 0) rfl) (pe_fld (pv 1) rfl) (nomark _)) (pe_one (pe_cmpR op_eq (pe_fld (pv 0) rfl) (pe_fld (pv 1) rfl) (nomark _))))))), ?_⟩
      exact ⟨_, rfl, y, _, t, _, false, rfl, .own C, ty, kt, _, rfl, ifF rfl k⟩
end

/-! ## changes as four numbers -/
namespace Mx
structure Mt where
  a : Int
  b : Int
  c : Int
  d : Int
def Mt.mul (m n : Mt) : Mt := ⟨m.a * n.a + m.b * n.c, m.a * n.b + m.b * n.d, m.c * n.a + m.d * n.c, m.c * n.b + m.d * n.d⟩
def Mt.det (m : Mt) : Int := m.a * m.d - m.b * m.c
def Mt.one : Mt := ⟨1, 0, 0, 1⟩
def Mt.tl (m : Mt) : List V := [.int m.a, .int m.b, .int m.c, .int m.d]
def Mt.pd (m : Mt) : PyData := .tuple [.int m.a, .int m.b, .int m.c, .int m.d]
theorem Mt.ext' {m n : Mt} (h1 : m.a = n.a) (h2 : m.b = n.b) (h3 : m.c = n.c) (h4 : m.d = n.d) : m = n := by cases m; cases n; simp_all
theorem Mt.det_mul (m n : Mt) : (m.mul n).det = m.det * n.det := by
  obtain ⟨a, b, c, d⟩ := m
  obtain ⟨e, f, g, h⟩ := n
  show (a * e + b * g) * (c * f + d * h) - (a * f + b * h) * (c * e + d * g) = (a * d - b * c) * (e * h - f * g)
  grind
theorem Mt.mul_assoc (m n k : Mt) : (m.mul n).mul k = m.mul (n.mul k) := by
  obtain ⟨a, b, c, d⟩ := m
  obtain ⟨e, f, g, h⟩ := n
  obtain ⟨i, j, p, q⟩ := k
  refine Mt.ext' ?_ ?_ ?_ ?_
  · show (a * e + b * g) * i + (a * f + b * h) * p = a * (e * i + f * p) + b * (g * i + h * p)
    grind
  · show (a * e + b * g) * j + (a * f + b * h) * q = a * (e * j + f * q) + b * (g * j + h * q)
    grind
  · show (c * e + d * g) * i + (c * f + d * h) * p = c * (e * i + f * p) + d * (g * i + h * p)
    grind
  · show (c * e + d * g) * j + (c * f + d * h) * q = c * (e * j + f * q) + d * (g * j + h * q)
    grind
theorem Mt.one_mul (m : Mt) : Mt.one.mul m = m := by
  obtain ⟨a, b, c, d⟩ := m
  refine Mt.ext' ?_ ?_ ?_ ?_
  · show 1 * a + 0 * c = a; omega
  · show 1 * b + 0 * d = b; omega
  · show 0 * a + 1 * c = c; omega
  · show 0 * b + 1 * d = d; omega
/-- none below 0, all below 2 ^ n -/
structure Mt.In (m : Mt) (n : Nat) : Prop where
  a0 : 0 ≤ m.a
  b0 : 0 ≤ m.b
  c0 : 0 ≤ m.c
  d0 : 0 ≤ m.d
  a1 : m.a < 2 ^ n
  b1 : m.b < 2 ^ n
  c1 : m.c < 2 ^ n
  d1 : m.d < 2 ^ n
theorem pw_mul {x y : Int} {i j : Nat} (hx : 0 ≤ x) (hy : 0 ≤ y) (h1 : x < 2 ^ i) (h2 : y < 2 ^ j) : x * y < 2 ^ (i + j) := by
  rw [Int.pow_add]
  have e : x * y ≤ x * 2 ^ j := Int.mul_le_mul_of_nonneg_left (Int.le_of_lt h2) hx
  have e2 : x * 2 ^ j < 2 ^ i * 2 ^ j := Int.mul_lt_mul_of_pos_right h1 (Int.pow_pos (by decide))
  exact Int.lt_of_le_of_lt e e2
theorem pw_sum {x y : Int} {i : Nat} (h1 : x < 2 ^ i) (h2 : y < 2 ^ i) : x + y < 2 ^ (i + 1) := by
  rw [Int.pow_succ]; omega
theorem Mt.In.mul {m n : Mt} {i j : Nat} (x : m.In i) (y : n.In j) : (m.mul n).In (i + j + 1) :=
  ⟨Int.add_nonneg (Int.mul_nonneg x.a0 y.a0) (Int.mul_nonneg x.b0 y.c0), Int.add_nonneg (Int.mul_nonneg x.a0 y.b0) (Int.mul_nonneg x.b0 y.d0),
   Int.add_nonneg (Int.mul_nonneg x.c0 y.a0) (Int.mul_nonneg x.d0 y.c0), Int.add_nonneg (Int.mul_nonneg x.c0 y.b0) (Int.mul_nonneg x.d0 y.d0),
   pw_sum (pw_mul x.a0 y.a0 x.a1 y.a1) (pw_mul x.b0 y.c0 x.b1 y.c1), pw_sum (pw_mul x.a0 y.b0 x.a1 y.b1) (pw_mul x.b0 y.d0 x.b1 y.d1),
   pw_sum (pw_mul x.c0 y.a0 x.c1 y.a1) (pw_mul x.d0 y.c0 x.d1 y.c1), pw_sum (pw_mul x.c0 y.b0 x.c1 y.b1) (pw_mul x.d0 y.d0 x.d1 y.d1)⟩
theorem pw_le {i j : Nat} (h : i ≤ j) : (2 : Int) ^ i ≤ 2 ^ j := by
  have := Nat.pow_le_pow_right (show 0 < 2 by decide) h
  exact_mod_cast this
theorem Mt.In.mono {m : Mt} {i j : Nat} (x : m.In i) (h : i ≤ j) : m.In j :=
  have e := pw_le h
  ⟨x.a0, x.b0, x.c0, x.d0, Int.lt_of_lt_of_le x.a1 e, Int.lt_of_lt_of_le x.b1 e, Int.lt_of_lt_of_le x.c1 e, Int.lt_of_lt_of_le x.d1 e⟩
theorem abs_lt {x : Int} {n : Nat} (h0 : 0 ≤ x) (h : x < 2 ^ n) : x.natAbs < 2 ^ n := by
  have e : ((x.natAbs : Nat) : Int) = x := by omega
  have : ((x.natAbs : Nat) : Int) < ((2 ^ n : Nat) : Int) := by rw [e]; exact_mod_cast h
  exact Int.ofNat_lt.mp this
theorem In1000 {m : Mt} (x : m.In 1000) : m.a.natAbs < 2 ^ 1000 ∧ m.b.natAbs < 2 ^ 1000 ∧ m.c.natAbs < 2 ^ 1000 ∧ m.d.natAbs < 2 ^ 1000 := ⟨abs_lt x.a0 x.a1, abs_lt x.b0 x.b1, abs_lt x.c0 x.c1, abs_lt x.d0 x.d1⟩
/-! ### powers -/
def Mt.pow (m : Mt) : Nat → Mt
  | 0 => Mt.one
  | n + 1 => (m.pow n).mul m
theorem one_in : Mt.one.In 1 := by
  refine ⟨?_, ?_, ?_, ?_, ?_, ?_, ?_, ?_⟩ <;> decide
theorem Mt.In.pow {m : Mt} {i : Nat} (x : m.In i) : ∀ n, (m.pow n).In (1 + n * (i + 1))
  | 0 => one_in.mono (by omega)
  | n + 1 => (Mt.In.mul (x.pow n) x).mono (by rw [Nat.add_mul]; omega)
theorem det_pow {m : Mt} (h : m.det ≠ 0) : ∀ n, (m.pow n).det ≠ 0
  | 0 => by show Mt.one.det ≠ 0; decide
  | n + 1 => by
    show ((m.pow n).mul m).det ≠ 0
    rw [Mt.det_mul]
    exact Int.mul_ne_zero (det_pow h n) h
/-! ### words -/
def lt (x : Bool) : Mt := if x then ⟨1, 1, 0, 1⟩ else ⟨1, 0, 1, 1⟩
def wf (m : Mt) (u : List Bool) : Mt := u.foldl (fun m x => m.mul (lt x)) m
def wmx (u : List Bool) : Mt := wf Mt.one u
theorem wf_snoc (m : Mt) (u : List Bool) (x : Bool) : wf m (u ++ [x]) = (wf m u).mul (lt x) := by unfold wf; rw [List.foldl_append]; rfl
theorem wf_app : ∀ (u : List Bool) (m : Mt), (wf m u).a * 1 + (wf m u).b * 1 = m.a * (pr u).1 + m.b * (pr u).2 ∧ (wf m u).c * 1 + (wf m u).d * 1 = m.c * (pr u).1 + m.d * (pr u).2
  | [], m => ⟨rfl, rfl⟩
  | x :: u, m => by
    have h := wf_app u (m.mul (lt x))
    have e : wf m (x :: u) = wf (m.mul (lt x)) u := rfl
    rw [e, h.1, h.2]
    obtain ⟨a, b, c, d⟩ := m
    cases x
    · have p1 : ((pr (false :: u)).1 : Int) = (pr u).1 := rfl
      have p2 : ((pr (false :: u)).2 : Int) = (pr u).1 + (pr u).2 := by show (((pr u).1 + (pr u).2 : Nat) : Int) = _; omega
      rw [p1, p2]
      constructor
      · show (a * 1 + b * 1) * _ + (a * 0 + b * 1) * _ = _
        grind
      · show (c * 1 + d * 1) * _ + (c * 0 + d * 1) * _ = _
        grind
    · have p1 : ((pr (true :: u)).1 : Int) = (pr u).1 + (pr u).2 := by show (((pr u).1 + (pr u).2 : Nat) : Int) = _; omega
      have p2 : ((pr (true :: u)).2 : Int) = (pr u).2 := rfl
      rw [p1, p2]
      constructor
      · show (a * 1 + b * 0) * _ + (a * 1 + b * 1) * _ = _
        grind
      · show (c * 1 + d * 0) * _ + (c * 1 + d * 1) * _ = _
        grind
theorem wm_app (u : List Bool) : (wmx u).a + (wmx u).b = (pr u).1 ∧ (wmx u).c + (wmx u).d = (pr u).2 := by
  have h := wf_app u Mt.one
  have e1 : (Mt.one).a * ((pr u).1 : Int) + (Mt.one).b * (pr u).2 = (pr u).1 := by show 1 * _ + 0 * _ = _; omega
  have e2 : (Mt.one).c * ((pr u).1 : Int) + (Mt.one).d * (pr u).2 = (pr u).2 := by show 0 * _ + 1 * _ = _; omega
  rw [e1, e2] at h
  unfold wmx
  omega
theorem wf_det : ∀ (u : List Bool) (m : Mt), (wf m u).det = m.det
  | [], m => rfl
  | x :: u, m => by
    show (wf (m.mul (lt x)) u).det = _
    rw [wf_det u, Mt.det_mul]
    have : (lt x).det = 1 := by cases x <;> rfl
    rw [this, Int.mul_one]
theorem wm_det (u : List Bool) : (wmx u).det = 1 := wf_det u _
theorem lt_in (x : Bool) : 0 ≤ (lt x).a ∧ 0 ≤ (lt x).b ∧ 0 ≤ (lt x).c ∧ 0 ≤ (lt x).d := by cases x <;> decide
theorem wf_pos : ∀ (u : List Bool) (m : Mt), (0 ≤ m.a ∧ 0 ≤ m.b ∧ 0 ≤ m.c ∧ 0 ≤ m.d) → 0 ≤ (wf m u).a ∧ 0 ≤ (wf m u).b ∧ 0 ≤ (wf m u).c ∧ 0 ≤ (wf m u).d
  | [], m, h => h
  | x :: u, m, h => wf_pos u _ (by
    have l := lt_in x
    exact ⟨Int.add_nonneg (Int.mul_nonneg h.1 l.1) (Int.mul_nonneg h.2.1 l.2.2.1), Int.add_nonneg (Int.mul_nonneg h.1 l.2.1) (Int.mul_nonneg h.2.1 l.2.2.2), Int.add_nonneg (Int.mul_nonneg h.2.2.1 l.1) (Int.mul_nonneg h.2.2.2 l.2.2.1), Int.add_nonneg (Int.mul_nonneg h.2.2.1 l.2.1) (Int.mul_nonneg h.2.2.2 l.2.2.2)⟩)
theorem wm_in (u : List Bool) : (wmx u).In (u.length + 1) := by
  have p := wf_pos u Mt.one (by decide)
  have e := wm_app u
  have q := pr_le u
  have r := pr_pos u
  have h : ((pr u).1 : Int) + (pr u).2 ≤ 2 ^ (u.length + 1) := by exact_mod_cast q
  obtain ⟨p1, p2, p3, p4⟩ := (show 0 ≤ (wmx u).a ∧ 0 ≤ (wmx u).b ∧ 0 ≤ (wmx u).c ∧ 0 ≤ (wmx u).d from p)
  exact ⟨p1, p2, p3, p4, by omega, by omega, by omega, by omega⟩
theorem mul_l (m : Mt) : (m.mul (lt false)).tl = [.int (m.a + m.b), .int m.b, .int (m.c + m.d), .int m.d] := by
  have e : m.mul (lt false) = ⟨m.a + m.b, m.b, m.c + m.d, m.d⟩ := by
    refine Mt.ext' ?_ ?_ ?_ ?_
    · show m.a * 1 + m.b * 1 = m.a + m.b; omega
    · show m.a * 0 + m.b * 1 = m.b; omega
    · show m.c * 1 + m.d * 1 = m.c + m.d; omega
    · show m.c * 0 + m.d * 1 = m.d; omega
  rw [e]; rfl
theorem mul_r (m : Mt) : (m.mul (lt true)).tl = [.int m.a, .int (m.a + m.b), .int m.c, .int (m.c + m.d)] := by
  have e : m.mul (lt true) = ⟨m.a, m.a + m.b, m.c, m.c + m.d⟩ := by
    refine Mt.ext' ?_ ?_ ?_ ?_
    · show m.a * 1 + m.b * 0 = m.a; omega
    · show m.a * 1 + m.b * 1 = m.a + m.b; omega
    · show m.c * 1 + m.d * 0 = m.c; omega
    · show m.c * 1 + m.d * 1 = m.c + m.d; omega
  rw [e]; rfl
theorem ap_pos {m : Mt} {n : Nat} (h : m.In n) (hd : m.det ≠ 0) {x y : Int} (hx : 1 ≤ x) (hy : 1 ≤ y) : 1 ≤ m.a * x + m.b * y ∧ 1 ≤ m.c * x + m.d * y := by
  obtain ⟨a, b, c, d⟩ := m
  have h0 := h.a0
  have h1 := h.b0
  have h2 := h.c0
  have h3 := h.d0
  simp only at h0 h1 h2 h3
  have hd' : a * d - b * c ≠ 0 := hd
  have pos : ∀ u v : Int, 0 ≤ u → 0 ≤ v → (u ≠ 0 ∨ v ≠ 0) → 1 ≤ u * x + v * y := fun u v hu hv z => by
    have e1 := Int.mul_nonneg hu (show 0 ≤ x by omega)
    have e2 := Int.mul_nonneg hv (show 0 ≤ y by omega)
    rcases z with z | z
    · have := Int.mul_pos (show 0 < u by omega) (show 0 < x by omega)
      omega
    · have := Int.mul_pos (show 0 < v by omega) (show 0 < y by omega)
      omega
  refine ⟨pos a b h0 h1 (Classical.byContradiction fun z => ?_), pos c d h2 h3 (Classical.byContradiction fun z => ?_)⟩
  · have : a = 0 ∧ b = 0 := by omega
    apply hd'
    rw [this.1, this.2]; omega
  · have : c = 0 ∧ d = 0 := by omega
    apply hd'
    rw [this.1, this.2]; omega
end Mx
open Mx

/-! ## changes: products, powers, of words -/
namespace Cm
structure GT (K : PySem.W.Frag) (mg : Str → Option Value) (x : Str) (vs : List V) : Prop where
  ex : ∃ a, mg x = some (.ref a) ∧ ∀ H, SqT K H a vs
theorem gt_of {K : PySem.W.Frag} {mg : Str → Option Value} {x : Str} {vs : List V} {a : Addr} {o : Obj} {its : Array Value} {n : Nat} (h : mg x = some (.ref a)) (l : K.lookup a = some o) (c : o.cls = .type "tuple") (d : o.data = .seq its n) (z : its.size ≤ sizeLine) (v : Vals vs its.toList) : GT K mg x vs :=
  ⟨a, h, fun _ => .inr ⟨o, its, n, l, c, d, z, v⟩⟩
theorem sqT_same {K : PySem.W.Frag} {H H' : Hp} {a : Addr} {xs : List V} (h : SqT K H a xs) (s : Same H H') : SqT K H' a xs :=
  h.elim (fun q => .inl (q.elim (fun q => .inl (s _ _ q)) fun ⟨o, q⟩ => .inr ⟨o, s _ _ q⟩)) .inr
def ChM (CC : Addr) (H : Hp) (p : Addr) (m : Mt) : Prop := ChAt CC H p m.a m.b m.c m.d
theorem ChM.same {C : Addr} {H H' : Hp} {p : Addr} {m : Mt} (x : ChM C H p m) (s : Same H H') : ChM C H' p m := ChAt.same x s
theorem mk_chH {H : Hp} {CC IC : Addr} {K : PySem.W.Frag} {R : Hp → Prop} {E : XK} (m : Mt) (hm : m.In 1000) (hd : m.det ≠ 0) {x dx : Addr} (hx : H x = none) (hdx : H dx = none) (hne : dx ≠ x) (k : ∀ H', Same H H' → ChM CC H' x m → R H') :
    sp_chinit CC IC K (.ref x :: [.int m.a, .int m.b, .int m.c, .int m.d]) (upd (upd H dx (.own x)) x (.ins CC dx [])) (fun v H2 => v = .non ∧ R H2) E := by
  have sm : Same H (upd (upd H dx (.own x)) x (.ins CC dx [])) := (sm_new hdx).trans (sm_new (by rw [upd_ne (Ne.symm hne)]; exact hx))
  have hn : m.a * m.d ≠ m.b * m.c := fun e => hd (by unfold Mt.det; omega)
  have nat : nats (.int m.a) (.int m.b) (.int m.c) (.int m.d) = true := by
    have e : ∀ i : Int, 0 ≤ i → isNat (.int i) = true := fun i h => decide_eq_true h
    unfold nats
    rw [e _ hm.a0, e _ hm.b0, e _ hm.c0, e _ hm.d0]; rfl
  refine ⟨x, dx, _, _, _, _, rfl, ⟨.int _, .int _, .int _, .int _⟩, upd_same, fun _ => ⟨_, _, _, _, rfl, rfl, rfl, rfl, In1000 hm, fun _ H' k' ch => ⟨rfl, ?_⟩, fun e => absurd e hn⟩, fun g => by rw [nat] at g; cases g⟩
  exact k H' (fun a o e => k' a o (ne_of_none e hx) (sm a o e)) ch
theorem mk_ch {H : Hp} {CC IC : Addr} {K : PySem.W.Frag} {Q : VK} {E : XK} (m : Mt) (hm : m.In 1000) (hd : m.det ≠ 0) (k : ∀ r H', H r = none → Same H H' → ChM CC H' r m → Q (.ref r) H') (x dx : Addr) (hx : H x = none) (hdx : H dx = none) (hne : dx ≠ x) :
    sp_chinit CC IC K (.ref x :: [.int m.a, .int m.b, .int m.c, .int m.d]) (upd (upd H dx (.own x)) x (.ins CC dx [])) (fun v H2 => v = .non ∧ Q (.ref x) H2) E := mk_chH m hm hd hx hdx hne fun H' s c => k x H' hx s c
theorem mk_ratH {H : Hp} {C IR : Addr} {K : PySem.W.Frag} {R : Hp → Prop} {E : XK} {i j : Int} (hi : 1 ≤ i) (hj : 1 ≤ j) (bi : i.natAbs < 2 ^ 1000) (bj : j.natAbs < 2 ^ 1000) {x dx : Addr} (hx : H x = none) (hdx : H dx = none) (hne : dx ≠ x) (k : ∀ H', Same H H' → RatAt C H' x (i / (Int.gcd i j : Nat)) (j / (Int.gcd i j : Nat)) → R H') :
    sp_init C IR K (.ref x :: [.int i, .int j]) (upd (upd H dx (.own x)) x (.ins C dx [])) (fun v H2 => v = .non ∧ R H2) E := by
  have sm : Same H (upd (upd H dx (.own x)) x (.ins C dx [])) := (sm_new hdx).trans (sm_new (by rw [upd_ne (Ne.symm hne)]; exact hx))
  refine ⟨x, dx, _, _, rfl, .int _, .int _, upd_same, fun _ _ => ⟨_, _, rfl, rfl, bi, bj, fun H' k' ch => ⟨rfl, ?_⟩⟩, fun g => ?_⟩
  · exact k H' (fun a o e => k' a o (ne_of_none e hx) (sm a o e)) ch
  · have b1 : isLen (.int i) = true := decide_eq_true hi
    have b2 : isLen (.int j) = true := decide_eq_true hj
    rw [b1, b2] at g
    cases g
theorem mk_rat {H : Hp} {C IR : Addr} {K : PySem.W.Frag} {Q : VK} {E : XK} {i j : Int} (hi : 1 ≤ i) (hj : 1 ≤ j) (bi : i.natAbs < 2 ^ 1000) (bj : j.natAbs < 2 ^ 1000) (k : ∀ r H', H r = none → Same H H' → RatAt C H' r (i / (Int.gcd i j : Nat)) (j / (Int.gcd i j : Nat)) → Q (.ref r) H') (x dx : Addr) (hx : H x = none) (hdx : H dx = none) (hne : dx ≠ x) :
    sp_init C IR K (.ref x :: [.int i, .int j]) (upd (upd H dx (.own x)) x (.ins C dx [])) (fun v H2 => v = .non ∧ Q (.ref x) H2) E := mk_ratH hi hj bi bj hx hdx hne fun H' s c => k x H' hx s c
theorem Wo.ch {B r CC : Addr} {H0 H H' : Hp} {L : List (Addr × HO)} {m : Mt} (w : Wo B H0 H L) (s : Same H H') (c : ChM CC H' r m) : ∃ dx q, Wo B H0 H' ((r, .ins CC dx (cf q m.det)) :: (q, .tup m.tl) :: L) := by
  obtain ⟨dx, q, h1, h2⟩ := c
  exact ⟨dx, q, ((w.same s).tup h2).insA h1⟩
theorem Wo.rat {B r C : Addr} {H0 H H' : Hp} {L : List (Addr × HO)} {a b : Int} (w : Wo B H0 H L) (s : Same H H') (c : RatAt C H' r a b) : ∃ dx, Wo B H0 H' ((r, .ins C dx (rf a b)) :: L) := by
  obtain ⟨dx, h1⟩ := c
  exact ⟨dx, (w.same s).insA h1⟩
def sp_nb (K : PySem.W.Frag) : Sp := fun vs H Q _ => ∃ (q : Addr) (m : Mt) (x : Bool), vs = [.ref q, .str (enc [x])] ∧ SqT K H q m.tl ∧ New H (.tup (m.mul (lt x)).tl) Q
def sp_now (K : PySem.W.Frag) : Sp := fun vs H Q _ => ∃ u : List Bool, vs = [.str (enc u)] ∧ u.length ≤ 900 ∧ ∀ p H', Same H H' → SqT K H' p (wmx u).tl → Q (.ref p) H'
def sp_joined (K : PySem.W.Frag) : Sp := fun vs H Q _ => ∃ (p q : Addr) (m n : Mt), vs = [.ref p, .ref q] ∧ SqT K H p m.tl ∧ SqT K H q n.tl ∧ m.In 1000 ∧ n.In 1000 ∧ New H (.tup (m.mul n).tl) Q
def sp_cmk (CC : Addr) (m : Mt) : Sp := fun vs H Q _ => vs = [.ref CC] ∧ ∀ r H', H r = none → Same H H' → ChM CC H' r m → Q (.ref r) H'
def sp_chw (CC IW : Addr) (K : PySem.W.Frag) : Sp := fun vs H Q E => ∃ x, vs = [.ref CC, x] ∧ Kd K H x ∧ (∀ z, x = .str z → z.length ≤ 900) ∧ (∀ u, x = .str (enc u) → ∀ r H', H r = none → Same H H' → ChM CC H' r (wmx u) → Q (.ref r) H') ∧ (goodW x = false → ∀ H', Same H H' → E (.ref IW) none H')
def sp_mul (CC C : Addr) : Sp := fun vs H Q _ => ∃ (p q : Addr) (m : Mt), vs = [.ref p, .ref q] ∧ ChM CC H p m ∧ m.In 400 ∧ m.det ≠ 0 ∧
  ((∃ n : Mt, ChM CC H q n ∧ n.In 400 ∧ n.det ≠ 0 ∧ ∀ r H', H r = none → Same H H' → ChM CC H' r (m.mul n) → Q (.ref r) H') ∨
   (∃ x y : Int, RatAt C H q x y ∧ 1 ≤ x ∧ 1 ≤ y ∧ x < 2 ^ 400 ∧ y < 2 ^ 400 ∧ ∀ r H', H r = none → Same H H' → RatAt C H' r ((m.a * x + m.b * y) / (Int.gcd (m.a * x + m.b * y) (m.c * x + m.d * y) : Nat)) ((m.c * x + m.d * y) / (Int.gcd (m.a * x + m.b * y) (m.c * x + m.d * y) : Nat)) → Q (.ref r) H'))
def sp_pow (CC : Addr) : Sp := fun vs H Q _ => ∃ (p : Addr) (m : Mt) (k : Int), vs = [.ref p, .int k] ∧ ChM CC H p m ∧ m.In 40 ∧ m.det ≠ 0 ∧ 0 ≤ k ∧ k ≤ 6 ∧ ∀ r H', H r = none → Same H H' → ChM CC H' r (m.pow k.toNat) → Q (.ref r) H'
theorem enc_l {x : Bool} (h : decide (V.str (enc [x]) = V.str ("l" : Str)) = true) : x = false := by
  have e := V.str.inj (of_decide_eq_true h)
  rw [lit_l] at e
  exact (List.cons.inj (enc_inj e)).1
theorem enc_r {x : Bool} (h : ¬ decide (V.str (enc [x]) = V.str ("l" : Str)) = true) : x = true := by
  cases x with
  | true => rfl
  | false => exact absurd (decide_eq_true (congrArg V.str lit_l.symm)) h
theorem at_word {u : List Bool} {i c : Nat} (h : (enc u).cps[i]? = some c) : ∃ b, u[i]? = some b ∧ V.str ⟨#[c]⟩ = V.str (enc [b]) := by
  obtain ⟨b, hb, rfl⟩ := enc_at h
  exact ⟨b, hb, rfl⟩
theorem wmx_take {u : List Bool} {i : Nat} {b : Bool} (h : u[i]? = some b) : wmx (u.take (i + 1)) = (wmx (u.take i)).mul (lt b) := by
  rw [List.take_succ, h]
  exact wf_snoc _ _ _
end Cm
open Cm
section
variable {P : Program} {w : World} {K : PySem.W.Frag} {mg : Str → Option Value} {base : Heap}
theorem ok_nb {f : Addr} {fd : FuncData} (F : Fun K "numbers_behind" "numbers_behind" S_numbers_behind f fd) (T : Txt K mg) : FnOk P w K mg base CX0 1 f fd ["numbers", "letter"] (sp_nb K) := by
  refine F.ok SC_numbers_behind (fun vs H Q E h => ?_) (fun cdv A outer s H vs Q E hr h => ?_)
  · obtain ⟨q, m, x, rfl, _⟩ := h
    rfl
  · obtain ⟨q, m, x, rfl, hq, k⟩ := h
    refine ⟨_, (pss_cons (ps_asg (pv 0) (pg_tup rfl (pgs_cons (pg_name (i := 2) SC_numbers_behind.nd rfl (.inl rfl)) (pgs_cons (pg_name (i := 3) SC_numbers_behind.nd rfl (.inl rfl)) (pgs_cons (pg_name (i := 4) SC_numbers_behind.nd rfl (.inl rfl)) (pgs_cons (pg_name (i := 5) SC_numbers_behind.nd rfl (.inl rfl)) pgs_nil))))))
      (pss_one (ps_ret (pe_ifExp (pt_cmpR op_eq (pv 1) pe_str (nomark _)) (pe_tupN (pa_cons (pe_op op_add (pv 2) (pv 3)) (pa_cons (pv 3) (pa_cons (pe_op op_add (pv 4) (pv 5)) (pa_cons (pv 5) pa_nil))))) (pe_tupN (pa_cons (pv 2) (pa_cons (pe_op op_add (pv 2) (pv 3)) (pa_cons (pv 4) (pa_cons (pe_op op_add (pv 4) (pv 5)) pa_nil))))))))), ?_⟩
    walk_at "kw"
    refine ite2 (fun h => ?_) (fun h => ?_)
    · cases enc_l h
      rw [mul_l] at k
      walk_at "kw"
      exact k
    · cases enc_r h
      rw [mul_r] at k
      walk_at "kw"
      exact k
theorem ok_now {f : Addr} {fd : FuncData} (F : Fun K "numbers_of_word" "numbers_of_word" S_numbers_of_word f fd) (T : Txt K mg) (G_SAME : GT K mg "SAME" Mt.one.tl) (C_nb : FnC P w K mg base CX0 1 "numbers_behind" ["numbers", "letter"] (sp_nb K)) : FnOk P w K mg base CX0 2 f fd ["word"] (sp_now K) := by
  refine F.ok SC_numbers_of_word (fun vs H Q E h => ?_) (fun cdv A outer s H vs Q E hr h => ?_)
  · obtain ⟨u, rfl, _⟩ := h
    rfl
  · obtain ⟨u, rfl, hu, k⟩ := h
    obtain ⟨aS, mS, sS⟩ := G_SAME.ex
    refine ⟨_, (pss_cons (ps_set (i := 1) SC_numbers_of_word.nd rfl (.inl rfl) (pe_glob (v := .ref aS) (by rfl) mS rfl))
      (pss_cons (ps_for PassesOwn.never rfl (pi_str (pv 0)) (pg_name (i := 2) SC_numbers_of_word.nd rfl (.inl rfl)) (pss_one (ps_set (i := 1) SC_numbers_of_word.nd rfl (.inl rfl) (pe_callC C_nb hr rfl (pa_cons (pv 1) (pa_cons (pv 2) pa_nil))))))
      (pss_one (ps_ret (pv 1))))), ?_⟩
    have hz : (enc u).cps.size = u.length := enc_len u
    refine ⟨_, rfl, enc u, rfl, for_it (walk_str (z := enc u)) (fun i σ H' => Same H H' ∧ ∃ (p : Addr) (x : Option V), SqT K H' p (wmx (u.take i)).tl ∧ σ = [some (.str (enc u)), some (.ref p), x])
      ⟨Same.refl H, aS, none, sS H, rfl⟩ (fun _ _ _ _ _ => trivial) (fun i v σ H1 H2 hi hP hY => ?_) (fun σ H1 hP => ?_)⟩
    · obtain ⟨sm, p, x, hp, rfl⟩ := hP
      obtain ⟨rfl, c, hc, rfl⟩ := hY
      obtain ⟨b, hb, eb⟩ := at_word hc
      rw [eb]
      refine ⟨_, rfl, _, rfl, p, _, b, rfl, hp, fun r H' _ s hr' => ?_⟩
      exact ⟨sm.trans s, r, _, by rw [wmx_take hb]; exact SqT.of hr', rfl⟩
    · obtain ⟨sm, p, x, hp, rfl⟩ := hP
      rw [hz, List.take_of_length_le (Nat.le_refl _)] at hp
      exact ⟨_, rfl, k p H1 sm hp⟩
theorem ok_joined {f : Addr} {fd : FuncData} (F : Fun K "numbers_joined" "numbers_joined" S_numbers_joined f fd) (T : Txt K mg) : FnOk P w K mg base CX0 1 f fd ["one", "other"] (sp_joined K) := by
  refine F.ok SC_numbers_joined (fun vs H Q E h => ?_) (fun cdv A outer s H vs Q E hr h => ?_)
  · obtain ⟨p, q, m, n, rfl, _⟩ := h
    rfl
  · obtain ⟨p, q, m, n, rfl, hp, hq, bm, bn, k⟩ := h
    obtain ⟨m1, m2, m3, m4⟩ := In1000 bm
    obtain ⟨n1, n2, n3, n4⟩ := In1000 bn
    refine ⟨_, (pss_cons (ps_asg (pv 0) (pg_tup rfl (pgs_cons (pg_name (i := 2) SC_numbers_joined.nd rfl (.inl rfl)) (pgs_cons (pg_name (i := 3) SC_numbers_joined.nd rfl (.inl rfl)) (pgs_cons (pg_name (i := 4) SC_numbers_joined.nd rfl (.inl rfl)) (pgs_cons (pg_name (i := 5) SC_numbers_joined.nd rfl (.inl rfl)) pgs_nil))))))
      (pss_cons (ps_asg (pv 1) (pg_tup rfl (pgs_cons (pg_name (i := 6) SC_numbers_joined.nd rfl (.inl rfl)) (pgs_cons (pg_name (i := 7) SC_numbers_joined.nd rfl (.inl rfl)) (pgs_cons (pg_name (i := 8) SC_numbers_joined.nd rfl (.inl rfl)) (pgs_cons (pg_name (i := 9) SC_numbers_joined.nd rfl (.inl rfl)) pgs_nil))))))
      (pss_one (ps_ret (pe_tupN (pa_cons (pe_op op_add (pe_op op_mulW (pv 2) (pv 6)) (pe_op op_mulW (pv 3) (pv 8))) (pa_cons (pe_op op_add (pe_op op_mulW (pv 2) (pv 7)) (pe_op op_mulW (pv 3) (pv 9))) (pa_cons (pe_op op_add (pe_op op_mulW (pv 4) (pv 6)) (pe_op op_mulW (pv 5) (pv 8))) (pa_cons (pe_op op_add (pe_op op_mulW (pv 4) (pv 7)) (pe_op op_mulW (pv 5) (pv 9))) pa_nil))))))))), ?_⟩
    walk_at "kw"
    exact k
end

section
variable {P : Program} {w : World} {K : PySem.W.Frag} {mg : Str → Option Value} {base : Heap}
theorem ok_exchange {f CC IC : Addr} {fd : FuncData} (F : Fun K "exchange" "Change.exchange" S_Change_exchange f fd) (T : Txt K mg) (C_changeX : MkC P w K mg base (L2.CX P w) 4 CC "Change" ["self", "a", "b", "c", "d"] (sp_chinit CC IC K)) : FnOk P w K mg base (L2.CX P w) 6 f fd ["cls"] (sp_cmk CC ⟨0, 1, 1, 0⟩) := by
  refine F.okX SC_Change_exchange (fun vs H Q E h => ?_) (fun cdv A outer s H vs Q E hr h => ?_)
  · obtain ⟨rfl, _⟩ := h
    rfl
  · obtain ⟨rfl, k⟩ := h
    refine ⟨_, (pss_one (ps_ret (pe_makeL (i := 0) C_changeX (hr.mono (by decide)) (takes_of rfl rfl rfl rfl) rfl (.inl rfl) (pa_cons pe_int (pa_cons pe_int (pa_cons pe_int (pa_cons pe_int pa_nil))))))), ?_⟩
    refine ⟨rfl, mk_ch ⟨0, 1, 1, 0⟩ (Mt.In.mono (i := 1) (by refine ⟨?_, ?_, ?_, ?_, ?_, ?_, ?_, ?_⟩ <;> decide) (by decide)) (by decide) k⟩
theorem ok_chw {f CC IC IW : Addr} {fd : FuncData} (F : Fun K "of_word" "Change.of_word" S_Change_of_word f fd) (T : Txt K mg) (C_need : FnC P w K mg base (L2.CX P w) 4 "need_word" ["value"] (sp_need IW K)) (C_now : FnC P w K mg base CX0 2 "numbers_of_word" ["word"] (sp_now K))
    (C_changeX : MkC P w K mg base (L2.CX P w) 4 CC "Change" ["self", "a", "b", "c", "d"] (sp_chinit CC IC K)) : FnOk P w K mg base (L2.CX P w) 6 f fd ["cls", "word"] (sp_chw CC IW K) := by
  refine F.okX SC_Change_of_word (fun vs H Q E h => ?_) (fun cdv A outer s H vs Q E hr h => ?_)
  · obtain ⟨x, rfl, _⟩ := h
    rfl
  · obtain ⟨x, rfl, kd, hz, ok, bad⟩ := h
    refine ⟨_, (pss_cons (ps_expr (pe_callSC C_need (hr.mono (by decide)) (takes_of rfl rfl rfl rfl) rfl (pa_cons (pv 1) pa_nil)))
      (pss_cons (ps_asg (pe_callC C_now (hr.mono (by decide)) rfl (pa_cons (pv 1) pa_nil)) (pg_tup rfl (pgs_cons (pg_name (i := 2) SC_Change_of_word.nd rfl (.inl rfl)) (pgs_cons (pg_name (i := 3) SC_Change_of_word.nd rfl (.inl rfl)) (pgs_cons (pg_name (i := 4) SC_Change_of_word.nd rfl (.inl rfl)) (pgs_cons (pg_name (i := 5) SC_Change_of_word.nd rfl (.inl rfl)) pgs_nil))))))
      (pss_one (ps_ret (pe_makeL (i := 0) C_changeX (hr.mono (by decide)) (takes_of rfl rfl rfl rfl) rfl (.inl rfl) (pa_cons (pv 2) (pa_cons (pv 3) (pa_cons (pv 4) (pa_cons (pv 5) pa_nil))))))))), ?_⟩
    refine ⟨_, rfl, x, rfl, kd, fun z e => Nat.le_trans (hz z e) (by decide), fun g H1 sm1 => ?_, fun g H1 sm1 => bad g H1 sm1⟩
    obtain ⟨u, rfl⟩ : ∃ u, x = .str (enc u) := by
      cases x with
      | str z => obtain ⟨u, rfl⟩ := good_is g; exact ⟨u, rfl⟩
      | _ => cases g
    have hu : u.length ≤ 900 := by have := hz _ rfl; rwa [enc_len] at this
    refine ⟨_, rfl, u, rfl, hu, fun p H2 s2 hp => ?_⟩
    refine ⟨p, _, rfl, hp, rfl, ?_⟩
    walk_at "kw"
    exact mk_ch (wmx u) ((wm_in u).mono (by omega)) (by rw [wm_det]; decide) fun r H' hn s c => ok u rfl r H' ((sm1.trans s2).free hn) ((sm1.trans s2).trans s) c
theorem ok_mul {f CC C IC IR : Addr} {fd : FuncData} (F : Fun K "__mul__" "Change.__mul__" S_Change__mul_ f fd) (T : Txt K mg) (Rc : ChT K mg CC) (R : RatT K mg C) (kn : PySem.W.kitOne K (.ref C) (.ref CC) = some false) (C_joined : FnC P w K mg base CX0 1 "numbers_joined" ["one", "other"] (sp_joined K)) (C_lm : FnC P w K mg base CX0 1 "lengths_made" ["numbers", "first", "second"] sp_lm)
    (C_change : MkC P w K mg base CX0 4 CC "Change" ["self", "a", "b", "c", "d"] (Kb.calm (sp_chinit CC IC K))) (C_ratio : MkC P w K mg base CX0 4 C "Ratio" ["self", "first", "second"] (Kb.calm (sp_init C IR K))) : FnOk P w K mg base CX0 6 f fd ["self", "other"] (sp_mul CC C) := by
  refine F.ok SC_Change__mul_ (fun vs H Q E h => ?_) (fun cdv A outer s H vs Q E hr h => ?_)
  · obtain ⟨p, q, m, rfl, _⟩ := h
    rfl
  · obtain ⟨p, q, m, rfl, ⟨dx, q1, h1, h2⟩, bm, dm, k⟩ := h
    refine ⟨_, (pss_cons (ps_if (pt_val (pe_callB call_isi (by rfl) T.b_isinstance (by decide +kernel) (pa_cons (pv 1) (pa_cons (pe_glob (v := .ref CC) (by rfl) Rc.mgC rfl) pa_nil)))) (pss_cons (ps_asg (pe_callC C_joined (hr.mono (by decide)) rfl (pa_cons (pe_fld (pv 0) rfl) (pa_cons (pe_fld (pv 1) rfl) pa_nil))) (pg_tup rfl (pgs_cons (pg_name (i := 2) SC_Change__mul_.nd rfl (.inl rfl)) (pgs_cons (pg_name (i := 3) SC_Change__mul_.nd rfl (.inl rfl)) (pgs_cons (pg_name (i := 4) SC_Change__mul_.nd rfl (.inl rfl)) (pgs_cons (pg_name (i := 5) SC_Change__mul_.nd rfl (.inl rfl)) pgs_nil))))))
      (pss_one (ps_ret (pe_makeC C_change (hr.mono (by decide)) rfl (pa_cons (pv 2) (pa_cons (pv 3) (pa_cons (pv 4) (pa_cons (pv 5) pa_nil)))))))) pss_nil)
      (pss_cons (ps_if (pt_val (pe_callB call_isi (by rfl) T.b_isinstance (by decide +kernel) (pa_cons (pv 1) (pa_cons (pe_glob (v := .ref C) (by rfl) R.mgC rfl) pa_nil)))) (pss_cons (ps_asg (pe_callC C_lm (hr.mono (by decide)) rfl (pa_cons (pe_fld (pv 0) rfl) (pa_cons (pe_fld (pv 1) rfl) (pa_cons (pe_fld (pv 1) rfl) pa_nil)))) (pg_tup rfl (pgs_cons (pg_name (i := 6) SC_Change__mul_.nd rfl (.inl rfl)) (pgs_cons (pg_name (i := 7) SC_Change__mul_.nd rfl (.inl rfl)) pgs_nil))))
      (pss_one (ps_ret (pe_makeC C_ratio (hr.mono (by decide)) rfl (pa_cons (pv 6) (pa_cons (pv 7) pa_nil)))))) pss_nil)
      (pss_one ps_never))), ?_⟩
    rcases k with ⟨n, ⟨dy, q2, h3, h4⟩, bn, dn, k⟩ | ⟨x, y, ⟨dy, h3⟩, hx, hy, bx, b_y, k⟩
    · refine ⟨_, rfl, .ref q, _, .ref CC, _, true, rfl, .own CC, Rc.ty h3, Rc.ins.me, _, rfl, ifT rfl ?_⟩
      walk_at "kw"
      refine ⟨q1, q2, m, n, rfl, SqT.of h2, SqT.of h4, bm.mono (by decide), bn.mono (by decide), fun r H1 hn s1 hr1 => ?_⟩
      walk_at "kw"
      exact mk_ch (m.mul n) ((bm.mul bn).mono (by decide)) (by rw [Mt.det_mul]; exact Int.mul_ne_zero dm dn) fun r H' hn' s c => k r H' (s1.free hn') (s1.trans s) c
    · refine ⟨_, rfl, .ref q, _, .ref C, _, false, rfl, .own CC, R.ty h3, kn, _, rfl, ifF rfl ?_⟩
      refine ⟨_, rfl, .ref q, _, .ref C, _, true, rfl, .own C, R.ty h3, R.ins.me, _, rfl, ifT rfl ?_⟩
      walk_at "kw"
      have b5 := abs_lt (show 0 ≤ x by omega) bx
      have b6 := abs_lt (show 0 ≤ y by omega) b_y
      have c5 : x.natAbs < 2 ^ 1000 := Nat.lt_of_lt_of_le b5 (Nat.pow_le_pow_right (by decide) (by decide))
      have c6 : y.natAbs < 2 ^ 1000 := Nat.lt_of_lt_of_le b6 (Nat.pow_le_pow_right (by decide) (by decide))
      obtain ⟨m1, m2, m3, m4⟩ := In1000 (bm.mono (show 400 ≤ 1000 by decide))
      refine ⟨q1, m.a, m.b, m.c, m.d, x, y, rfl, h2, ⟨m1, m2, m3, m4, c5, c6⟩, fun r H1 hn s1 hr1 => ?_⟩
      walk_at "kw"
      have pos := ap_pos bm dm hx hy
      have p1 : m.a * x + m.b * y < 2 ^ (400 + 400 + 1) := pw_sum (pw_mul bm.a0 (by omega) bm.a1 bx) (pw_mul bm.b0 (by omega) bm.b1 b_y)
      have p2 : m.c * x + m.d * y < 2 ^ (400 + 400 + 1) := pw_sum (pw_mul bm.c0 (by omega) bm.c1 bx) (pw_mul bm.d0 (by omega) bm.d1 b_y)
      exact mk_rat pos.1 pos.2 (abs_lt (by omega) (Int.lt_trans p1 (by decide))) (abs_lt (by omega) (Int.lt_trans p2 (by decide))) fun r H' hn' s c => k r H' (s1.free hn') (s1.trans s) c
end

/-! ## objects kept -/
namespace Mw
theorem lt_at {α : Type} {xs : List α} {i : Nat} {x : α} (h : xs[i]? = some x) : i < xs.length := (List.getElem?_eq_some_iff.mp h).1
theorem nodup_at {α : Type} {xs : List α} (h : xs.Nodup) {i j : Nat} {x : α} (hi : xs[i]? = some x) (hj : xs[j]? = some x) : i = j := by
  exact (List.getElem?_inj (lt_at hi) h).mp (hi.trans hj.symm)
def isMu : HO → Bool
  | .lst _ => true
  | .dK _ => true
  | .dT _ => true
  | .ext _ => true
  | _ => false
def isTF : HO → Bool
  | .tup _ => true
  | .frz _ _ => true
  | _ => false
/-- what is a tuple, what is no list and no dict, stays -/
def TT (H H' : Hp) : Prop := ∀ a o, isTF o = true → H a = some o → H' a = some o
def TK (H H' : Hp) : Prop := ∀ a o, isMu o = false → H a = some o → H' a = some o
theorem tf_mu {o : HO} (h : isTF o = true) : isMu o = false := by
  cases o with
  | tup _ => rfl
  | frz _ _ => rfl
  | _ => cases h
theorem TK.tt {H H' : Hp} (t : TK H H') : TT H H' := fun a o h e => t a o (tf_mu h) e
theorem TK.refl (H : Hp) : TK H H := fun _ _ _ h => h
theorem TK.trans {H H1 H2 : Hp} (x : TK H H1) (y : TK H1 H2) : TK H H2 := fun a o m h => y a o m (x a o m h)
theorem TK.same {H H' : Hp} (s : Same H H') : TK H H' := fun a o _ h => s a o h
theorem TK.upd {H : Hp} {p : Addr} {u o : HO} (h : H p = some u) (m : isMu u = true) : TK H (upd H p o) := fun a v n q => by
  have ne : a ≠ p := fun e => by
    subst e
    rw [h] at q; cases q
    rw [m] at n; cases n
  rw [upd_ne ne]; exact q
theorem TK.new {H : Hp} {p : Addr} {o : HO} (h : H p = none) : TK H (L2.upd H p o) := TK.same (sm_new h)
theorem TK.inD {H H' : Hp} {D : Addr} (h : H D = none) (k : ∀ b o, b ≠ D → H b = some o → H' b = some o) : TK H H' := fun a v _ q => k _ _ (ne_of_none q h) q
theorem TK.keep {b : Addr} {H H' : Hp} (hb : BoxAt H b) (s : Keep b H H') : TK H H' := fun a v n q => s a v (fun z => by
  obtain ⟨xs, hx⟩ := hb.lst
  rw [z, hx] at q
  cases q; cases n) q
theorem sqT_tt {K : PySem.W.Frag} {H H' : Hp} {a : Addr} {xs : List V} (t : TT H H') (h : SqT K H a xs) : SqT K H' a xs := h.elim (fun q => .inl (q.elim (fun q => .inl (t _ _ rfl q)) fun ⟨o, q⟩ => .inr ⟨o, t _ _ rfl q⟩)) .inr
theorem sqT_tk {K : PySem.W.Frag} {H H' : Hp} {a : Addr} {xs : List V} (t : TK H H') (h : SqT K H a xs) : SqT K H' a xs := sqT_tt t.tt h
structure Hd (H0 H : Hp) (L : List (Addr × HO)) : Prop where
  sm : Same H0 H
  nd : (L.map (·.1)).Nodup
  at_ : ∀ x ∈ L, H0 x.1 = none ∧ H x.1 = some x.2
section
variable {H0 H H' : Hp} {L : List (Addr × HO)} {p : Addr} {o u : HO}
theorem Hd.start (H : Hp) : Hd H H [] := ⟨Same.refl H, List.nodup_nil, fun _ h => (nomatch h)⟩
theorem Hd.get (w : Hd H0 H L) (h : (p, o) ∈ L) : H p = some o := (w.at_ _ h).2
theorem Hd.fr (w : Hd H0 H L) (h : (p, o) ∈ L) : H0 p = none := (w.at_ _ h).1
theorem Hd.call (w : Hd H0 H L) (s : Same H H') : Hd H0 H' L := ⟨w.sm.trans s, w.nd, fun x h => ⟨(w.at_ x h).1, s _ _ (w.at_ x h).2⟩⟩
theorem free_of {H H' : Hp} (s : Same H H') (h : H' p = none) : H p = none := by
  cases e : H p with
  | none => rfl
  | some o => rw [s _ _ e] at h; cases h
theorem Hd.got (w : Hd H0 H L) (n : H p = none) (s : Same H H') (h : H' p = some o) : Hd H0 H' ((p, o) :: L) := by
  refine ⟨w.sm.trans s, List.nodup_cons.mpr ⟨fun m => ?_, w.nd⟩, fun x hx => ?_⟩
  · obtain ⟨x, hx, e⟩ := List.mem_map.mp m
    have := (w.at_ x hx).2
    rw [show x.1 = p from e, n] at this
    cases this
  · rcases List.mem_cons.mp hx with rfl | hx
    · exact ⟨free_of w.sm n, h⟩
    · exact ⟨(w.at_ x hx).1, s _ _ (w.at_ x hx).2⟩
theorem Hd.new (w : Hd H0 H L) (n : H p = none) (o : HO) : Hd H0 (upd H p o) ((p, o) :: L) := w.got n (sm_new n) upd_same
theorem Hd.nw {Q : VK} (w : Hd H0 H L) (k : ∀ p H', H0 p = none → H p = none → Same H H' → Hd H0 H' ((p, o) :: L) → Q (.ref p) H') : New H o Q := fun p H' hn s h => k p H' (free_of w.sm hn) hn s (w.got hn s h)
theorem map_set_fst : ∀ (L : List (Addr × HO)) (i : Nat) (x : Addr × HO), L[i]?.map (·.1) = some x.1 → (L.set i x).map (·.1) = L.map (·.1)
  | [], _, _, h => by cases h
  | y :: L, 0, x, h => by
    have : y.1 = x.1 := Option.some.inj h
    show x.1 :: L.map (·.1) = y.1 :: L.map (·.1)
    rw [this]
  | y :: L, i + 1, x, h => by
    show y.1 :: (L.set i x).map (·.1) = y.1 :: L.map (·.1)
    rw [map_set_fst L i x h]
theorem Hd.set (w : Hd H0 H L) (i : Nat) (h : L[i]? = some (p, u)) (o : HO) : Hd H0 (upd H p o) (L.set i (p, o)) := by
  have hm : (p, u) ∈ L := List.mem_iff_getElem?.mpr ⟨i, h⟩
  have n0 := (w.at_ _ hm).1
  refine ⟨fun a v e => by rw [upd_ne (ne_of_none e n0)]; exact w.sm a v e, ?_, fun x hx => ?_⟩
  · rw [map_set_fst L i (p, o) (by rw [h]; rfl)]; exact w.nd
  · obtain ⟨j, hj⟩ := List.mem_iff_getElem?.mp hx
    by_cases c : i = j
    · subst c
      rw [List.getElem?_set_self (lt_at h)] at hj
      cases hj
      exact ⟨n0, upd_same⟩
    · rw [List.getElem?_set_ne c] at hj
      have hx' := w.at_ x (List.mem_iff_getElem?.mpr ⟨j, hj⟩)
      refine ⟨hx'.1, ?_⟩
      have ne : x.1 ≠ p := fun e => c (by
        have h1 : (L.map (·.1))[i]? = some p := by rw [List.getElem?_map, h]; rfl
        have h2 : (L.map (·.1))[j]? = some p := by rw [List.getElem?_map, hj, ← e]; rfl
        exact nodup_at w.nd h1 h2)
      rw [upd_ne ne]; exact hx'.2
theorem Hd.sub {L' : List (Addr × HO)} (w : Hd H0 H L) (h : L'.Sublist L) : Hd H0 H L' := ⟨w.sm, (h.map _).nodup w.nd, fun x hx => w.at_ x (h.subset hx)⟩
theorem Hd.tl {x : Addr × HO} (w : Hd H0 H (x :: L)) : Hd H0 H L := w.sub (List.sublist_cons_self _ _)
/-- within a list being made at D, one of one's own -/
theorem Hd.inD {D : Addr} (w : Hd H0 H L) (h : H D = none) (k : ∀ b o, b ≠ D → H b = some o → H' b = some o) : Hd H0 H' L :=
  ⟨fun a o e => k a o (ne_of_none (w.sm a o e) h) (w.sm a o e), w.nd, fun x hx => ⟨(w.at_ x hx).1, k _ _ (ne_of_none (w.at_ x hx).2 h) (w.at_ x hx).2⟩⟩
theorem Hd.tk (w : Hd H0 H L) : TK H0 H := TK.same w.sm
end
theorem same_sqL {K : PySem.W.Frag} {H H' : Hp} {a : Addr} {xs : List V} (s : Same H H') (h : SqL K H a xs) : SqL K H' a xs :=
  h.elim (fun q => .inl (q.elim (fun q => .inl (s _ _ q)) fun ⟨o, q⟩ => .inr ⟨o, s _ _ q⟩)) .inr
theorem big {n : Nat} (h : n ≤ 16000000) : n < sizeLine := Nat.lt_of_le_of_lt h (by decide)
theorem sqL_inD {K : PySem.W.Frag} {H H' : Hp} {D a : Addr} {xs : List V} (hD : H D = none) (k : ∀ b o, b ≠ D → H b = some o → H' b = some o) (h : SqL K H a xs) : SqL K H' a xs :=
  h.elim (fun q => .inl (q.elim (fun q => .inl (k _ _ (ne_of_none q hD) q)) fun ⟨o, q⟩ => .inr ⟨o, k _ _ (ne_of_none q hD) q⟩)) .inr
end Mw
open Mw

local macro_rules | `(tactic| walk_at "new") => `(tactic| first | refine Hd.nw (by assumption) fun _ _ _ _ _ _ => ?_)
local macro_rules | `(tactic| walk_at "hp") => `(tactic| first | exact Hd.get (by assumption) (by walk_at "mem"))
local macro_rules | `(tactic| walk_at "kw1") => `(tactic| first
  | refine ⟨_, _, rfl, (show SqT _ _ _ _ from by walk_at "seq"), rfl, ?_⟩
  | refine ⟨_, _, rfl, _, _, rfl, rfl, rfl, ?_⟩)

/-! ## the law's own words -/
namespace Lv
def lay : Nat → List (List Bool)
  | 0 => [[]]
  | k + 1 => ((lay k).map fun u => [u ++ [false], u ++ [true]]).flatten
def allW : Nat → List (List Bool)
  | 0 => [[]]
  | k + 1 => allW k ++ lay (k + 1)
theorem lay_len (k : Nat) : (lay k).length = 2 ^ k := by
  induction k with
  | zero => rfl
  | succ k ih =>
    have gen : ∀ l : List (List Bool), ((l.map fun u => [u ++ [false], u ++ [true]]).flatten).length = 2 * l.length := fun l => by
      induction l with
      | nil => rfl
      | cons u l ih => simp only [List.map_cons, List.flatten_cons, List.length_append, List.length_cons, List.length_nil, ih]; omega
    unfold lay
    rw [gen, ih, Nat.pow_succ, Nat.mul_comm]
theorem allW_len (k : Nat) : (allW k).length < 2 ^ (k + 1) := by
  induction k with
  | zero => decide
  | succ k ih =>
    unfold allW
    rw [List.length_append, lay_len, Nat.pow_succ 2 (k + 1)]
    omega
theorem lay_mem : ∀ (k : Nat) (u : List Bool), u ∈ lay k ↔ u.length = k
  | 0, u => by
    constructor
    · intro h; cases List.mem_singleton.mp h; rfl
    · intro h; rw [List.eq_nil_of_length_eq_zero h]; exact .head _
  | k + 1, u => by
    unfold lay
    rw [List.mem_flatten]
    constructor
    · rintro ⟨l, hl, hu⟩
      obtain ⟨v, hv, rfl⟩ := List.mem_map.mp hl
      have := (lay_mem k v).mp hv
      rcases List.mem_cons.mp hu with rfl | hu
      · simp [this]
      · cases List.mem_singleton.mp hu; simp [this]
    · intro h
      have ne : u ≠ [] := fun e => by rw [e] at h; cases h
      have e := List.dropLast_concat_getLast ne
      refine ⟨[u.dropLast ++ [false], u.dropLast ++ [true]], List.mem_map.mpr ⟨u.dropLast, (lay_mem k _).mpr (by rw [List.length_dropLast]; omega), rfl⟩, ?_⟩
      cases q : u.getLast ne with
      | false => rw [q] at e; exact List.mem_cons.mpr (.inl e.symm)
      | true => rw [q] at e; exact List.mem_cons.mpr (.inr (List.mem_singleton.mpr e.symm))
theorem allW_mem (k : Nat) (u : List Bool) : u ∈ allW k ↔ u.length ≤ k := by
  induction k with
  | zero =>
    constructor
    · intro h; cases List.mem_singleton.mp h; exact Nat.le_refl _
    · intro h; rw [List.eq_nil_of_length_eq_zero (Nat.le_zero.mp h)]; exact .head _
  | succ k ih =>
    unfold allW
    rw [List.mem_append, ih, lay_mem]
    omega
def sE (u : List Bool) : V := .str (enc u)
theorem join_b (bits : List Bool) : Txt.join ("" : Str) (bits.map fun x => enc [x]) = enc bits := by
  have h := join_enc (bits.map fun x => [x])
  have e : (bits.map fun x => [x]).flatten = bits := by induction bits with
    | nil => rfl
    | cons x r ih => rw [List.map_cons, List.flatten_cons, ih (join_enc _)]; rfl
  rw [List.map_map, e] at h
  exact h
theorem sum_b (bits : List Bool) : ((bits.map fun x => enc [x]).map (·.length)).sum = bits.length := by
  induction bits with
  | nil => rfl
  | cons x r ih => rw [List.map_cons, List.map_cons, List.sum_cons, ih, enc_len]; simp; omega
theorem at_lr (c : Bool) : atI ("lr" : Str).cps.toList ((if c = true then 1 else 0 : Nat) : Int) = some (cd c) := by cases c <;> decide +kernel
theorem lr_len : ("lr" : Str).length ≤ sizeLine := by decide +kernel
end Lv
open Lv

/-! ## expressions that come to values, lists -/
namespace Sx
def VE (te : TE) (σ : L2.St) (H0 : Hp) (v : V) : Prop := ∀ H, Same H0 H → ∀ Q : VK, (∀ H', Same H H' → Q v H') → te σ H Q
def BE (tt : TT) (σ : L2.St) (H0 : Hp) (b : Bool) : Prop := ∀ H, Same H0 H → ∀ Q : Bool → Hp → Prop, (∀ H', Same H H' → Q b H') → tt σ H Q
theorem sameD {D : Addr} {H H' : Hp} (hD : H D = none) (kp : ∀ b o, b ≠ D → H b = some o → H' b = some o) : Same H H' := fun b o e => kp b o (ne_of_none e hD) e
def VL (te : TE) (σ : L2.St) (H0 : Hp) (xs : List V) : Prop := ∀ H, Same H0 H → ∀ Q : VK, (∀ (D : Addr) (H' : Hp), Same H H' → H' D = some (.lst xs) → Q (.ref D) H') → te σ H Q
def VN (te : TE) (σ : L2.St) (H0 : Hp) (xs : List V) : Prop := ∀ H, Same H0 H → ∀ Q : VK, (∀ (D : Addr) (H' : Hp), H D = none → Same H H' → H' D = some (.lst xs) → Q (.ref D) H') → te σ H Q
section
variable {K : PySem.W.Frag} {σ : L2.St} {H0 H1 : Hp} {ta tb te : TE} {tt tu : TT} {xs ys : List V} {p : Addr} {i j : Nat} {vs : List Nat}
theorem VE.grow {v : V} (h : VE ta σ H0 v) (s : Same H0 H1) : VE ta σ H1 v := fun H s1 => h H (s.trans s1)
theorem BE.grow {b : Bool} (h : BE tt σ H0 b) (s : Same H0 H1) : BE tt σ H1 b := fun H s1 => h H (s.trans s1)
theorem BE.val {b : Bool} (h : VE ta σ H0 (.bl b)) : BE (tTest ta) σ H0 b := fun H s Q q => h H s _ fun H' s' => ⟨b, rfl, q H' s'⟩
theorem BE.valB {b : Bool} (h : VE ta σ H0 (.bl b)) : BE (tB ta) σ H0 b := fun H s Q q => h H s _ fun H' s' => ⟨b, rfl, q H' s'⟩
theorem BE.or {a b : Bool} (h : BE tt σ H0 a) (g : BE tu σ H0 b) : BE (tOr tt tu) σ H0 (a || b) := fun H s Q q => h H s _ fun H' s' => by
  cases a with
  | true => exact ifT rfl (q H' s')
  | false => exact ifF rfl (g H' (s.trans s') _ fun H'' s'' => q H'' (s'.trans s''))
theorem BE.and {a b : Bool} (h : BE tt σ H0 a) (g : BE tu σ H0 b) : BE (tAnd tt tu) σ H0 (a && b) := fun H s Q q => h H s _ fun H' s' => by
  cases a with
  | true => exact ifT rfl (g H' (s.trans s') _ fun H'' s'' => q H'' (s'.trans s''))
  | false => exact ifF rfl (q H' s')
theorem BE.or2 (h : BE tt σ H0 false) (g : BE tu σ H0 false) : BE (tOr tt tu) σ H0 false := BE.or h g
theorem BE.not {b : Bool} (h : BE tt σ H0 b) : BE (tNot tt) σ H0 (!b) := fun H s Q q => h H s _ fun H' s' => q H' s'
theorem BE.to {b c : Bool} (h : BE tt σ H0 b) (e : b = c) : BE tt σ H0 c := e ▸ h
theorem VE.to {v w : V} (h : VE ta σ H0 v) (e : v = w) : VE ta σ H0 w := e ▸ h
theorem VE.var {i : Nat} {v : V} (hσ : σ[i]? = some (some v)) : VE (tVar i) σ H0 v := fun H s Q q => ⟨_, hσ, q H (Same.refl H)⟩
theorem VE.c {v : V} : VE (tC v) σ H0 v := fun H s Q q => q H (Same.refl H)
theorem VE.not {b : Bool} (h : VE ta σ H0 (.bl b)) : VE (tNotV ta) σ H0 (.bl (!b)) := fun H s Q q => h H s _ fun H' s' => ⟨b, rfl, q H' s'⟩
theorem VE.and {a b : Bool} (h : VE ta σ H0 (.bl a)) (g : VE tb σ H0 (.bl b)) : VE (tAndV ta tb) σ H0 (.bl (a && b)) := fun H s Q q => h H s _ fun H' s' => ⟨a, rfl, by
  cases a with
  | true => exact ifT rfl (g H' (s.trans s') _ fun H'' s'' => q H'' (s'.trans s''))
  | false => exact ifF rfl (q H' s')⟩
theorem VE.neI {a b : Int} (h : VE ta σ H0 (.int a)) (g : VE tb σ H0 (.int b)) : VE (tOp rNe ta tb) σ H0 (.bl (!decide (a = b))) := fun H s Q q => h H s _ fun H' s' => g H' (s.trans s') _ fun H'' s'' => ⟨rfl, by
  rw [show decide (V.int a = V.int b) = decide (a = b) from by rw [Bool.eq_iff_iff, decide_eq_true_eq, decide_eq_true_eq]; exact ⟨V.int.inj, fun e => by rw [e]⟩]
  exact q H'' (s'.trans s'')⟩
theorem VE.add {a b : Int} (h : VE ta σ H0 (.int a)) (g : VE tb σ H0 (.int b)) : VE (tOp (rI0 fun i j => V.int (i + j)) ta tb) σ H0 (.int (a + b)) := fun H s Q q => h H s _ fun H' s' => g H' (s.trans s') _ fun H'' s'' => ⟨_, _, rfl, rfl, q H'' (s'.trans s'')⟩
theorem if_skip {c : TT} {t u : TS} {D : Ends} {H : Hp} (h : BE c σ H0 false) (s : Same H0 H) (k : ∀ H', Same H H' → u D σ H') : tIfS c t u D σ H := h H s _ fun H' s' => ifF rfl (k H' s')
theorem if_next {c : TT} {t : TS} {D : Ends} {H : Hp} (h : BE c σ H0 false) (s : Same H0 H) (k : ∀ H', Same H H' → D.nx σ H') : tIfS c t tNext D σ H := h H s _ fun H' s' => ifF rfl (k H' s')
theorem seq_if {c : TT} {t u : TS} {D : Ends} {H : Hp} (h : BE c σ H0 false) (s : Same H0 H) (k : ∀ H', Same H H' → u D σ H') : tSeq (tIfS c t tNext) u D σ H := h H s _ fun H' s' => ifF rfl (k H' s')
theorem seq_set {te : TE} {i : Nat} {v : V} {u : TS} {D : Ends} {H : Hp} (h : VE te σ H0 v) (s : Same H0 H) (k : ∀ H', Same H H' → u D (σ.set i (some v)) H') : tSeq (tAsg te (gName i)) u D σ H := h H s _ fun H' s' => k H' s'
theorem VN.vl (h : VN te σ H0 xs) : VL te σ H0 xs := fun H s Q q => h H s Q fun D H' _ s' hD => q D H' s' hD
theorem VN.to (h : VN te σ H0 xs) (e : xs = ys) : VN te σ H0 ys := e ▸ h
theorem VL.grow (h : VL te σ H0 xs) (s : Same H0 H1) : VL te σ H1 xs := fun H s1 => h H (s.trans s1)
theorem VL.to (h : VL te σ H0 xs) (e : xs = ys) : VL te σ H0 ys := e ▸ h
theorem VL.var (hσ : σ[i]? = some (some (.ref p))) (hp : H0 p = some (.lst xs)) : VL (tVar i) σ H0 xs := fun H s Q q => ⟨_, hσ, q p H (Same.refl H) (s _ _ hp)⟩
theorem VN.rng {n : Nat} (f : Nat → V) (h : VE te σ H0 (.int (n : Nat))) (hn : n ≤ 1000000) (hw : ∀ x : V, wipe ((wipe σ vs).set j (some x)) vs = wipe σ vs)
    (turn : ∀ k, k < n → VE tb ((wipe σ vs).set j (some (.int (0 + (k : Int))))) H0 (f k)) : VN (tLc (iRng1 (tCons te tNil)) (gName j) tYes tb vs) σ H0 ((List.range n).map f) := fun H s Q q =>
  h H s _ fun H1 s1 => ⟨_, rfl, by omega, by omega, fun D hD => by
    rw [Int.toNat_natCast]
    refine lcR_range (lo := 0) (fun k H' => (∀ b o, b ≠ D → H1 b = some o → H' b = some o) ∧ H' D = some (.lst ((List.range k).map f))) ⟨fun b o n e => by rw [upd_ne n]; exact e, upd_same⟩ (fun k H' hk m => ?_) (gName_mono _) (fun H' m => ?_)
    · obtain ⟨kp, g⟩ := m
      refine ⟨hw _, turn k hk H' ((s.trans s1).trans (sameD hD kp)) _ fun H2 s2 => ?_⟩
      refine ⟨_, s2 _ _ g, by rw [List.length_map, List.length_range]; exact big (by omega), fun b o n e => by rw [upd_ne n]; exact s2 _ _ (kp b o n e), ?_⟩
      rw [upd_same, List.range_succ, List.map_append]; rfl
    · exact q D H' (free_of s1 hD) (s1.trans (sameD hD m.1)) m.2⟩
theorem VN.mapL {α : Type} (g : α → V) {l : List α} (f : α → V) (h : VL te σ H0 (l.map g)) (hn : l.length ≤ 1000000) (hw : ∀ x : V, wipe ((wipe σ vs).set j (some x)) vs = wipe σ vs)
    (turn : ∀ x ∈ l, VE tb ((wipe σ vs).set j (some (g x))) H0 (f x)) : VN (tLc (iList K te) (gName j) tYes tb vs) σ H0 (l.map f) := fun H s Q q =>
  h H s _ fun L H1 s1 hL => ⟨L, rfl, ⟨_, SqL.of hL⟩, fun D hD => by
    refine lcR_list (xs := l.map g) (fun k H' => (∀ b o, b ≠ D → H1 b = some o → H' b = some o) ∧ H' D = some (.lst ((l.take k).map f))) ⟨fun b o n e => by rw [upd_ne n]; exact e, upd_same⟩ (fun k H' _ m => sqL_inD hD m.1 (SqL.of hL)) (fun k v H' hk m => ?_) (gName_mono _) (fun H' m => ?_)
    · obtain ⟨kp, gd⟩ := m
      rw [List.getElem?_map] at hk
      obtain ⟨x, hx, rfl⟩ := Option.map_eq_some_iff.mp hk
      refine ⟨hw _, turn x (List.mem_iff_getElem?.mpr ⟨_, hx⟩) H' ((s.trans s1).trans (sameD hD kp)) _ fun H2 s2 => ?_⟩
      refine ⟨_, s2 _ _ gd, by rw [List.length_map, List.length_take]; exact big (by omega), fun b o n e => by rw [upd_ne n]; exact s2 _ _ (kp b o n e), ?_⟩
      rw [upd_same, List.take_add_one, hx, List.map_append]; rfl
    · obtain ⟨kp, gd⟩ := m
      rw [List.length_map, List.take_length] at gd
      exact q D H' (free_of s1 hD) (s1.trans (sameD hD kp)) gd⟩
theorem VE.neSame {v : V} (h : VE ta σ H0 v) (g : VE tb σ H0 v) (sc : scal v v = true) : VE (tOp rNe ta tb) σ H0 (.bl false) := fun H s Q q => h H s _ fun H' s' => g H' (s.trans s') _ fun H'' s'' => ⟨sc, by
  rw [decide_eq_true rfl]
  exact q H'' (s'.trans s'')⟩
theorem VE.eqV {v w : V} (h : VE ta σ H0 v) (g : VE tb σ H0 w) (sc : scal v w = true) : VE (tOp rEq ta tb) σ H0 (.bl (decide (v = w))) := fun H s Q q => h H s _ fun H' s' => g H' (s.trans s') _ fun H'' s'' => ⟨sc, q H'' (s'.trans s'')⟩
theorem VE.neV {v w : V} (h : VE ta σ H0 v) (g : VE tb σ H0 w) (sc : scal v w = true) : VE (tOp rNe ta tb) σ H0 (.bl (!decide (v = w))) := fun H s Q q => h H s _ fun H' s' => g H' (s.trans s') _ fun H'' s'' => ⟨sc, q H'' (s'.trans s'')⟩
theorem VE.intI {a : Int} (h : VE te σ H0 (.int a)) : VE (tCB (fun xs H Q => ∃ i, xs = [V.int i] ∧ Q (V.int i) H) (tCons te tNil)) σ H0 (.int a) := fun H s Q q => h H s _ fun H' s' => ⟨a, rfl, q H' s'⟩
theorem VE.mulI {a b : Int} (h : VE ta σ H0 (.int a)) (g : VE tb σ H0 (.int b)) (c : CMul a b) : VE (tOp (rI CMul fun i j => V.int (i * j)) ta tb) σ H0 (.int (a * b)) := fun H s Q q => h H s _ fun H' s' => g H' (s.trans s') _ fun H'' s'' => ⟨_, _, rfl, rfl, c, q H'' (s'.trans s'')⟩
theorem seq_VN {u : TS} {D : Ends} {H : Hp} (h : VN te σ H0 xs) (s : Same H0 H) (k : ∀ L H', H L = none → Same H H' → H' L = some (.lst xs) → u D (σ.set i (some (.ref L))) H') : tSeq (tAsg te (gName i)) u D σ H := h H s _ fun L H' n s' hL => k L H' n s' hL
theorem seq_VL {u : TS} {D : Ends} {H : Hp} (h : VL te σ H0 xs) (s : Same H0 H) (k : ∀ L H', Same H H' → H' L = some (.lst xs) → u D (σ.set i (some (.ref L))) H') : tSeq (tAsg te (gName i)) u D σ H := h H s _ fun L H' s' hL => k L H' s' hL
end
end Sx
open Sx

/-! ## k09 -/
namespace K9
def sp_mirror : Sp := fun vs H Q _ => ∃ u : List Bool, vs = [.str (enc u)] ∧ u.length ≤ 100000 ∧ ∀ H' : Hp, Same H H' → Q (.str (enc (u.map (!·)))) H'
def two (ws : List (List Bool)) : List (List Bool) := (ws.map fun u => [u ++ [false], u ++ [true]]).flatten
theorem two_len (l : List (List Bool)) : (two l).length = 2 * l.length := by
  unfold two
  induction l with
  | nil => rfl
  | cons u l ih => simp only [List.map_cons, List.flatten_cons, List.length_append, List.length_cons, List.length_nil, ih]; omega
def sp_longer (K : PySem.W.Frag) : Sp := fun vs H Q _ => ∃ (L : Addr) (ws : List (List Bool)), vs = [.ref L] ∧ SqL K H L (ws.map sE) ∧ ws.length ≤ 4096 ∧ (∀ u ∈ ws, u.length ≤ 1000) ∧ ∀ (G : Addr) (H' : Hp), H G = none → Same H H' → H' G = some (.lst ((two ws).map sE)) → Q (.ref G) H'
def sp_small (K : PySem.W.Frag) : Sp := fun vs H Q _ => ∃ n : Nat, vs = [.int (n : Nat)] ∧ n ≤ 5 ∧ ∀ (p : Addr) (H' : Hp), H p = none → Same H H' → H' p = some (.lst ((allW n).map sE)) → Q (.ref p) H'
def plc (u : List Bool) : Str := ⟨(plcL u).toArray⟩
def sp_place : Sp := fun vs H Q _ => ∃ u : List Bool, vs = [.str (enc u)] ∧ u.length ≤ 100000 ∧ ∀ H' : Hp, Same H H' → Q (.str (plc u)) H'
def sp_law (K : PySem.W.Frag) : Sp := fun vs H Q _ => ∃ (a : Addr) (ns : List Int), vs = [.ref a] ∧ SqL K H a (ns.map V.int) ∧ ns.length ≤ 63 ∧ ∀ H', Q (.bl true) H'
theorem elP (b : Bool) : atI [V.str ("a" : Str), V.str ("c" : Str)] (if decide (V.str ⟨#[cd b]⟩ = V.str ("r" : Str)) = true then 1 else 0) = some (.str ⟨#[pc b]⟩) := by cases b <;> decide +kernel
theorem elM (b : Bool) : atI [V.str ("l" : Str), V.str ("r" : Str)] (if decide (V.str ⟨#[cd b]⟩ = V.str ("l" : Str)) = true then 1 else 0) = some (.str (enc [!b])) := by cases b <;> decide +kernel
theorem elU (b : Bool) : atI [V.str ("l" : Str), V.str ("r" : Str)] (if decide (V.str ⟨#[pc b]⟩ = V.str ("c" : Str)) = true then 1 else 0) = some (.str (enc [b])) := by cases b <;> decide +kernel
theorem plc_add (u : List Bool) : (⟨(u.map pc).toArray⟩ : Str) ++ ("b" : Str) = plc u := by
  show (⟨(u.map pc).toArray ++ ("b" : Str).cps⟩ : Str) = _
  have e : ("b" : Str).cps = #[98] := by decide +kernel
  rw [e]
  simp [plc, plcL]
theorem wf_mul : ∀ (u : List Bool) (m : Mt), wf m u = m.mul (wmx u)
  | [], m => by
    show m = m.mul Mt.one
    refine Mt.ext' ?_ ?_ ?_ ?_ <;> simp [Mt.mul, Mt.one]
  | x :: u, m => by
    have e1 : wf m (x :: u) = wf (m.mul (lt x)) u := rfl
    have e2 : wmx (x :: u) = wf (Mt.one.mul (lt x)) u := rfl
    rw [e1, e2, wf_mul u, wf_mul u (Mt.one.mul (lt x)), Mt.one_mul, Mt.mul_assoc]
theorem wmx_cons (x : Bool) (u : List Bool) : wmx (x :: u) = (lt x).mul (wmx u) := by
  have e2 : wmx (x :: u) = wf (Mt.one.mul (lt x)) u := rfl
  rw [e2, wf_mul, Mt.one_mul]
theorem wmx_app (u v : List Bool) : wmx (u ++ v) = (wmx u).mul (wmx v) := by
  have e : wmx (u ++ v) = wf (wmx u) v := by unfold wmx wf; rw [List.foldl_append]
  rw [e, wf_mul]
def rA : R2 := fun x y H Q => ∃ i j, x = .str i ∧ y = .str j ∧ i.length + j.length ≤ sizeLine ∧ Q (.str (i ++ j)) H
def rN : R2 := fun x y H Q => y = .non ∧ Q (.bl (!decide (x = .non))) H
def swp : Mt := ⟨0, 1, 1, 0⟩
theorem swp_lt (x : Bool) : swp.mul (lt x) = (lt (!x)).mul swp := by cases x <;> rfl
theorem swp_w : ∀ u : List Bool, swp.mul (wmx u) = (wmx (u.map (!·))).mul swp
  | [] => rfl
  | x :: u => by
    rw [wmx_cons, List.map_cons, wmx_cons, ← Mt.mul_assoc, swp_lt, Mt.mul_assoc, swp_w u, ← Mt.mul_assoc]
theorem pr_mir : ∀ u : List Bool, pr (u.map (!·)) = ((pr u).2, (pr u).1)
  | [] => rfl
  | x :: u => by
    rw [List.map_cons]
    cases x
    · show ((pr (u.map (!·))).1 + (pr (u.map (!·))).2, (pr (u.map (!·))).2) = ((pr u).1 + (pr u).2, (pr u).1)
      rw [pr_mir u, Nat.add_comm]
    · show ((pr (u.map (!·))).1, (pr (u.map (!·))).1 + (pr (u.map (!·))).2) = ((pr u).2, (pr u).1 + (pr u).2)
      rw [pr_mir u, Nat.add_comm]
theorem ac_pr : ∀ u v : List Bool, (wmx u).a * ((pr v).1 : Int) + (wmx u).b * ((pr v).2 : Int) = ((pr (u ++ v)).1 : Int) ∧ (wmx u).c * ((pr v).1 : Int) + (wmx u).d * ((pr v).2 : Int) = ((pr (u ++ v)).2 : Int)
  | [], v => by
    show (1 : Int) * _ + 0 * _ = _ ∧ (0 : Int) * _ + 1 * _ = _
    constructor <;> (rw [List.nil_append]; omega)
  | x :: u, v => by
    obtain ⟨h1, h2⟩ := ac_pr u v
    rw [wmx_cons, List.cons_append]
    cases x
    · show (1 * (wmx u).a + 0 * (wmx u).c) * ((pr v).1 : Int) + (1 * (wmx u).b + 0 * (wmx u).d) * ((pr v).2 : Int) = ((pr (u ++ v)).1 : Int) ∧ (1 * (wmx u).a + 1 * (wmx u).c) * ((pr v).1 : Int) + (1 * (wmx u).b + 1 * (wmx u).d) * ((pr v).2 : Int) = (((pr (u ++ v)).1 + (pr (u ++ v)).2 : Nat) : Int)
      push_cast
      rw [← h1, ← h2]
      constructor <;> grind
    · show (1 * (wmx u).a + 1 * (wmx u).c) * ((pr v).1 : Int) + (1 * (wmx u).b + 1 * (wmx u).d) * ((pr v).2 : Int) = (((pr (u ++ v)).1 + (pr (u ++ v)).2 : Nat) : Int) ∧ (0 * (wmx u).a + 1 * (wmx u).c) * ((pr v).1 : Int) + (0 * (wmx u).b + 1 * (wmx u).d) * ((pr v).2 : Int) = ((pr (u ++ v)).2 : Int)
      push_cast
      rw [← h1, ← h2]
      constructor <;> grind
/-- an expression comes to a ratio, to a change -/
def RE (C : Addr) (te : TE) (σ : L2.St) (H0 : Hp) (a b : Int) : Prop := ∀ H, Same H0 H → ∀ Q : VK, (∀ p H', Same H H' → RatAt C H' p a b → Q (.ref p) H') → te σ H Q
def CE (CC : Addr) (te : TE) (σ : L2.St) (H0 : Hp) (m : Mt) : Prop := ∀ H, Same H0 H → ∀ Q : VK, (∀ p H', Same H H' → ChM CC H' p m → Q (.ref p) H') → te σ H Q
theorem ChM.same {CC : Addr} {H H' : Hp} {p : Addr} {m : Mt} (x : ChM CC H p m) (s : Same H H') : ChM CC H' p m := let ⟨d, q, h, g⟩ := x; ⟨d, q, s _ _ h, s _ _ g⟩
section
variable {K : PySem.W.Frag} {mg : Str → Option Value} {C CC IR IW : Addr} {σ : L2.St} {H0 : Hp} {ta tb : TE} {u v : List Bool} {m n : Mt} {x : V}
theorem RE.word (h : VE ta σ H0 (.str (enc u))) (hu : u.length ≤ 900) : RE C (tCm C (calm (sp_ofword C IW K)) (fun _ => E0) (tCons ta tNil)) σ H0 (pr u).1 (pr u).2 := fun H s Q q => h H s _ fun H1 s1 =>
  ⟨_, rfl, .str _, fun z e => by cases e; rw [enc_len]; exact hu, fun v e p H' _ s' r => by
    have e := enc_inj (V.str.inj e)
    subst e
    exact q p H' (s1.trans s') r, fun g => by
    rw [show goodW (.str (enc u)) = true from good_enc u] at g
    cases g⟩
theorem CE.word (h : VE ta σ H0 (.str (enc u))) (hu : u.length ≤ 900) : CE CC (tCm CC (calm (sp_chw CC IW K)) (fun _ => E0) (tCons ta tNil)) σ H0 (wmx u) := fun H s Q q => h H s _ fun H1 s1 =>
  ⟨_, rfl, .str _, fun z e => by cases e; rw [enc_len]; exact hu, fun v e p H' _ s' r => by
    have e := enc_inj (V.str.inj e)
    subst e
    exact q p H' (s1.trans s') r, fun g => by
    rw [show goodW (.str (enc u)) = true from good_enc u] at g
    cases g⟩
theorem CE.exch : CE CC (tCm CC (calm (sp_cmk CC m)) (fun _ => E0) tNil) σ H0 m := fun H s Q q => ⟨rfl, fun r H' _ s' c => q r H' s' c⟩
theorem CE.var {i : Nat} {p : Addr} (hσ : σ[i]? = some (some (.ref p))) (hp : ChM CC H0 p m) : CE CC (tVar i) σ H0 m := fun H s Q q => ⟨_, hσ, q p H (Same.refl H) (hp.same s)⟩
theorem RE.var {i : Nat} {p : Addr} {a b : Int} (hσ : σ[i]? = some (some (.ref p))) (hp : RatAt C H0 p a b) : RE C (tVar i) σ H0 a b := fun H s Q q => ⟨_, hσ, q p H (Same.refl H) (hp.same s)⟩
theorem CE.mul (h : CE CC ta σ H0 m) (g : CE CC tb σ H0 n) (hm : m.In 400) (hn : n.In 400) (dm : m.det ≠ 0) (dn : n.det ≠ 0) : CE CC (tOp (rBinC CC (sp_mul CC C)) ta tb) σ H0 (m.mul n) := fun H s Q q => h H s _ fun p H1 s1 hp => g H1 (s.trans s1) _ fun r H2 s2 hr => by
  have hp := hp.same s2
  obtain ⟨d1, q1, g1, k1⟩ := id hp
  obtain ⟨d2, q2, g2, k2⟩ := id hr
  exact ⟨p, d1, _, r, d2, _, rfl, rfl, g1, g2, p, r, m, rfl, hp, hm, dm, .inl ⟨n, hr, hn, dn, fun x H3 _ s3 c => q x H3 ((s1.trans s2).trans s3) c⟩⟩
theorem RE.mul (h : CE CC ta σ H0 (wmx u)) (g : RE C tb σ H0 (pr v).1 (pr v).2) (hu : u.length ≤ 240) (hv : v.length ≤ 240) : RE C (tOp (rBinD CC C (sp_mul CC C)) ta tb) σ H0 (pr (u ++ v)).1 (pr (u ++ v)).2 := fun H s Q q => h H s _ fun p H1 s1 hp => g H1 (s.trans s1) _ fun r H2 s2 hr => by
  have hp := hp.same s2
  obtain ⟨d1, q1, g1, k1⟩ := id hp
  obtain ⟨d2, g2⟩ := id hr
  have p1 := pr_pos v
  have l1 := pr_le v
  have big : 2 ^ (v.length + 1) ≤ 2 ^ 250 := Nat.pow_le_pow_right (by decide) (by omega)
  have b1 : ((pr v).1 : Int) < 2 ^ 400 := Int.lt_of_lt_of_le (show ((pr v).1 : Int) < ((2 ^ 400 : Nat) : Int) from Int.ofNat_lt.mpr (Nat.lt_of_lt_of_le (show (pr v).1 < 2 ^ 250 + 1 by omega) (by decide))) (by decide)
  have b2 : ((pr v).2 : Int) < 2 ^ 400 := Int.lt_of_lt_of_le (show ((pr v).2 : Int) < ((2 ^ 400 : Nat) : Int) from Int.ofNat_lt.mpr (Nat.lt_of_lt_of_le (show (pr v).2 < 2 ^ 250 + 1 by omega) (by decide))) (by decide)
  refine ⟨p, d1, _, r, d2, _, rfl, rfl, g1, g2, p, r, wmx u, rfl, hp, (wm_in u).mono (by omega), by rw [wm_det]; decide, .inr ⟨_, _, hr, by omega, by omega, b1, b2, fun x H3 _ s3 c => ?_⟩⟩
  rw [(ac_pr u v).1, (ac_pr u v).2, (pr_div _).1, (pr_div _).2] at c
  exact q x H3 ((s1.trans s2).trans s3) c
theorem RE.turned (h : RE C ta σ H0 (pr u).1 (pr u).2) (hu : u.length ≤ 900) : RE C (tProp C (sp_turned C) [] E0 ta) σ H0 (pr u).2 (pr u).1 := fun H s Q q => h H s _ fun p H1 s1 hp => by
  obtain ⟨d1, g1⟩ := id hp
  have p1 := pr_pos u
  have ps := pr_small hu
  exact ⟨p, d1, _, rfl, g1, p, _, _, rfl, hp, by omega, by omega, pr_cop u, ps.1, ps.2, fun r H' _ s' c => q r H' (s1.trans s') c⟩
theorem BE.neR {a b : Int} (R : RatT K mg C) (h : RE C ta σ H0 a b) (g : RE C tb σ H0 a b) (ha : a.natAbs < 2 ^ 1000) (hb : b.natAbs < 2 ^ 1000) : BE (tTest (tOp (rOwnNe K C (sp_cmp C r_eq)) ta tb)) σ H0 false := fun H s Q q => h H s _ fun p H1 s1 hp => g H1 (s.trans s1) _ fun r H2 s2 hr => by
  have hp := hp.same s2
  obtain ⟨d1, g1⟩ := id hp
  obtain ⟨d2, g2⟩ := id hr
  refine ⟨p, d1, _, .ref C, rfl, g1, R.ty g2, R.nf, p, r, a, b, a, b, rfl, hp, hr, ha, hb, ha, hb, _, rfl, _, rfl, ?_⟩
  rw [show r_eq a b a b = true by unfold r_eq; simp]
  exact q H2 (s1.trans s2)
theorem BE.neC (Rc : ChT K mg CC) (h : CE CC ta σ H0 m) (g : CE CC tb σ H0 m) : BE (tTest (tOp (rOwnNe K CC (sp_cheq CC K)) ta tb)) σ H0 false := fun H s Q q => h H s _ fun p H1 s1 hp => g H1 (s.trans s1) _ fun r H2 s2 hr => by
  have hp := hp.same s2
  obtain ⟨d1, q1, g1, k1⟩ := id hp
  obtain ⟨d2, q2, g2, k2⟩ := id hr
  refine ⟨p, d1, _, .ref CC, rfl, g1, Rc.ty g2, Rc.nf, p, _, _, _, _, _, rfl, hp, .inl ⟨r, _, _, _, _, rfl, hr, _, rfl, _, rfl, ?_⟩⟩
  rw [decide_eq_true (⟨rfl, rfl, rfl, rfl⟩ : m.a = m.a ∧ m.b = m.b ∧ m.c = m.c ∧ m.d = m.d)]
  exact q H2 (s1.trans s2)
theorem BE.cmpR {r : Int → Int → Int → Int → Bool} {a b c d : Int} (R : RatT K mg C) (h : RE C ta σ H0 a b) (g : RE C tb σ H0 c d) (ha : a.natAbs < 2 ^ 1000) (hb : b.natAbs < 2 ^ 1000) (hc : c.natAbs < 2 ^ 1000) (hd : d.natAbs < 2 ^ 1000) : BE (tTest (tOp (rOwnI K C (sp_cmp C r) E0) ta tb)) σ H0 (r a b c d) := fun H s Q q => h H s _ fun p H1 s1 hp => g H1 (s.trans s1) _ fun x H2 s2 hr => by
  have hp := hp.same s2
  obtain ⟨d1, g1⟩ := id hp
  obtain ⟨d2, g2⟩ := id hr
  exact ⟨p, d1, _, .ref C, rfl, g1, R.ty g2, R.nf, p, x, a, b, c, d, rfl, hp, hr, ha, hb, hc, hd, _, rfl, q H2 (s1.trans s2)⟩
theorem VE.addW (h : VE ta σ H0 (.str (enc u))) (g : VE tb σ H0 (.str (enc v))) (l : u.length + v.length ≤ 1000) {r : R2} (hr : ∀ (a b : Str) H (Q : VK), a.length + b.length ≤ 16777216 → Q (.str (a ++ b)) H → r (.str a) (.str b) H Q) : VE (tOp r ta tb) σ H0 (.str (enc (u ++ v))) := fun H s Q q => h H s _ fun H1 s1 => g H1 (s.trans s1) _ fun H2 s2 => hr _ _ _ _ (by rw [enc_len, enc_len]; omega) (by
  rw [enc_app]
  exact q H2 (s1.trans s2))
theorem VE.mir (h : VE ta σ H0 (.str (enc u))) (hu : u.length ≤ 100000) : VE (tCall sp_mirror [] E0 (tCons ta tNil)) σ H0 (.str (enc (u.map (!·)))) := fun H s Q q => h H s _ fun H1 s1 => ⟨u, rfl, hu, fun H' s' => q H' (s1.trans s')⟩
theorem VE.addS (h : VE ta σ H0 (.str (enc u))) (g : VE tb σ H0 (.str (enc v))) (l : u.length + v.length ≤ 1000) : VE (tOp rA ta tb) σ H0 (.str (enc (u ++ v))) := fun H s Q q => h H s _ fun H1 s1 => g H1 (s.trans s1) _ fun H2 s2 => by
  unfold rA
  refine ⟨_, _, rfl, rfl, by rw [enc_len, enc_len]; exact szl (by omega), ?_⟩
  rw [enc_app]
  exact q H2 (s1.trans s2)
theorem RE.make {i j : Int} (h : VE ta σ H0 (.int i)) (g : VE tb σ H0 (.int j)) (hi : 1 ≤ i) (hj : 1 ≤ j) (bi : i.natAbs < 2 ^ 1000) (bj : j.natAbs < 2 ^ 1000) : RE C (tMake C (calm (sp_init C IR K)) [] E0 (tCons ta (tCons tb tNil))) σ H0 (i / (Int.gcd i j : Nat)) (j / (Int.gcd i j : Nat)) := fun H s Q q =>
  h H s _ fun H1 s1 => g H1 (s.trans s1) _ fun H2 s2 => fun p e hp he hn => mk_ratH hi hj bi bj hp he hn fun H3 s3 c => q p H3 ((s1.trans s2).trans s3) c
theorem VE.wordP (h : RE C ta σ H0 (pr u).1 (pr u).2) (hu : u.length ≤ 900) : VE (tProp C (sp_word C) [] E0 ta) σ H0 (.str (enc u)) := fun H s Q q => h H s _ fun p H1 s1 hp => by
  obtain ⟨d1, g1⟩ := id hp
  exact ⟨p, d1, _, rfl, g1, p, u, rfl, hp, hu, fun H' s' => q H' (s1.trans s')⟩
theorem BE.andF {tt tu : TT} (h : BE tt σ H0 false) : BE (tAnd tt tu) σ H0 false := fun H s Q q => h H s _ fun H' s' => by
  first
    | exact q H' s'
    | exact ifF rfl (q H' s')
    | exact ⟨fun e => nomatch e, fun _ => q H' s'⟩
theorem VE.notN {v : V} (h : VE ta σ H0 v) : VE (tOp rN ta (tC .non)) σ H0 (.bl (!decide (v = .non))) := fun H s Q q => h H s _ fun H' s' => by
  unfold rN
  exact ⟨rfl, q H' s'⟩
theorem mul3 (u : List Bool) : (((pr u).1 : Int) * 3) / (Int.gcd (((pr u).1 : Int) * 3) (((pr u).2 : Int) * 3) : Nat) = (pr u).1 ∧ (((pr u).2 : Int) * 3) / (Int.gcd (((pr u).1 : Int) * 3) (((pr u).2 : Int) * 3) : Nat) = (pr u).2 := by
  have e : Int.gcd (((pr u).1 : Int) * 3) (((pr u).2 : Int) * 3) = 3 := by
    rw [Int.gcd_mul_right]
    have : Int.gcd ((pr u).1 : Int) ((pr u).2 : Int) = 1 := pr_cop u
    rw [this]; rfl
  rw [e]
  constructor <;> exact Int.mul_ediv_cancel _ (by decide)
theorem lt_of {u v : List Bool} (h : sLe (plc u) (plc v) = true) (ne : plc u ≠ plc v) : (pr u).1 * (pr v).2 < (pr v).1 * (pr u).2 := by
  unfold sLe at h
  rw [Bool.not_eq_true', decide_eq_false_iff_not] at h
  have e : ∀ w, (plc w).cps.toList = plcL w := fun w => by simp [plc]
  rw [e, e, ← pr_lt] at h
  have n : (pr u).1 * (pr v).2 ≠ (pr v).1 * (pr u).2 := fun z => by
    obtain ⟨h1, h2⟩ := cross_eq (pr_cop u) (pr_cop v) z
    exact ne (by rw [pr_inj u v (Prod.ext h1 h2)])
  omega
theorem VE.first {a b : Int} (R : RatT K mg C) (h : RE C ta σ H0 a b) : VE (tFld K ta "first") σ H0 (.int a) := fun H s Q q => h H s _ fun p H1 s1 hp => by
  obtain ⟨d, g⟩ := hp
  exact ⟨p, C, d, _, _, rfl, g, R.cl, R.n1, rf1 _ _, q H1 s1⟩
theorem VE.second {a b : Int} (R : RatT K mg C) (h : RE C ta σ H0 a b) : VE (tFld K ta "second") σ H0 (.int b) := fun H s Q q => h H s _ fun p H1 s1 hp => by
  obtain ⟨d, g⟩ := hp
  exact ⟨p, C, d, _, _, rfl, g, R.cl, R.n2, rf2 _ _, q H1 s1⟩
theorem VE.mul3 {a : Int} (h : VE ta σ H0 (.int a)) (c : CMul a 3) : VE (tOp (rI CMul fun i j => V.int (i * j)) ta (tC (.int 3))) σ H0 (.int (a * 3)) := fun H s Q q => h H s _ fun H1 s1 => ⟨_, _, rfl, rfl, c, q H1 s1⟩
theorem seq_sorted {te : TE} {ss : List Str} {i : Nat} {w : TS} {D : Ends} {H : Hp} (h : VN te σ H0 (ss.map V.str)) (s : Same H0 H) (k : ∀ (ys : List Str) (p : Addr) (H' : Hp), ys.Perm ss → ys.Pairwise (fun x y => sLe x y = true) → Same H H' → H' p = some (.lst (ys.map V.str)) → w D (σ.set i (some (.ref p))) H') :
    tSeq (tAsg (tCKw (rSortedStr K) (tCons te tNil) (tCons (tC (.ty "str")) tNil)) (gName i)) w D σ H := h H s _ fun D1 H1 n1 s1 h1 => ⟨D1, ss, rfl, rfl, SqL.of h1, fun ys p pm pw hp => k ys p _ pm pw (s1.trans (sm_new hp)) upd_same⟩
theorem cut_plc (u : List Bool) : cutS (plc u) none (some (-1)) = ⟨(u.map pc).toArray⟩ := by
  have hl : (plc u).length = u.length + 1 := by show (plcL u).toArray.size = _; simp [plcL]
  unfold cutS
  rw [hl]
  have e1 : HT.sIx (u.length + 1) (u.length + 1) (some (-1)) = u.length := by
    unfold HT.sIx
    first | omega | (simp; omega) | (split <;> omega) | (simp only; split <;> omega)
  have e2 : HT.sIx (u.length + 1) 0 none = 0 := rfl
  rw [e1, e2]
  have e3 : (plc u).cps.toList = u.map pc ++ [98] := by simp [plc, plcL]
  rw [e3, List.drop_zero, Nat.sub_zero, List.take_append_of_le_length (by rw [List.length_map]; exact Nat.le_refl _), List.take_of_length_le (by rw [List.length_map]; exact Nat.le_refl _)]
theorem seq_RE {te : TE} {a b : Int} {i : Nat} {w : TS} {D : Ends} {H : Hp} (h : RE C te σ H0 a b) (s : Same H0 H) (k : ∀ (p : Addr) (H' : Hp), Same H H' → RatAt C H' p a b → w D (σ.set i (some (.ref p))) H') : tSeq (tAsg te (gName i)) w D σ H := h H s _ fun p H' s' c => k p H' s' c
theorem seq_CE {te : TE} {i : Nat} {w : TS} {D : Ends} {H : Hp} (h : CE CC te σ H0 m) (s : Same H0 H) (k : ∀ (p : Addr) (H' : Hp), Same H H' → ChM CC H' p m → w D (σ.set i (some (.ref p))) H') : tSeq (tAsg te (gName i)) w D σ H := h H s _ fun p H' s' c => k p H' s' c
theorem VE.turn (Rc : ChT K mg CC) (h : CE CC ta σ H0 m) : VE (tFld K ta "turn") σ H0 (.int m.det) := fun H s Q q => h H s _ fun p H1 s1 hp => by
  obtain ⟨d, x, g, _⟩ := hp
  exact ⟨p, CC, d, _, _, rfl, g, Rc.ins.cl, Rc.n2, cf2 _ _, q H1 s1⟩
theorem VE.absC (h : CE CC ta σ H0 m) (e : m.det = 1) : VE (tCB (rSelf CC (sp_abs CC)) (tCons ta tNil)) σ H0 (.int 1) := fun H s Q q => h H s _ fun p H1 s1 hp => by
  obtain ⟨d, x, g, g2⟩ := id hp
  refine ⟨p, d, _, rfl, g, p, _, _, _, _, rfl, hp, ?_⟩
  rw [show m.a * m.d - m.b * m.c = 1 from e]
  exact q H1 s1
theorem swp_in : swp.In 400 := Mt.In.mono (i := 1) (by refine ⟨?_, ?_, ?_, ?_, ?_, ?_, ?_, ?_⟩ <;> decide) (by decide)
/-- the two comparisons of a ratio with the one before it -/
theorem cmp_r {i j : Nat} {u v : List Bool} (R : RatT K mg C) (h : RE C (tVar i) σ H0 (pr u).1 (pr u).2) (g : RE C (tVar j) σ H0 (pr v).1 (pr v).2) (hu : u.length ≤ 900) (hv : v.length ≤ 900) (l : (pr u).1 * (pr v).2 < (pr v).1 * (pr u).2) (n : VE (tVar i) σ H0 x) (xn : x ≠ .non) :
    BE (tAnd (tTest (tOp rN (tVar i) (tC .non))) (tNot (tAnd (tTest (tOp (rOwnI K C (sp_cmp C r_lt) E0) (tVar i) (tVar j))) (tTest (tOp (rOwnI K C (sp_cmp C r_gt) E0) (tVar j) (tVar i)))))) σ H0 false ∧
    BE (tAnd (tTest (tOp rN (tVar i) (tC .non))) (tNot (tAnd (tTest (tOp (rOwnI K C (sp_cmp C r_le) E0) (tVar i) (tVar j))) (tNot (tTest (tOp (rOwnI K C (sp_cmp C r_ge) E0) (tVar i) (tVar j))))))) σ H0 false := by
  have su := pr_small hu
  have sv := pr_small hv
  have l' : ((pr u).1 : Int) * (pr v).2 < (pr v).1 * (pr u).2 := by exact_mod_cast l
  have c1 : r_lt (pr u).1 (pr u).2 (pr v).1 (pr v).2 = true := decide_eq_true l'
  have c2 : r_gt (pr v).1 (pr v).2 (pr u).1 (pr u).2 = true := decide_eq_true l'
  have c3 : r_le (pr u).1 (pr u).2 (pr v).1 (pr v).2 = true := decide_eq_true (Int.le_of_lt l')
  have c4 : r_ge (pr u).1 (pr u).2 (pr v).1 (pr v).2 = false := decide_eq_false (by show ¬ ((pr v).1 : Int) * (pr u).2 ≤ (pr u).1 * (pr v).2; omega)
  have nn : (!decide (x = V.non)) = true := by rw [decide_eq_false xn]; rfl
  constructor
  · refine BE.to (BE.and (BE.val (VE.notN n)) (BE.not (BE.and (BE.cmpR R h g su.1 su.2 sv.1 sv.2) (BE.cmpR R g h sv.1 sv.2 su.1 su.2)))) ?_
    rw [nn, c1, c2]; rfl
  · refine BE.to (BE.and (BE.val (VE.notN n)) (BE.not (BE.and (BE.cmpR R h g su.1 su.2 sv.1 sv.2) (BE.not (BE.cmpR R h g su.1 su.2 sv.1 sv.2))))) ?_
    rw [nn, c3, c4]; rfl
theorem gN_go {i : Nat} {v : V} {H : Hp} {Q : L2.St → Hp → Prop} (h : Q (σ.set i (some v)) H) : gName i v σ H Q := h
theorem nd5 : ((allW 5).map plcL).Nodup := by decide +kernel
end
end K9
open K9
section
variable {P : Program} {w : World} {K : PySem.W.Frag} {mg : Str → Option Value} {base : Heap}
theorem ok_place {f : Addr} {fd : FuncData} (F : Fun K "_law_place" "_law_place" S__law_place f fd) (T : Txt K mg) : FnOk P w K mg base CX0 1 f fd ["_law_word_here"] sp_place := by
  refine F.ok SC__law_place (fun vs H Q E h => ?_) (fun cdv A outer s H vs Q E hr h => ?_)
  · obtain ⟨u, rfl, _⟩ := h
    rfl
  · obtain ⟨u, rfl, hu, k⟩ := h
    refine ⟨_, (pss_one (ps_ret (pe_op op_add_str (pe_join pe_str (pe_lc (own := [("_law_letter", 1)]) (g := gName 1) (by rfl) SC__law_place.nd (pi_str (pv 0)) (blkOk_by (own := [("_law_letter", 1)]) (N := N__law_place) (sc := defScope S__law_place) (by decide +kernel)) (fun _ _ _ _ _ => pg_name (i := 1) SC__law_place.nd rfl (Or.inl rfl)) (fun _ _ _ _ _ => pts_nil) (fun _ _ _ _ _ => (pe_ix (ix_listK (K := K) rfl) (pe_lstN (pa_cons pe_str (pa_cons pe_str pa_nil))) (pe_callTy call_intB (by rfl) T.b_int (by decide +kernel) (pa_cons (pe_cmpR op_eq (pv 1) pe_str (nomark _)) pa_nil)) (fun _ _ => rfl))))) pe_str))), ?_⟩
    walk_at "kb"
    intro D hD
    refine lcR_str (z := enc u) (fun i H' => (∀ b o, b ≠ D → H b = some o → H' b = some o) ∧ H' D = some (.lst ((u.take i).map fun b => V.str ⟨#[pc b]⟩))) ⟨fun b o n e => by rw [upd_ne n]; exact e, upd_same⟩ (fun i c H1 hi hc m => ?_) (gName_mono _) (fun H1 m => ?_)
    · obtain ⟨kp, hH⟩ := m
      obtain ⟨b, hb, rfl⟩ := enc_at hc
      have hlt := (List.getElem?_eq_some_iff.mp hb).1
      refine ⟨rfl, ?_⟩
      refine ⟨by show 2 ≤ 1000000; decide, fun l H2 nl s2 h2 => ?_⟩
      walk_at "kb"
      refine ⟨l, _, _, _, rfl, rfl, SqL.of h2, elP b, ?_⟩
      refine ⟨_, s2 _ _ hH, by rw [List.length_map, List.length_take]; exact szs (by omega), fun x o n e => ?_, ?_⟩
      · rw [upd_ne n]; exact s2 _ _ (kp x o n e)
      · rw [upd_same, List.take_succ, hb, List.map_append]; rfl
    · obtain ⟨kp, hH⟩ := m
      have hz : (enc u).cps.size = u.length := enc_len u
      rw [hz, List.take_length] at hH
      refine ⟨_, _, (u.map pc).map fun c => (⟨#[c]⟩ : Str), rfl, rfl, .inl (SqL.of (by rw [List.map_map, List.map_map]; exact hH)), by rw [sum_chars, empty_len, List.length_map]; omega, ?_⟩
      rw [join_chars]
      walk_at "kb"
      refine ⟨by show (u.map pc).toArray.size + 1 ≤ sizeLine; rw [List.size_toArray, List.length_map]; exact szl (by omega), ?_⟩
      rw [plc_add]
      exact k H1 fun x o e => kp x o (ne_of_none e hD) e
theorem ok_mirror {f : Addr} {fd : FuncData} (F : Fun K "_law_mirror" "_law_mirror" S__law_mirror f fd) (T : Txt K mg) : FnOk P w K mg base CX0 1 f fd ["_law_word_here"] sp_mirror := by
  refine F.ok SC__law_mirror (fun vs H Q E h => ?_) (fun cdv A outer s H vs Q E hr h => ?_)
  · obtain ⟨u, rfl, _⟩ := h
    rfl
  · obtain ⟨u, rfl, hu, k⟩ := h
    refine ⟨_, (pss_one (ps_ret (pe_join pe_str (pe_lc (own := [("_law_letter", 1)]) (g := gName 1) (by rfl) SC__law_mirror.nd (pi_str (pv 0)) (blkOk_by (own := [("_law_letter", 1)]) (N := N__law_mirror) (sc := defScope S__law_mirror) (by decide +kernel)) (fun _ _ _ _ _ => pg_name (i := 1) SC__law_mirror.nd rfl (Or.inl rfl)) (fun _ _ _ _ _ => pts_nil) (fun _ _ _ _ _ => (pe_ix (ix_listK (K := K) rfl) (pe_lstN (pa_cons pe_str (pa_cons pe_str pa_nil))) (pe_callTy call_intB (by rfl) T.b_int (by decide +kernel) (pa_cons (pe_cmpR op_eq (pv 1) pe_str (nomark _)) pa_nil)) (fun _ _ => rfl))))))), ?_⟩
    walk_at "kb"
    intro D hD
    refine lcR_str (z := enc u) (fun i H' => (∀ b o, b ≠ D → H b = some o → H' b = some o) ∧ H' D = some (.lst ((u.take i).map fun b => V.str (enc [!b])))) ⟨fun b o n e => by rw [upd_ne n]; exact e, upd_same⟩ (fun i c H1 hi hc m => ?_) (gName_mono _) (fun H1 m => ?_)
    · obtain ⟨kp, hH⟩ := m
      obtain ⟨b, hb, rfl⟩ := enc_at hc
      have hlt := (List.getElem?_eq_some_iff.mp hb).1
      refine ⟨rfl, ?_⟩
      refine ⟨by show 2 ≤ 1000000; decide, fun l H2 nl s2 h2 => ?_⟩
      walk_at "kb"
      refine ⟨l, _, _, _, rfl, rfl, SqL.of h2, elM b, ?_⟩
      refine ⟨_, s2 _ _ hH, by rw [List.length_map, List.length_take]; exact szs (by omega), fun x o n e => ?_, ?_⟩
      · rw [upd_ne n]; exact s2 _ _ (kp x o n e)
      · rw [upd_same, List.take_succ, hb, List.map_append]; rfl
    · obtain ⟨kp, hH⟩ := m
      have hz : (enc u).cps.size = u.length := enc_len u
      rw [hz, List.take_length] at hH
      refine ⟨_, _, (u.map (!·)).map fun x => enc [x], rfl, rfl, .inl (SqL.of (by rw [List.map_map, List.map_map]; exact hH)), by rw [sum_b, empty_len, List.length_map]; omega, ?_⟩
      rw [join_b]
      exact k H1 fun x o e => kp x o (ne_of_none e hD) e
theorem ok_longer {f : Addr} {fd : FuncData} (F : Fun K "_law_longer" "_law_longer" S__law_longer f fd) (T : Txt K mg) : FnOk P w K mg base CX0 1 f fd ["_law_words"] (sp_longer K) := by
  refine F.ok SC__law_longer (fun vs H Q E h => ?_) (fun cdv A outer s H vs Q E hr h => ?_)
  · obtain ⟨L, ws, rfl, _⟩ := h
    rfl
  · obtain ⟨L, ws, rfl, hL, hn, hu, k⟩ := h
    refine ⟨_, (pss_cons (ps_set (i := 1) SC__law_longer.nd rfl (.inl rfl) (pe_lstN pa_nil))
      (pss_cons (ps_for PassesOwn.never rfl (pi_list (pv 0)) (pg_name (i := 2) SC__law_longer.nd rfl (.inl rfl)) (pss_one (ps_expr (pe_bm PySem.F.plainAttrs_list PySem.F.slot_list_extend PySem.F.type_list_extend mt_extend (pv 1) (pa_cons (pe_lstN (pa_cons (pe_op op_add_str (pv 2) pe_str) (pa_cons (pe_op op_add_str (pv 2) pe_str) pa_nil))) pa_nil)))))
      (pss_one (ps_ret (pv 1))))), ?_⟩
    have W0 := Hd.start H
    walk_at "kw"
    rename_i G H1 f1 n1 s1 W1
    refine ⟨⟨_, same_sqL W1.sm hL⟩, ?_⟩
    refine for_list (xs := ws.map sE) (fun j σ H' => ∃ (y2 : Option V), Hd H H' [(G, .lst ((two (ws.take j)).map sE))] ∧ σ = [some (.ref L), some (.ref G), y2])
      ⟨_, W1, rfl⟩ (fun j σ H5 _ q => let ⟨_, W, _⟩ := q; same_sqL W.sm hL) (fun j x σ H5 hj q => ?_) (fun σ H5 q => ?_)
    · obtain ⟨y2, W5, rfl⟩ := q
      rw [List.getElem?_map] at hj
      obtain ⟨u, hu', rfl⟩ := Option.map_eq_some_iff.mp hj
      have hul := hu u (List.mem_iff_getElem?.mpr ⟨_, hu'⟩)
      have tl : (two (ws.take j)).length ≤ 8192 := by rw [two_len, List.length_take]; omega
      have gG := W5.get (.head _)
      refine ⟨_, rfl, .inl ⟨rfl, _, SqL.of gG⟩, ?_⟩
      have e1 : enc u ++ ("l" : Str) = enc (u ++ [false]) := by rw [lit_l, enc_app]
      have e2 : enc u ++ ("r" : Str) = enc (u ++ [true]) := by rw [lit_r, enc_app]
      have l1 : (enc u).length + ("l" : Str).length ≤ 16777216 := by rw [lit_l, enc_len, enc_len]; simp; omega
      have l2 : (enc u).length + ("r" : Str).length ≤ 16777216 := by rw [lit_r, enc_len, enc_len]; simp; omega
      walk_at "kw"
      rename_i B H6 f6 n6 s6 W6
      rw [e1, e2] at W6
      have gB := W6.get (.head _)
      have gG6 := W6.get (.tail _ (.head _))
      refine ⟨G, B, _, _, rfl, rfl, gG6, gB, ?_, ?_⟩
      · rw [List.length_map]
        exact Nat.le_trans (show _ ≤ 16384 by show _ + 2 ≤ _; omega) (by decide)
      · have e3 : ((two (ws.take (j + 1))).map sE) = ((two (ws.take j)).map sE) ++ [V.str (enc (u ++ [false])), V.str (enc (u ++ [true]))] := by
          unfold two
          rw [List.take_add_one, hu', List.map_append, List.flatten_append, List.map_append]; rfl
        rw [e3]
        exact ⟨_, (W6.set 1 rfl _).tl, rfl⟩
    · obtain ⟨y2, W5, rfl⟩ := q
      rw [List.length_map, List.take_length] at W5
      exact ⟨_, rfl, k G H5 (W5.fr (.head _)) W5.sm (W5.get (.head _))⟩
theorem ok_small {f : Addr} {fd : FuncData} (F : Fun K "_law_small_words" "_law_small_words" S__law_small_words f fd) (T : Txt K mg) (C_longer : FnC P w K mg base CX0 1 "_law_longer" ["_law_words"] (sp_longer K)) : FnOk P w K mg base CX0 2 f fd ["_law_most"] (sp_small K) := by
  refine F.ok SC__law_small_words (fun vs H Q E h => ?_) (fun cdv A outer s H vs Q E hr h => ?_)
  · obtain ⟨n, rfl, _⟩ := h
    rfl
  · obtain ⟨n, rfl, hn, k⟩ := h
    refine ⟨_, (pss_cons (ps_par (i := 1) (j := 2) (by rfl) SC__law_small_words.nd rfl rfl (by decide) rfl rfl (pa_cons (pe_lstN (pa_cons pe_str pa_nil)) (pa_cons (pe_lstN (pa_cons pe_str pa_nil)) pa_nil)) (by rfl))
      (pss_cons (ps_for PassesOwn.never rfl (pi_range1 (by rfl) T.b_range (pa_cons (pv 0) pa_nil)) (pg_name (i := 3) SC__law_small_words.nd rfl (.inl rfl)) (pss_cons (ps_set (i := 2) SC__law_small_words.nd rfl (.inl rfl) (pe_callC C_longer (hr.mono (by decide)) rfl (pa_cons (pv 2) pa_nil)))
      (pss_one (ps_expr (pe_bm PySem.F.plainAttrs_list PySem.F.slot_list_extend PySem.F.type_list_extend mt_extend (pv 1) (pa_cons (pv 2) pa_nil))))))
      (pss_one (ps_ret (pv 1))))), ?_⟩
    have W0 := Hd.start H
    walk_at "kw"
    rename_i F H1 f1 n1 s1 W1 L H2 f2 n2 s2 W2
    rw [lit_e] at W2
    rw [Int.toNat_natCast]
    refine for_range (lo := 0) (fun i σ H' => ∃ (L : Addr) (y3 : Option V), Hd H H' [(L, .lst ((lay i).map sE)), (F, .lst ((allW i).map sE))] ∧ σ = [some (.int (n : Nat)), some (.ref F), some (.ref L), y3])
      ⟨L, _, W2, rfl⟩ (fun i σ H3 hi q => ?_) (fun σ H3 q => ?_)
    · obtain ⟨L, y3, W3, rfl⟩ := q
      have ln := lay_len i
      have an := allW_len i
      have pw : 2 ^ i ≤ 2 ^ 5 := Nat.pow_le_pow_right (by decide) (by omega)
      have p5 : 2 ^ 5 = 32 := by decide
      have pw2 : 2 ^ (i + 1) = 2 * 2 ^ i := by rw [Nat.pow_succ, Nat.mul_comm]
      refine ⟨_, rfl, L, lay i, rfl, SqL.of (W3.get (.head _)), by omega, fun u hu => by have := (lay_mem i u).mp hu; omega, fun G H4 nG sG hG => ?_⟩
      have W4 := W3.got nG sG hG
      have gG := W4.get (.head _)
      have gF := W4.get (.tail _ (.tail _ (.head _)))
      refine ⟨_, rfl, .inl ⟨rfl, _, SqL.of gF⟩, _, rfl, F, G, _, _, rfl, rfl, gF, gG, ?_, ?_⟩
      · rw [List.length_map, List.length_map, two_len]
        exact Nat.le_trans (show _ ≤ 16384 by omega) (by decide)
      · have e : (allW (i + 1)).map sE = (allW i).map sE ++ (two (lay i)).map sE := by show (allW i ++ lay (i + 1)).map sE = _; rw [List.map_append]; rfl
        rw [e]
        exact ⟨G, _, (W4.set 2 rfl _).sub (.cons₂ _ (.cons _ (.cons₂ _ .slnil))), rfl⟩
    · obtain ⟨L, y3, W3, rfl⟩ := q
      exact ⟨_, rfl, k F H3 (W3.fr (.tail _ (.head _))) W3.sm (W3.get (.tail _ (.head _)))⟩
theorem ok_law {f CC C IR IW : Addr} {fd : FuncData} (F : Fun K "law" "law" S_law f fd) (T : Txt K mg) (Rc : ChT K mg CC) (R : RatT K mg C) (OM : OpC K CC .Mult) (ON : OpNo K C .Mult)
    (C_box : FnC P w K mg base CX0 1 "_law_box" ["_law_script", "_law_k", "_law_own"] (sp_box K)) (C_drawn : FnC P w K mg base CX0 3 "_law_drawn_word" ["_law_box_here", "_law_most"] sp_drawn) (C_small : FnC P w K mg base CX0 2 "_law_small_words" ["_law_most"] (sp_small K))
    (C_place : FnC P w K mg base CX0 1 "_law_place" ["_law_word_here"] sp_place) (C_mirror : FnC P w K mg base CX0 1 "_law_mirror" ["_law_word_here"] sp_mirror) (C_ratio : MkC P w K mg base CX0 4 C "Ratio" ["self", "first", "second"] (Kb.calm (sp_init C IR K)))
    (M_ofword : CmC P w K mg base CX0 6 C "Ratio" "of_word" ["cls", "word"] (Kb.calm (sp_ofword C IW K))) (P_word : PrC P w K mg base 2 C "word" (sp_word C)) (P_turned : PrC P w K mg base 6 C "turned" (sp_turned C))
    (M_lt : MtC P w K mg base CX0 1 C "__lt__" ["self", "other"] (sp_cmp C r_lt)) (M_le : MtC P w K mg base CX0 1 C "__le__" ["self", "other"] (sp_cmp C r_le)) (M_gt : MtC P w K mg base CX0 1 C "__gt__" ["self", "other"] (sp_cmp C r_gt)) (M_ge : MtC P w K mg base CX0 1 C "__ge__" ["self", "other"] (sp_cmp C r_ge))
    (M_eq : MtC P w K mg base CX0 1 C "__eq__" ["self", "other"] (sp_cmp C r_eq)) (M_mul : MtC P w K mg base CX0 6 CC "__mul__" ["self", "other"] (sp_mul CC C)) (M_cheq : MtC P w K mg base CX0 1 CC "__eq__" ["self", "other"] (sp_cheq CC K)) (M_abs : MtC P w K mg base CX0 1 CC "__abs__" ["self"] (sp_abs CC))
    (M_chw : CmC P w K mg base CX0 6 CC "Change" "of_word" ["cls", "word"] (Kb.calm (sp_chw CC IW K))) (M_exch : CmC P w K mg base CX0 6 CC "Change" "exchange" ["cls"] (Kb.calm (sp_cmk CC swp))) : FnOk P w K mg base CX0 10 f fd ["_law_script"] (K9.sp_law K) := by
  refine F.ok SC_law (fun vs H Q E h => ?_) (fun cdv A outer s H vs Q E hr h => ?_)
  · obtain ⟨a, ns, rfl, _⟩ := h
    rfl
  · obtain ⟨a, ns, rfl, hS, hlen, q⟩ := h
    refine ⟨_, (pss_cons (ps_set (i := 1) SC_law.nd rfl (.inl rfl) (pe_callC C_small (hr.mono (by decide)) rfl (pa_cons pe_int pa_nil)))
      (pss_cons (ps_set (i := 2) SC_law.nd rfl (.inl rfl) (pe_callBK (cr_sortedKeyStr hr.units) (by rfl) T.b_sorted (by decide +kernel) (pa_cons (pe_lc (own := [("_law_word_here", 5)]) (g := gName 5) (by rfl) SC_law.nd (pi_list (pv 1)) (blkOk_by (own := [("_law_word_here", 5)]) (N := N_law) (sc := defScope S_law) (by decide +kernel)) (fun _ _ _ _ _ => pg_name (i := 5) SC_law.nd rfl (Or.inl rfl)) (fun _ _ _ _ _ => pts_nil) (fun _ _ _ _ _ => (pe_callC C_place (hr.mono (by decide)) rfl (pa_cons (pv 5) pa_nil)))) pa_nil) (pk_cons (pe_bltn (v := .ty "str") (by rfl) T.b_str boot_str rfl) pk_nil)))
      (pss_cons (ps_set (i := 3) SC_law.nd rfl (.inl rfl) pe_non)
      (pss_nrm (pss_cons (ps_for PassesOwn.never rfl (pi_list (pv 2)) (pg_name (i := 4) SC_law.nd rfl (.inl rfl)) (pss_cons (ps_set (i := 5) SC_law.nd rfl (.inl rfl) (pe_join pe_str (pe_lc (own := [("_law_sign", 13)]) (g := gName 13) (by rfl) SC_law.nd (pi_str (pe_slice sl_str (pv 4) po_none (po_some (pe_un un_neg pe_int)))) (blkOk_by (own := [("_law_sign", 13)]) (N := N_law) (sc := defScope S_law) (by decide +kernel)) (fun _ _ _ _ _ => pg_name (i := 13) SC_law.nd rfl (Or.inl rfl)) (fun _ _ _ _ _ => pts_nil) (fun _ _ _ _ _ => (pe_ix (ix_listK (K := K) rfl) (pe_lstN (pa_cons pe_str (pa_cons pe_str pa_nil))) (pe_callTy call_intB (by rfl) T.b_int (by decide +kernel) (pa_cons (pe_cmpR op_eq (pv 13) pe_str (nomark _)) pa_nil)) (fun _ _ => rfl))))))
      (pss_cons (ps_set (i := 6) SC_law.nd rfl (.inl rfl) (pe_cmC M_ofword (hr.mono (by decide)) rfl (pa_cons (pv 5) pa_nil)))
      (pss_cons (ps_if (PW.pt (pw_and (pt_cmpR op_notN (pv 3) pe_non (nomark _)) (pw_and1 (pt_not (PW.pt (pw_and (pt_cmpR (op_ownI (op := .Lt) (fun _ _ => rfl) M_lt (hr.mono (by decide))) (pv 3) (pv 6) (nomark _)) (pw_and1 (pt_cmpR (op_ownI (op := .Gt) (fun _ _ => rfl) M_gt (hr.mono (by decide))) (pv 6) (pv 3) (nomark _))))))))) (pss_one (ps_ret pe_bl)) pss_nil)
      (pss_cons (ps_if (PW.pt (pw_and (pt_cmpR op_notN (pv 3) pe_non (nomark _)) (pw_and1 (pt_not (PW.pt (pw_and (pt_cmpR (op_ownI (op := .LtE) (fun _ _ => rfl) M_le (hr.mono (by decide))) (pv 3) (pv 6) (nomark _)) (pw_and1 (pt_not (pt_cmpR (op_ownI (op := .GtE) (fun _ _ => rfl) M_ge (hr.mono (by decide))) (pv 3) (pv 6) (nomark _)))))))))) (pss_one (ps_ret pe_bl)) pss_nil)
      (pss_cons (ps_if (PW.pt (pw_or (pt_cmpR op_ne (pe_propC P_word (hr.mono (by decide)) (pv 6)) (pv 5) (nomark _)) (pw_or1 (pt_cmpR (op_neI M_eq R.ne R.so (hr.mono (by decide))) (pe_makeC C_ratio (hr.mono (by decide)) rfl (pa_cons (pe_op op_mul (pe_fld (pv 6) rfl) pe_int) (pa_cons (pe_op op_mul (pe_fld (pv 6) rfl) pe_int) pa_nil))) (pv 6) (nomark _))))) (pss_one (ps_ret pe_bl)) pss_nil)
      (pss_one (ps_set (i := 3) SC_law.nd rfl (.inl rfl) (pv 6)))))))))
      (pss_cons (ps_for PassesOwn.never rfl (pi_range1 (by rfl) T.b_range (pa_cons (pe_callB (call_max2 rfl) (by rfl) T.b_max (by decide +kernel) (pa_cons pe_int (pa_cons (pe_callB (call_min2 rfl) (by rfl) T.b_min (by decide +kernel) (pa_cons pe_int (pa_cons (pe_callB call_len_seq (by rfl) T.b_len (by decide +kernel) (pa_cons (pv 0) pa_nil)) pa_nil))) pa_nil))) pa_nil)) (pg_name (i := 7) SC_law.nd rfl (.inl rfl)) (pss_cons (ps_set (i := 8) SC_law.nd rfl (.inl rfl) (pe_callC C_box (hr.mono (by decide)) rfl (pa_cons (pv 0) (pa_cons (pv 7) (pa_cons pe_int pa_nil)))))
      (pss_cons (ps_par (i := 9) (j := 10) (by rfl) SC_law.nd rfl rfl (by decide) rfl rfl (pa_cons (pe_callC C_drawn (hr.mono (by decide)) rfl (pa_cons (pv 8) (pa_cons pe_int pa_nil))) (pa_cons (pe_callC C_drawn (hr.mono (by decide)) rfl (pa_cons (pv 8) (pa_cons pe_int pa_nil))) pa_nil)) (by rfl))
      (pss_nrm (pss_cons (ps_set (i := 11) SC_law.nd rfl (.inl rfl) (pe_op (op_binC (op := .Mult) M_mul OM (hr.mono (by decide))) (pe_cmC M_chw (hr.mono (by decide)) rfl (pa_cons (pv 9) pa_nil)) (pe_cmC M_chw (hr.mono (by decide)) rfl (pa_cons (pv 10) pa_nil))))
      (pss_cons (ps_if (PW.pt (pw_or (pt_cmpR (op_neI M_cheq Rc.ne Rc.so (hr.mono (by decide))) (pv 11) (pe_cmC M_chw (hr.mono (by decide)) rfl (pa_cons (pe_op op_add_str (pv 9) (pv 10)) pa_nil)) (nomark _)) (pw_or (pt_cmpR op_ne (pe_fld (pv 11) rfl) pe_int (nomark _)) (pw_or1 (pt_cmpR op_ne (pe_callB (call_absC M_abs (hr.mono (by decide))) (by rfl) T.b_abs (by decide +kernel) (pa_cons (pv 11) pa_nil)) pe_int (nomark _)))))) (pss_one (ps_ret pe_bl)) pss_nil)
      (pss_cons (ps_if (pt_cmpR (op_neI M_eq R.ne R.so (hr.mono (by decide))) (pe_op (op_binD (op := .Mult) M_mul OM ON (hr.mono (by decide))) (pe_cmC M_chw (hr.mono (by decide)) rfl (pa_cons (pv 9) pa_nil)) (pe_cmC M_ofword (hr.mono (by decide)) rfl (pa_cons (pv 10) pa_nil))) (pe_cmC M_ofword (hr.mono (by decide)) rfl (pa_cons (pe_op op_add_str (pv 9) (pv 10)) pa_nil)) (nomark _)) (pss_one (ps_ret pe_bl)) pss_nil)
      (pss_cons (ps_set (i := 12) SC_law.nd rfl (.inl rfl) (pe_cm0C M_exch (hr.mono (by decide)) rfl))
      (pss_cons (ps_if (pt_cmpR (op_neI M_cheq Rc.ne Rc.so (hr.mono (by decide))) (pe_op (op_binC (op := .Mult) M_mul OM (hr.mono (by decide))) (pv 12) (pe_cmC M_chw (hr.mono (by decide)) rfl (pa_cons (pv 9) pa_nil))) (pe_op (op_binC (op := .Mult) M_mul OM (hr.mono (by decide))) (pe_cmC M_chw (hr.mono (by decide)) rfl (pa_cons (pe_callC C_mirror (hr.mono (by decide)) rfl (pa_cons (pv 9) pa_nil)) pa_nil)) (pv 12)) (nomark _)) (pss_one (ps_ret pe_bl)) pss_nil)
      (pss_one (ps_if (pt_cmpR (op_neI M_eq R.ne R.so (hr.mono (by decide))) (pe_propC P_turned (hr.mono (by decide)) (pe_cmC M_ofword (hr.mono (by decide)) rfl (pa_cons (pe_op op_add_str (pv 9) (pv 10)) pa_nil))) (pe_cmC M_ofword (hr.mono (by decide)) rfl (pa_cons (pe_callC C_mirror (hr.mono (by decide)) rfl (pa_cons (pe_op op_add_str (pv 9) (pv 10)) pa_nil)) pa_nil)) (nomark _)) (pss_one (ps_ret pe_bl)) pss_nil)))))))))))
      (pss_one (ps_ret pe_bl)))))))), ?_⟩
    refine ⟨5, rfl, by decide, fun WL H0 n0 s0 h0 => ?_⟩
    have hS0 := same_sqL s0 hS
    have ssm : (((allW 5).map plc).map V.str) = (allW 5).map fun u => V.str (plc u) := by rw [List.map_map]; rfl
    refine seq_sorted (H0 := H0) (ss := (allW 5).map plc) (VN.to (VN.mapL sE (fun u => V.str (plc u)) (VL.var rfl h0) (by decide +kernel) (fun _ => rfl) (fun u hu H s Q q => ⟨_, rfl, u, rfl, by have := (allW_mem 5 u).mp hu; omega, fun H' s' => q H' s'⟩)) ssm.symm) (Same.refl _) fun ys KL H1 pm pw s1 h1 => ?_
    walk_at "nrm"
    have keys : ∀ {j : Nat} {z : Str}, ys[j]? = some z → ∃ u, u.length ≤ 5 ∧ z = plc u := fun h => by
      obtain ⟨u, hu, e⟩ := List.mem_map.mp (pm.mem_iff.mp (List.mem_iff_getElem?.mpr ⟨_, h⟩))
      exact ⟨u, (allW_mem 5 u).mp hu, e.symm⟩
    have nd : ys.Nodup := pm.nodup_iff.mpr (by
      have h := nd5
      have e : (allW 5).map plcL = ((allW 5).map plc).map fun z => z.cps.toList := by rw [List.map_map]; exact List.map_congr_left fun u _ => by simp [plc]
      rw [e] at h
      exact List.Pairwise.of_map (fun z : Str => z.cps.toList) (fun a b n e => n (by rw [e])) h)
    refine ⟨_, rfl, KL, rfl, ⟨_, SqL.of h1⟩, ?_⟩
    refine for_list (xs := ys.map V.str) (fun j σ H' => Same H1 H' ∧ ∃ (x3 : V) (y4 y5 y6 y7 y8 y9 y10 y11 y12 y13 : Option V), ((x3 = .non) ∨ ∃ (p : Addr) (u : List Bool) (i : Nat), x3 = .ref p ∧ RatAt C H' p (pr u).1 (pr u).2 ∧ u.length ≤ 5 ∧ j = i + 1 ∧ ys[i]? = some (plc u)) ∧ σ = [some (.ref a), some (.ref WL), some (.ref KL), some x3, y4, y5, y6, y7, y8, y9, y10, y11, y12, y13])
      ⟨Same.refl H1, _, _, _, _, _, _, _, _, _, _, _, .inl rfl, rfl⟩ (fun j σ H' _ m => SqL.of (m.1 _ _ h1)) (fun j x σ H2 hj m => ?_) (fun σ H2 m => ?_)
    · obtain ⟨s2, x3, y4, y5, y6, y7, y8, y9, y10, y11, y12, y13, hx3, rfl⟩ := m
      rw [List.getElem?_map] at hj
      obtain ⟨z, hz, rfl⟩ := Option.map_eq_some_iff.mp hj
      obtain ⟨u, hu, rfl⟩ := keys hz
      walk_at "kb"
      have hpl : (plc u).length = u.length + 1 := by show (plcL u).toArray.size = _; simp [plcL]
      refine ⟨by rw [hpl]; exact szl (by omega), ⟨(u.map pc).toArray⟩, congrArg V.str (cut_plc u), fun DD hDD => ?_⟩
      refine lcR_str (z := ⟨(u.map pc).toArray⟩) (fun i H' => (∀ b o, b ≠ DD → H2 b = some o → H' b = some o) ∧ H' DD = some (.lst ((u.take i).map fun b => V.str (enc [b])))) ⟨fun b o n e => by rw [upd_ne n]; exact e, upd_same⟩ (fun i c H3 hi hc m => ?_) (gName_mono _) (fun H3 m => ?_)
      · obtain ⟨kp, hH⟩ := m
        obtain ⟨b, hb, rfl⟩ : ∃ b, u[i]? = some b ∧ pc b = c := by
          have hc : (u.map pc).toArray[i]? = some c := hc
          rw [List.getElem?_toArray, List.getElem?_map] at hc
          exact Option.map_eq_some_iff.mp hc
        have hlt := (List.getElem?_eq_some_iff.mp hb).1
        refine ⟨rfl, ?_⟩
        refine ⟨by show 2 ≤ 1000000; decide, fun l H4 nl s4 h4 => ?_⟩
        walk_at "kb"
        refine ⟨l, _, _, _, rfl, rfl, SqL.of h4, elU b, ?_⟩
        refine ⟨_, s4 _ _ hH, by rw [List.length_map, List.length_take]; exact szs (by omega), fun x o n e => ?_, ?_⟩
        · rw [upd_ne n]; exact s4 _ _ (kp x o n e)
        · rw [upd_same, List.take_succ, hb, List.map_append]; rfl
      · obtain ⟨kp, hH⟩ := m
        have hzz : (⟨(u.map pc).toArray⟩ : Str).cps.size = u.length := by show (u.map pc).toArray.size = _; simp
        rw [hzz, List.take_length] at hH
        refine ⟨_, _, u.map fun x => enc [x], rfl, rfl, .inl (SqL.of (by rw [List.map_map]; exact hH)), by rw [sum_b, empty_len, List.length_map]; omega, ?_⟩
        rw [join_b]
        have s3 : Same H2 H3 := fun x o e => kp x o (ne_of_none e hDD) e
        refine gN_go ?_
        dsimp only [List.set_cons_succ, List.set_cons_zero]
        refine seq_RE (H0 := H3) (RE.word (u := u) (VE.var rfl) (by omega)) (Same.refl _) fun r H4 s4 hr4 => ?_
        have s24 := s3.trans s4
        have cmp : ∀ {σ : L2.St} {H' : Hp}, σ[3]? = some (some x3) → σ[6]? = some (some (.ref r)) → Same H4 H' →
            BE (tAnd (tTest (tOp rN (tVar 3) (tC .non))) (tNot (tAnd (tTest (tOp (rOwnI K C (sp_cmp C r_lt) E0) (tVar 3) (tVar 6))) (tTest (tOp (rOwnI K C (sp_cmp C r_gt) E0) (tVar 6) (tVar 3)))))) σ H' false ∧
            BE (tAnd (tTest (tOp rN (tVar 3) (tC .non))) (tNot (tAnd (tTest (tOp (rOwnI K C (sp_cmp C r_le) E0) (tVar 3) (tVar 6))) (tNot (tTest (tOp (rOwnI K C (sp_cmp C r_ge) E0) (tVar 3) (tVar 6))))))) σ H' false := fun {σ H'} h3 h6 s5 => by
          rcases hx3 with rfl | ⟨p, v, i, rfl, hp, hv, rfl, hi⟩
          · have n : BE (tTest (tOp rN (tVar 3) (tC .non))) σ H' false := BE.to (BE.val (VE.notN (VE.var h3))) rfl
            exact ⟨BE.andF n, BE.andF n⟩
          · have li := (List.getElem?_eq_some_iff.mp hi)
            have lj := (List.getElem?_eq_some_iff.mp hz)
            have hle := List.pairwise_iff_getElem.mp pw i (i + 1) li.1 lj.1 (Nat.lt_succ_self i)
            rw [li.2, lj.2] at hle
            have hne : plc v ≠ plc u := fun e => by
              have : i = i + 1 := (List.getElem?_inj li.1 nd).mp (by rw [hi, hz, e])
              omega
            exact cmp_r R (RE.var h3 (hp.same (s24.trans s5))) (RE.var h6 (hr4.same s5)) (by omega) (by omega) (lt_of hle hne) (VE.var h3) (fun e => nomatch e)
        refine seq_if (H0 := H4) (cmp rfl rfl (Same.refl _)).1 (Same.refl _) fun H5 s5 => ?_
        refine seq_if (H0 := H5) (cmp rfl rfl s5).2 (Same.refl _) fun H6 s6 => ?_
        have hr6 := hr4.same (s5.trans s6)
        have su := pr_small (u := u) (by omega)
        have pp := pr_pos u
        have pl := pr_le u
        have big : 2 ^ (u.length + 1) ≤ 2 ^ 6 := Nat.pow_le_pow_right (by decide) (by omega)
        have mk : ∀ {σ : L2.St}, σ[6]? = some (some (.ref r)) → RE C (tMake C (calm (sp_init C IR K)) [] E0 (tCons (tOp (rI CMul fun i j => V.int (i * j)) (tFld K (tVar 6) "first") (tC (.int 3))) (tCons (tOp (rI CMul fun i j => V.int (i * j)) (tFld K (tVar 6) "second") (tC (.int 3))) tNil))) σ H6 (pr u).1 (pr u).2 := fun {σ} h6 => by
          have V6 : RE C (tVar 6) σ H6 (pr u).1 (pr u).2 := RE.var h6 hr6
          have h := RE.make (C := C) (IR := IR) (K := K) (VE.mul3 (VE.first R V6) (.inr ⟨by decide, by decide⟩)) (VE.mul3 (VE.second R V6) (.inr ⟨by decide, by decide⟩)) (by omega) (by omega) (Nat.lt_of_le_of_lt (show _ ≤ 1000 by omega) (by decide)) (Nat.lt_of_le_of_lt (show _ ≤ 1000 by omega) (by decide))
          rwa [(mul3 u).1, (mul3 u).2] at h
        refine seq_if (H0 := H6) ?bb (Same.refl _) fun H7 s7 => ?_
        case bb =>
          exact BE.or2 (BE.val (VE.neSame (VE.wordP (RE.var rfl hr6) (by omega)) (VE.var rfl) rfl)) (BE.neR R (mk rfl) (RE.var rfl hr6) su.1 su.2)
        exact ⟨_, rfl, s2.trans (s24.trans ((s5.trans s6).trans s7)), _, _, _, _, _, _, _, _, _, _, _, .inr ⟨r, u, j, rfl, hr6.same s7, hu, rfl, hz⟩, rfl⟩
    · obtain ⟨s2, x3, y4, y5, y6, y7, y8, y9, y10, y11, y12, y13, hx3, rfl⟩ := m
      have hSx := same_sqL (s1.trans s2) hS0
      walk_at "kw"
      refine for_range (lo := 0) (fun i σ H' => Same H2 H' ∧ ∃ y7 y8 y9 y10 y11 y12 y13 : Option V, σ = [some (.ref a), some (.ref WL), some (.ref KL), some x3, y4, y5, y6, y7, y8, y9, y10, y11, y12, y13])
        ⟨Same.refl H2, _, _, _, _, _, _, _, rfl⟩ (fun i σ H3 hi hP => ?_) (fun σ H3 hP => q H3)
      obtain ⟨s3, y7, y8, y9, y10, y11, y12, y13, rfl⟩ := hP
      walk_at "kw"
      refine ⟨a, ns, _, _, rfl, same_sqL s3 hSx, hlen, by omega, by decide, fun B H4 hB sm4 hb4 => ?_⟩
      refine ⟨_, rfl, B, 20, rfl, hb4, by decide, by decide, fun u H5 hu kp5 hb5 => ⟨_, rfl, B, 20, rfl, hb5, by decide, by decide, fun v H6 hv kp6 hb6 => ⟨_, _, rfl, ?_⟩⟩⟩
      walk_at "nrm"
      have lu : u.length ≤ 20 := by omega
      have lv : v.length ≤ 20 := by omega
      have iu : (wmx u).In 400 := (wm_in u).mono (by omega)
      have iv : (wmx v).In 400 := (wm_in v).mono (by omega)
      have du : (wmx u).det ≠ 0 := by rw [wm_det]; decide
      have dv : (wmx v).det ≠ 0 := by rw [wm_det]; decide
      have keep : ∀ {H' : Hp}, Same H6 H' → Same H2 H' := fun s' b o e => by
        have ne := ne_of_none (s3 b o e) hB
        exact s' _ _ (kp6 _ _ ne (kp5 _ _ ne (sm4 _ _ (s3 b o e))))
      refine seq_CE (H0 := H6) (CE.mul (CE.word (VE.var rfl) (by omega)) (CE.word (VE.var rfl) (by omega)) iu iv du dv) (Same.refl _) fun c H7 s7 hc => ?_
      have dt : ((wmx u).mul (wmx v)).det = 1 := by rw [Mt.det_mul, wm_det, wm_det]; rfl
      refine seq_if (H0 := H7) ?b1 (Same.refl _) fun H8 s8 => ?_
      case b1 =>
        refine BE.or2 (BE.neC Rc (CE.var rfl hc) (wmx_app u v ▸ CE.word (VE.addS (VE.var rfl) (VE.var rfl) (by omega)) (by rw [List.length_append]; omega))) (BE.or2 ?_ ?_)
        · refine BE.to (BE.val (VE.neI (VE.turn Rc (CE.var rfl hc)) VE.c)) ?_
          rw [dt]; rfl
        · exact BE.to (BE.val (VE.neI (VE.absC (CE.var rfl hc) dt) VE.c)) rfl
      refine seq_if (H0 := H8) ?b2 (Same.refl _) fun H9 s9 => ?_
      case b2 =>
        have sw := pr_small (u := u ++ v) (by rw [List.length_append]; omega)
        exact BE.neR R (RE.mul (CE.word (VE.var rfl) (by omega)) (RE.word (VE.var rfl) (by omega)) (by omega) (by omega)) (RE.word (VE.addS (VE.var rfl) (VE.var rfl) (by omega)) (by rw [List.length_append]; omega)) sw.1 sw.2
      refine seq_CE (H0 := H9) CE.exch (Same.refl _) fun d H10 s10 hd => ?_
      have sd : swp.det ≠ 0 := by decide
      have lm : (u.map (!·)).length ≤ 20 := by rw [List.length_map]; omega
      refine seq_if (H0 := H10) ?b3 (Same.refl _) fun H11 s11 => ?_
      case b3 =>
        exact BE.neC Rc (CE.mul (CE.var rfl hd) (CE.word (VE.var rfl) (by omega)) swp_in iu sd du) (swp_w u ▸ CE.mul (CE.word (VE.mir (VE.var rfl) (by omega)) (by omega)) (CE.var rfl hd) ((wm_in _).mono (by omega)) swp_in (by rw [wm_det]; decide) sd)
      have sw := pr_small (u := u ++ v) (by rw [List.length_append]; omega)
      refine if_next (H0 := H11) ?b4 (Same.refl _) fun H12 s12 => ?_
      case b4 =>
        have M : ∀ {σ : L2.St}, σ[9]? = some (some (.str (enc u))) → σ[10]? = some (some (.str (enc v))) → RE C (tCm C (calm (sp_ofword C IW K)) (fun _ => E0) (tCons (tCall sp_mirror [] E0 (tCons (tOp rA (tVar 9) (tVar 10)) tNil)) tNil)) σ H11 (pr (u ++ v)).2 (pr (u ++ v)).1 := fun {σ} h9 h10 => by
          have h := RE.word (C := C) (IW := IW) (K := K) (VE.mir (VE.addS (VE.var h9) (VE.var h10) (by omega) : VE (tOp rA (tVar 9) (tVar 10)) σ H11 _) (by rw [List.length_append]; omega)) (by rw [List.length_map, List.length_append]; omega)
          rwa [K9.pr_mir] at h
        exact BE.neR R (RE.turned (RE.word (VE.addS (VE.var rfl) (VE.var rfl) (by omega)) (by rw [List.length_append]; omega)) (by rw [List.length_append]; omega)) (M rfl rfl) sw.2 sw.1
      exact ⟨s3.trans ((fun b o e => (s7.trans (s8.trans (s9.trans (s10.trans (s11.trans s12))))) _ _ (kp6 _ _ (ne_of_none e hB) (kp5 _ _ (ne_of_none e hB) (sm4 _ _ e)))) : Same H3 H12), _, _, _, _, _, _, _, rfl⟩
end

theorem all_mk {l : PySem.W.OpenLaw} {w : World} {K : PySem.W.Frag} {h : Heap} {mg : Str → Option Value} {fa : Addr} {cUnmarkedError : Addr} {cInvalidWord NInvalidWord : Addr} {nmInvalidWord qInvalidWord : Str} {bsInvalidWord : List Value} {snInvalidWord : List Str} {subInvalidWord : List Value} {abInvalidWord : Bool} {colInvalidWord : Option Bool} {ddInvalidWord : Option Addr} {m0InvalidWord m1InvalidWord m2InvalidWord m3InvalidWord m5InvalidWord : Option Value} {cInvalidRatio NInvalidRatio : Addr} {nmInvalidRatio qInvalidRatio : Str} {bsInvalidRatio : List Value} {snInvalidRatio : List Str} {subInvalidRatio : List Value} {abInvalidRatio : Bool} {colInvalidRatio : Option Bool} {ddInvalidRatio : Option Addr} {m0InvalidRatio m1InvalidRatio m2InvalidRatio m3InvalidRatio m5InvalidRatio : Option Value} {cInvalidChange NInvalidChange : Addr} {nmInvalidChange qInvalidChange : Str} {bsInvalidChange : List Value} {snInvalidChange : List Str} {subInvalidChange : List Value} {abInvalidChange : Bool} {colInvalidChange : Option Bool} {ddInvalidChange : Option Addr} {m0InvalidChange m1InvalidChange m2InvalidChange m3InvalidChange m5InvalidChange : Option Value} {C : Addr} {CC : Addr} {f1 : Addr} {od1 an1 : Option Addr} {sl1 : Array (Option Value)} {oc1 kV1 dc1 pm1 cd1 ct1 : Value} {f2 : Addr} {od2 an2 : Option Addr} {sl2 : Array (Option Value)} {oc2 kV2 dc2 pm2 cd2 ct2 : Value} {f3 : Addr} {od3 an3 : Option Addr} {sl3 : Array (Option Value)} {oc3 kV3 dc3 pm3 cd3 ct3 : Value} {f4 : Addr} {od4 an4 : Option Addr} {sl4 : Array (Option Value)} {oc4 kV4 dc4 pm4 cd4 ct4 : Value} {f5 : Addr} {od5 an5 : Option Addr} {sl5 : Array (Option Value)} {oc5 kV5 dc5 pm5 cd5 ct5 : Value} {f6 : Addr} {od6 an6 : Option Addr} {sl6 : Array (Option Value)} {oc6 kV6 dc6 pm6 cd6 ct6 : Value} {f7 : Addr} {od7 an7 : Option Addr} {sl7 : Array (Option Value)} {oc7 kV7 dc7 pm7 cd7 ct7 : Value} {f8 : Addr} {od8 an8 : Option Addr} {sl8 : Array (Option Value)} {oc8 kV8 dc8 pm8 cd8 ct8 : Value} {f9 : Addr} {od9 an9 : Option Addr} {sl9 : Array (Option Value)} {oc9 kV9 dc9 pm9 cd9 ct9 : Value} {f10 : Addr} {od10 an10 : Option Addr} {sl10 : Array (Option Value)} {oc10 kV10 dc10 pm10 cd10 ct10 : Value} {f11 : Addr} {od11 an11 : Option Addr} {sl11 : Array (Option Value)} {oc11 kV11 dc11 pm11 cd11 ct11 : Value} {f12 : Addr} {od12 an12 : Option Addr} {sl12 : Array (Option Value)} {oc12 kV12 dc12 pm12 cd12 ct12 : Value} {f13 : Addr} {od13 an13 : Option Addr} {sl13 : Array (Option Value)} {oc13 kV13 dc13 pm13 cd13 ct13 : Value} {f14 : Addr} {od14 an14 : Option Addr} {sl14 : Array (Option Value)} {oc14 kV14 dc14 pm14 cd14 ct14 : Value} {f15 : Addr} {od15 an15 : Option Addr} {sl15 : Array (Option Value)} {oc15 kV15 dc15 pm15 cd15 ct15 : Value} {p15 : Addr} {rc15 : List Value} {f16 : Addr} {od16 an16 : Option Addr} {sl16 : Array (Option Value)} {oc16 kV16 dc16 pm16 cd16 ct16 : Value} {p16 : Addr} {rc16 : List Value} {f17 : Addr} {od17 an17 : Option Addr} {sl17 : Array (Option Value)} {oc17 kV17 dc17 pm17 cd17 ct17 : Value} {p17 : Addr} {rc17 : List Value} {f18 : Addr} {od18 an18 : Option Addr} {sl18 : Array (Option Value)} {oc18 kV18 dc18 pm18 cd18 ct18 : Value} {f19 : Addr} {od19 an19 : Option Addr} {sl19 : Array (Option Value)} {oc19 kV19 dc19 pm19 cd19 ct19 : Value} {f20 : Addr} {od20 an20 : Option Addr} {sl20 : Array (Option Value)} {oc20 kV20 dc20 pm20 cd20 ct20 : Value} {f21 : Addr} {od21 an21 : Option Addr} {sl21 : Array (Option Value)} {oc21 kV21 dc21 pm21 cd21 ct21 : Value} {f22 : Addr} {od22 an22 : Option Addr} {sl22 : Array (Option Value)} {oc22 kV22 dc22 pm22 cd22 ct22 : Value} {f23 : Addr} {od23 an23 : Option Addr} {sl23 : Array (Option Value)} {oc23 kV23 dc23 pm23 cd23 ct23 : Value} {f24 : Addr} {od24 an24 : Option Addr} {sl24 : Array (Option Value)} {oc24 kV24 dc24 pm24 cd24 ct24 : Value} {f25 : Addr} {od25 an25 : Option Addr} {sl25 : Array (Option Value)} {oc25 kV25 dc25 pm25 cd25 ct25 : Value} {f26 : Addr} {od26 an26 : Option Addr} {sl26 : Array (Option Value)} {oc26 kV26 dc26 pm26 cd26 ct26 : Value} {f27 : Addr} {od27 an27 : Option Addr} {sl27 : Array (Option Value)} {oc27 kV27 dc27 pm27 cd27 ct27 : Value} {f28 : Addr} {od28 an28 : Option Addr} {sl28 : Array (Option Value)} {oc28 kV28 dc28 pm28 cd28 ct28 : Value} {f29 : Addr} {od29 an29 : Option Addr} {sl29 : Array (Option Value)} {oc29 kV29 dc29 pm29 cd29 ct29 : Value} {f30 : Addr} {od30 an30 : Option Addr} {sl30 : Array (Option Value)} {oc30 kV30 dc30 pm30 cd30 ct30 : Value} {p30 : Addr} {rc30 : List Value} {f31 : Addr} {od31 an31 : Option Addr} {sl31 : Array (Option Value)} {oc31 kV31 dc31 pm31 cd31 ct31 : Value} {p31 : Addr} {rc31 : List Value} {f32 : Addr} {od32 an32 : Option Addr} {sl32 : Array (Option Value)} {oc32 kV32 dc32 pm32 cd32 ct32 : Value} {f33 : Addr} {od33 an33 : Option Addr} {sl33 : Array (Option Value)} {oc33 kV33 dc33 pm33 cd33 ct33 : Value} {f34 : Addr} {od34 an34 : Option Addr} {sl34 : Array (Option Value)} {oc34 kV34 dc34 pm34 cd34 ct34 : Value} {f35 : Addr} {od35 an35 : Option Addr} {sl35 : Array (Option Value)} {oc35 kV35 dc35 pm35 cd35 ct35 : Value} {f36 : Addr} {od36 an36 : Option Addr} {sl36 : Array (Option Value)} {oc36 kV36 dc36 pm36 cd36 ct36 : Value} {f37 : Addr} {od37 an37 : Option Addr} {sl37 : Array (Option Value)} {oc37 kV37 dc37 pm37 cd37 ct37 : Value} {cdR : ClassData} {aS : Addr} {odS : Option Addr} {tS1 tS2 tS3 tS4 : Tok} {nS : Nat} {slS : Array (Option Value)} (X : K.In h) (G : h.Ns mainGlobals mg) (hfa : mg "law" = some (.ref fa))
    (aU : PySem.W.nsIn K mainGlobals "UnmarkedError" = some (some (.ref cUnmarkedError)))
    (rdU : PySem.W.readsIn K cUnmarkedError (.type "type") = true)
    (gaU : PySem.W.specialIn K (.ref cUnmarkedError) "__getattribute__" = some (some (.builtin "type.__getattribute__")))
    (inU : PySem.W.findCls K (.ref cUnmarkedError) (.type "type") "__init__" = some (.val (.builtin "ValueError.__init__")))
    (aInvalidWord : PySem.W.nsIn K mainGlobals "InvalidWord" = some (some (.ref cInvalidWord)))
    (xInvalidWord : K.lookup cInvalidWord = some (excClassObj nmInvalidWord qInvalidWord cInvalidWord NInvalidWord bsInvalidWord [.ref cUnmarkedError, .type "ValueError", .type "Exception", .type "BaseException", .type "object"] true snInvalidWord subInvalidWord abInvalidWord colInvalidWord ddInvalidWord m0InvalidWord m1InvalidWord m2InvalidWord m3InvalidWord m5InvalidWord "ValueError.__new__"))
    (sInvalidWord : PySem.W.findIn K (.ref cInvalidWord) "__setattr__" = some (some (.builtin "object.__setattr__")))
    (bInvalidWord : PySem.W.subIn K (.ref cInvalidWord) (.type "BaseException") = some true)
    (tInvalidWord : PySem.W.typeIn K (.ref cInvalidWord) = some (.type "type"))
    (kInvalidWord : PySem.W.keepIn K (.ref cInvalidWord) = true)
    (aInvalidRatio : PySem.W.nsIn K mainGlobals "InvalidRatio" = some (some (.ref cInvalidRatio)))
    (xInvalidRatio : K.lookup cInvalidRatio = some (excClassObj nmInvalidRatio qInvalidRatio cInvalidRatio NInvalidRatio bsInvalidRatio [.ref cUnmarkedError, .type "ValueError", .type "Exception", .type "BaseException", .type "object"] true snInvalidRatio subInvalidRatio abInvalidRatio colInvalidRatio ddInvalidRatio m0InvalidRatio m1InvalidRatio m2InvalidRatio m3InvalidRatio m5InvalidRatio "ValueError.__new__"))
    (sInvalidRatio : PySem.W.findIn K (.ref cInvalidRatio) "__setattr__" = some (some (.builtin "object.__setattr__")))
    (bInvalidRatio : PySem.W.subIn K (.ref cInvalidRatio) (.type "BaseException") = some true)
    (tInvalidRatio : PySem.W.typeIn K (.ref cInvalidRatio) = some (.type "type"))
    (kInvalidRatio : PySem.W.keepIn K (.ref cInvalidRatio) = true)
    (aInvalidChange : PySem.W.nsIn K mainGlobals "InvalidChange" = some (some (.ref cInvalidChange)))
    (xInvalidChange : K.lookup cInvalidChange = some (excClassObj nmInvalidChange qInvalidChange cInvalidChange NInvalidChange bsInvalidChange [.ref cUnmarkedError, .type "ValueError", .type "Exception", .type "BaseException", .type "object"] true snInvalidChange subInvalidChange abInvalidChange colInvalidChange ddInvalidChange m0InvalidChange m1InvalidChange m2InvalidChange m3InvalidChange m5InvalidChange "ValueError.__new__"))
    (sInvalidChange : PySem.W.findIn K (.ref cInvalidChange) "__setattr__" = some (some (.builtin "object.__setattr__")))
    (bInvalidChange : PySem.W.subIn K (.ref cInvalidChange) (.type "BaseException") = some true)
    (tInvalidChange : PySem.W.typeIn K (.ref cInvalidChange) = some (.type "type"))
    (kInvalidChange : PySem.W.keepIn K (.ref cInvalidChange) = true)
    (hdUnmarkedError : PySem.W.hasDictIn K cUnmarkedError = true)
    (bUnmarkedError : PySem.W.subIn K (.ref cUnmarkedError) (.type "BaseException") = some true)
    (tUnmarkedError : PySem.W.typeIn K (.ref cUnmarkedError) = some (.type "type"))
    (hdInvalidWord : PySem.W.hasDictIn K cInvalidWord = true)
    (hdInvalidRatio : PySem.W.hasDictIn K cInvalidRatio = true)
    (hdInvalidChange : PySem.W.hasDictIn K cInvalidChange = true)
    (aC : PySem.W.nsIn K mainGlobals "Ratio" = some (some (.ref C)))
    (pgC : PySem.W.plainGet K C Str.empty = true)
    (hdC : PySem.W.hasDictIn K C = true)
    (poC : PySem.W.plainOver K C = true)
    (saC : PySem.W.findIn K (.ref C) "__setattr__" = some (some (.builtin "object.__setattr__")))
    (mkC : PySem.W.makesIn K C = true)
    (kcC : PySem.W.keepIn K (.ref C) = true)
    (haC : PySem.W.findIn K (.ref C) "__class__" = some (some (.builtin "object.__class__")))
    (hnC : PySem.W.specialIn K (.builtin "object.__class__") "__get__" = some (some (.builtin "getset_descriptor.__get__")))
    (htC : PySem.W.takesIn K (.builtin "object.__class__") = some true)
    (hmC : PySem.W.mroIn K C (.type "object") = some true)
    (rdcC : PySem.W.readsIn K C (.type "type") = true)
    (gacC : PySem.W.specialIn K (.ref C) "__getattribute__" = some (some (.builtin "type.__getattribute__")))
    (n1 : PySem.W.findIn K (.ref C) "first" = some none)
    (n2 : PySem.W.findIn K (.ref C) "second" = some none)
    (nf : PySem.W.notFirst K C (.ref C) = true)
    (ne : PySem.W.findIn K (.ref C) "__ne__" = some (some (.builtin "object.__ne__")))
    (so : PySem.W.subIn K (.ref C) (.type "object") = some true)
    (aCC : PySem.W.nsIn K mainGlobals "Change" = some (some (.ref CC)))
    (pgCC : PySem.W.plainGet K CC Str.empty = true)
    (hdCC : PySem.W.hasDictIn K CC = true)
    (poCC : PySem.W.plainOver K CC = true)
    (saCC : PySem.W.findIn K (.ref CC) "__setattr__" = some (some (.builtin "object.__setattr__")))
    (mkCC : PySem.W.makesIn K CC = true)
    (kcCC : PySem.W.keepIn K (.ref CC) = true)
    (haCC : PySem.W.findIn K (.ref CC) "__class__" = some (some (.builtin "object.__class__")))
    (hnCC : PySem.W.specialIn K (.builtin "object.__class__") "__get__" = some (some (.builtin "getset_descriptor.__get__")))
    (htCC : PySem.W.takesIn K (.builtin "object.__class__") = some true)
    (hmCC : PySem.W.mroIn K CC (.type "object") = some true)
    (rdcCC : PySem.W.readsIn K CC (.type "type") = true)
    (gacCC : PySem.W.specialIn K (.ref CC) "__getattribute__" = some (some (.builtin "type.__getattribute__")))
    (cn1 : PySem.W.findIn K (.ref CC) "numbers" = some none)
    (cn2 : PySem.W.findIn K (.ref CC) "turn" = some none)
    (cnf : PySem.W.notFirst K CC (.ref CC) = true)
    (cne : PySem.W.findIn K (.ref CC) "__ne__" = some (some (.builtin "object.__ne__")))
    (cso : PySem.W.subIn K (.ref CC) (.type "object") = some true)
    (ctt : PySem.W.typeIn K (.ref CC) = some (.type "type"))
    (a1 : PySem.W.nsIn K mainGlobals "_law_take" = some (some (.ref f1)))
    (l1 : K.lookup f1 = some ⟨oc1, od1, .func (PySem.W.fnOf "_law_take" "_law_take" (defArgs S__law_take) (defBody S__law_take) (defScope S__law_take) .none kV1 dc1 pm1 an1 cd1 ct1), sl1⟩)
    (c1 : PySem.W.codeIn K cd1 "_law_take" = true)
    (k1 : PySem.W.keepIn K (.ref f1) = true)
    (a2 : PySem.W.nsIn K mainGlobals "_law_pick" = some (some (.ref f2)))
    (l2 : K.lookup f2 = some ⟨oc2, od2, .func (PySem.W.fnOf "_law_pick" "_law_pick" (defArgs S__law_pick) (defBody S__law_pick) (defScope S__law_pick) .none kV2 dc2 pm2 an2 cd2 ct2), sl2⟩)
    (c2 : PySem.W.codeIn K cd2 "_law_pick" = true)
    (k2 : PySem.W.keepIn K (.ref f2) = true)
    (a3 : PySem.W.nsIn K mainGlobals "_law_box" = some (some (.ref f3)))
    (l3 : K.lookup f3 = some ⟨oc3, od3, .func (PySem.W.fnOf "_law_box" "_law_box" (defArgs S__law_box) (defBody S__law_box) (defScope S__law_box) .none kV3 dc3 pm3 an3 cd3 ct3), sl3⟩)
    (c3 : PySem.W.codeIn K cd3 "_law_box" = true)
    (k3 : PySem.W.keepIn K (.ref f3) = true)
    (a4 : PySem.W.nsIn K mainGlobals "_law_pair" = some (some (.ref f4)))
    (l4 : K.lookup f4 = some ⟨oc4, od4, .func (PySem.W.fnOf "_law_pair" "_law_pair" (defArgs S__law_pair) (defBody S__law_pair) (defScope S__law_pair) .none kV4 dc4 pm4 an4 cd4 ct4), sl4⟩)
    (c4 : PySem.W.codeIn K cd4 "_law_pair" = true)
    (k4 : PySem.W.keepIn K (.ref f4) = true)
    (a5 : PySem.W.nsIn K mainGlobals "_law_drawn_word" = some (some (.ref f5)))
    (l5 : K.lookup f5 = some ⟨oc5, od5, .func (PySem.W.fnOf "_law_drawn_word" "_law_drawn_word" (defArgs S__law_drawn_word) (defBody S__law_drawn_word) (defScope S__law_drawn_word) .none kV5 dc5 pm5 an5 cd5 ct5), sl5⟩)
    (c5 : PySem.W.codeIn K cd5 "_law_drawn_word" = true)
    (k5 : PySem.W.keepIn K (.ref f5) = true)
    (a6 : PySem.W.nsIn K mainGlobals "is_integer" = some (some (.ref f6)))
    (l6 : K.lookup f6 = some ⟨oc6, od6, .func (PySem.W.fnOf "is_integer" "is_integer" (defArgs S_is_integer) (defBody S_is_integer) (defScope S_is_integer) .none kV6 dc6 pm6 an6 cd6 ct6), sl6⟩)
    (c6 : PySem.W.codeIn K cd6 "is_integer" = true)
    (k6 : PySem.W.keepIn K (.ref f6) = true)
    (a7 : PySem.W.nsIn K mainGlobals "is_length" = some (some (.ref f7)))
    (l7 : K.lookup f7 = some ⟨oc7, od7, .func (PySem.W.fnOf "is_length" "is_length" (defArgs S_is_length) (defBody S_is_length) (defScope S_is_length) .none kV7 dc7 pm7 an7 cd7 ct7), sl7⟩)
    (c7 : PySem.W.codeIn K cd7 "is_length" = true)
    (k7 : PySem.W.keepIn K (.ref f7) = true)
    (a8 : PySem.W.nsIn K mainGlobals "common_length" = some (some (.ref f8)))
    (l8 : K.lookup f8 = some ⟨oc8, od8, .func (PySem.W.fnOf "common_length" "common_length" (defArgs S_common_length) (defBody S_common_length) (defScope S_common_length) .none kV8 dc8 pm8 an8 cd8 ct8), sl8⟩)
    (c8 : PySem.W.codeIn K cd8 "common_length" = true)
    (k8 : PySem.W.keepIn K (.ref f8) = true)
    (a9 : PySem.W.findIn K (.ref cInvalidWord) "__init__" = some (some (.ref f9)))
    (i9 : PySem.W.typeIn K (.ref f9) = some (.type "function"))
    (l9 : K.lookup f9 = some ⟨oc9, od9, .func (PySem.W.fnOf "__init__" "InvalidWord.__init__" (defArgs S_InvalidWord__init_) (defBody S_InvalidWord__init_) (defScope S_InvalidWord__init_) .none kV9 dc9 pm9 an9 cd9 ct9), sl9⟩)
    (c9 : PySem.W.codeIn K cd9 "InvalidWord.__init__" = true)
    (k9 : PySem.W.keepIn K (.ref f9) = true)
    (a10 : PySem.W.findIn K (.ref cInvalidRatio) "__init__" = some (some (.ref f10)))
    (i10 : PySem.W.typeIn K (.ref f10) = some (.type "function"))
    (l10 : K.lookup f10 = some ⟨oc10, od10, .func (PySem.W.fnOf "__init__" "InvalidRatio.__init__" (defArgs S_InvalidRatio__init_) (defBody S_InvalidRatio__init_) (defScope S_InvalidRatio__init_) .none kV10 dc10 pm10 an10 cd10 ct10), sl10⟩)
    (c10 : PySem.W.codeIn K cd10 "InvalidRatio.__init__" = true)
    (k10 : PySem.W.keepIn K (.ref f10) = true)
    (a11 : PySem.W.findIn K (.ref cInvalidChange) "__init__" = some (some (.ref f11)))
    (i11 : PySem.W.typeIn K (.ref f11) = some (.type "function"))
    (l11 : K.lookup f11 = some ⟨oc11, od11, .func (PySem.W.fnOf "__init__" "InvalidChange.__init__" (defArgs S_InvalidChange__init_) (defBody S_InvalidChange__init_) (defScope S_InvalidChange__init_) .none kV11 dc11 pm11 an11 cd11 ct11), sl11⟩)
    (c11 : PySem.W.codeIn K cd11 "InvalidChange.__init__" = true)
    (k11 : PySem.W.keepIn K (.ref f11) = true)
    (a12 : PySem.W.nsIn K mainGlobals "need_word" = some (some (.ref f12)))
    (l12 : K.lookup f12 = some ⟨oc12, od12, .func (PySem.W.fnOf "need_word" "need_word" (defArgs S_need_word) (defBody S_need_word) (defScope S_need_word) .none kV12 dc12 pm12 an12 cd12 ct12), sl12⟩)
    (c12 : PySem.W.codeIn K cd12 "need_word" = true)
    (k12 : PySem.W.keepIn K (.ref f12) = true)
    (a13 : PySem.W.nsIn K mainGlobals "word_of_lengths" = some (some (.ref f13)))
    (l13 : K.lookup f13 = some ⟨oc13, od13, .func (PySem.W.fnOf "word_of_lengths" "word_of_lengths" (defArgs S_word_of_lengths) (defBody S_word_of_lengths) (defScope S_word_of_lengths) .none kV13 dc13 pm13 an13 cd13 ct13), sl13⟩)
    (c13 : PySem.W.codeIn K cd13 "word_of_lengths" = true)
    (k13 : PySem.W.keepIn K (.ref f13) = true)
    (a14 : PySem.W.findIn K (.ref C) "__init__" = some (some (.ref f14)))
    (i14 : PySem.W.isFn K (.ref f14) = true)
    (l14 : K.lookup f14 = some ⟨oc14, od14, .func (PySem.W.fnOf "__init__" "Ratio.__init__" (defArgs S_Ratio__init_) (defBody S_Ratio__init_) (defScope S_Ratio__init_) .none kV14 dc14 pm14 an14 cd14 ct14), sl14⟩)
    (c14 : PySem.W.codeIn K cd14 "Ratio.__init__" = true)
    (k14 : PySem.W.keepIn K (.ref f14) = true)
    (a15 : PySem.W.findCls K (.ref C) (.type "type") "of_word" = some (.get (.builtin "classmethod.__get__") (.ref p15) .none (.ref C)))
    (r15 : PySem.W.recIn K p15 "classmethod" = some (.ref f15 :: rc15))
    (i15 : PySem.W.fnIn K f15 = true)
    (l15 : K.lookup f15 = some ⟨oc15, od15, .func (PySem.W.fnOf "of_word" "Ratio.of_word" (defArgs S_Ratio_of_word) (defBody S_Ratio_of_word) (defScope S_Ratio_of_word) .none kV15 dc15 pm15 an15 cd15 ct15), sl15⟩)
    (c15 : PySem.W.codeIn K cd15 "Ratio.of_word" = true)
    (k15 : PySem.W.keepIn K (.ref f15) = true)
    (a16 : PySem.W.findIn K (.ref C) "word" = some (some (.ref p16)))
    (g16 : PySem.W.specialIn K (.ref p16) "__get__" = some (some (.builtin "property.__get__")))
    (h16 : PySem.W.takesIn K (.ref p16) = some true)
    (r16 : PySem.W.recIn K p16 "property" = some (.ref f16 :: rc16))
    (l16 : K.lookup f16 = some ⟨oc16, od16, .func (PySem.W.fnOf "word" "Ratio.word" (defArgs S_Ratio_word) (defBody S_Ratio_word) (defScope S_Ratio_word) .none kV16 dc16 pm16 an16 cd16 ct16), sl16⟩)
    (c16 : PySem.W.codeIn K cd16 "Ratio.word" = true)
    (k16 : PySem.W.keepIn K (.ref f16) = true)
    (a17 : PySem.W.findIn K (.ref C) "turned" = some (some (.ref p17)))
    (g17 : PySem.W.specialIn K (.ref p17) "__get__" = some (some (.builtin "property.__get__")))
    (h17 : PySem.W.takesIn K (.ref p17) = some true)
    (r17 : PySem.W.recIn K p17 "property" = some (.ref f17 :: rc17))
    (l17 : K.lookup f17 = some ⟨oc17, od17, .func (PySem.W.fnOf "turned" "Ratio.turned" (defArgs S_Ratio_turned) (defBody S_Ratio_turned) (defScope S_Ratio_turned) .none kV17 dc17 pm17 an17 cd17 ct17), sl17⟩)
    (c17 : PySem.W.codeIn K cd17 "Ratio.turned" = true)
    (k17 : PySem.W.keepIn K (.ref f17) = true)
    (a18 : PySem.W.findIn K (.ref C) "__eq__" = some (some (.ref f18)))
    (i18 : PySem.W.isFn K (.ref f18) = true)
    (l18 : K.lookup f18 = some ⟨oc18, od18, .func (PySem.W.fnOf "__eq__" "Ratio.__eq__" (defArgs S_Ratio__eq_) (defBody S_Ratio__eq_) (defScope S_Ratio__eq_) .none kV18 dc18 pm18 an18 cd18 ct18), sl18⟩)
    (c18 : PySem.W.codeIn K cd18 "Ratio.__eq__" = true)
    (k18 : PySem.W.keepIn K (.ref f18) = true)
    (a19 : PySem.W.findIn K (.ref C) "__lt__" = some (some (.ref f19)))
    (i19 : PySem.W.isFn K (.ref f19) = true)
    (l19 : K.lookup f19 = some ⟨oc19, od19, .func (PySem.W.fnOf "__lt__" "Ratio.__lt__" (defArgs S_Ratio__lt_) (defBody S_Ratio__lt_) (defScope S_Ratio__lt_) .none kV19 dc19 pm19 an19 cd19 ct19), sl19⟩)
    (c19 : PySem.W.codeIn K cd19 "Ratio.__lt__" = true)
    (k19 : PySem.W.keepIn K (.ref f19) = true)
    (a20 : PySem.W.findIn K (.ref C) "__le__" = some (some (.ref f20)))
    (i20 : PySem.W.isFn K (.ref f20) = true)
    (l20 : K.lookup f20 = some ⟨oc20, od20, .func (PySem.W.fnOf "__le__" "Ratio.__le__" (defArgs S_Ratio__le_) (defBody S_Ratio__le_) (defScope S_Ratio__le_) .none kV20 dc20 pm20 an20 cd20 ct20), sl20⟩)
    (c20 : PySem.W.codeIn K cd20 "Ratio.__le__" = true)
    (k20 : PySem.W.keepIn K (.ref f20) = true)
    (a21 : PySem.W.findIn K (.ref C) "__gt__" = some (some (.ref f21)))
    (i21 : PySem.W.isFn K (.ref f21) = true)
    (l21 : K.lookup f21 = some ⟨oc21, od21, .func (PySem.W.fnOf "__gt__" "Ratio.__gt__" (defArgs S_Ratio__gt_) (defBody S_Ratio__gt_) (defScope S_Ratio__gt_) .none kV21 dc21 pm21 an21 cd21 ct21), sl21⟩)
    (c21 : PySem.W.codeIn K cd21 "Ratio.__gt__" = true)
    (k21 : PySem.W.keepIn K (.ref f21) = true)
    (a22 : PySem.W.findIn K (.ref C) "__ge__" = some (some (.ref f22)))
    (i22 : PySem.W.isFn K (.ref f22) = true)
    (l22 : K.lookup f22 = some ⟨oc22, od22, .func (PySem.W.fnOf "__ge__" "Ratio.__ge__" (defArgs S_Ratio__ge_) (defBody S_Ratio__ge_) (defScope S_Ratio__ge_) .none kV22 dc22 pm22 an22 cd22 ct22), sl22⟩)
    (c22 : PySem.W.codeIn K cd22 "Ratio.__ge__" = true)
    (k22 : PySem.W.keepIn K (.ref f22) = true)
    (a23 : PySem.W.nsIn K mainGlobals "lengths_made" = some (some (.ref f23)))
    (l23 : K.lookup f23 = some ⟨oc23, od23, .func (PySem.W.fnOf "lengths_made" "lengths_made" (defArgs S_lengths_made) (defBody S_lengths_made) (defScope S_lengths_made) .none kV23 dc23 pm23 an23 cd23 ct23), sl23⟩)
    (c23 : PySem.W.codeIn K cd23 "lengths_made" = true)
    (k23 : PySem.W.keepIn K (.ref f23) = true)
    (a24 : PySem.W.findIn K (.ref CC) "__init__" = some (some (.ref f24)))
    (i24 : PySem.W.isFn K (.ref f24) = true)
    (l24 : K.lookup f24 = some ⟨oc24, od24, .func (PySem.W.fnOf "__init__" "Change.__init__" (defArgs S_Change__init_) (defBody S_Change__init_) (defScope S_Change__init_) .none kV24 dc24 pm24 an24 cd24 ct24), sl24⟩)
    (c24 : PySem.W.codeIn K cd24 "Change.__init__" = true)
    (k24 : PySem.W.keepIn K (.ref f24) = true)
    (a25 : PySem.W.findIn K (.ref CC) "__abs__" = some (some (.ref f25)))
    (i25 : PySem.W.isFn K (.ref f25) = true)
    (l25 : K.lookup f25 = some ⟨oc25, od25, .func (PySem.W.fnOf "__abs__" "Change.__abs__" (defArgs S_Change__abs_) (defBody S_Change__abs_) (defScope S_Change__abs_) .none kV25 dc25 pm25 an25 cd25 ct25), sl25⟩)
    (c25 : PySem.W.codeIn K cd25 "Change.__abs__" = true)
    (k25 : PySem.W.keepIn K (.ref f25) = true)
    (a26 : PySem.W.findIn K (.ref CC) "__eq__" = some (some (.ref f26)))
    (i26 : PySem.W.isFn K (.ref f26) = true)
    (l26 : K.lookup f26 = some ⟨oc26, od26, .func (PySem.W.fnOf "__eq__" "Change.__eq__" (defArgs S_Change__eq_) (defBody S_Change__eq_) (defScope S_Change__eq_) .none kV26 dc26 pm26 an26 cd26 ct26), sl26⟩)
    (c26 : PySem.W.codeIn K cd26 "Change.__eq__" = true)
    (k26 : PySem.W.keepIn K (.ref f26) = true)
    (a27 : PySem.W.nsIn K mainGlobals "numbers_behind" = some (some (.ref f27)))
    (l27 : K.lookup f27 = some ⟨oc27, od27, .func (PySem.W.fnOf "numbers_behind" "numbers_behind" (defArgs S_numbers_behind) (defBody S_numbers_behind) (defScope S_numbers_behind) .none kV27 dc27 pm27 an27 cd27 ct27), sl27⟩)
    (c27 : PySem.W.codeIn K cd27 "numbers_behind" = true)
    (k27 : PySem.W.keepIn K (.ref f27) = true)
    (a28 : PySem.W.nsIn K mainGlobals "numbers_of_word" = some (some (.ref f28)))
    (l28 : K.lookup f28 = some ⟨oc28, od28, .func (PySem.W.fnOf "numbers_of_word" "numbers_of_word" (defArgs S_numbers_of_word) (defBody S_numbers_of_word) (defScope S_numbers_of_word) .none kV28 dc28 pm28 an28 cd28 ct28), sl28⟩)
    (c28 : PySem.W.codeIn K cd28 "numbers_of_word" = true)
    (k28 : PySem.W.keepIn K (.ref f28) = true)
    (a29 : PySem.W.nsIn K mainGlobals "numbers_joined" = some (some (.ref f29)))
    (l29 : K.lookup f29 = some ⟨oc29, od29, .func (PySem.W.fnOf "numbers_joined" "numbers_joined" (defArgs S_numbers_joined) (defBody S_numbers_joined) (defScope S_numbers_joined) .none kV29 dc29 pm29 an29 cd29 ct29), sl29⟩)
    (c29 : PySem.W.codeIn K cd29 "numbers_joined" = true)
    (k29 : PySem.W.keepIn K (.ref f29) = true)
    (a30 : PySem.W.findCls K (.ref CC) (.type "type") "exchange" = some (.get (.builtin "classmethod.__get__") (.ref p30) .none (.ref CC)))
    (r30 : PySem.W.recIn K p30 "classmethod" = some (.ref f30 :: rc30))
    (i30 : PySem.W.fnIn K f30 = true)
    (l30 : K.lookup f30 = some ⟨oc30, od30, .func (PySem.W.fnOf "exchange" "Change.exchange" (defArgs S_Change_exchange) (defBody S_Change_exchange) (defScope S_Change_exchange) .none kV30 dc30 pm30 an30 cd30 ct30), sl30⟩)
    (c30 : PySem.W.codeIn K cd30 "Change.exchange" = true)
    (k30 : PySem.W.keepIn K (.ref f30) = true)
    (a31 : PySem.W.findCls K (.ref CC) (.type "type") "of_word" = some (.get (.builtin "classmethod.__get__") (.ref p31) .none (.ref CC)))
    (r31 : PySem.W.recIn K p31 "classmethod" = some (.ref f31 :: rc31))
    (i31 : PySem.W.fnIn K f31 = true)
    (l31 : K.lookup f31 = some ⟨oc31, od31, .func (PySem.W.fnOf "of_word" "Change.of_word" (defArgs S_Change_of_word) (defBody S_Change_of_word) (defScope S_Change_of_word) .none kV31 dc31 pm31 an31 cd31 ct31), sl31⟩)
    (c31 : PySem.W.codeIn K cd31 "Change.of_word" = true)
    (k31 : PySem.W.keepIn K (.ref f31) = true)
    (a32 : PySem.W.findIn K (.ref CC) "__mul__" = some (some (.ref f32)))
    (i32 : PySem.W.isFn K (.ref f32) = true)
    (l32 : K.lookup f32 = some ⟨oc32, od32, .func (PySem.W.fnOf "__mul__" "Change.__mul__" (defArgs S_Change__mul_) (defBody S_Change__mul_) (defScope S_Change__mul_) .none kV32 dc32 pm32 an32 cd32 ct32), sl32⟩)
    (c32 : PySem.W.codeIn K cd32 "Change.__mul__" = true)
    (k32 : PySem.W.keepIn K (.ref f32) = true)
    (a33 : PySem.W.nsIn K mainGlobals "_law_mirror" = some (some (.ref f33)))
    (l33 : K.lookup f33 = some ⟨oc33, od33, .func (PySem.W.fnOf "_law_mirror" "_law_mirror" (defArgs S__law_mirror) (defBody S__law_mirror) (defScope S__law_mirror) .none kV33 dc33 pm33 an33 cd33 ct33), sl33⟩)
    (c33 : PySem.W.codeIn K cd33 "_law_mirror" = true)
    (k33 : PySem.W.keepIn K (.ref f33) = true)
    (a34 : PySem.W.nsIn K mainGlobals "_law_longer" = some (some (.ref f34)))
    (l34 : K.lookup f34 = some ⟨oc34, od34, .func (PySem.W.fnOf "_law_longer" "_law_longer" (defArgs S__law_longer) (defBody S__law_longer) (defScope S__law_longer) .none kV34 dc34 pm34 an34 cd34 ct34), sl34⟩)
    (c34 : PySem.W.codeIn K cd34 "_law_longer" = true)
    (k34 : PySem.W.keepIn K (.ref f34) = true)
    (a35 : PySem.W.nsIn K mainGlobals "_law_small_words" = some (some (.ref f35)))
    (l35 : K.lookup f35 = some ⟨oc35, od35, .func (PySem.W.fnOf "_law_small_words" "_law_small_words" (defArgs S__law_small_words) (defBody S__law_small_words) (defScope S__law_small_words) .none kV35 dc35 pm35 an35 cd35 ct35), sl35⟩)
    (c35 : PySem.W.codeIn K cd35 "_law_small_words" = true)
    (k35 : PySem.W.keepIn K (.ref f35) = true)
    (a36 : PySem.W.nsIn K mainGlobals "_law_place" = some (some (.ref f36)))
    (l36 : K.lookup f36 = some ⟨oc36, od36, .func (PySem.W.fnOf "_law_place" "_law_place" (defArgs S__law_place) (defBody S__law_place) (defScope S__law_place) .none kV36 dc36 pm36 an36 cd36 ct36), sl36⟩)
    (c36 : PySem.W.codeIn K cd36 "_law_place" = true)
    (k36 : PySem.W.keepIn K (.ref f36) = true)
    (a37 : PySem.W.nsIn K mainGlobals "law" = some (some (.ref f37)))
    (l37 : K.lookup f37 = some ⟨oc37, od37, .func (PySem.W.fnOf "law" "law" (defArgs S_law) (defBody S_law) (defScope S_law) .none kV37 dc37 pm37 an37 cd37 ct37), sl37⟩)
    (c37 : PySem.W.codeIn K cd37 "law" = true)
    (k37 : PySem.W.keepIn K (.ref f37) = true)
    (z_ValueError : PySem.W.nsIn K mainGlobals "ValueError" = some none)
    (z_abs : PySem.W.nsIn K mainGlobals "abs" = some none)
    (z_all : PySem.W.nsIn K mainGlobals "all" = some none)
    (z_any : PySem.W.nsIn K mainGlobals "any" = some none)
    (z_bool : PySem.W.nsIn K mainGlobals "bool" = some none)
    (z_enumerate : PySem.W.nsIn K mainGlobals "enumerate" = some none)
    (z_int : PySem.W.nsIn K mainGlobals "int" = some none)
    (z_isinstance : PySem.W.nsIn K mainGlobals "isinstance" = some none)
    (z_len : PySem.W.nsIn K mainGlobals "len" = some none)
    (z_list : PySem.W.nsIn K mainGlobals "list" = some none)
    (z_max : PySem.W.nsIn K mainGlobals "max" = some none)
    (z_min : PySem.W.nsIn K mainGlobals "min" = some none)
    (z_range : PySem.W.nsIn K mainGlobals "range" = some none)
    (z_repr : PySem.W.nsIn K mainGlobals "repr" = some none)
    (z_sorted : PySem.W.nsIn K mainGlobals "sorted" = some none)
    (z_str : PySem.W.nsIn K mainGlobals "str" = some none)
    (z_sum : PySem.W.nsIn K mainGlobals "sum" = some none)
    (z_tuple : PySem.W.nsIn K mainGlobals "tuple" = some none)
    (z_zip : PySem.W.nsIn K mainGlobals "zip" = some none)
    (src : PySem.W.subIn K (.ref C) (.ref CC) = some false)
    (scc : PySem.W.subIn K (.ref C) (.ref C) = some true)
    (sfC : PySem.W.selfFirst K CC = true)
    (rmC : PySem.W.findIn K (.ref CC) "__rmul__" = some none)
    (cdR_ : PySem.W.clsIn K C = some cdR)
    (cdRm : cdR.mro = [.ref C, .type "object"])
    (m1R : PySem.W.findIn K (.ref C) "__mul__" = some none)
    (m2R : PySem.W.findIn K (.ref C) "__rmul__" = some none)
    (m3R : PySem.W.findIn K (.type "object") "__mul__" = some none)
    (m4R : PySem.W.findIn K (.type "object") "__rmul__" = some none)
    (aSM : PySem.W.nsIn K mainGlobals "SAME" = some (some (.ref aS)))
    (lSM : K.lookup aS = some ⟨.type "tuple", odS, .seq #[.int 1 tS1, .int 0 tS2, .int 0 tS3, .int 1 tS4] nS, slS⟩) :
    ∃ fd : FuncData, (∀ (s : Shared) (v : Value), BindsTo s fd ⟨[v], []⟩ [("_law_script", v)]) ∧ ∀ base : Heap, K.In base → base.Ns mainGlobals mg → FnOk l.prog w K mg base CX0 10 fa fd ["_law_script"] (sp_law K) := by
  have e := hfa.symm.trans (PySem.W.mg_of X G a37)
  cases e
  have T : Txt K mg := ⟨PySem.W.mg_none_of X G z_ValueError, PySem.W.mg_none_of X G z_abs, PySem.W.mg_none_of X G z_all, PySem.W.mg_none_of X G z_any, PySem.W.mg_none_of X G z_bool, PySem.W.mg_none_of X G z_enumerate, PySem.W.mg_none_of X G z_int, PySem.W.mg_none_of X G z_isinstance, PySem.W.mg_none_of X G z_len, PySem.W.mg_none_of X G z_list, PySem.W.mg_none_of X G z_max, PySem.W.mg_none_of X G z_min, PySem.W.mg_none_of X G z_range, PySem.W.mg_none_of X G z_repr, PySem.W.mg_none_of X G z_sorted, PySem.W.mg_none_of X G z_str, PySem.W.mg_none_of X G z_sum, PySem.W.mg_none_of X G z_tuple, PySem.W.mg_none_of X G z_zip⟩
  have mgU := PySem.W.mg_of X G aU
  have UE : UeC K cUnmarkedError := ⟨⟨rdU, gaU⟩, inU⟩
  have N_UnmarkedError : NmC mg "UnmarkedError" cUnmarkedError := ⟨mgU⟩
  have N_InvalidWord : NmC mg "InvalidWord" cInvalidWord := ⟨PySem.W.mg_of X G aInvalidWord⟩
  have N_InvalidRatio : NmC mg "InvalidRatio" cInvalidRatio := ⟨PySem.W.mg_of X G aInvalidRatio⟩
  have N_InvalidChange : NmC mg "InvalidChange" cInvalidChange := ⟨PySem.W.mg_of X G aInvalidChange⟩
  have O_InvalidWord : OexC K cInvalidWord := ⟨⟨_, _, _, _, _, _, _, _, _, _, _, _, _, _, _, xInvalidWord, by rfl⟩, sInvalidWord, bInvalidWord, tInvalidWord, kInvalidWord⟩
  have O_InvalidRatio : OexC K cInvalidRatio := ⟨⟨_, _, _, _, _, _, _, _, _, _, _, _, _, _, _, xInvalidRatio, by rfl⟩, sInvalidRatio, bInvalidRatio, tInvalidRatio, kInvalidRatio⟩
  have O_InvalidChange : OexC K cInvalidChange := ⟨⟨_, _, _, _, _, _, _, _, _, _, _, _, _, _, _, xInvalidChange, by rfl⟩, sInvalidChange, bInvalidChange, tInvalidChange, kInvalidChange⟩
  have INSC : C8.InsC K C := ⟨⟨pgC, hdC, poC, saC⟩, haC, hnC, htC, hmC, kit_self _ _ (beq_self_eq_true _)⟩
  have R : RatT K mg C := ⟨INSC, n1, n2, PySem.W.mg_of X G aC, nf, ne, so⟩
  have INSCC : C8.InsC K CC := ⟨⟨pgCC, hdCC, poCC, saCC⟩, haCC, hnCC, htCC, hmCC, kit_self _ _ (beq_self_eq_true _)⟩
  have Rc : ChT K mg CC := ⟨INSCC, cn1, cn2, PySem.W.mg_of X G aCC, cnf, cne, cso⟩
  have F1 := fun_mk (st := S__law_take) l1 c1 k1
  have b1 := F1.binds (ps := ["_law_box_here", "_law_many"]) fun _ _ _ _ _ _ us hl => match us, hl with | [_, _], _ => rfl
  have F2 := fun_mk (st := S__law_pick) l2 c2 k2
  have b2 := F2.binds (ps := ["_law_box_here", "_law_items"]) fun _ _ _ _ _ _ us hl => match us, hl with | [_, _], _ => rfl
  have F3 := fun_mk (st := S__law_box) l3 c3 k3
  have b3 := F3.binds (ps := ["_law_script", "_law_k", "_law_own"]) fun _ _ _ _ _ _ us hl => match us, hl with | [_, _, _], _ => rfl
  have F4 := fun_mk (st := S__law_pair) l4 c4 k4
  have b4 := F4.binds (ps := ["_law_word_here"]) fun _ _ _ _ _ _ us hl => match us, hl with | [_], _ => rfl
  have F5 := fun_mk (st := S__law_drawn_word) l5 c5 k5
  have b5 := F5.binds (ps := ["_law_box_here", "_law_most"]) fun _ _ _ _ _ _ us hl => match us, hl with | [_, _], _ => rfl
  have F6 := fun_mk (st := S_is_integer) l6 c6 k6
  have b6 := F6.binds (ps := ["value"]) fun _ _ _ _ _ _ us hl => match us, hl with | [_], _ => rfl
  have F7 := fun_mk (st := S_is_length) l7 c7 k7
  have b7 := F7.binds (ps := ["value"]) fun _ _ _ _ _ _ us hl => match us, hl with | [_], _ => rfl
  have F8 := fun_mk (st := S_common_length) l8 c8 k8
  have b8 := F8.binds (ps := ["first", "second"]) fun _ _ _ _ _ _ us hl => match us, hl with | [_, _], _ => rfl
  have F9 := fun_mk (st := S_InvalidWord__init_) l9 c9 k9
  have b9 := F9.binds (ps := ["self"]) fun _ _ _ _ _ _ us hl => match us, hl with | [_], _ => rfl
  have F10 := fun_mk (st := S_InvalidRatio__init_) l10 c10 k10
  have b10 := F10.binds (ps := ["self"]) fun _ _ _ _ _ _ us hl => match us, hl with | [_], _ => rfl
  have F11 := fun_mk (st := S_InvalidChange__init_) l11 c11 k11
  have b11 := F11.binds (ps := ["self"]) fun _ _ _ _ _ _ us hl => match us, hl with | [_], _ => rfl
  have F12 := fun_mk (st := S_need_word) l12 c12 k12
  have b12 := F12.binds (ps := ["value"]) fun _ _ _ _ _ _ us hl => match us, hl with | [_], _ => rfl
  have F13 := fun_mk (st := S_word_of_lengths) l13 c13 k13
  have b13 := F13.binds (ps := ["first", "second"]) fun _ _ _ _ _ _ us hl => match us, hl with | [_, _], _ => rfl
  have F14 := fun_mk (st := S_Ratio__init_) l14 c14 k14
  have b14 := F14.binds (ps := ["self", "first", "second"]) fun _ _ _ _ _ _ us hl => match us, hl with | [_, _, _], _ => rfl
  have F15 := fun_mk (st := S_Ratio_of_word) l15 c15 k15
  have b15 := F15.binds (ps := ["cls", "word"]) fun _ _ _ _ _ _ us hl => match us, hl with | [_, _], _ => rfl
  have F16 := fun_mk (st := S_Ratio_word) l16 c16 k16
  have b16 := F16.binds (ps := ["self"]) fun _ _ _ _ _ _ us hl => match us, hl with | [_], _ => rfl
  have F17 := fun_mk (st := S_Ratio_turned) l17 c17 k17
  have b17 := F17.binds (ps := ["self"]) fun _ _ _ _ _ _ us hl => match us, hl with | [_], _ => rfl
  have F18 := fun_mk (st := S_Ratio__eq_) l18 c18 k18
  have b18 := F18.binds (ps := ["self", "other"]) fun _ _ _ _ _ _ us hl => match us, hl with | [_, _], _ => rfl
  have F19 := fun_mk (st := S_Ratio__lt_) l19 c19 k19
  have b19 := F19.binds (ps := ["self", "other"]) fun _ _ _ _ _ _ us hl => match us, hl with | [_, _], _ => rfl
  have F20 := fun_mk (st := S_Ratio__le_) l20 c20 k20
  have b20 := F20.binds (ps := ["self", "other"]) fun _ _ _ _ _ _ us hl => match us, hl with | [_, _], _ => rfl
  have F21 := fun_mk (st := S_Ratio__gt_) l21 c21 k21
  have b21 := F21.binds (ps := ["self", "other"]) fun _ _ _ _ _ _ us hl => match us, hl with | [_, _], _ => rfl
  have F22 := fun_mk (st := S_Ratio__ge_) l22 c22 k22
  have b22 := F22.binds (ps := ["self", "other"]) fun _ _ _ _ _ _ us hl => match us, hl with | [_, _], _ => rfl
  have F23 := fun_mk (st := S_lengths_made) l23 c23 k23
  have b23 := F23.binds (ps := ["numbers", "first", "second"]) fun _ _ _ _ _ _ us hl => match us, hl with | [_, _, _], _ => rfl
  have F24 := fun_mk (st := S_Change__init_) l24 c24 k24
  have b24 := F24.binds (ps := ["self", "a", "b", "c", "d"]) fun _ _ _ _ _ _ us hl => match us, hl with | [_, _, _, _, _], _ => rfl
  have F25 := fun_mk (st := S_Change__abs_) l25 c25 k25
  have b25 := F25.binds (ps := ["self"]) fun _ _ _ _ _ _ us hl => match us, hl with | [_], _ => rfl
  have F26 := fun_mk (st := S_Change__eq_) l26 c26 k26
  have b26 := F26.binds (ps := ["self", "other"]) fun _ _ _ _ _ _ us hl => match us, hl with | [_, _], _ => rfl
  have F27 := fun_mk (st := S_numbers_behind) l27 c27 k27
  have b27 := F27.binds (ps := ["numbers", "letter"]) fun _ _ _ _ _ _ us hl => match us, hl with | [_, _], _ => rfl
  have F28 := fun_mk (st := S_numbers_of_word) l28 c28 k28
  have b28 := F28.binds (ps := ["word"]) fun _ _ _ _ _ _ us hl => match us, hl with | [_], _ => rfl
  have F29 := fun_mk (st := S_numbers_joined) l29 c29 k29
  have b29 := F29.binds (ps := ["one", "other"]) fun _ _ _ _ _ _ us hl => match us, hl with | [_, _], _ => rfl
  have F30 := fun_mk (st := S_Change_exchange) l30 c30 k30
  have b30 := F30.binds (ps := ["cls"]) fun _ _ _ _ _ _ us hl => match us, hl with | [_], _ => rfl
  have F31 := fun_mk (st := S_Change_of_word) l31 c31 k31
  have b31 := F31.binds (ps := ["cls", "word"]) fun _ _ _ _ _ _ us hl => match us, hl with | [_, _], _ => rfl
  have F32 := fun_mk (st := S_Change__mul_) l32 c32 k32
  have b32 := F32.binds (ps := ["self", "other"]) fun _ _ _ _ _ _ us hl => match us, hl with | [_, _], _ => rfl
  have F33 := fun_mk (st := S__law_mirror) l33 c33 k33
  have b33 := F33.binds (ps := ["_law_word_here"]) fun _ _ _ _ _ _ us hl => match us, hl with | [_], _ => rfl
  have F34 := fun_mk (st := S__law_longer) l34 c34 k34
  have b34 := F34.binds (ps := ["_law_words"]) fun _ _ _ _ _ _ us hl => match us, hl with | [_], _ => rfl
  have F35 := fun_mk (st := S__law_small_words) l35 c35 k35
  have b35 := F35.binds (ps := ["_law_most"]) fun _ _ _ _ _ _ us hl => match us, hl with | [_], _ => rfl
  have F36 := fun_mk (st := S__law_place) l36 c36 k36
  have b36 := F36.binds (ps := ["_law_word_here"]) fun _ _ _ _ _ _ us hl => match us, hl with | [_], _ => rfl
  have F37 := fun_mk (st := S_law) l37 c37 k37
  refine ⟨PySem.W.fnOf "law" "law" (defArgs S_law) (defBody S_law) (defScope S_law) .none kV37 dc37 pm37 an37 cd37 ct37, fun s v => .of_eq rfl, fun base _ _ => ?_⟩
  have G_SAME : GT K mg "SAME" Mt.one.tl := gt_of (PySem.W.mg_of X G aSM) lSM rfl rfl (by show 4 ≤ sizeLine; decide) (.cons ⟨_, rfl⟩ (.cons ⟨_, rfl⟩ (.cons ⟨_, rfl⟩ (.cons ⟨_, rfl⟩ .nil))))
  have OM : OpC K CC .Mult := ⟨sfC, (show PySem.dunderR "mul" = "__rmul__" by decide +kernel) ▸ rmC⟩
  have ON : OpNo K C .Mult := ⟨PySem.W.plain_of cdR_ cdRm, (show PySem.dunder "mul" = "__mul__" by decide +kernel) ▸ m1R, (show PySem.dunderR "mul" = "__rmul__" by decide +kernel) ▸ m2R, (show PySem.dunder "mul" = "__mul__" by decide +kernel) ▸ m3R, (show PySem.dunderR "mul" = "__rmul__" by decide +kernel) ▸ m4R⟩
  have kn : PySem.W.kitOne K (.ref C) (.ref CC) = some false := kit_ownF scc hdCC ctt src
  have C_take : FnC l.prog w K mg base CX0 1 "_law_take" ["_law_box_here", "_law_many"] sp_take := ⟨_, _, ok_take F1 T , PySem.W.mg_of X G a1, k1, b1⟩
  have C_pick : FnC l.prog w K mg base CX0 2 "_law_pick" ["_law_box_here", "_law_items"] (sp_pick K) := ⟨_, _, ok_pick F2 T C_take, PySem.W.mg_of X G a2, k2, b2⟩
  have C_box : FnC l.prog w K mg base CX0 1 "_law_box" ["_law_script", "_law_k", "_law_own"] (sp_box K) := ⟨_, _, ok_box F3 T , PySem.W.mg_of X G a3, k3, b3⟩
  have C_pair : FnC l.prog w K mg base CX0 1 "_law_pair" ["_law_word_here"] sp_pair := ⟨_, _, ok_pair F4 T , PySem.W.mg_of X G a4, k4, b4⟩
  have C_drawn : FnC l.prog w K mg base CX0 3 "_law_drawn_word" ["_law_box_here", "_law_most"] sp_drawn := ⟨_, _, ok_drawn F5 T C_take C_pick C_pair, PySem.W.mg_of X G a5, k5, b5⟩
  have C_isint : FnC l.prog w K mg base CX0 1 "is_integer" ["value"] (sp_isint K) := ⟨_, _, ok_isint F6 T , PySem.W.mg_of X G a6, k6, b6⟩
  have C_islen : FnC l.prog w K mg base CX0 2 "is_length" ["value"] (sp_islen K) := ⟨_, _, ok_islen F7 T C_isint, PySem.W.mg_of X G a7, k7, b7⟩
  have C_common : FnC l.prog w K mg base CX0 1 "common_length" ["first", "second"] sp_common := ⟨_, _, ok_common F8 T , PySem.W.mg_of X G a8, k8, b8⟩
  have E_InvalidWord : ErC l.prog w K mg base "InvalidWord" cInvalidWord := ⟨_, _, (ok_err_InvalidWord F9 UE mgU O_InvalidWord).mono (by decide), O_InvalidWord, a9, i9, PySem.W.mg_of X G aInvalidWord, b9⟩
  have E_InvalidRatio : ErC l.prog w K mg base "InvalidRatio" cInvalidRatio := ⟨_, _, (ok_err_InvalidRatio F10 UE mgU O_InvalidRatio).mono (by decide), O_InvalidRatio, a10, i10, PySem.W.mg_of X G aInvalidRatio, b10⟩
  have E_InvalidChange : ErC l.prog w K mg base "InvalidChange" cInvalidChange := ⟨_, _, (ok_err_InvalidChange F11 UE mgU O_InvalidChange).mono (by decide), O_InvalidChange, a11, i11, PySem.W.mg_of X G aInvalidChange, b11⟩
  have C_need : FnC l.prog w K mg base (L2.CX l.prog w) 4 "need_word" ["value"] (sp_need cInvalidWord K) := ⟨_, _, ok_need F12 T E_InvalidWord, PySem.W.mg_of X G a12, k12, b12⟩
  have C_wol : FnC l.prog w K mg base CX0 1 "word_of_lengths" ["first", "second"] sp_wol := ⟨_, _, ok_wol F13 T , PySem.W.mg_of X G a13, k13, b13⟩
  have C_ratioX : MkC l.prog w K mg base (L2.CX l.prog w) 4 C "Ratio" ["self", "first", "second"] (sp_init C cInvalidRatio K) := ⟨_, _, ok_init F14 T R E_InvalidRatio C_islen C_common, ⟨mkC, a14, i14, kcC⟩, PySem.W.mg_of X G aC, b14⟩
  have M_ofwordX : CmC l.prog w K mg base (L2.CX l.prog w) 6 C "Ratio" "of_word" ["cls", "word"] (sp_ofword C cInvalidWord K) := ⟨_, _, _, ok_ofword F15 T C_need C_ratioX, ⟨rdcC, gacC⟩, ⟨a15, ⟨_, r15⟩, i15⟩, PySem.W.mg_of X G aC, b15⟩
  have P_word : PrC l.prog w K mg base 2 C "word" (sp_word C) := ⟨_, _, _, ok_word F16 T R C_wol, ⟨pgC, hdC, poC, saC⟩, ⟨a16, g16, h16, ⟨_, r16⟩⟩, b16⟩
  have P_turned : PrC l.prog w K mg base 6 C "turned" (sp_turned C) := ⟨_, _, _, ok_rturned F17 T R C_ratioX.calm, ⟨pgC, hdC, poC, saC⟩, ⟨a17, g17, h17, ⟨_, r17⟩⟩, b17⟩
  have M_eq : MtC l.prog w K mg base CX0 1 C "__eq__" ["self", "other"] (sp_cmp C r_eq) := ⟨_, _, ok_eq F18 T R, ⟨a18, i18, k18⟩, b18⟩
  have M_lt : MtC l.prog w K mg base CX0 1 C "__lt__" ["self", "other"] (sp_cmp C r_lt) := ⟨_, _, ok_lt F19 T R, ⟨a19, i19, k19⟩, b19⟩
  have M_le : MtC l.prog w K mg base CX0 1 C "__le__" ["self", "other"] (sp_cmp C r_le) := ⟨_, _, ok_le F20 T R, ⟨a20, i20, k20⟩, b20⟩
  have M_gt : MtC l.prog w K mg base CX0 1 C "__gt__" ["self", "other"] (sp_cmp C r_gt) := ⟨_, _, ok_gt F21 T R, ⟨a21, i21, k21⟩, b21⟩
  have M_ge : MtC l.prog w K mg base CX0 1 C "__ge__" ["self", "other"] (sp_cmp C r_ge) := ⟨_, _, ok_ge F22 T R, ⟨a22, i22, k22⟩, b22⟩
  have C_lm : FnC l.prog w K mg base CX0 1 "lengths_made" ["numbers", "first", "second"] sp_lm := ⟨_, _, ok_lm F23 T , PySem.W.mg_of X G a23, k23, b23⟩
  have C_changeX : MkC l.prog w K mg base (L2.CX l.prog w) 4 CC "Change" ["self", "a", "b", "c", "d"] (sp_chinit CC cInvalidChange K) := ⟨_, _, ok_chinit F24 T Rc E_InvalidChange C_isint, ⟨mkCC, a24, i24, kcCC⟩, PySem.W.mg_of X G aCC, b24⟩
  have M_abs : MtC l.prog w K mg base CX0 1 CC "__abs__" ["self"] (sp_abs CC) := ⟨_, _, ok_abs F25 T Rc, ⟨a25, i25, k25⟩, b25⟩
  have M_cheq : MtC l.prog w K mg base CX0 1 CC "__eq__" ["self", "other"] (sp_cheq CC K) := ⟨_, _, ok_cheq F26 T Rc, ⟨a26, i26, k26⟩, b26⟩
  have C_nb : FnC l.prog w K mg base CX0 1 "numbers_behind" ["numbers", "letter"] (sp_nb K) := ⟨_, _, ok_nb F27 T , PySem.W.mg_of X G a27, k27, b27⟩
  have C_now : FnC l.prog w K mg base CX0 2 "numbers_of_word" ["word"] (sp_now K) := ⟨_, _, ok_now F28 T G_SAME C_nb, PySem.W.mg_of X G a28, k28, b28⟩
  have C_joined : FnC l.prog w K mg base CX0 1 "numbers_joined" ["one", "other"] (sp_joined K) := ⟨_, _, ok_joined F29 T , PySem.W.mg_of X G a29, k29, b29⟩
  have M_exchX : CmC l.prog w K mg base (L2.CX l.prog w) 6 CC "Change" "exchange" ["cls"] (sp_cmk CC swp) := ⟨_, _, _, ok_exchange F30 T C_changeX, ⟨rdcCC, gacCC⟩, ⟨a30, ⟨_, r30⟩, i30⟩, PySem.W.mg_of X G aCC, b30⟩
  have M_chwX : CmC l.prog w K mg base (L2.CX l.prog w) 6 CC "Change" "of_word" ["cls", "word"] (sp_chw CC cInvalidWord K) := ⟨_, _, _, ok_chw F31 T C_need C_now C_changeX, ⟨rdcCC, gacCC⟩, ⟨a31, ⟨_, r31⟩, i31⟩, PySem.W.mg_of X G aCC, b31⟩
  have M_mul : MtC l.prog w K mg base CX0 6 CC "__mul__" ["self", "other"] (sp_mul CC C) := ⟨_, _, ok_mul F32 T Rc R kn C_joined C_lm C_changeX.calm C_ratioX.calm, ⟨a32, i32, k32⟩, b32⟩
  have C_mirror : FnC l.prog w K mg base CX0 1 "_law_mirror" ["_law_word_here"] sp_mirror := ⟨_, _, ok_mirror F33 T , PySem.W.mg_of X G a33, k33, b33⟩
  have C_longer : FnC l.prog w K mg base CX0 1 "_law_longer" ["_law_words"] (sp_longer K) := ⟨_, _, ok_longer F34 T , PySem.W.mg_of X G a34, k34, b34⟩
  have C_small : FnC l.prog w K mg base CX0 2 "_law_small_words" ["_law_most"] (sp_small K) := ⟨_, _, ok_small F35 T C_longer, PySem.W.mg_of X G a35, k35, b35⟩
  have C_place : FnC l.prog w K mg base CX0 1 "_law_place" ["_law_word_here"] sp_place := ⟨_, _, ok_place F36 T , PySem.W.mg_of X G a36, k36, b36⟩
  exact ok_law F37 T Rc R OM ON C_box C_drawn C_small C_place C_mirror C_ratioX.calm M_ofwordX.calm P_word P_turned M_lt M_le M_gt M_ge M_eq M_mul M_cheq M_abs M_chwX.calm M_exchX.calm
end Lw
open PySem PySem.W PyProof.Rows in
set_option maxRecDepth 100000 in
set_option maxHeartbeats 0 in
theorem PySem.Challenge.cw_unmarked_k09_whole_words_and_changes_holds : PySem.Challenge.rw_unmarked_k09_whole_words_and_changes.Holds := by
  w_on; o_law; k_head; (case hw => w_witness2)
  k_fill
  refine L2.walk_ofK (l := PySem.Challenge.rw_unmarked_k09_whole_words_and_changes) (n := 63) (k := 10) (x := "_law_script") (CX := L2.CX0) (sp := Lw.K9.sp_law) rfl (by decide) rfl ⟨rfl, by decide, by decide⟩ (fun w h Y => PySem.W.kIn_of Y) ?F (fun K H a ns hl _ hS => ⟨a, ns, rfl, hS, hl, fun _ => rfl⟩) (fun _ _ _ _ z => z)
  case F =>
    intro w mg fa h KX G hmg
    refine' Lw.all_mk KX G hmg ?aU ?rdU ?gaU ?inU ?aInvalidWord ?xInvalidWord ?sInvalidWord ?bInvalidWord ?tInvalidWord ?kInvalidWord ?aInvalidRatio ?xInvalidRatio ?sInvalidRatio ?bInvalidRatio ?tInvalidRatio ?kInvalidRatio ?aInvalidChange ?xInvalidChange ?sInvalidChange ?bInvalidChange ?tInvalidChange ?kInvalidChange ?hdUnmarkedError ?bUnmarkedError ?tUnmarkedError ?hdInvalidWord ?hdInvalidRatio ?hdInvalidChange ?aC ?pgC ?hdC ?poC ?saC ?mkC ?kcC ?haC ?hnC ?htC ?hmC ?rdcC ?gacC ?n1 ?n2 ?nf ?ne ?so ?aCC ?pgCC ?hdCC ?poCC ?saCC ?mkCC ?kcCC ?haCC ?hnCC ?htCC ?hmCC ?rdcCC ?gacCC ?cn1 ?cn2 ?cnf ?cne ?cso ?ctt ?a1 ?l1 ?c1 ?k1 ?a2 ?l2 ?c2 ?k2 ?a3 ?l3 ?c3 ?k3 ?a4 ?l4 ?c4 ?k4 ?a5 ?l5 ?c5 ?k5 ?a6 ?l6 ?c6 ?k6 ?a7 ?l7 ?c7 ?k7 ?a8 ?l8 ?c8 ?k8 ?a9 ?i9 ?l9 ?c9 ?k9 ?a10 ?i10 ?l10 ?c10 ?k10 ?a11 ?i11 ?l11 ?c11 ?k11 ?a12 ?l12 ?c12 ?k12 ?a13 ?l13 ?c13 ?k13 ?a14 ?i14 ?l14 ?c14 ?k14 ?a15 ?r15 ?i15 ?l15 ?c15 ?k15 ?a16 ?g16 ?h16 ?r16 ?l16 ?c16 ?k16 ?a17 ?g17 ?h17 ?r17 ?l17 ?c17 ?k17 ?a18 ?i18 ?l18 ?c18 ?k18 ?a19 ?i19 ?l19 ?c19 ?k19 ?a20 ?i20 ?l20 ?c20 ?k20 ?a21 ?i21 ?l21 ?c21 ?k21 ?a22 ?i22 ?l22 ?c22 ?k22 ?a23 ?l23 ?c23 ?k23 ?a24 ?i24 ?l24 ?c24 ?k24 ?a25 ?i25 ?l25 ?c25 ?k25 ?a26 ?i26 ?l26 ?c26 ?k26 ?a27 ?l27 ?c27 ?k27 ?a28 ?l28 ?c28 ?k28 ?a29 ?l29 ?c29 ?k29 ?a30 ?r30 ?i30 ?l30 ?c30 ?k30 ?a31 ?r31 ?i31 ?l31 ?c31 ?k31 ?a32 ?i32 ?l32 ?c32 ?k32 ?a33 ?l33 ?c33 ?k33 ?a34 ?l34 ?c34 ?k34 ?a35 ?l35 ?c35 ?k35 ?a36 ?l36 ?c36 ?k36 ?a37 ?l37 ?c37 ?k37 ?z_ValueError ?z_abs ?z_all ?z_any ?z_bool ?z_enumerate ?z_int ?z_isinstance ?z_len ?z_list ?z_max ?z_min ?z_range ?z_repr ?z_sorted ?z_str ?z_sum ?z_tuple ?z_zip ?src ?scc ?sfC ?rmC ?cdR_ ?cdRm ?m1R ?m2R ?m3R ?m4R ?aSM ?lSM
    (case aU => k_is)
    (case rdU => k_is)
    (case gaU => k_is)
    (case inU => k_is)
    (case aInvalidWord => k_is)
    (case xInvalidWord => k_is)
    (case sInvalidWord => k_is)
    (case bInvalidWord => k_is)
    (case tInvalidWord => k_is)
    (case kInvalidWord => k_is)
    (case aInvalidRatio => k_is)
    (case xInvalidRatio => k_is)
    (case sInvalidRatio => k_is)
    (case bInvalidRatio => k_is)
    (case tInvalidRatio => k_is)
    (case kInvalidRatio => k_is)
    (case aInvalidChange => k_is)
    (case xInvalidChange => k_is)
    (case sInvalidChange => k_is)
    (case bInvalidChange => k_is)
    (case tInvalidChange => k_is)
    (case kInvalidChange => k_is)
    (case hdUnmarkedError => k_is)
    (case bUnmarkedError => k_is)
    (case tUnmarkedError => k_is)
    (case hdInvalidWord => k_is)
    (case hdInvalidRatio => k_is)
    (case hdInvalidChange => k_is)
    (case aC => k_is)
    (case pgC => k_is)
    (case hdC => k_is)
    (case poC => k_is)
    (case saC => k_is)
    (case mkC => k_is)
    (case kcC => k_is)
    (case haC => k_is)
    (case hnC => k_is)
    (case htC => k_is)
    (case hmC => k_is)
    (case rdcC => k_is)
    (case gacC => k_is)
    (case n1 => k_is)
    (case n2 => k_is)
    (case nf => k_is)
    (case ne => k_is)
    (case so => k_is)
    (case aCC => k_is)
    (case pgCC => k_is)
    (case hdCC => k_is)
    (case poCC => k_is)
    (case saCC => k_is)
    (case mkCC => k_is)
    (case kcCC => k_is)
    (case haCC => k_is)
    (case hnCC => k_is)
    (case htCC => k_is)
    (case hmCC => k_is)
    (case rdcCC => k_is)
    (case gacCC => k_is)
    (case cn1 => k_is)
    (case cn2 => k_is)
    (case cnf => k_is)
    (case cne => k_is)
    (case cso => k_is)
    (case ctt => k_is)
    (case a1 => k_is)
    (case l1 => k_is)
    (case c1 => k_is)
    (case k1 => k_is)
    (case a2 => k_is)
    (case l2 => k_is)
    (case c2 => k_is)
    (case k2 => k_is)
    (case a3 => k_is)
    (case l3 => k_is)
    (case c3 => k_is)
    (case k3 => k_is)
    (case a4 => k_is)
    (case l4 => k_is)
    (case c4 => k_is)
    (case k4 => k_is)
    (case a5 => k_is)
    (case l5 => k_is)
    (case c5 => k_is)
    (case k5 => k_is)
    (case a6 => k_is)
    (case l6 => k_is)
    (case c6 => k_is)
    (case k6 => k_is)
    (case a7 => k_is)
    (case l7 => k_is)
    (case c7 => k_is)
    (case k7 => k_is)
    (case a8 => k_is)
    (case l8 => k_is)
    (case c8 => k_is)
    (case k8 => k_is)
    (case a9 => k_is)
    (case i9 => k_is)
    (case l9 => k_is)
    (case c9 => k_is)
    (case k9 => k_is)
    (case a10 => k_is)
    (case i10 => k_is)
    (case l10 => k_is)
    (case c10 => k_is)
    (case k10 => k_is)
    (case a11 => k_is)
    (case i11 => k_is)
    (case l11 => k_is)
    (case c11 => k_is)
    (case k11 => k_is)
    (case a12 => k_is)
    (case l12 => k_is)
    (case c12 => k_is)
    (case k12 => k_is)
    (case a13 => k_is)
    (case l13 => k_is)
    (case c13 => k_is)
    (case k13 => k_is)
    (case a14 => k_is)
    (case i14 => k_is)
    (case l14 => k_is)
    (case c14 => k_is)
    (case k14 => k_is)
    (case a15 => k_is)
    (case r15 => k_is)
    (case i15 => k_is)
    (case l15 => k_is)
    (case c15 => k_is)
    (case k15 => k_is)
    (case a16 => k_is)
    (case g16 => k_is)
    (case h16 => k_is)
    (case r16 => k_is)
    (case l16 => k_is)
    (case c16 => k_is)
    (case k16 => k_is)
    (case a17 => k_is)
    (case g17 => k_is)
    (case h17 => k_is)
    (case r17 => k_is)
    (case l17 => k_is)
    (case c17 => k_is)
    (case k17 => k_is)
    (case a18 => k_is)
    (case i18 => k_is)
    (case l18 => k_is)
    (case c18 => k_is)
    (case k18 => k_is)
    (case a19 => k_is)
    (case i19 => k_is)
    (case l19 => k_is)
    (case c19 => k_is)
    (case k19 => k_is)
    (case a20 => k_is)
    (case i20 => k_is)
    (case l20 => k_is)
    (case c20 => k_is)
    (case k20 => k_is)
    (case a21 => k_is)
    (case i21 => k_is)
    (case l21 => k_is)
    (case c21 => k_is)
    (case k21 => k_is)
    (case a22 => k_is)
    (case i22 => k_is)
    (case l22 => k_is)
    (case c22 => k_is)
    (case k22 => k_is)
    (case a23 => k_is)
    (case l23 => k_is)
    (case c23 => k_is)
    (case k23 => k_is)
    (case a24 => k_is)
    (case i24 => k_is)
    (case l24 => k_is)
    (case c24 => k_is)
    (case k24 => k_is)
    (case a25 => k_is)
    (case i25 => k_is)
    (case l25 => k_is)
    (case c25 => k_is)
    (case k25 => k_is)
    (case a26 => k_is)
    (case i26 => k_is)
    (case l26 => k_is)
    (case c26 => k_is)
    (case k26 => k_is)
    (case a27 => k_is)
    (case l27 => k_is)
    (case c27 => k_is)
    (case k27 => k_is)
    (case a28 => k_is)
    (case l28 => k_is)
    (case c28 => k_is)
    (case k28 => k_is)
    (case a29 => k_is)
    (case l29 => k_is)
    (case c29 => k_is)
    (case k29 => k_is)
    (case a30 => k_is)
    (case r30 => k_is)
    (case i30 => k_is)
    (case l30 => k_is)
    (case c30 => k_is)
    (case k30 => k_is)
    (case a31 => k_is)
    (case r31 => k_is)
    (case i31 => k_is)
    (case l31 => k_is)
    (case c31 => k_is)
    (case k31 => k_is)
    (case a32 => k_is)
    (case i32 => k_is)
    (case l32 => k_is)
    (case c32 => k_is)
    (case k32 => k_is)
    (case a33 => k_is)
    (case l33 => k_is)
    (case c33 => k_is)
    (case k33 => k_is)
    (case a34 => k_is)
    (case l34 => k_is)
    (case c34 => k_is)
    (case k34 => k_is)
    (case a35 => k_is)
    (case l35 => k_is)
    (case c35 => k_is)
    (case k35 => k_is)
    (case a36 => k_is)
    (case l36 => k_is)
    (case c36 => k_is)
    (case k36 => k_is)
    (case a37 => k_is)
    (case l37 => k_is)
    (case c37 => k_is)
    (case k37 => k_is)
    (case z_ValueError => k_is)
    (case z_abs => k_is)
    (case z_all => k_is)
    (case z_any => k_is)
    (case z_bool => k_is)
    (case z_enumerate => k_is)
    (case z_int => k_is)
    (case z_isinstance => k_is)
    (case z_len => k_is)
    (case z_list => k_is)
    (case z_max => k_is)
    (case z_min => k_is)
    (case z_range => k_is)
    (case z_repr => k_is)
    (case z_sorted => k_is)
    (case z_str => k_is)
    (case z_sum => k_is)
    (case z_tuple => k_is)
    (case z_zip => k_is)
    (case src => k_is)
    (case scc => k_is)
    (case sfC => k_is)
    (case rmC => k_is)
    (case cdR_ => k_is)
    (case cdRm => rfl)
    (case m1R => k_is)
    (case m2R => k_is)
    (case m3R => k_is)
    (case m4R => k_is)
    (case aSM => k_is)
    (case lSM => k_is)
#print axioms PySem.Challenge.cw_unmarked_k09_whole_words_and_changes_holds
