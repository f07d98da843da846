import PyProof.Rows.All
import Wide.All
import OpenK.AllK
import Wide.FinOn
import HandS.ForMost
import HandS.Wide
import HandS.IsInst
import HandS.Style
import HandS.FStr
import HandS.Property
import HandS.SlotsOwn
import HandS.ClsMeth
import HandS.NoneIn
import HandS.Codes
import HandS.Walk
import PySem.Challenge.RW_unmarked_k04_ratios_in_order
set_option Elab.async false
set_option linter.all false
set_option maxRecDepth 100000
set_option maxHeartbeats 4000000
namespace Kb
open PySem PySem.Spec PyProof.Rows L2

theorem ifT {c : Bool} {A B : Prop} (hc : c = true) (h : A) : if c = true then A else B := by rw [if_pos hc]; exact h
theorem ifF {c : Bool} {A B : Prop} (hc : c = false) (h : B) : if c = true then A else B := by rw [hc, if_neg Bool.false_ne_true]; exact h
/-! ### a statement, then the rest, joined by a word -/
def tMid (t u : TS) : TS := fun D σ H => ∃ M : L2.St → Hp → Prop, t { D with nx := M } σ H ∧ ∀ σ1 H1, M σ1 H1 → u D σ1 H1
theorem pss_mid {X : Cx} {st : Stmt} {rest : List Stmt} {t u : TS} (a : PS X st t) (b : PSs X rest u) : PSs X (st :: rest) (tMid t u) := by
  refine ⟨fun pins s σ H D I ⟨M, hm, hu⟩ => ?_⟩
  refine wpAny_execs_cons (thn (a.run pins s σ H { D with nx := M } I hm) fun fl s1 z => ?_)
  cases fl with
  | next =>
    obtain ⟨σ1, H1, I1, z⟩ := z
    exact b.run pins s1 σ1 H1 D I1 (hu σ1 H1 z)
  | ret v => exact z
  | brk => exact z
  | cont => exact z
/-! ### what a comprehension's reading asks behind its source -/
def LcR (J : It) (g : TG) (tt : TT) (te : TE) (vs : List Nat) (σ : L2.St) (H1 : Hp) (D : Addr) (Qd : Hp → Prop) : Prop := ∃ W : Nat → Nat → Hp → Prop, (∃ m, W 0 m (upd H1 D (.lst []))) ∧ ∀ i m H, W i m H →
  (J.stop i H ∧ Qd H) ∨ (J.go i H ∧ ∃ Nx : Hp → Prop, (∀ H', Nx H' → ∃ m', m' < m ∧ W (i + 1) m' H') ∧ ∀ x H', J.yld i H x H' → g x (wipe σ vs) H' fun σ2 H2 => wipe σ2 vs = wipe σ vs ∧ tt σ2 H2 fun b H3 =>
    if b = true then te σ2 H3 fun y H4 => ∃ acc, H4 D = some (.lst acc) ∧ acc.length < sizeLine ∧ Nx (upd H4 D (.lst (acc ++ [y]))) else Nx H3)
theorem lcR_range {lo : Int} {n : Nat} {g : TG} {te : TE} {vs : List Nat} {σ : L2.St} {H1 : Hp} {D : Addr} {Qd : Hp → Prop} (M : Nat → Hp → Prop) (h0 : M 0 (upd H1 D (.lst [])))
    (hs : ∀ i H, i < n → M i H → g (.int (lo + i)) (wipe σ vs) H fun σ2 H2 => wipe σ2 vs = wipe σ vs ∧ te σ2 H2 fun y H4 => ∃ acc, H4 D = some (.lst acc) ∧ acc.length < sizeLine ∧ M (i + 1) (upd H4 D (.lst (acc ++ [y]))))
    (hm : ∀ x σ H Q Q', (∀ σ2 H2, Q σ2 H2 → Q' σ2 H2) → g x σ H Q → g x σ H Q') (hd : ∀ H, M n H → Qd H) : LcR (Itr lo n) g tYes te vs σ H1 D Qd :=
  lc_range M h0 (fun i H hi m => hm _ _ _ _ _ (fun σ2 H2 z => ⟨z.1, ifT (B := M (i + 1) H2) rfl z.2⟩) (hs i H hi m)) hd
theorem lcR_list {K : PySem.W.Frag} {a : Addr} {xs : List V} {g : TG} {te : TE} {vs : List Nat} {σ : L2.St} {H1 : Hp} {D : Addr} {Qd : Hp → Prop} (M : Nat → Hp → Prop) (h0 : M 0 (upd H1 D (.lst []))) (hl : ∀ i H, i ≤ xs.length → M i H → SqL K H a xs)
    (hs : ∀ i x H, xs[i]? = some x → M i H → g x (wipe σ vs) H fun σ2 H2 => wipe σ2 vs = wipe σ vs ∧ te σ2 H2 fun y H4 => ∃ acc, H4 D = some (.lst acc) ∧ acc.length < sizeLine ∧ M (i + 1) (upd H4 D (.lst (acc ++ [y]))))
    (hm : ∀ x σ H Q Q', (∀ σ2 H2, Q σ2 H2 → Q' σ2 H2) → g x σ H Q → g x σ H Q') (hd : ∀ H, M xs.length H → Qd H) : LcR (Itl K a) g tYes te vs σ H1 D Qd :=
  lc_list M h0 hl (fun i x H hi m => hm _ _ _ _ _ (fun σ2 H2 z => ⟨z.1, ifT (B := M (i + 1) H2) rfl z.2⟩) (hs i x H hi m)) hd
theorem gName_mono (i : Nat) : ∀ (x : V) (σ : L2.St) (H : Hp) (Q Q' : L2.St → Hp → Prop), (∀ σ2 H2, Q σ2 H2 → Q' σ2 H2) → gName i x σ H Q → gName i x σ H Q' := fun _ _ _ _ _ h q => h _ _ q
theorem szl {n : Nat} (h : n ≤ 1000000) : n ≤ sizeLine := Nat.le_trans h (by decide)
theorem szs {n : Nat} (h : n ≤ 1000000) : n < sizeLine := Nat.lt_of_le_of_lt h (by decide)
/-! ### rules that name the written part: for blocks of comprehensions -/
section
variable {X : Cx} {K : PySem.W.Frag}
theorem ix_listK (h : X.K = K) : IxR X (rIxL K) := h ▸ ix_list
theorem ix_tupK (h : X.K = K) : IxR X (rIxT K) := h ▸ ix_tup
theorem ix_seqK (h : X.K = K) : IxR X (rIx K) := h ▸ ix_seq
theorem pe_fldK {e : Expr} {f : Str} {ta : TE} {pos : Pos} (h : X.K = K) (he : PE X e ta) (hb : attributeBase e f X.env (eval e X.env) = eval e X.env) : PE X (.Attribute e f pos) (tFld K ta f) := h ▸ pe_fld he hb
theorem call_len_seqK (h : X.K = K) : CallR X (.builtin "len") (fun xs H Q => ∃ p ys, xs = [.ref p] ∧ (SqL K H p ys ∨ SqT K H p ys) ∧ Q (.int ys.length) H) := h ▸ call_len_seq
theorem pi_listK {tg l : Expr} {tl : TE} (h : X.K = K) (hl : PE X l tl) : PI X tg l (iList K tl) := h ▸ pi_list hl
theorem pi_tupK {tg l : Expr} {tl : TE} (h : X.K = K) (hl : PE X l tl) : PI X tg l (iTup K tl) := h ▸ pi_tup hl
theorem call_isiK' (h : X.K = K) : CallR X (.builtin "isinstance") (rIsi K) := h ▸ call_isi
end
/-! ### a comprehension over a text -/
theorem lcR_str {z : Str} {g : TG} {te : TE} {vs : List Nat} {σ : L2.St} {H1 : Hp} {D : Addr} {Qd : Hp → Prop} (M : Nat → Hp → Prop) (h0 : M 0 (upd H1 D (.lst [])))
    (hs : ∀ i c H, i < z.cps.size → z.cps[i]? = some c → M i H → g (.str ⟨#[c]⟩) (wipe σ vs) H fun σ2 H2 => wipe σ2 vs = wipe σ vs ∧ te σ2 H2 fun y H4 => ∃ acc, H4 D = some (.lst acc) ∧ acc.length < sizeLine ∧ M (i + 1) (upd H4 D (.lst (acc ++ [y]))))
    (hm : ∀ x σ H Q Q', (∀ σ2 H2, Q σ2 H2 → Q' σ2 H2) → g x σ H Q → g x σ H Q') (hd : ∀ H, M z.cps.size H → Qd H) : LcR (Its z) g tYes te vs σ H1 D Qd :=
  lc_it walk_str M h0 (fun _ _ _ _ => trivial) (fun i x H H' hi m y => by
    obtain ⟨e, c, hc, ex⟩ := y
    subst e; subst ex
    exact hm _ _ _ _ _ (fun σ2 H2 z => ⟨z.1, ifT (B := M (i + 1) H2) rfl z.2⟩) (hs i c _ hi hc m)) hd
/-! ### a comprehension whose every turn makes one object -/
theorem comp_objs {K : PySem.W.Frag} {a : Addr} {xs : List V} {g : TG} {te : TE} {vs : List Nat} {σ : L2.St} {H1 : Hp} {D : Addr} {Qd : Hp → Prop} (F : Nat → Hp → Addr → Prop) (hn : xs.length ≤ 1000000)
    (mono : ∀ j H H' p ys, H D = some (.lst ys) → (∀ b o, b ≠ D → H b = some o → H' b = some o) → F j H p → F j H' p) (hl : SqL K H1 a xs) (hD : H1 D = none) (hm : ∀ x σ H Q Q', (∀ σ2 H2, Q σ2 H2 → Q' σ2 H2) → g x σ H Q → g x σ H Q')
    (turn : ∀ i x H (k : VK), xs[i]? = some x → (∀ b o, b ≠ D → H1 b = some o → H b = some o) → (∃ ys, H D = some (.lst ys)) → (∀ p H4, Same H H4 → F i H4 p → k (.ref p) H4) → g x (wipe σ vs) H fun σ2 H2 => wipe σ2 vs = wipe σ vs ∧ te σ2 H2 k)
    (done : ∀ (ps : List Addr) H, ps.length = xs.length → (∀ b o, b ≠ D → H1 b = some o → H b = some o) → H D = some (.lst (ps.map V.ref)) → (∀ j p, ps[j]? = some p → F j H p) → Qd H) : LcR (Itl K a) g tYes te vs σ H1 D Qd := by
  have kS : ∀ H, (∀ b o, b ≠ D → H1 b = some o → H b = some o) → SqL K H a xs := fun H kp => by
    have rd : ∀ u, Rd H1 a u → Rd H a u := fun u q => q.elim (fun q => .inl (kp _ _ (ne_of_none q hD) q)) fun ⟨o, q⟩ => .inr ⟨o, kp _ _ (ne_of_none q hD) q⟩
    exact hl.elim (fun q => .inl (rd _ q)) .inr
  refine lcR_list (fun i H => (∀ b o, b ≠ D → H1 b = some o → H b = some o) ∧ ∃ ps : List Addr, ps.length = i ∧ H D = some (.lst (ps.map V.ref)) ∧ ∀ j p, ps[j]? = some p → F j H p)
    ⟨fun b o n e => by rw [upd_ne n]; exact e, [], rfl, upd_same, fun j p h => by simp at h⟩ (fun i H _ m => kS H m.1) (fun i x H hi m => ?_) hm (fun H m => ?_)
  · obtain ⟨kp, ps, hp, hD', hF⟩ := m
    have hlt : i < xs.length := (List.getElem?_eq_some_iff.mp hi).1
    refine turn i x H _ hi kp ⟨_, hD'⟩ fun p H4 sm hp4 => ?_
    have h4 : H4 D = some (.lst (ps.map V.ref)) := sm _ _ hD'
    have kk : ∀ b o, b ≠ D → H4 b = some o → upd H4 D (.lst (ps.map V.ref ++ [.ref p])) b = some o := fun b o n e => by rw [upd_ne n]; exact e
    refine ⟨_, h4, by rw [List.length_map]; exact szs (by omega), fun b o n e => kk b o n (sm _ _ (kp b o n e)), ps ++ [p], by simp [hp], by rw [upd_same]; simp, fun j r hj => ?_⟩
    refine mono j H4 _ r _ h4 kk ?_
    by_cases c : j < ps.length
    · rw [List.getElem?_append_left c] at hj
      exact mono j H H4 r _ hD' (fun b o _ e => sm b o e) (hF j r hj)
    · have e : j = ps.length := by
        have := (List.getElem?_eq_some_iff.mp hj).1
        simp at this
        omega
      subst e
      simp at hj
      subst hj
      rw [hp]
      exact hp4
  · obtain ⟨kp, ps, hp, hD', hF⟩ := m
    exact done ps H hp kp hD' hF
theorem kit_self (K : PySem.W.Frag) (t : Value) (h : (t == t) = true) : PySem.W.kitOne K t t = some true := by
  unfold PySem.W.kitOne
  rw [if_pos h]
/-! ### int of an int, of a truth -/
theorem call_intI {X : Cx} : CallR X (.type "int") (fun xs H Q => ∃ i, xs = [.int i] ∧ Q (.int i) H) := fun pins s σ H xs us Q I r h => call_int1 pins s σ H xs us Q I r (.inl h)
theorem call_intB {X : Cx} : CallR X (.type "int") (fun xs H Q => ∃ k, xs = [.bl k] ∧ Q (.int (if k then 1 else 0)) H) := fun pins s σ H xs us Q I r h => call_int1 pins s σ H xs us Q I r (.inr h)
/-! ### a def that may be called by its name -/
structure FnC (P : Program) (w : World) (K : PySem.W.Frag) (mg : Str → Option Value) (base : Heap) (CX : CXT) (k : Nat) (x : Str) (ps : List Str) (sp : Sp) : Prop where
  ex : ∃ (f : Addr) (fd : FuncData), FnOk P w K mg base CX k f fd ps sp ∧ mg x = some (.ref f) ∧ PySem.W.keepIn K (.ref f) = true ∧ Binds K fd ps []
section
variable {X : Cx} {k : Nat} {x : Str} {ps : List Str} {sp : Sp} {e : Expr} {es : List Expr} {t : TA} {p pos : Pos}
theorem pe_callC (F : FnC X.prog X.w X.K X.mg X.base CX0 k x ps sp) (hr : Room k X.A) (hg : Gl X x) (ha : PA X (e :: es) t) (hdb : (x == ("__debug__" : Str)) = false := by decide)
    (he : starEach (e :: es) X.env = (false, eval e X.env) :: starEach es X.env := by rfl) (hpl : (backTo pos (starEach es X.env)).any (·.1) = false := by rfl) :
    PE X (.Call (.Name x p) (e :: es) [] pos) (tCall sp [] E0 t) := by
  obtain ⟨f, fd, h, hm, hk, hb⟩ := F.ex
  exact pe_call h hr hg hm hk hb .nil pass0 ha hdb he hpl
end

/-! ### texts -/
section
variable {X : Cx}
def repS (z : Str) (n : Nat) : Str := ⟨(List.replicate n z.cps.toList).flatten.toArray⟩
theorem fold_rep (a : Array Nat) : ∀ (n : Nat) (b : Array Nat), (List.replicate n a).foldl (· ++ ·) b = (b.toList ++ (List.replicate n a.toList).flatten).toArray
  | 0, b => by simp
  | n + 1, b => by
    rw [List.replicate_succ, List.foldl_cons, fold_rep a n]
    simp [List.replicate_succ]
theorem repS_eq (z : Str) (n : Nat) : (⟨(List.replicate n z.cps).foldl (· ++ ·) #[]⟩ : Str) = repS z n := by
  rw [fold_rep]; simp [repS]
theorem repS_len (z : Str) (n : Nat) : (repS z n).length = z.length * n := by
  show (List.replicate n z.cps.toList).flatten.toArray.size = z.cps.size * n
  simp [Nat.mul_comm]
def rMulS : R2 := fun x y H Q => ∃ (z : Str) (n : Int), x = .str z ∧ y = .int n ∧ 0 ≤ n ∧ n < 2 ^ 40 ∧ z.length * n.toNat ≤ 1000000 ∧ Q (.str (repS z n.toNat)) H
theorem op_mul_str : OpR X (binaryOp .Mult) rMulS := by
  intro pins s σ H x y v u Q I rx ry h
  obtain ⟨z, n, rfl, rfl, h0, h1, h2, q⟩ := h
  obtain ⟨t, rfl⟩ := rx
  obtain ⟨t', rfl⟩ := ry
  have b1 : ¬ n < -(2 ^ 63 : Int) := by omega
  have b2 : ¬ n ≥ (2 ^ 63 : Int) := by omega
  have hz : z.length * n.toNat ≤ sizeLine := Nat.le_trans h2 (by decide)
  refine PySem.P.mul_str (by rw [decide_eq_false b1, decide_eq_false b2]; rfl) (fun c1 _ => ?_) (fun _ _ => ?_) ?_
  · have hn : 1 ≤ n := by omega
    have hl : z.length ≤ 1000000 := by
      have : 1 ≤ n.toNat := by omega
      calc z.length = z.length * 1 := (Nat.mul_one _).symm
        _ ≤ z.length * n.toNat := Nat.mul_le_mul_left _ this
        _ ≤ 1000000 := h2
    have hd : (1000000 : Int) ≤ (2 ^ 63 - 1) / n := by
      rw [Int.le_ediv_iff_mul_le (by omega)]
      omega
    omega
  · show (decide _) = false
    exact decide_eq_false (by omega)
  · by_cases c1 : n < 1
    · rw [if_pos c1]
      have e : n.toNat = 0 := by omega
      have e2 : repS z n.toNat = Str.empty := by rw [e]; rfl
      rw [e2] at q
      exact ⟨by decide, .str Str.empty, H, I.tok _, ⟨_, rfl⟩, q⟩
    · rw [if_neg c1]
      by_cases c2 : (n == 1 || z.length == 0) = true
      · rw [if_pos c2]
        have e2 : repS z n.toNat = z := by
          rcases Bool.or_eq_true_iff.mp c2 with c | c
          · have : n = 1 := eq_of_beq c
            subst this
            show (⟨(List.replicate 1 z.cps.toList).flatten.toArray⟩ : Str) = z
            simp
          · have c' : z.length = 0 := eq_of_beq c
            have hz0 : z.cps = #[] := Array.eq_empty_of_size_eq_zero c'
            obtain ⟨cps⟩ := z
            simp only at hz0
            subst hz0
            simp [repS]
        rw [e2] at q
        exact ⟨.str z, H, I, ⟨t, rfl⟩, q⟩
      · rw [if_neg c2]
        refine ⟨?_, ?_⟩
        · rw [repS_eq, repS_len]; exact hz
        · rw [repS_eq]
          exact ⟨.str _, H, I.tok _, ⟨_, rfl⟩, q⟩

/-- z[::-1] -/
def revS (z : Str) : Str := ⟨z.cps.toList.reverse.toArray⟩
def tRevS (te : TE) : TE := fun σ H Q => te σ H fun x H1 => ∃ z : Str, x = .str z ∧ z.length ≤ sizeLine ∧ Q (.str (revS z)) H1
theorem picked_rev (z : Str) (t : Tok) : ((PySem.slicePicked z none none (some (-1, t))).filterMap (z.cps[·]?)).toArray = z.cps.toList.reverse.toArray := by
  unfold PySem.slicePicked Builtin.Str.strSliceIndices
  simp only [Option.map_none, Option.map_some, Option.getD_some, show ¬ ((-1 : Int) > 0) by decide, if_false]
  rw [show (z.length : Int) = ((z.cps.size : Nat) : Int) from rfl, PySem.W.krv_sliceRange, PySem.W.krv_range, List.filterMap_reverse, PySem.W.krv_all]
theorem pe_revS {e : Expr} {te : TE} {k : Nat} {p1 p2 p3 pos : Pos} (he : PE X e te) : PE X (.Subscript e (.Slice none none (some (.UnaryOp .USub (.Constant (.int 1) k p1) p2)) p3) pos) (tRevS te) := by
  refine ⟨fun pins s σ H Q I h => ?_⟩
  refine Subscript_ (thn (he.run pins s σ H _ I h) fun v s1 ⟨x, H1, I1, r1, q1⟩ => ?_)
  obtain ⟨z, ex, hz, q⟩ := q1
  subst ex
  obtain ⟨t, rfl⟩ := r1
  have stp : PO X (some (.UnaryOp .USub (.Constant (.int 1) k p1) p2)) (tPart (tUn (rU fun i => .int (-i)) (tC (.int 1)))) := po_some (pe_un un_neg pe_int)
  refine wpAny_Slice (thn (po_none.run pins s1 σ H1 (fun o H2 => o = none ∧ H2 = H1) I1 ⟨rfl, rfl⟩) fun vl s2 ⟨l, H2, I2, pl, el, e2⟩ => ?_)
  subst el; subst e2
  refine thn (po_none.run pins s2 σ H2 (fun o H3 => o = none ∧ H3 = H2) I2 ⟨rfl, rfl⟩) fun vu s3 ⟨u, H3, I3, pu, eu, e3⟩ => ?_
  subst eu; subst e3
  refine thn (stp.run pins s3 σ H3 (fun o H4 => o = some (-1) ∧ H4 = H3) I3 ⟨1, rfl, -1, rfl, rfl, rfl⟩) fun vs s4 ⟨o, H4, I4, ps, eo, e4⟩ => ?_
  subst eo; subst e4
  have I5 : Inv X pins σ H4 { s4 with heap := s4.heap.push { cls := .type "slice", data := .fields #[vl, vu, vs] } } := I4.kept (t' := s4.toks) fun b ob q => Heap.get?_push_of_some _ q
  cases pl; cases pu; cases ps
  rename_i tk _
  show wpAny (model X.prog X.w) X.A (subscriptTail e (.Slice none none (some (.UnaryOp .USub (.Constant (.int 1) k p1) p2)) p3) (.str z t) (.ref s4.heap.objs.size)) (EP X pins σ Q) X.xe _
  refine tail_any (ops := [.str z t, .ref s4.heap.objs.size]) (typeIs_str _ _ _) (PySem.F.slot_str_getitem.lookup) ?_ (by with_unfolding_all rfl)
  refine wpAny_getItem_str_slice (l := none) (u := none) (st := some (-1, tk)) (Heap.IsSliceOf.new _ _ _ _) rfl ?_
  have ne : ¬ ((((some (-1, tk) : Option (Int × Tok)).map (·.1)).getD 1 == 1 && (PySem.slicePicked z none none (some (-1, tk))).length == z.length) = true) := by
    show ¬ (((-1 : Int) == 1 && _) = true)
    simp
  unfold PySem.sliceMade
  rw [if_neg ne, picked_rev]
  refine ⟨?_, .str (revS z), H4, I5.tok _, ⟨_, rfl⟩, q⟩
  show z.cps.toList.reverse.toArray.size ≤ sizeLine
  rw [List.size_toArray, List.length_reverse, Array.length_toList]
  exact hz
end
end Kb

/-! ### own comparisons -/
namespace Kb
open PySem PySem.W PySem.Spec PyProof.Rows
section
variable {prog : Program} {w : World} {A : Around} {E : Value → Shared → Prop} {s : Shared} {K : Frag} {x C f L : Addr} {ox : Obj} {od : Option Obj} {h₀ : Heap} {m : Str → Option Value} {tb : Value}
theorem ifBound_B {M : Model} {name : Str} {id : String} {args : List Value} {Q : Option Value → Shared → Prop} (X : K.In s.heap) (I : InstAt s.heap x ox C od) (hs : findIn K (.ref C) name = some (some (.builtin id)))
    (hb : ∀ self, bindSpecial (.builtin id) self = pure (.builtin id, [self]))
    (h : wpAny M A (call (.builtin id) (.ref x :: args)) (fun v => Q (some v)) E s) : wpAny M A (callSpecialIfBound? (.ref x) name args) Q E s := by
  simp only [callSpecialIfBound?, bindSpecialIfBound?]
  refine wpAny_holding (wpAny_bind (wpAny_bind (wpAny_bind (I.type.here ((looks_findIn X hs).here ?_)))))
  refine wpAny_bind (wpAny_askSetting (wpAny_ite ?_))
  have fin : wpAny M A (call (.builtin id) ([.ref x] ++ args) >>= fun v => pure (some v)) Q E s := wpAny_bind (wpAny_mono h (fun v s' z => wpAny_pure z) fun _ _ z => z)
  split
  · exact wpAny_bind ((Looks.of_pure (hb _)).here (wpAny_pure (by exact fin)))
  · exact wpAny_tryCatch (wpAny_bind ((Looks.of_pure (hb _)).here (wpAny_pure (by exact fin))))
theorem check_slotI {i owner n : String} {self : Value} {rest : List Value} {kw : List (Str × Value)} {Q : Unit → Shared → Prop}
    (hk : builtinKind i = some .slot) (hs : splitId i = some (owner, n)) (hi : Looks (model prog w) s.heap (isInstance self (.type owner)) true) (ha : argsOk i ⟨self :: rest, kw⟩) (q : Q () s) :
    wpAny (model prog w) A (checkBuiltinCall i ⟨self :: rest, kw⟩) Q E s := by
  simp only [checkBuiltinCall, hk, hs]
  refine wpAny_bind (hi.here ?_)
  simp only [Bool.not_true, Bool.false_eq_true, if_false]
  cases hsig : Manifest.signature? i with
  | none => exact wpAny_pure q
  | some sig =>
    simp only [argsOk, hsig] at ha
    have h2 : Bind.checkArgs i sig ⟨self :: rest, kw⟩ = pure () := ha
    show wpAny _ A (Bind.checkArgs i sig ⟨self :: rest, kw⟩) Q E s
    rw [h2]; exact wpAny_pure q
theorem cmp_ne {b : Value} {Q : Value → Shared → Prop} (hu : A.units + 1 < cLine) (F : Fr h₀ L s.heap m) (X₀ : K.In h₀) (I : InstAt s.heap x ox C od) (hb : Looks (model prog w) s.heap (typeOf b) tb) (hn : notFirst K C tb = true)
    (hne : findIn K (.ref C) "__ne__" = some (some (.builtin "object.__ne__"))) (hm : subIn K (.ref C) (.type "object") = some true)
    (hs : findIn K (.ref C) "__eq__" = some (some (.ref f))) (hf : isFn K (.ref f) = true)
    (h : wpAny (model prog w) A.in1 (call (.ref f) [.ref x, b]) (fun v s' => ∃ k, v = .bool k ∧ Q (.bool (!k)) s') E s) : wpAny (model prog w) A (richCompare .NotEq (.ref x) b) Q E s := by
  have X := X₀.keeps F.keep
  have bs : ∀ self, bindSpecial (.builtin "object.__ne__") self = pure (.builtin "object.__ne__", [self]) := fun self => by with_unfolding_all rfl
  have isi : Looks (model prog w) s.heap (isInstance (.ref x) (.type "object")) true := by
    unfold isInstance
    exact I.type.andThen (looks_subIn X hm)
  have one : wpAny (model prog w) A (tryCompare (.ref x) (cmpInfo .NotEq).2.1 b) (fun r s' => ∃ v, r = some v ∧ Q v s') E s := by
    unfold tryCompare
    refine wpAny_bind (ifBound_B (id := "object.__ne__") X I hne bs ?_)
    refine wpAny_call (codeAny_call_builtin (by decide +kernel) PySem.F.cmpEntry_ne (check_slotI PySem.F.cmpKind_ne PySem.F.cmpSplit_ne isi (PySem.F.cmpArgs_ne _ _) ?_))
    unfold Builtin.«object.__ne__»
    have hu2 : A.in1.units < cLine := hu
    repeat (first
      | with_reducible refine wpAny_cRoomFor hu2 ?_
      | refine wpAny_bind (m := callSpecialIfBound? (.ref x) (Str.ofString "__eq__") [b]) (ifBound_K X I hs hf (wpAny_mono h (fun r s' hr => ?_) fun _ _ e => e))
      | wp_step)
    obtain ⟨k, rfl, hq⟩ := hr
    repeat (first | exact ⟨_, rfl, wpAny_pure hq⟩ | exact ⟨_, rfl, hq⟩ | exact hq | exact wpAny_pure hq | (refine wpAny_bind (m := truthy (.bool _)) (wpAny_truthy_bool ?_)) | wp_step)
  unfold richCompare
  simp only [oneThing_ref]
  refine wpAny_holding (wpAny_bind (wpAny_cRoomFor (by omega) ?_))
  refine wpAny_bind (I.type.here (wpAny_bind (hb.here ?_)))
  have fin : wpAny (model prog w) A (tryCompare (.ref x) (cmpInfo .NotEq).2.1 b) (fun r s' => ∃ v, r = some v ∧ Q v s') E s := one
  split
  · rename_i q
    have e : subIn K tb (.ref C) = some false := by
      rcases Bool.or_eq_true_iff.mp hn with e | e
      · rw [beq_iff_eq.mp e] at q; simp at q
      · exact beq_iff_eq.mp e
    refine wpAny_bind ((looks_subIn X e).here ?_)
    simp only [Bool.false_eq_true, if_false]
    refine wpAny_bind (wpAny_mono fin (fun r s' z => ?_) fun _ _ e => e)
    obtain ⟨v, rfl, hq⟩ := z
    exact wpAny_pure hq
  · refine wpAny_bind (wpAny_pure ?_)
    simp only [Bool.false_eq_true, if_false]
    refine wpAny_bind (wpAny_mono fin (fun r s' z => ?_) fun _ _ e => e)
    obtain ⟨v, rfl, hq⟩ := z
    exact wpAny_pure hq
end
end Kb

/-! ### methods of own classes, own comparisons, repr, defs that ask for the guards -/
namespace Kb
open PySem PySem.Spec PyProof.Rows L2
/-- a method of the class at C -/
structure MtC (P : Program) (w : World) (K : PySem.W.Frag) (mg : Str → Option Value) (base : Heap) (CX : CXT) (k : Nat) (C : Addr) (m : Str) (ps : List Str) (sp : Sp) : Prop where
  ex : ∃ (f : Addr) (fd : FuncData), FnOk P w K mg base CX k f fd ps sp ∧ Meth K C m f ∧ Binds K fd ps []
/-- how the class at C is made -/
structure MkC (P : Program) (w : World) (K : PySem.W.Frag) (mg : Str → Option Value) (base : Heap) (CX : CXT) (k : Nat) (C : Addr) (x : Str) (ps : List Str) (sp : Sp) : Prop where
  ex : ∃ (f : Addr) (fd : FuncData), FnOk P w K mg base CX k f fd ps sp ∧ Mk K C f ∧ mg x = some (.ref C) ∧ Binds K fd ps []
section
variable {X : Cx} {k : Nat} {x m : Str} {C : Addr} {ps : List Str} {sp : Sp} {e o : Expr} {es : List Expr} {t : TA} {ta : TE} {p pos apos : Pos}
theorem pe_makeC (F : MkC X.prog X.w X.K X.mg X.base CX0 k C x ps sp) (hr : Room (k + 1) X.A) (hg : Gl X x) (ha : PA X (e :: es) t) (hdb : (x == ("__debug__" : Str)) = false := by decide)
    (he : starEach (e :: es) X.env = (false, eval e X.env) :: starEach es X.env := by rfl) (hpl : (backTo pos (starEach es X.env)).any (·.1) = false := by rfl) :
    PE X (.Call (.Name x p) (e :: es) [] pos) (tMake C sp [] E0 t) := by
  obtain ⟨f, fd, h, M, hm, hb⟩ := F.ex
  exact pe_make M h hr hg hm hb .nil pass0 ha hdb he hpl
/-- x op y by the class's own def -/
def rOwnI (K : PySem.W.Frag) (C : Addr) (sp : Sp) (E : XK) : R2 := fun x y H Q => ∃ (a dx : Addr) (fs : List (Str × V)) (t : Value), x = .ref a ∧ H a = some (.ins C dx fs) ∧ TyX K H y t ∧ PySem.W.notFirst K C t = true ∧ sp [x, y] H Q E
theorem op_ownI {op : CmpOp} (hop : ∀ a b, compareOp op a b = richCompare op a b) (F : MtC X.prog X.w X.K X.mg X.base CX0 k C (cmpInfo op).2.1 ps sp) (hr : Room k X.A) : OpR X (compareOp op) (rOwnI X.K C sp E0) := by
  intro pins s σ H x y v u Q I rx ry h
  obtain ⟨a, dx, fs, ty, rfl, ha, hty, hn, q⟩ := h
  obtain ⟨f, fd, hf, M, hb⟩ := F.ex
  cases (show v = Value.ref a from rx)
  obtain ⟨mA, O, _⟩ := ins_get I.hok ha
  obtain ⟨od, J, _⟩ := O.look
  obtain ⟨P, Z, hP, _⟩ := kit_of I ry hty
  obtain ⟨m, hF⟩ := I.fr
  rw [hop]
  refine PySem.W.cmp_K (op := op) (tb := ty) hr.units0 hF I.ok.mod.kin J (Z.ty _ _ I.kIn hP) hn M.at_ M.fn ?_
  refine wpAny_mono (run_fn (us := [.ref a, u]) (vs := [.ref a, y]) hf hr hb .nil pass0 I (.cons rfl (.cons ry .nil)) q) (fun w s' z => ?_) fun _ _ z => z
  obtain ⟨z', H', I', rz, qz⟩ := z
  exact SlX.cmpback rz ⟨z', H', I', rz, qz⟩
/-- x != y by the class's own == alone -/
def rOwnNe (K : PySem.W.Frag) (C : Addr) (sp : Sp) : R2 := fun x y H Q => ∃ (a dx : Addr) (fs : List (Str × V)) (t : Value), x = .ref a ∧ H a = some (.ins C dx fs) ∧ TyX K H y t ∧ PySem.W.notFirst K C t = true ∧ sp [x, y] H (fun z H' => ∃ b, z = .bl b ∧ Q (.bl (!b)) H') E0
theorem op_neI (F : MtC X.prog X.w X.K X.mg X.base CX0 k C "__eq__" ps sp) (hne : PySem.W.findIn X.K (.ref C) "__ne__" = some (some (.builtin "object.__ne__"))) (hm : PySem.W.subIn X.K (.ref C) (.type "object") = some true) (hr : Room (k + 1) X.A) : OpR X (compareOp .NotEq) (rOwnNe X.K C sp) := by
  intro pins s σ H x y v u Q I rx ry h
  obtain ⟨a, dx, fs, ty, rfl, ha, hty, hn, q⟩ := h
  obtain ⟨f, fd, hf, M, hb⟩ := F.ex
  cases (show v = Value.ref a from rx)
  obtain ⟨mA, O, _⟩ := ins_get I.hok ha
  obtain ⟨od, J, _⟩ := O.look
  obtain ⟨P, Z, hP, _⟩ := kit_of I ry hty
  obtain ⟨m, hF⟩ := I.fr
  show wpAny _ _ (richCompare .NotEq (.ref a) u) _ _ _
  refine cmp_ne (tb := ty) (by have := hr.un; omega) hF I.ok.mod.kin J (Z.ty _ _ I.kIn hP) hn hne hm M.at_ M.fn ?_
  have r2 : Vals ([V.ref a, y] ++ []) ([Value.ref a, u] ++ []) := .cons rfl (.cons ry .nil)
  have q' : sp ([V.ref a, y] ++ []) H (fun z H' => ∃ b, z = .bl b ∧ Q (.bl (!b)) H') E0 := q
  have hl : ([Value.ref a, u] ++ []).length = ps.length := by rw [← r2.length]; exact hf.len _ _ _ _ q'
  refine wpAny_call (codeAny_mono (hf.run X.A.in1 X.stack s H ⟨[.ref a, u], []⟩ ([.ref a, u] ++ []) ([.ref a, y] ++ []) _ E0 hr.in1 I.env0.in1 (hb s _ I.kIn hl) r2 q') fun r s' hq => ?_)
  cases r with
  | error e => exact (show False from hq).elim
  | ok fl =>
    cases fl with
    | ret w =>
      obtain ⟨z, H', I', rz, b, eb, qz⟩ := I.after hq
      subst eb
      cases (show w = Value.bool b from rz)
      exact ⟨b, rfl, .bl (!b), H', I', rfl, qz⟩
    | next => exact False.elim hq
    | brk => exact False.elim hq
    | cont => exact False.elim hq
/-! ### repr of data -/
theorem call_reprD (hg : X.A.guards = some []) (hr : Room k X.A) : CallR X (.builtin "repr") (fun xs H Q => ∃ x d, xs = [x] ∧ Dp X.K H x d ∧ d.showable = true ∧ d.hasDict = false ∧ d.depth ≤ 100 ∧ d.shown.length ≤ sizeLine ∧ Q (.str d.shown) H) := by
  intro pins s σ H xs us Q I r h
  obtain ⟨x, d, rfl, hd, hs, hn, hdp, hl, q⟩ := h
  obtain ⟨u, rfl, ru⟩ := r.one
  obtain ⟨as, hR⟩ := Dp.reads I d x u hd ru
  have hu := hr.un
  cases hd with
  | non =>
    cases (show u = Value.none from ru)
    exact PySem.P.repr_of_none ⟨.str _, H, I.tok _, ⟨_, rfl⟩, q⟩
  | bl b =>
    cases (show u = Value.bool b from ru)
    exact PySem.P.repr_of_bool ⟨.str _, H, I.tok _, ⟨_, rfl⟩, by cases b <;> exact q⟩
  | int i => 
    obtain ⟨t, rfl⟩ := ru
    exact PySem.P.repr_of_int (of_decide_eq_true hs) ⟨.str _, H, I.tok _, ⟨_, rfl⟩, q⟩
  | str z =>
    obtain ⟨t, rfl⟩ := ru
    exact PySem.P.repr_of_str ⟨.str _, H, I.tok _, ⟨_, rfl⟩, q⟩ hl
  | @lst a ys ds h1 h2 =>
    cases (show u = Value.ref a from ru)
    exact PySem.repr_of_reads' hR hs (PySem.PyData.noDict_hsm hn) hg (by omega) (fun _ _ e => e) (fun h' t tk k => ⟨.str _, H, I.kept (t' := tk) k, ⟨_, rfl⟩, q⟩) hl
  | @tup a ys ds h1 h2 =>
    cases (show u = Value.ref a from ru)
    exact PySem.repr_of_reads' hR hs (PySem.PyData.noDict_hsm hn) hg (by omega) (fun _ _ e => e) (fun h' t tk k => ⟨.str _, H, I.kept (t' := tk) k, ⟨_, rfl⟩, q⟩) hl
end
end Kb

/-! ### defs that ask that no repr is under way -/
namespace Kb
open PySem PySem.Spec PyProof.Rows L2
structure FnOkG (P : Program) (w : World) (K : PySem.W.Frag) (mg : Str → Option Value) (base : Heap) (CX : CXT) (k : Nat) (f : Addr) (fd : FuncData) (ps : List Str) (sp : Sp) : Prop where
  len : ∀ vs H Q E, sp vs H Q E → vs.length = ps.length
  run : ∀ (A : Around) (outer : List Env) (s : Shared) (H : Hp) (ar : Args) (us : List Value) (vs : List V) (Q : VK) (E : XK), A.guards = some [] → Room k A → Env0 P w K mg base A outer s H → BindsTo s fd ar (ps.zip us) → Vals vs us → sp vs H Q E →
    codeAny (model P w) A (.call (.ref f) ar) (CR CX outer P w H s Q E) s
theorem FnOkG.of {P : Program} {w : World} {K : PySem.W.Frag} {mg : Str → Option Value} {base : Heap} {CX : CXT} {k : Nat} {f : Addr} {fd : FuncData} {ps : List Str} {sp : Sp} (F : FnOk P w K mg base CX k f fd ps sp) : FnOkG P w K mg base CX k f fd ps sp :=
  ⟨F.len, fun A o s H ar us vs Q E _ => F.run A o s H ar us vs Q E⟩
section
variable {CX : CXT} {P : Program} {w : World} {K : PySem.W.Frag} {mg : Str → Option Value} {base : Heap} {k : Nat} {f : Addr} {name qual : Str} {N ps : List Str} {sp : Sp} {st : Stmt} {fd : FuncData}
theorem okG (F : Fun K name qual st f fd) (S : FnScope N ps (defScope st)) (hlen : ∀ vs H Q E, sp vs H Q E → vs.length = ps.length)
    (hb : ∀ (cdv : Value) (A : Around) (outer : List Env) (s : Shared) (H : Hp) (vs : List V) (Q : VK) (E : XK), (A.deeper (envOfC qual (defScope st) s.heap.objs.size f cdv)).guards = some [] → Room k (A.deeper (envOfC qual (defScope st) s.heap.objs.size f cdv)) → sp vs H Q E →
      ∃ t, PSs (cxOf CX P w K mg base N qual (defScope st) f cdv A outer s H E) (defBody st) t ∧ t { nx := fun _ H' => Q .non H', rt := Q } (start N vs) H) :
    FnOkG P w K mg base CX (k + 1) f fd ps sp := by
  obtain ⟨oc, od, kV, doc, pm, an, cdv, ct, osl, rfl, lk, hcd⟩ := F.ex
  refine ⟨hlen, fun A outer s H ar us vs Q E hg hr e0 hbi r hsp => ?_⟩
  have hl := hlen _ _ _ _ hsp
  have KX : K.In s.heap := e0.mod.kin.keeps fun b o z => (e0.bs b o z).1
  have nl : s.heap.NoLimit := e0.mod.nolimit.keeps fun b o z => (e0.bs b o z).1
  have kinds : ∀ y ∈ ps.zip us, (defScope st).names.lookup y.1 = some .local ∨ ((defScope st).names.lookup y.1 = some .cell ∧ ((cellsFrom (s.heap.objs.size + 1) (defScope st).names []).lookup y.1).isSome = true) := fun ⟨n, v⟩ hy =>
    (S.par n (List.of_mem_zip hy).1).elim (fun q => .inl q) fun q => .inr ⟨q, PySem.W.cellsFrom_some _ _ _ (.inl q)⟩
  refine codeAny_call_function (Room.depth hr) (KX _ _ lk) rfl S.co S.gen rfl (PySem.W.codeRec_of KX hcd) (hbi _ _ _ _ ?_)
  refine wpAny_newFunctionEnv_cells (S.kind) kinds fun env he s1 x => ?_
  subst he
  refine ⟨nl.keeps x.toInCall.keep, codeAny_func ?_⟩
  obtain ⟨t, ht, hq⟩ := hb cdv A outer s H vs Q E hg (hr.deeper _) hsp
  have I := inv_start (CX := CX) (E := E) S hr.hd e0 hl r x
  refine wpAny_mono (ht.run [] s1 (start N vs) H _ I hq) (fun fl s' hs => ?_) fun _ _ z => z
  cases fl with
  | ret u =>
    obtain ⟨v, σ', H', J, rv, q⟩ := hs
    exact ⟨v, H', J.os, J.bare, J.base, J.hok, rv, q⟩
  | next =>
    obtain ⟨σ', H', J, q⟩ := hs
    exact ⟨.non, H', J.os, J.bare, J.base, J.hok, rfl, q⟩
  | brk =>
    obtain ⟨_, _, _, q⟩ := hs
    exact q.elim
  | cont =>
    obtain ⟨_, _, _, q⟩ := hs
    exact q.elim
end
structure FnG (P : Program) (w : World) (K : PySem.W.Frag) (mg : Str → Option Value) (base : Heap) (CX : CXT) (k : Nat) (x : Str) (ps : List Str) (sp : Sp) : Prop where
  ex : ∃ (f : Addr) (fd : FuncData), FnOkG P w K mg base CX k f fd ps sp ∧ mg x = some (.ref f) ∧ PySem.W.keepIn K (.ref f) = true ∧ Binds K fd ps []
section
variable {X : Cx} {CX : CXT} {k : Nat} {x : Str} {ps : List Str} {sp : Sp} {e : Expr} {es : List Expr} {t : TA} {p pos : Pos}
theorem pe_callG (F : FnG X.prog X.w X.K X.mg X.base CX0 k x ps sp) (hgd : X.A.guards = some []) (hr : Room k X.A) (hg : Gl X x) (ha : PA X (e :: es) t) (hdb : (x == ("__debug__" : Str)) = false := by decide)
    (he : starEach (e :: es) X.env = (false, eval e X.env) :: starEach es X.env := by rfl) (hpl : (backTo pos (starEach es X.env)).any (·.1) = false := by rfl) :
    PE X (.Call (.Name x p) (e :: es) [] pos) (tCall sp [] E0 t) := by
  obtain ⟨f, fd, hf, hm, hk, hb⟩ := F.ex
  refine ⟨fun pins s σ H Q I h => ?_⟩
  refine wpAny_Call_Name_kw (ld_glob I hg hm ?_ hdb)
  refine PySem.W.callWith_K (h₀ := X.base) I.ok.mod.kin hk (thn (ha.run pos pins s σ H _ I h) fun us s1 ⟨vs, H1, I1, r, q⟩ => ⟨I1.kIn, ?_⟩) he hpl
  have r2 : Vals (vs ++ []) (us ++ []) := r.append .nil
  have hl : (us ++ []).length = ps.length := by rw [← r2.length]; exact hf.len _ _ _ _ q
  refine wpAny_call (codeAny_mono (hf.run X.A X.stack s1 H1 ⟨us, []⟩ (us ++ []) (vs ++ []) Q E0 hgd hr I1.env0 (hb s1 us I1.kIn hl) r2 q) fun r s' hq => ?_)
  cases r with
  | error e => exact (show False from hq).elim
  | ok fl => cases fl with
    | ret u => exact I1.after hq
    | next => exact (show False from hq).elim
    | brk => exact (show False from hq).elim
    | cont => exact (show False from hq).elim
end
/-! ### the end for a law that asks for the guards -/
theorem lawG {P : Program} {w : World} {K : PySem.W.Frag} {mg mb : Str → Option Value} {k : Nat} {fa a : Addr} {fd : FuncData} {x : Str} {sp : Sp} {s₁ : Shared} {vs : List Value} {ns : List Int}
    (KX : K.In s₁.heap) (hns : s₁.heap.Ns mainGlobals mg) (hbn : s₁.heap.Ns builtinsNs mb) (hbb : ∀ x : Str, x ≠ "__name__" → mb x = bootBuiltins x) (nl : s₁.heap.NoLimit) (hg : s₁.gens = #[])
    (ha : s₁.heap.get? a = some { cls := .type "list", data := .seq vs.toArray }) (hi : IntsAre vs ns) (hl : ns.length ≤ sizeLine) (hr : Room k callerA)
    (F : ∀ base : Heap, K.In base → base.Ns mainGlobals mg → FnOkG P w K mg base CX0 k fa fd [x] sp) (bd : ∀ (s : Shared) (u : Value), BindsTo s fd ⟨[u], []⟩ [(x, u)])
    (hsp : ∀ H : Hp, Only H → SqL K H a (ns.map V.int) → sp [.ref a] H (fun v _ => v = .bl true) E0) :
    codeAny (model P w) callerA (.call (.ref fa) ⟨[.ref a], []⟩) (fun r s' => r = .ok (.ret (.bool true)) ∧ OldK s₁.heap s'.heap ∧ s'.os = s₁.os ∧ AllBare s'.gens) s₁ := by
  have rv := vals_ints hi
  have core : ∀ H : Hp, Only H → SqL K H a (ns.map V.int) → HOk P w H s₁.heap → (∀ b, H b ≠ none → b = a) → (H a ≠ none → K.lookup a = none) →
      codeAny (model P w) callerA (.call (.ref fa) ⟨[.ref a], []⟩) (fun r s' => r = .ok (.ret (.bool true)) ∧ OldK s₁.heap s'.heap ∧ s'.os = s₁.os ∧ AllBare s'.gens) s₁ := by
    intro H hO hS hok hA hK
    have free : ∀ {b : Addr} {o : Obj} {es : Array DictEntry} {ep : Nat}, s₁.heap.get? b = some o → o.data = .dict es ep → H b = none := fun {b o es ep} e d => Classical.byContradiction fun z => by
      have e' := hA b z
      subst e'
      rw [ha] at e; cases e
      exact nomatch (show Data.seq vs.toArray _ = Data.dict es ep from d)
    have nsK : ∀ {b : Addr} {m : Str → Option Value}, s₁.heap.Ns b m → (hidT s₁.heap H).Ns b m := fun {b m} ⟨o, es, ep, e, d, r⟩ => ⟨o, es, ep, hidT_get e (free e d), d, r⟩
    have hKb : K.In (hidT s₁.heap H) := fun b o e => hidT_get (KX b o e) (Classical.byContradiction fun z => by
      have e' := hA b z
      subst e'
      rw [hK z] at e; cases e)
    have hM : Mod K mg (hidT s₁.heap H) := ⟨hKb, nsK hns, ⟨mb, nsK hbn, hbb⟩, nl.elim fun mc z => ⟨mc, nsK z.1, z.2⟩⟩
    have e0 : Env0 P w K mg (hidT s₁.heap H) callerA [] s₁ H := ⟨rfl, hM, fun b o e => of_hidT e, Nat.le_of_eq (hidT_size _ _), trivial, fun b hb => (List.not_mem_nil hb).elim, hok, .of_eq hg⟩
    refine codeAny_mono ((F _ hKb (nsK hns)).run callerA [] s₁ H ⟨[.ref a], []⟩ [.ref a] [.ref a] _ _ rfl hr e0 (bd s₁ (.ref a)) (.cons rfl .nil) (hsp H hO hS)) fun r s' z => ?_
    cases r with
    | error e => exact (show False from z).elim
    | ok fl => cases fl with
      | next => exact (show False from z).elim
      | brk => exact (show False from z).elim
      | cont => exact (show False from z).elim
      | ret u =>
        obtain ⟨v, H', os, bare, un, hok', r', q⟩ := z
        cases (show v = V.bl true from q)
        cases (show u = Value.bool true from r')
        refine ⟨rfl, OldK.of_keep fun b o e => ?_, os, bare⟩
        rcases hO b with q | ⟨ob, xs, q⟩
        · exact un.keep b o e q (fun z => (List.not_mem_nil z).elim) (fun z => (List.not_mem_nil z).elim)
        · have e1 := (hok b _ q).1
          have e2 := (hok' b _ (un.frzs b ob _ q)).1
          rw [e] at e1; cases e1
          exact e2
  cases hk : K.lookup a with
  | some o =>
    have e := KX a o hk
    rw [ha] at e
    cases e
    exact core (fun _ => none) (fun _ => .inl rfl) (.inr ⟨_, vs.toArray, _, hk, rfl, rfl, rfl, by rw [List.size_toArray, hi.length]; exact hl, by simpa using rv⟩) (fun b u z => nomatch z) (fun b z => absurd rfl z) fun z => absurd rfl z
  | none =>
    refine core (fun b => if b = a then some (.frz { cls := .type "list", data := .seq vs.toArray } (.lst (ns.map V.int))) else none) (fun b => ?_) (.inl (.inr ⟨_, if_pos rfl⟩)) (fun b u z => ?_) (fun b z => Classical.byContradiction fun c => z (if_neg c)) fun _ => hk
    · by_cases c : b = a
      · exact .inr ⟨_, _, if_pos c⟩
      · exact .inl (if_neg c)
    · by_cases c : b = a
      · have z := (if_pos c).symm.trans z
        cases z
        subst c
        exact ⟨ha, by rw [List.length_map]; exact hl, vs, _, rv, ha⟩
      · have z := (if_neg c).symm.trans z
        cases z
theorem walk_ofG {l : PySem.W.OpenLaw} {n k : Nat} {q : Program} {loose : List Str} {XP : (Str → Option Value) → Heap → Prop} {YP : World → Heap → Prop} {d : DefRec} {K : Params → PySem.W.Frag} {sp : PySem.W.Frag → Sp} {x : Str}
    (hn : l.most = some n) (hn2 : n ≤ sizeLine) (hdf : d.params.defaults = []) (hr : Room k callerA) (hY : ∀ (w : World) (h : Heap), YP w h → (K w.params).In h)
    (F : ∀ (w : World) (mg : Str → Option Value) (fa : Addr) (h : Heap), (K w.params).In h → h.Ns mainGlobals mg → mg d.name = some (.ref fa) →
      ∃ fd : FuncData, (∀ (s : Shared) (u : Value), BindsTo s fd ⟨[u], []⟩ [(x, u)]) ∧ ∀ base : Heap, (K w.params).In base → base.Ns mainGlobals mg → FnOkG l.prog w (K w.params) mg base CX0 k fa fd [x] (sp (K w.params)))
    (hsp : ∀ (K : PySem.W.Frag) (H : Hp) (a : Addr) (ns : List Int), ns.length ≤ n → Only H → SqL K H a (ns.map V.int) → sp K [.ref a] H (fun v _ => v = .bl true) E0) :
    PySem.W.WalkO q loose XP YP l.row.toRowW d [] (fun f vs => PySem.call f vs) := by
  refine Att.attach_call hn hdf fun w s₀ s₁ mg mb fa o pm cd doc a vs ns G Y ho hd hcd hmg hobj hints hlen hg => ?_
  have KX := hY w _ Y
  obtain ⟨fd, hb, hF⟩ := F w mg fa _ KX G.T.g hmg
  exact lawG KX G.T.g G.T.b G.T.builtins G.T.nolimit hg hobj hints (Nat.le_trans hlen hn2) hr hF hb fun H hO hS => hsp (K w.params) H a ns hlen hO hS
end Kb

namespace Lw
open PySem PySem.Spec PyProof.Rows L2 Kb
def top (i : Nat) : Stmt := PySem.Challenge.pw_unmarked_k04_ratios_in_order.main.body.getD i (.Pass ⟨0, 0, 0, 0⟩)
abbrev S__law_take : Stmt := (top 16)
abbrev N__law_take : List Str := ["_law_box_here", "_law_many", "_law_digit", "_law_raw", "_law_wide"]
theorem SC__law_take : FnScope N__law_take ["_law_box_here", "_law_many"] (defScope S__law_take) := ⟨rfl, rfl, rfl, by decide +kernel, rfl, by decide +kernel, by decide +kernel⟩
abbrev S__law_pick : Stmt := (top 17)
abbrev N__law_pick : List Str := ["_law_box_here", "_law_items"]
theorem SC__law_pick : FnScope N__law_pick ["_law_box_here", "_law_items"] (defScope S__law_pick) := ⟨rfl, rfl, rfl, by decide +kernel, rfl, by decide +kernel, by decide +kernel⟩
abbrev S__law_box : Stmt := (top 15)
abbrev N__law_box : List Str := ["_law_script", "_law_k", "_law_own", "_law_cell", "_law_seed"]
theorem SC__law_box : FnScope N__law_box ["_law_script", "_law_k", "_law_own"] (defScope S__law_box) := ⟨rfl, rfl, rfl, by decide +kernel, rfl, by decide +kernel, by decide +kernel⟩
abbrev S__law_pair : Stmt := (top 19)
abbrev N__law_pair : List Str := ["_law_word_here", "_law_first", "_law_second", "_law_letter"]
theorem SC__law_pair : FnScope N__law_pair ["_law_word_here"] (defScope S__law_pair) := ⟨rfl, rfl, rfl, by decide +kernel, rfl, by decide +kernel, by decide +kernel⟩
abbrev S__law_drawn_word : Stmt := (top 20)
abbrev N__law_drawn_word : List Str := ["_law_box_here", "_law_most", "_law_form", "_law_many", "_law_found", "_law_piece", "_law_more", "_law_first", "_law_second", "_law_turn"]
theorem SC__law_drawn_word : FnScope N__law_drawn_word ["_law_box_here", "_law_most"] (defScope S__law_drawn_word) := ⟨rfl, rfl, rfl, by decide +kernel, rfl, by decide +kernel, by decide +kernel⟩
abbrev S_is_integer : Stmt := (top 7)
abbrev N_is_integer : List Str := ["value"]
theorem SC_is_integer : FnScope N_is_integer ["value"] (defScope S_is_integer) := ⟨rfl, rfl, rfl, by decide +kernel, rfl, by decide +kernel, by decide +kernel⟩
abbrev S_is_length : Stmt := (top 8)
abbrev N_is_length : List Str := ["value"]
theorem SC_is_length : FnScope N_is_length ["value"] (defScope S_is_length) := ⟨rfl, rfl, rfl, by decide +kernel, rfl, by decide +kernel, by decide +kernel⟩
abbrev S_common_length : Stmt := (top 11)
abbrev N_common_length : List Str := ["first", "second"]
theorem SC_common_length : FnScope N_common_length ["first", "second"] (defScope S_common_length) := ⟨rfl, rfl, rfl, by decide +kernel, rfl, by decide +kernel, by decide +kernel⟩
abbrev S_Ratio__init_ : Stmt := (inClass (top 13) 0)
abbrev N_Ratio__init_ : List Str := ["self", "first", "second", "unit"]
theorem SC_Ratio__init_ : FnScope N_Ratio__init_ ["self", "first", "second"] (defScope S_Ratio__init_) := ⟨rfl, rfl, rfl, by decide +kernel, rfl, by decide +kernel, by decide +kernel⟩
abbrev S_Ratio__eq_ : Stmt := (inClass (top 13) 6)
abbrev N_Ratio__eq_ : List Str := ["self", "other"]
theorem SC_Ratio__eq_ : FnScope N_Ratio__eq_ ["self", "other"] (defScope S_Ratio__eq_) := ⟨rfl, rfl, rfl, by decide +kernel, rfl, by decide +kernel, by decide +kernel⟩
abbrev S_Ratio__lt_ : Stmt := (inClass (top 13) 7)
abbrev N_Ratio__lt_ : List Str := ["self", "other"]
theorem SC_Ratio__lt_ : FnScope N_Ratio__lt_ ["self", "other"] (defScope S_Ratio__lt_) := ⟨rfl, rfl, rfl, by decide +kernel, rfl, by decide +kernel, by decide +kernel⟩
abbrev S_Ratio__le_ : Stmt := (inClass (top 13) 8)
abbrev N_Ratio__le_ : List Str := ["self", "other"]
theorem SC_Ratio__le_ : FnScope N_Ratio__le_ ["self", "other"] (defScope S_Ratio__le_) := ⟨rfl, rfl, rfl, by decide +kernel, rfl, by decide +kernel, by decide +kernel⟩
abbrev S_Ratio__gt_ : Stmt := (inClass (top 13) 9)
abbrev N_Ratio__gt_ : List Str := ["self", "other"]
theorem SC_Ratio__gt_ : FnScope N_Ratio__gt_ ["self", "other"] (defScope S_Ratio__gt_) := ⟨rfl, rfl, rfl, by decide +kernel, rfl, by decide +kernel, by decide +kernel⟩
abbrev S_Ratio__ge_ : Stmt := (inClass (top 13) 10)
abbrev N_Ratio__ge_ : List Str := ["self", "other"]
theorem SC_Ratio__ge_ : FnScope N_Ratio__ge_ ["self", "other"] (defScope S_Ratio__ge_) := ⟨rfl, rfl, rfl, by decide +kernel, rfl, by decide +kernel, by decide +kernel⟩
abbrev S__law_due : Stmt := (top 22)
abbrev N__law_due : List Str := ["_law_first", "_law_second", "_law_left", "_law_right"]
theorem SC__law_due : FnScope N__law_due ["_law_first", "_law_second"] (defScope S__law_due) := ⟨rfl, rfl, rfl, by decide +kernel, rfl, by decide +kernel, by decide +kernel⟩
abbrev S__law_place : Stmt := (top 23)
abbrev N__law_place : List Str := ["_law_word_here", "_law_letter"]
theorem SC__law_place : FnScope N__law_place ["_law_word_here"] (defScope S__law_place) := ⟨rfl, rfl, rfl, by decide +kernel, rfl, by decide +kernel, by decide +kernel⟩
abbrev S__law_signs : Stmt := (top 21)
abbrev N__law_signs : List Str := ["_law_one", "_law_other"]
theorem SC__law_signs : FnScope N__law_signs ["_law_one", "_law_other"] (defScope S__law_signs) := ⟨rfl, rfl, rfl, by decide +kernel, rfl, by decide +kernel, by decide +kernel⟩
abbrev S_law : Stmt := (top 24)
abbrev N_law : List Str := ["_law_script", "_law_k", "_law_box_here", "_law_word_here", "_law_words", "_law_at", "_law_pairs", "_law_ratios", "_law_one", "_law_first", "_law_other", "_law_second", "_law_due_here", "_law_is_less", "_law_pair_here"]
theorem SC_law : FnScope N_law ["_law_script"] (defScope S_law) := ⟨rfl, rfl, rfl, by decide +kernel, rfl, by decide +kernel, by decide +kernel⟩
structure Txt (K : PySem.W.Frag) (mg : Str → Option Value) : Prop where
  b_abs : mg "abs" = none
  b_bool : mg "bool" = none
  b_enumerate : mg "enumerate" = none
  b_int : mg "int" = none
  b_isinstance : mg "isinstance" = none
  b_len : mg "len" = none
  b_max : mg "max" = none
  b_min : mg "min" = none
  b_range : mg "range" = none
  b_repr : mg "repr" = none
/-! ## words -/
namespace Wd
def cd (b : Bool) : Nat := if b then 114 else 108
/-- the text of a word: true is r -/
def enc (u : List Bool) : Str := ⟨(u.map cd).toArray⟩
theorem enc_cps (u : List Bool) : (enc u).cps.toList = u.map cd := by simp [enc]
theorem enc_len (u : List Bool) : (enc u).length = u.length := by show (u.map cd).toArray.size = _; simp
theorem enc_app (u v : List Bool) : enc u ++ enc v = enc (u ++ v) := by
  show (⟨(enc u).cps ++ (enc v).cps⟩ : Str) = _
  simp [enc]
theorem cd_inj {a b : Bool} (h : cd a = cd b) : a = b := by revert h; cases a <;> cases b <;> decide
theorem map_cd_inj : ∀ {u v : List Bool}, u.map cd = v.map cd → u = v
  | [], [], _ => rfl
  | [], _ :: _, h => by simp at h
  | _ :: _, [], h => by simp at h
  | a :: u, b :: v, h => by
    rw [List.map_cons, List.map_cons, List.cons.injEq] at h
    rw [cd_inj h.1, map_cd_inj h.2]
theorem enc_inj {u v : List Bool} (h : enc u = enc v) : u = v := map_cd_inj (by rw [← enc_cps, ← enc_cps, h])
theorem enc_rev (u : List Bool) : revS (enc u) = enc u.reverse := by
  unfold revS
  rw [enc_cps]
  simp [enc]
theorem enc_rep (b : Bool) (n : Nat) : repS (enc [b]) n = enc (List.replicate n b) := by
  unfold repS
  rw [enc_cps]
  simp only [enc, List.map_replicate, List.map_cons, List.map_nil]
  congr 2
  induction n with
  | zero => rfl
  | succ n ih => rw [List.replicate_succ, List.flatten_cons, ih]; rfl
theorem enc_take (u : List Bool) {k : Int} (h : 0 ≤ k) : cutS (enc u) none (some k) = enc (u.take k.toNat) := by
  unfold cutS
  rw [enc_cps, enc_len]
  have e1 : HT.sIx u.length 0 none = 0 := rfl
  have e2 : HT.sIx u.length u.length (some k) = min k.toNat u.length := by
    unfold HT.sIx
    first | omega | (simp; omega) | (split <;> omega) | (simp only; split <;> omega)
  rw [e1, e2, List.drop_zero, Nat.sub_zero]
  unfold enc
  rw [List.map_take, List.take_eq_take_iff.mpr]
  simp
theorem lit_l : ("l" : Str) = enc [false] := by decide +kernel
theorem lit_r : ("r" : Str) = enc [true] := by decide +kernel
theorem lit_e : ("" : Str) = enc [] := by decide +kernel
theorem lit_lr : ("lr" : Str) = enc [false, true] := by decide +kernel
theorem foldl_cps : ∀ (ps : List Str) (a : Array Nat), (ps.foldl (fun acc p => acc ++ (#[] : Array Nat) ++ p.cps) a).toList = a.toList ++ (ps.map (·.cps.toList)).flatten
  | [], a => by simp
  | p :: ps, a => by
    rw [List.foldl_cons, foldl_cps ps]
    simp
theorem join_cps (ys : List Str) : Txt.join ("" : Str) ys = ⟨(ys.map (·.cps.toList)).flatten.toArray⟩ := by
  cases ys with
  | nil => rfl
  | cons y ys =>
    show (⟨(ys.foldl (fun acc p => acc ++ (#[] : Array Nat) ++ p.cps) y.cps)⟩ : Str) = _
    have e := foldl_cps ys y.cps
    refine congrArg Str.mk (Array.toList_inj.mp ?_)
    rw [e]
    simp
theorem join_enc (us : List (List Bool)) : Txt.join ("" : Str) (us.map enc) = enc us.flatten := by
  rw [join_cps, List.map_map]
  have e : (us.map ((fun y : Str => y.cps.toList) ∘ enc)) = us.map (List.map cd) := List.map_congr_left fun u _ => enc_cps u
  rw [e]
  simp [enc, List.map_flatten]
theorem join_chars (cs : List Nat) : Txt.join ("" : Str) (cs.map fun c => (⟨#[c]⟩ : Str)) = ⟨cs.toArray⟩ := by
  rw [join_cps, List.map_map]
  refine congrArg Str.mk (Array.toList_inj.mp ?_)
  simp only
  induction cs with
  | nil => rfl
  | cons c r ih => simpa using ih
theorem sum_chars (cs : List Nat) : ((cs.map fun c => (⟨#[c]⟩ : Str)).map (·.length)).sum = cs.length := by
  induction cs with
  | nil => rfl
  | cons c r ih => rw [List.map_cons, List.map_cons, List.sum_cons, ih, List.length_cons]; show 1 + r.length = _; omega
theorem empty_len : ("" : Str).length = 0 := by decide +kernel
theorem enc_at {u : List Bool} {i c : Nat} (h : (enc u).cps[i]? = some c) : ∃ b, u[i]? = some b ∧ c = cd b := by
  rw [← Array.getElem?_toList, enc_cps, List.getElem?_map] at h
  cases e : u[i]? with
  | none => rw [e] at h; cases h
  | some b => rw [e] at h; exact ⟨b, rfl, (Option.some.inj h).symm⟩
/-- the lengths of a word -/
def pr : List Bool → Nat × Nat
  | [] => (1, 1)
  | b :: u => if b then ((pr u).1 + (pr u).2, (pr u).2) else ((pr u).1, (pr u).1 + (pr u).2)
theorem pr_pos (u : List Bool) : 0 < (pr u).1 ∧ 0 < (pr u).2 := by
  induction u with
  | nil => decide
  | cons b u ih => unfold pr; cases b <;> simp <;> omega
theorem pr_le (u : List Bool) : (pr u).1 + (pr u).2 ≤ 2 ^ (u.length + 1) := by
  induction u with
  | nil => decide
  | cons b u ih =>
    have := pr_pos u
    have e : 2 ^ (u.length + 1 + 1) = 2 * 2 ^ (u.length + 1) := by rw [Nat.pow_succ]; omega
    cases b <;> simp only [pr, List.length_cons, Bool.false_eq_true, if_false, if_true] <;> omega
end Wd
open Wd

local macro_rules | `(tactic| walk_at "kbs") => `(tactic| first | omega | decide | exact .inl ⟨by omega, by omega⟩ | exact .inr ⟨by omega, by omega⟩ | exact ⟨by omega, by omega⟩ | exact ⟨by decide, by decide, by decide⟩ | assumption | exact szl (by simp only [enc_len, List.length_cons, List.length_nil, List.length_append, List.length_replicate, List.length_take]; omega))
local macro_rules | `(tactic| walk_at "kb1") => `(tactic| first
  | refine ⟨_, rfl, ?_⟩
  | (refine ⟨_, _, rfl, rfl, ?_⟩; try refine And.intro (by walk_at "kbs") ?_)
  | refine ⟨_, _, _, _, rfl, rfl, (by first | assumption | exact SqL.of (by assumption) | exact SqT.of (by assumption)), rfl, ?_⟩
  | refine ⟨_, _, rfl, (show SqL _ _ _ _ ∨ SqT _ _ _ _ from by first | assumption | exact .inl (by assumption) | exact .inr (by assumption) | exact .inl (SqL.of (by assumption)) | exact .inr (SqT.of (by assumption))), ?_⟩
  | refine ⟨_, _, rfl, ?_⟩
  | refine And.intro (show scal _ _ = true from rfl) ?_
  | refine And.intro (by walk_at "kbs") ?_
  | refine And.intro ⟨_, rfl⟩ ?_)
local macro_rules | `(tactic| walk_at "kb") => `(tactic| repeat (walk_at "kb1"))

/-! ## draws -/
namespace Dr
def BoxAt (H : Hp) (b : Addr) : Prop := ∃ c s n : Int, H b = some (.lst [.int c, .int s, .int n]) ∧ 0 ≤ c ∧ 0 ≤ s ∧ s < 4294967296
def Keep (b : Addr) (H H' : Hp) : Prop := ∀ a o, a ≠ b → H a = some o → H' a = some o
theorem Keep.refl (b : Addr) (H : Hp) : Keep b H H := fun _ _ _ h => h
theorem Keep.trans {b : Addr} {H H1 H2 : Hp} (x : Keep b H H1) (y : Keep b H1 H2) : Keep b H H2 := fun a o n h => y a o n (x a o n h)
theorem Keep.same {b : Addr} {H H' : Hp} (x : Same H H') : Keep b H H' := fun a o _ h => x a o h
theorem Keep.upd (b : Addr) (H : Hp) (o : HO) : Keep b H (upd H b o) := fun a u n h => by rw [upd_ne n]; exact h
theorem Keep.new {b p : Addr} {H : Hp} {o : HO} (h : H p = none) : Keep b H (L2.upd H p o) := fun a u n e => by rw [upd_ne (ne_of_none e h)]; exact e
theorem Keep.put {b p : Addr} {H H1 : Hp} {o : HO} (x : Keep b H H1) (h : H p = none) : Keep b H (L2.upd H1 p o) := fun a u n e => by rw [upd_ne (ne_of_none e h)]; exact x a u n e
theorem BoxAt.ne {H : Hp} {b p : Addr} (x : BoxAt H b) (h : H p = none) : p ≠ b := fun e => by
  obtain ⟨c, s, n, q, _⟩ := x
  rw [e, q] at h; cases h
theorem BoxAt.lst {H : Hp} {b : Addr} (x : BoxAt H b) : ∃ xs, H b = some (.lst xs) := let ⟨_, _, _, q, _⟩ := x; ⟨_, q⟩
theorem BoxAt.keep {H H' : Hp} {b : Addr} (x : BoxAt H b) (h : ∀ o, H b = some o → H' b = some o) : BoxAt H' b := by
  obtain ⟨c, s, n, q, z⟩ := x
  exact ⟨c, s, n, h _ q, z⟩
theorem BoxAt.same {H H' : Hp} {b : Addr} (x : BoxAt H b) (h : Same H H') : BoxAt H' b := x.keep fun o => h b o
theorem BoxAt.new {H : Hp} {b p : Addr} {o : HO} (x : BoxAt H b) (h : H p = none) : BoxAt (upd H p o) b := x.keep fun u e => by rw [upd_ne (ne_of_none e h)]; exact e
/-- what stood nowhere ahead stands nowhere behind a smaller heap -/
theorem Keep.free {b p : Addr} {H H' : Hp} (x : Keep b H H') (hb : ∃ o, H' b = some o) (h : H' p = none) : H p = none := by
  cases e : H p with
  | none => rfl
  | some o =>
    by_cases c : p = b
    · obtain ⟨u, hu⟩ := hb
      rw [c, hu] at h; cases h
    · rw [x p o c e] at h; cases h
theorem BoxAt.any {H : Hp} {b : Addr} (x : BoxAt H b) : ∃ o, H b = some o := let ⟨_, q⟩ := x.lst; ⟨_, q⟩

def sp_take : Sp := fun vs H Q _ => ∃ (b : Addr) (m : Int), vs = [.ref b, .int m] ∧ BoxAt H b ∧ 0 < m ∧ m ≤ 1000000000000 ∧ ∀ (d : Int) (H' : Hp), 0 ≤ d → d < m → Keep b H H' → BoxAt H' b → Q (.int d) H'
def sp_pick (K : PySem.W.Frag) : Sp := fun vs H Q _ => ∃ (b l : Addr) (xs : List V), vs = [.ref b, .ref l] ∧ BoxAt H b ∧ l ≠ b ∧ (SqL K H l xs ∨ SqT K H l xs) ∧ 0 < xs.length ∧ xs.length ≤ 100000 ∧ ∀ (d : Nat) (v : V) (H' : Hp), xs[d]? = some v → Keep b H H' → BoxAt H' b → Q v H'
def sp_box (K : PySem.W.Frag) : Sp := fun vs H Q _ => ∃ (a : Addr) (ns : List Int) (k own : Int), vs = [.ref a, .int k, .int own] ∧ SqL K H a (ns.map V.int) ∧ ns.length ≤ 63 ∧ 0 ≤ k ∧ 0 ≤ own ∧ ∀ (p : Addr) (H' : Hp), H p = none → Same H H' → BoxAt H' p → Q (.ref p) H'
end Dr
open Dr
section
variable {P : Program} {w : World} {K : PySem.W.Frag} {mg : Str → Option Value} {base : Heap}
theorem ok_take {f : Addr} {fd : FuncData} (F : Fun K "_law_take" "_law_take" S__law_take f fd) (T : Txt K mg) : FnOk P w K mg base CX0 1 f fd ["_law_box_here", "_law_many"] sp_take := by
  refine F.ok SC__law_take (fun vs H Q E h => ?_) (fun cdv A outer s H vs Q E hr h => ?_)
  · obtain ⟨b, m, rfl, _⟩ := h
    rfl
  · obtain ⟨b, m, rfl, ⟨c, sd, n, hb, hc, hs0, hs1⟩, m0, m1, k⟩ := h
    refine ⟨_, (pss_cons (ps_if (pt_cmpR op_gt (pe_ix ix_list (pv 0) pe_int (fun _ _ => rfl)) pe_int (nomark _)) (pss_cons (ps_set (i := 2) SC__law_take.nd rfl (.inl rfl) (pe_op op_mod (pe_callTy call_intI (by rfl) T.b_int (by decide +kernel) (pa_cons (pe_ix ix_list (pv 0) pe_int (fun _ _ => rfl)) pa_nil)) (pv 1)))
      (pss_cons (ps_asg (pe_op op_fdivW (pe_ix ix_list (pv 0) pe_int (fun _ _ => rfl)) (pv 1)) (pg_sub (pv 0) pe_int set_list))
      (pss_one (ps_ret (pv 2))))) pss_nil)
      (pss_cons (ps_asg (pe_op op_add (pe_ix ix_list (pv 0) pe_int (fun _ _ => rfl)) pe_int) (pg_sub (pv 0) pe_int set_list))
      (pss_cons (ps_set (i := 3) SC__law_take.nd rfl (.inl rfl) (pe_op op_mod (pe_callTy call_intI (by rfl) T.b_int (by decide +kernel) (pa_cons (pe_op op_mul (pe_op op_add (pe_ix ix_list (pv 0) pe_int (fun _ _ => rfl)) (pe_op op_mul pe_int (pe_ix ix_list (pv 0) pe_int (fun _ _ => rfl)))) pe_int) pa_nil)) pe_int))
      (pss_cons (ps_asg (pe_op op_add (pe_op op_mod (pe_callTy call_intI (by rfl) T.b_int (by decide +kernel) (pa_cons (pe_op op_add (pe_op op_mul (pv 3) pe_int) pe_int) pa_nil)) pe_int) pe_int) (pg_sub (pv 0) pe_int set_list))
      (pss_cons (ps_if (pt_cmpR op_lt (pv 1) (pe_op op_pow pe_int pe_int) (nomark _)) (pss_one (ps_ret (pe_op op_mod (pe_callTy call_intI (by rfl) T.b_int (by decide +kernel) (pa_cons (pe_op op_fdiv (pe_op op_add (pe_op op_mul (pv 3) pe_int) (pe_ix ix_list (pv 0) pe_int (fun _ _ => rfl))) pe_int) pa_nil)) (pv 1)))) pss_nil)
      (pss_cons (ps_set (i := 4) SC__law_take.nd rfl (.inl rfl) (pe_op op_mul (pe_op op_add (pe_op op_mul (pv 3) pe_int) (pe_ix ix_list (pv 0) pe_int (fun _ _ => rfl))) (pe_op op_pow pe_int pe_int)))
      (pss_one (ps_ret (pe_op op_mod (pe_callTy call_intI (by rfl) T.b_int (by decide +kernel) (pa_cons (pe_op op_add (pe_op op_add (pv 4) (pe_op op_mul (pe_op op_pow (pe_ix ix_list (pv 0) pe_int (fun _ _ => rfl)) pe_int) pe_int)) (pv 3)) pa_nil)) (pv 1)))))))))), ?_⟩
    refine ⟨_, rfl, b, _, 0, _, rfl, rfl, SqL.of hb, rfl, _, _, rfl, rfl, _, rfl, ite2 (fun h => ?_) fun h => ?_⟩
    · have hc0 : 0 < c := of_decide_eq_true h
      refine ⟨_, rfl, b, _, 0, _, rfl, rfl, SqL.of hb, rfl, _, rfl, _, rfl, _, _, rfl, rfl, m0, ?_⟩
      refine ⟨_, rfl, b, _, 0, _, rfl, rfl, SqL.of hb, rfl, _, rfl, _, _, rfl, rfl, ⟨m0, ?_⟩, _, rfl, b, _, 0, 0, rfl, rfl, hb, rfl, ?_⟩
      · have q : m.natAbs < 2 ^ 64 := by omega
        exact Nat.lt_of_lt_of_le (PySem.Flt.log2_lt_of (by decide) q) (by decide)
      · refine ⟨_, rfl, k (c % m) _ (Int.emod_nonneg _ (by omega)) (Int.emod_lt_of_pos _ m0) (Keep.upd _ _ _) ⟨c / m, sd, n, upd_same, Int.ediv_nonneg hc (by omega), hs0, hs1⟩⟩
    · refine ⟨_, rfl, b, _, 2, _, rfl, rfl, SqL.of hb, rfl, _, _, rfl, rfl, _, rfl, b, _, 2, 2, rfl, rfl, hb, rfl, ?_⟩
      have hb1 : (upd H b (.lst ([V.int c, V.int sd, V.int n].set 2 (V.int (n + 1))))) b = some (.lst [.int c, .int sd, .int (n + 1)]) := upd_same
      refine ⟨_, rfl, b, _, 1, _, rfl, rfl, SqL.of hb1, rfl, _, rfl, b, _, 2, _, rfl, rfl, SqL.of hb1, rfl, _, _, rfl, rfl, .inl ⟨by decide, by decide⟩, _, _, rfl, rfl, _, _, rfl, rfl, .inr ⟨by decide, by decide⟩, _, rfl, _, _, rfl, rfl, (by show (0 : Int) < 2147483647; decide), ?_⟩
      refine ⟨_, rfl, _, _, rfl, rfl, .inr ⟨by decide, by decide⟩, _, _, rfl, rfl, _, rfl, _, _, rfl, rfl, (by show (0 : Int) < 2147483629; decide), _, _, rfl, rfl, _, rfl, b, _, 1, 1, rfl, rfl, hb1, rfl, ?_⟩
      refine ⟨_, rfl, _, _, rfl, rfl, ⟨by decide, by decide, by decide⟩, _, _, rfl, rfl, _, rfl, ?_⟩
      have hlt : m < 2 ^ (40 : Int).toNat := by
        have e : (2 : Int) ^ (40 : Int).toNat = 1099511627776 := by decide
        rw [e]; omega
      refine ifT (decide_eq_true hlt) ?_
      have hb2 : ∀ y : Int, (upd (upd H b (.lst ([V.int c, V.int sd, V.int n].set 2 (V.int (n + 1))))) b (.lst ([V.int c, V.int sd, V.int (n + 1)].set 1 (V.int y)))) b = some (.lst [.int c, .int y, .int (n + 1)]) := fun _ => upd_same
      refine ⟨_, rfl, _, _, rfl, rfl, .inr ⟨by decide, by decide⟩, _, rfl, b, _, 1, _, rfl, rfl, SqL.of (hb2 _), rfl, _, _, rfl, rfl, _, _, rfl, rfl, ⟨by decide, by decide⟩, _, rfl, _, rfl, _, _, rfl, rfl, m0, ?_⟩
      exact k _ _ (Int.emod_nonneg _ (by omega)) (Int.emod_lt_of_pos _ m0) ((Keep.upd _ _ _).trans (Keep.upd _ _ _)) ⟨c, _, n + 1, hb2 _, hc, by omega, by omega⟩
theorem ok_pick {f : Addr} {fd : FuncData} (F : Fun K "_law_pick" "_law_pick" S__law_pick f fd) (T : Txt K mg) (C_take : FnC P w K mg base CX0 1 "_law_take" ["_law_box_here", "_law_many"] sp_take) : FnOk P w K mg base CX0 2 f fd ["_law_box_here", "_law_items"] (sp_pick K) := by
  refine F.ok SC__law_pick (fun vs H Q E h => ?_) (fun cdv A outer s H vs Q E hr h => ?_)
  · obtain ⟨b, l, xs, rfl, _⟩ := h
    rfl
  · obtain ⟨b, l, xs, rfl, hb, hne, hS, h0, h1, k⟩ := h
    refine ⟨_, (pss_one (ps_ret (pe_ix ix_seq (pv 1) (pe_callC C_take (hr.mono (by decide)) rfl (pa_cons (pv 0) (pa_cons (pe_callB call_len_seq (by rfl) T.b_len (by decide +kernel) (pa_cons (pv 1) pa_nil)) pa_nil))) (fun _ _ => rfl)))), ?_⟩
    refine ⟨_, rfl, _, rfl, _, rfl, l, xs, rfl, hS, b, _, rfl, hb, ?_, ?_, fun d H' d0 d1 kp hb' => ?_⟩
    · show (0 : Int) < (xs.length : Int); omega
    · show (xs.length : Int) ≤ 1000000000000; omega
    · have hd : d.toNat < xs.length := by have d1 : d < (xs.length : Int) := d1; omega
      have hat : atI xs d = some xs[d.toNat] := at_of (by omega) (List.getElem?_eq_getElem hd)
      have kS : SqL K H' l xs ∨ SqT K H' l xs := by
        have rd : ∀ u, Rd H l u → Rd H' l u := fun u q => q.elim (fun q => .inl (kp _ _ hne q)) fun ⟨o, q⟩ => .inr ⟨o, kp _ _ hne q⟩
        exact hS.elim (fun q => .inl (q.elim (fun q => .inl (rd _ q)) .inr)) fun q => .inr (q.elim (fun q => .inl (rd _ q)) .inr)
      have fin : Q xs[d.toNat] H' := k d.toNat _ H' (List.getElem?_eq_getElem hd) kp hb'
      rcases kS with q | q
      · exact .inl ⟨l, xs, d, _, rfl, rfl, q, hat, fin⟩
      · exact .inr (.inl ⟨l, xs, d, _, rfl, rfl, q, hat, fin⟩)
theorem ok_box {f : Addr} {fd : FuncData} (F : Fun K "_law_box" "_law_box" S__law_box f fd) (T : Txt K mg) : FnOk P w K mg base CX0 1 f fd ["_law_script", "_law_k", "_law_own"] (sp_box K) := by
  refine F.ok SC__law_box (fun vs H Q E h => ?_) (fun cdv A outer s H vs Q E hr h => ?_)
  · obtain ⟨a, ns, k, own, rfl, _⟩ := h
    rfl
  · obtain ⟨a, ns, k, own, rfl, hS, hlen, hk, ho, q⟩ := h
    refine ⟨_, (pss_cons (ps_set (i := 3) SC__law_box.nd rfl (.inl rfl) (pe_op op_add (pe_op op_add (pe_op op_mul pe_int (pv 1)) (pe_op op_mul pe_int (pv 2))) pe_int))
      (pss_mid (ps_if (pt_cmpR op_lt (pv 1) (pe_callB call_len_seq (by rfl) T.b_len (by decide +kernel) (pa_cons (pv 0) pa_nil)) (nomark _)) (pss_one (ps_set (i := 3) SC__law_box.nd rfl (.inl rfl) (pe_callB call_abs (by rfl) T.b_abs (by decide +kernel) (pa_cons (pe_ix ix_list (pv 0) (pv 1) (fun _ _ => rfl)) pa_nil)))) (pss_one (ps_if (pt_cmpR op_gt (pe_callB call_len_seq (by rfl) T.b_len (by decide +kernel) (pa_cons (pv 0) pa_nil)) pe_int (nomark _)) (pss_one (ps_set (i := 3) SC__law_box.nd rfl (.inl rfl) (pe_op op_add (pv 3) (pe_op op_mul (pe_op op_mod (pe_callTy call_intI (by rfl) T.b_int (by decide +kernel) (pa_cons (pe_callB call_abs (by rfl) T.b_abs (by decide +kernel) (pa_cons (pe_ix ix_list (pv 0) (pe_op op_mod (pe_callTy call_intI (by rfl) T.b_int (by decide +kernel) (pa_cons (pv 1) pa_nil)) (pe_callB call_len_seq (by rfl) T.b_len (by decide +kernel) (pa_cons (pv 0) pa_nil))) (fun _ _ => rfl)) pa_nil)) pa_nil)) pe_int) pe_int)))) pss_nil)))
      (pss_cons (ps_set (i := 4) SC__law_box.nd rfl (.inl rfl) (pe_op op_add (pe_op op_mod (pe_callTy call_intI (by rfl) T.b_int (by decide +kernel) (pa_cons (pe_op op_add (pe_op op_mul (pe_op op_mod (pe_callTy call_intI (by rfl) T.b_int (by decide +kernel) (pa_cons (pv 3) pa_nil)) pe_int) pe_int) (pe_op op_mul pe_int (pe_op op_add (pv 1) (pe_op op_mul pe_int (pv 2))))) pa_nil)) pe_int) pe_int))
      (pss_one (ps_ret (pe_lst (pa_cons (pe_ix ix_list (pe_lst (pa_cons pe_int (pa_cons (pv 3) pa_nil))) (pe_callTy call_intB (by rfl) T.b_int (by decide +kernel) (pa_cons (pe_cmpR op_ge (pv 3) (pe_op op_pow pe_int pe_int) (nomark _)) pa_nil)) (fun _ _ => rfl)) (pa_cons (pv 4) (pa_cons pe_int pa_nil))))))))), ?_⟩
    walk_at "kb"
    refine ⟨fun σ' H' => H' = H ∧ ∃ c : Int, 0 ≤ c ∧ σ' = [some (.ref a), some (.int k), some (.int own), some (.int c), none], ?_, fun σ1 H1 z => ?_⟩
    · have hl : ((ns.map V.int).length : Int) = ns.length := by rw [List.length_map]
      walk_at "kb"
      refine ite2 (fun h => ?_) (fun h => ?_)
      · have h1 : k < (ns.length : Int) := by have := of_decide_eq_true h; omega
        have h2 : k.toNat < ns.length := by omega
        refine ⟨_, rfl, _, rfl, a, _, k, _, rfl, rfl, hS, at_of (j := k.toNat) (by omega) (by rw [List.getElem?_map, List.getElem?_eq_getElem h2]; rfl), ?_⟩
        walk_at "kb"
        exact ⟨rfl, _, by split <;> omega, rfl⟩
      · walk_at "kb"
        refine ite2 (fun h' => ?_) (fun h' => ?_)
        · have h0 : 0 < (ns.length : Int) := by have := of_decide_eq_true h'; omega
          walk_at "kb"
          have m0 := Int.emod_nonneg k (show ((ns.map V.int).length : Int) ≠ 0 by omega)
          have m1 := Int.emod_lt_of_pos k (show (0 : Int) < ((ns.map V.int).length : Int) by omega)
          have h2 : (k % ((ns.map V.int).length : Int)).toNat < ns.length := by omega
          refine ⟨a, _, _, _, rfl, rfl, hS, at_of (j := (k % ((ns.map V.int).length : Int)).toNat) (by omega) (by rw [List.getElem?_map, List.getElem?_eq_getElem h2]; rfl), ?_⟩
          walk_at "kb"
          exact ⟨rfl, _, by omega, rfl⟩
        · exact ⟨rfl, _, by omega, rfl⟩
    · obtain ⟨rfl, c, hc, rfl⟩ := z
      walk_at "kb"
      intro l hl
      walk_at "kb"
      have hB : SqL K (upd H1 l (.lst [.int 0, .int c])) l [.int 0, .int c] := SqL.of upd_same
      have hi : ∃ v : Int, 0 ≤ v ∧ atI [V.int 0, V.int c] (if decide ((10 : Int) ^ (18 : Int).toNat ≤ c) = true then 1 else 0) = some (.int v) := by
        by_cases hd : (10 : Int) ^ (18 : Int).toNat ≤ c
        · rw [if_pos (decide_eq_true hd)]
          exact ⟨c, hc, atI_nat (j := 1) rfl⟩
        · rw [if_neg fun z => hd (of_decide_eq_true z)]
          exact ⟨0, Int.le_refl 0, atI_nat (j := 0) rfl⟩
      obtain ⟨v, hv, hi⟩ := hi
      refine ⟨l, _, _, _, rfl, rfl, hB, hi, ?_⟩
      walk_at "kb"
      intro p hp
      have hp1 : H1 p = none := by
        have hne : p ≠ l := fun e => by rw [e, upd_same] at hp; cases hp
        rw [upd_ne hne] at hp; exact hp
      refine q p _ hp1 (fun b o e => ?_) ⟨v, _, 0, upd_same, hv, ?_, ?_⟩
      · rw [upd_ne (ne_of_none e hp1), upd_ne (ne_of_none e hl)]; exact e
      · omega
      · omega
end

/-! ## drawn words -/
namespace Dw
def sp_pair : Sp := fun vs H Q _ => ∃ u : List Bool, vs = [.str (enc u)] ∧ u.length ≤ 100000 ∧ ∀ (p : Addr) (H' : Hp), H p = none → Same H H' → H' p = some (.tup [.int (pr u).1, .int (pr u).2]) → Q (.ref p) H'
def sp_drawn : Sp := fun vs H Q _ => ∃ (b : Addr) (most : Int), vs = [.ref b, .int most] ∧ BoxAt H b ∧ 0 ≤ most ∧ most ≤ 1000 ∧ ∀ (u : List Bool) (H' : Hp), (u.length : Int) ≤ most → Keep b H H' → BoxAt H' b → Q (.str (enc u)) H'
theorem pick_lr {d : Nat} {v : V} (h : [V.str ("l" : Str), V.str ("r" : Str)][d]? = some v) : ∃ x : Bool, v = .str (enc [x]) := by
  match d, h with
  | 0, h => exact ⟨false, by rw [← lit_l]; exact (Option.some.inj h).symm⟩
  | 1, h => exact ⟨true, by rw [← lit_r]; exact (Option.some.inj h).symm⟩
  | d + 2, h => simp at h
/-- [_law_pick(box, ["l", "r"]) for .. in range(n)] -/
theorem comp_letters {K : PySem.W.Frag} {b : Addr} {σ : L2.St} {vs : List Nat} {s n : Nat} {H1 : Hp} {D : Addr} {Qd : Hp → Prop} (hb : BoxAt H1 b) (hD : H1 D = none) (hσ : ∀ v, ((wipe σ vs).set s v)[0]? = some (some (.ref b))) (hw : ∀ v, wipe ((wipe σ vs).set s v) vs = wipe σ vs) (hn : n ≤ 1000)
    (hd : ∀ (bits : List Bool) (H : Hp), bits.length = n → Keep b H1 H → BoxAt H b → H D = some (.lst (bits.map fun x => V.str (enc [x]))) → Qd H) :
    LcR (Itr 0 n) (gName s) tYes (tCall (sp_pick K) [] E0 (tCons (tVar 0) (tCons (tLst (tCons (tC (.str "l")) (tCons (tC (.str "r")) tNil))) tNil))) vs σ H1 D Qd := by
  refine lcR_range (fun i H' => Keep b H1 H' ∧ BoxAt H' b ∧ ∃ bits : List Bool, bits.length = i ∧ H' D = some (.lst (bits.map fun x => V.str (enc [x])))) ⟨Keep.new hD, hb.new hD, [], rfl, upd_same⟩ (fun i H hi m => ?_) (gName_mono s) (fun H m => ?_)
  · obtain ⟨kp, hb', bits, hl, hH⟩ := m
    refine ⟨hw _, _, hσ _, by show 2 ≤ sizeLine; decide, fun l hl' => ?_⟩
    refine ⟨b, l, _, rfl, hb'.new hl', hb'.ne hl', .inl (SqL.of upd_same), by decide, by decide, fun d v H' hv kp' hb2 => ?_⟩
    obtain ⟨x, rfl⟩ := pick_lr hv
    have hDb : D ≠ b := hb.ne hD
    have hDl : D ≠ l := ne_of_none hH hl'
    have hH' : H' D = some (.lst (bits.map fun x => V.str (enc [x]))) := kp' D _ hDb (by rw [upd_ne hDl]; exact hH)
    refine ⟨_, hH', by rw [List.length_map]; exact Nat.lt_of_le_of_lt (by omega : bits.length ≤ 1000) (by decide), fun a o n e => by rw [upd_ne (ne_of_none e hD)]; exact ((kp.put (kp.free hb'.any hl')).trans kp') a o n e, hb2.keep fun o e => by rw [upd_ne hDb.symm]; exact e, bits ++ [x], by simp [hl], by rw [upd_same]; simp⟩
  · obtain ⟨kp, hb', bits, hl, hH⟩ := m
    exact hd bits H hl kp hb' hH
theorem join_bits (bits : List Bool) : Txt.join ("" : Str) (bits.map fun x => enc [x]) = enc bits := by
  have h := join_enc (bits.map fun x => [x])
  have e : (bits.map fun x => [x]).flatten = bits := by induction bits with
    | nil => rfl
    | cons x r ih => rw [List.map_cons, List.flatten_cons, ih (join_enc _)]; rfl
  rw [List.map_map, e] at h
  exact h
theorem sum_ones (bits : List Bool) : ((bits.map fun x => enc [x]).map (·.length)).sum = bits.length := by
  induction bits with
  | nil => rfl
  | cons x r ih => rw [List.map_cons, List.map_cons, List.sum_cons, ih, enc_len]; simp; omega
theorem rJ1 {K : PySem.W.Frag} {p : Addr} {bits : List Bool} {H : Hp} (h : H p = some (.lst (bits.map fun x => V.str (enc [x])))) : SqL K H p ((bits.map fun x => enc [x]).map V.str) := SqL.of (by rw [List.map_map]; exact h)
theorem rJ2 {bits : List Bool} (hl : bits.length ≤ 1000) : ((bits.map fun x => enc [x]).map (·.length)).sum + (bits.map fun x => enc [x]).length * ("" : Str).length ≤ 16777216 := by
  rw [sum_ones]
  have e : ("" : Str).length = 0 := by decide +kernel
  rw [e]
  omega
end Dw
open Dw

section
variable {P : Program} {w : World} {K : PySem.W.Frag} {mg : Str → Option Value} {base : Heap}
theorem ok_pair {f : Addr} {fd : FuncData} (F : Fun K "_law_pair" "_law_pair" S__law_pair f fd) (T : Txt K mg) : FnOk P w K mg base CX0 1 f fd ["_law_word_here"] sp_pair := by
  refine F.ok SC__law_pair (fun vs H Q E h => ?_) (fun cdv A outer s H vs Q E hr h => ?_)
  · obtain ⟨u, rfl, _⟩ := h
    rfl
  · obtain ⟨u, rfl, hu, q⟩ := h
    refine ⟨_, (pss_cons (ps_asg (pe_tup (pa_cons pe_int (pa_cons pe_int pa_nil))) (pg_tup rfl (pgs_cons (pg_name (i := 1) SC__law_pair.nd rfl (.inl rfl)) (pgs_cons (pg_name (i := 2) SC__law_pair.nd rfl (.inl rfl)) pgs_nil))))
      (pss_cons (ps_for PassesOwn.never rfl (pi_str (pe_revS (pv 0))) (pg_name (i := 3) SC__law_pair.nd rfl (.inl rfl)) (pss_one (ps_if (pt_cmpR op_eq (pv 3) pe_str (nomark _)) (pss_one (ps_set (i := 2) SC__law_pair.nd rfl (.inl rfl) (pe_op op_add (pv 1) (pv 2)))) (pss_one (ps_set (i := 1) SC__law_pair.nd rfl (.inl rfl) (pe_op op_add (pv 1) (pv 2)))))))
      (pss_one (ps_ret (pe_tup (pa_cons (pv 1) (pa_cons (pv 2) pa_nil))))))), ?_⟩
    refine ⟨by show 2 ≤ sizeLine; decide, fun p0 hp0 => ⟨p0, _, rfl, SqT.of upd_same, rfl, _, _, rfl, _, _, rfl, rfl, ?_⟩⟩
    have hz : (enc u.reverse).cps.size = u.length := by show (enc u.reverse).length = _; rw [enc_len, List.length_reverse]
    refine ⟨_, rfl, enc u, rfl, by rw [enc_len]; exact Nat.le_trans hu (by decide), enc u.reverse, congrArg V.str (enc_rev u), for_it (walk_str (z := enc u.reverse)) (fun i σ H' => Same H H' ∧ ∃ x : Option V, σ = [some (.str (enc u)), some (.int (pr (u.reverse.take i).reverse).1), some (.int (pr (u.reverse.take i).reverse).2), x])
      ⟨fun a o e => by rw [upd_ne (ne_of_none e hp0)]; exact e, none, rfl⟩ (fun _ _ _ _ _ => trivial) (fun i v σ H1 H2 hi hP hY => ?_) (fun σ H1 hP => ?_)⟩
    · obtain ⟨sm, x, rfl⟩ := hP
      obtain ⟨rfl, c, hc, rfl⟩ := hY
      have hi' : i < u.reverse.length := by rw [List.length_reverse, ← hz]; exact hi
      have ec : c = cd u.reverse[i] := by
        rw [← Array.getElem?_toList, enc_cps, List.getElem?_map, List.getElem?_eq_getElem hi'] at hc
        exact (Option.some.inj hc).symm
      have et : (u.reverse.take (i + 1)).reverse = u.reverse[i] :: (u.reverse.take i).reverse := by
        rw [List.take_succ_eq_append_getElem hi', List.reverse_append]; rfl
      generalize u.reverse[i] = y at ec et
      subst ec
      walk_at "kb"
      have step : pr (u.reverse.take (i + 1)).reverse = pr (y :: (u.reverse.take i).reverse) := by rw [et]
      refine ite2 (fun h => ?_) (fun h => ?_)
      · have e := of_decide_eq_true h
        have ey : y = false := by revert e; cases y <;> decide +kernel
        subst ey
        walk_at "kb"
        exact ⟨some (.str ⟨#[cd false]⟩), by rw [step]; simp [pr, Int.add_comm]⟩
      · have e := fun z => h (decide_eq_true z)
        have ey : y = true := by revert e; cases y <;> decide +kernel
        subst ey
        walk_at "kb"
        exact ⟨some (.str ⟨#[cd true]⟩), by rw [step]; simp [pr]⟩
    · obtain ⟨sm, x, rfl⟩ := hP
      rw [hz]
      walk_at "kb"
      refine fun p hp => q p _ (sm.free hp) (fun a o e => by rw [upd_ne (ne_of_none (sm a o e) hp)]; exact sm a o e) ?_
      rw [upd_same]
      have e : (u.reverse.take u.length).reverse = u := by rw [List.take_of_length_le (by rw [List.length_reverse]; exact Nat.le_refl _), List.reverse_reverse]
      rw [e]
theorem ok_drawn {f : Addr} {fd : FuncData} (F : Fun K "_law_drawn_word" "_law_drawn_word" S__law_drawn_word f fd) (T : Txt K mg) (C_take : FnC P w K mg base CX0 1 "_law_take" ["_law_box_here", "_law_many"] sp_take)
    (C_pick : FnC P w K mg base CX0 2 "_law_pick" ["_law_box_here", "_law_items"] (sp_pick K)) (C_pair : FnC P w K mg base CX0 1 "_law_pair" ["_law_word_here"] sp_pair) : FnOk P w K mg base CX0 3 f fd ["_law_box_here", "_law_most"] sp_drawn := by
  refine F.ok SC__law_drawn_word (fun vs H Q E h => ?_) (fun cdv A outer s H vs Q E hr h => ?_)
  · obtain ⟨b, m, rfl, _⟩ := h
    rfl
  · obtain ⟨b, m, rfl, hb, m0, m1, q⟩ := h
    refine ⟨_, (pss_cons (ps_par (i := 2) (j := 3) (by rfl) SC__law_drawn_word.nd rfl rfl (by decide) rfl rfl (pa_cons (pe_callC C_take (hr.mono (by decide)) rfl (pa_cons (pv 0) (pa_cons pe_int pa_nil))) (pa_cons (pe_callC C_take (hr.mono (by decide)) rfl (pa_cons (pv 0) (pa_cons (pe_op op_add (pv 1) pe_int) pa_nil))) pa_nil)) (by rfl))
      (pss_cons (ps_if (pt_cmpR op_eq (pv 2) pe_int (nomark _)) (pss_one (ps_ret (pe_join pe_str (pe_lc (own := [("_law_turn", 9)]) (g := gName 9) (by rfl) SC__law_drawn_word.nd (pi_range1 (by rfl) T.b_range (pa_cons (pe_callB (call_min2 rfl) (by rfl) T.b_min (by decide +kernel) (pa_cons (pe_callTy call_intI (by rfl) T.b_int (by decide +kernel) (pa_cons (pv 3) pa_nil)) (pa_cons pe_int pa_nil))) pa_nil)) (blkOk_by (own := [("_law_turn", 9)]) (N := N__law_drawn_word) (sc := defScope S__law_drawn_word) (by decide +kernel)) (fun _ _ _ _ _ => pg_name (i := 9) SC__law_drawn_word.nd rfl (Or.inl rfl)) (fun _ _ _ _ _ => pts_nil) (fun _ _ _ _ _ => (pe_callC C_pick (hr.mono (by decide)) rfl (pa_cons (pv 0) (pa_cons (pe_lst (pa_cons pe_str (pa_cons pe_str pa_nil))) pa_nil)))))))) pss_nil)
      (pss_cons (ps_set (i := 4) SC__law_drawn_word.nd rfl (.inl rfl) pe_str)
      (pss_cons (ps_set (i := 5) SC__law_drawn_word.nd rfl (.inl rfl) (pe_join pe_str (pe_lc (own := [("_law_turn", 9)]) (g := gName 9) (by rfl) SC__law_drawn_word.nd (pi_range1 (by rfl) T.b_range (pa_cons (pe_op op_add pe_int (pe_callC C_take (hr.mono (by decide)) rfl (pa_cons (pv 0) (pa_cons pe_int pa_nil)))) pa_nil)) (blkOk_by (own := [("_law_turn", 9)]) (N := N__law_drawn_word) (sc := defScope S__law_drawn_word) (by decide +kernel)) (fun _ _ _ _ _ => pg_name (i := 9) SC__law_drawn_word.nd rfl (Or.inl rfl)) (fun _ _ _ _ _ => pts_nil) (fun _ _ _ _ _ => (pe_callC C_pick (hr.mono (by decide)) rfl (pa_cons (pv 0) (pa_cons (pe_lst (pa_cons pe_str (pa_cons pe_str pa_nil))) pa_nil)))))))
      (pss_cons (ps_while PassesOwn.never (pt_cmpR op_lt (pe_callB call_len_str (by rfl) T.b_len (by decide +kernel) (pa_cons (pv 4) pa_nil)) (pv 3) (nomark _)) (pss_cons (ps_set (i := 6) SC__law_drawn_word.nd rfl (.inl rfl) (pv 5))
      (pss_mid (ps_if (pt_cmpR op_ne (pv 2) pe_int (nomark _)) (pss_one (ps_set (i := 6) SC__law_drawn_word.nd rfl (.inl rfl) (pe_op op_mul_str (pe_callC C_pick (hr.mono (by decide)) rfl (pa_cons (pv 0) (pa_cons (pe_lst (pa_cons pe_str (pa_cons pe_str pa_nil))) pa_nil))) (pe_op op_add pe_int (pe_callC C_take (hr.mono (by decide)) rfl (pa_cons (pv 0) (pa_cons pe_int pa_nil))))))) pss_nil)
      (pss_one (ps_set (i := 4) SC__law_drawn_word.nd rfl (.inl rfl) (pe_op op_add_str (pv 4) (pv 6)))))))
      (pss_cons (ps_set (i := 4) SC__law_drawn_word.nd rfl (.inl rfl) (pe_slice sl_str (pv 4) po_none (po_some (pv 3))))
      (pss_cons (ps_asg (pe_callC C_pair (hr.mono (by decide)) rfl (pa_cons (pv 4) pa_nil)) (pg_tup rfl (pgs_cons (pg_name (i := 7) SC__law_drawn_word.nd rfl (.inl rfl)) (pgs_cons (pg_name (i := 8) SC__law_drawn_word.nd rfl (.inl rfl)) pgs_nil))))
      (pss_one (ps_ret (pe_ifExp (PW.pt (pw_and (pt_cmpR op_le (pv 7) (pe_op op_pow pe_int pe_int) (nomark _)) (pw_and1 (pt_cmpR op_le (pv 8) (pe_op op_pow pe_int pe_int) (nomark _))))) (pv 4) (pe_slice sl_str (pv 4) po_none (po_some pe_int)))))))))))), ?_⟩
    refine ⟨_, rfl, b, 3, rfl, hb, by decide, by decide, fun fm H1 f0 f1 kp1 hb1 => ?_⟩
    walk_at "kb"
    intro mn H2 n0 n1 kp2 hb2
    walk_at "kb"
    refine ite2 (fun h => ?_) (fun h => ?_)
    · walk_at "kb"
      intro D hD
      refine comp_letters hb2 hD (fun v => rfl) (fun v => rfl) (by split <;> omega) (fun bits H3 hl kp3 hb3 hH3 => ?_)
      have hl' : bits.length ≤ 40 ∧ (bits.length : Int) ≤ m := by rw [hl]; split <;> omega
      refine ⟨_, _, _, rfl, rfl, .inl (rJ1 hH3), rJ2 (by omega), ?_⟩
      rw [join_bits]
      exact q bits H3 hl'.2 ((kp1.trans kp2).trans kp3) hb3
    · walk_at "kb"
      intro pc H3 p0 p1 kp3 hb3
      walk_at "kb"
      intro D hD
      refine comp_letters hb3 hD (fun v => rfl) (fun v => rfl) (by omega) (fun bits H4 hl kp4 hb4 hH4 => ?_)
      have kpA : Keep b H H4 := ((kp1.trans kp2).trans kp3).trans kp4
      have hl1 : 1 ≤ bits.length ∧ bits.length ≤ 5 := by omega
      refine ⟨_, _, _, rfl, rfl, .inl (rJ1 hH4), rJ2 (by omega), ?_⟩
      rw [join_bits]
      refine while_by (fun σ H' => Keep b H H' ∧ BoxAt H' b ∧ ∃ (u : List Bool) (x : Option V), (u.length : Int) ≤ mn + 100 ∧ σ = [some (.ref b), some (.int m), some (.int fm), some (.int mn), some (.str (enc u)), some (.str (enc bits)), x, none, none, none])
        (fun σ _ => match σ with | [_, _, _, _, some (.str z), _, _, _, _, _] => 2000 - z.length | _ => 0) ⟨kpA, hb4, [], none, by simp; omega, by rw [← lit_e]; rfl⟩ (fun σ H5 hP => ?_) (fun σ H Q Q' h q => ?_)
      · obtain ⟨kp5, hb5, u, x, hu, rfl⟩ := hP
        walk_at "kb"
        refine ite2 (fun h => ?_) (fun h => ?_)
        · have hlt : (u.length : Int) < mn := by have := of_decide_eq_true h; rw [enc_len] at this; exact this
          walk_at "kb"
          refine ⟨fun σ' H' => Keep b H H' ∧ BoxAt H' b ∧ ∃ v : List Bool, 1 ≤ v.length ∧ v.length ≤ 60 ∧ σ' = [some (.ref b), some (.int m), some (.int fm), some (.int mn), some (.str (enc u)), some (.str (enc bits)), some (.str (enc v)), none, none, none], ?_, fun σ6 H6 hP => ?_⟩
          · walk_at "kb"
            refine ite2 (fun h => ?_) (fun h => ?_)
            · refine ⟨_, rfl, by show 2 ≤ sizeLine; decide, fun l hl => ?_⟩
              refine ⟨b, l, _, rfl, hb5.new hl, hb5.ne hl, .inl (SqL.of upd_same), by decide, by decide, fun d v H6 hv kp6 hb6 => ?_⟩
              obtain ⟨y, rfl⟩ := pick_lr hv
              walk_at "kb"
              intro c H7 c0 c1 kp7 hb7
              walk_at "kb"
              refine ⟨by rw [enc_len, List.length_singleton]; omega, ?_⟩
              refine ⟨((kp5.put (kp5.free hb5.any hl)).trans kp6).trans kp7, hb7, List.replicate (1 + c).toNat y, by rw [List.length_replicate]; omega, by rw [List.length_replicate]; omega, ?_⟩
              rw [enc_rep]
              rfl
            · exact ⟨kp5, hb5, bits, hl1.1, by omega, rfl⟩
          · obtain ⟨kp6, hb6, v, v1, v2, rfl⟩ := hP
            walk_at "kb"
            try refine And.intro (by rw [enc_len, enc_len]; exact szl (by omega)) ?_
            refine ⟨⟨kp6, hb6, u ++ v, some (.str (enc v)), by rw [List.length_append]; omega, by rw [enc_app]; rfl⟩, ?_⟩
            show 2000 - (enc u ++ enc v).length < 2000 - (enc u).length
            rw [enc_app, enc_len, enc_len, List.length_append]
            omega
        · walk_at "kb"
          try refine And.intro (by rw [enc_len]; exact szl (by omega)) ?_
          rw [enc_take u n0]
          walk_at "kb"
          have hl2 : (u.take mn.toNat).length ≤ mn.toNat := by rw [List.length_take]; omega
          refine ⟨by omega, fun p H6 hp sm6 hH6 => ?_⟩
          refine ⟨p, _, rfl, SqT.of hH6, rfl, _, _, rfl, _, _, rfl, rfl, ?_⟩
          have kp6 : Keep b H H6 := kp5.trans (Keep.same sm6)
          have hb6 : BoxAt H6 b := hb5.same sm6
          have yes : Q (.str (enc (u.take mn.toNat))) H6 := q _ H6 (by omega) kp6 hb6
          have no : Q (.str (enc ((u.take mn.toNat).take 120))) H6 := q _ H6 (by rw [List.length_take]; omega) kp6 hb6
          walk_at "kb"
          refine ite2 (fun h => ?_) (fun h => ?_)
          · walk_at "kb"
            refine ite2 (fun h => ?_) (fun h => ?_)
            · exact ⟨_, rfl, yes⟩
            · walk_at "kb"
              try refine And.intro (by rw [enc_len]; exact szl (by omega)) ?_
              rw [enc_take _ (by decide)]
              exact no
          · refine ifF rfl ?_
            walk_at "kb"
            try refine And.intro (by rw [enc_len]; exact szl (by omega)) ?_
            rw [enc_take _ (by decide)]
            exact no
      · obtain ⟨v, h1, z, h2, h3, w, h4, i, j, e1, e2, k, e3, q⟩ := q
        exact ⟨v, h1, z, h2, h3, w, h4, i, j, e1, e2, k, e3, h _ _ q⟩
end

/-! ## lengths and ratios (where nothing is refused) -/
namespace Rt
def isI : V → Bool | .int _ => true | .bl _ => true | _ => false
def isB : V → Bool | .bl _ => true | _ => false
def isLen : V → Bool | .int i => decide (1 ≤ i) | _ => false
/-- what isinstance tells of a value against int and bool -/
structure Kd (K : PySem.W.Frag) (H : Hp) (x : V) : Prop where
  ex : ∃ t, TyX K H x t ∧ PySem.W.kitOne K t (.type "int") = some (isI x) ∧ PySem.W.kitOne K t (.type "bool") = some (isB x)
theorem Kd.int {K : PySem.W.Frag} {H : Hp} (i : Int) : Kd K H (.int i) := ⟨_, .base (.int i), kit_ty (show kitB "int" "int" = some true by decide +kernel), kit_ty (show kitB "int" "bool" = some false by decide +kernel)⟩
def sp_isint (K : PySem.W.Frag) : Sp := fun vs H Q _ => ∃ x, vs = [x] ∧ Kd K H x ∧ Q (.bl (isI x && !isB x)) H
def sp_islen (K : PySem.W.Frag) : Sp := fun vs H Q _ => ∃ x, vs = [x] ∧ Kd K H x ∧ Q (.bl (isLen x)) H
def sp_common : Sp := fun vs H Q _ => ∃ i j : Int, vs = [.int i, .int j] ∧ 0 < i ∧ 0 < j ∧ Q (.int (Int.gcd i j)) H
/-- the attributes of a ratio -/
def rf (a b : Int) : List (Str × V) := putF "second" (.int b) (putF "first" (.int a) [])
theorem n_fs : ¬ (("first" : Str) = "second") := by decide +kernel
theorem n_sf : ¬ (("second" : Str) = "first") := by decide +kernel
theorem rf1 (a b : Int) : (rf a b).lookup ("first" : Str) = some (.int a) := by
  unfold rf; rw [lookup_putF, if_neg n_fs, lookup_putF, if_pos rfl]
theorem rf2 (a b : Int) : (rf a b).lookup ("second" : Str) = some (.int b) := by
  unfold rf; rw [lookup_putF, if_pos rfl]
def RatAt (C : Addr) (H : Hp) (p : Addr) (a b : Int) : Prop := ∃ dx, H p = some (.ins C dx (rf a b))
theorem RatAt.same {C : Addr} {H H' : Hp} {p : Addr} {a b : Int} (x : RatAt C H p a b) (s : Same H H') : RatAt C H' p a b := let ⟨d, h⟩ := x; ⟨d, s _ _ h⟩
structure RatT (K : PySem.W.Frag) (mg : Str → Option Value) (C : Addr) : Prop where
  ins : C8.InsC K C
  n1 : NoAttr K C "first"
  n2 : NoAttr K C "second"
  mgC : mg "Ratio" = some (.ref C)
  nf : PySem.W.notFirst K C (.ref C) = true
  ne : PySem.W.findIn K (.ref C) "__ne__" = some (some (.builtin "object.__ne__"))
  so : PySem.W.subIn K (.ref C) (.type "object") = some true
theorem RatT.ty {K : PySem.W.Frag} {mg : Str → Option Value} {C : Addr} (T : RatT K mg C) {H : Hp} {p dx : Addr} {fs : List (Str × V)} (h : H p = some (.ins C dx fs)) : TyX K H (.ref p) (.ref C) := .base (.ins h T.ins.cl T.ins.ha T.ins.hn T.ins.htk T.ins.hm)
def sp_init (C : Addr) : Sp := fun vs H Q _ => ∃ (x dx : Addr) (i j : Int), vs = [.ref x, .int i, .int j] ∧ 0 < i ∧ 0 < j ∧ i.natAbs < 2 ^ 1000 ∧ j.natAbs < 2 ^ 1000 ∧ H x = some (.ins C dx []) ∧
  ∀ H' : Hp, (∀ a o, a ≠ x → H a = some o → H' a = some o) → RatAt C H' x (i / (Int.gcd i j : Nat)) (j / (Int.gcd i j : Nat)) → Q .non H'
/-- a comparison of two ratios -/
def sp_cmp (C : Addr) (r : Int → Int → Int → Int → Bool) : Sp := fun vs H Q _ => ∃ (p q : Addr) (a b c d : Int), vs = [.ref p, .ref q] ∧ RatAt C H p a b ∧ RatAt C H q c d ∧ a.natAbs < 2 ^ 1000 ∧ b.natAbs < 2 ^ 1000 ∧ c.natAbs < 2 ^ 1000 ∧ d.natAbs < 2 ^ 1000 ∧ Q (.bl (r a b c d)) H
def r_eq (a b c d : Int) : Bool := decide (V.int a = V.int c) && decide (V.int b = V.int d)
def r_lt (a b c d : Int) : Bool := decide (a * d < c * b)
def r_le (a b c d : Int) : Bool := decide (a * d ≤ c * b)
def r_gt (a b c d : Int) : Bool := decide (c * b < a * d)
def r_ge (a b c d : Int) : Bool := decide (c * b ≤ a * d)
theorem gcd_step {x y : Int} (hx : 0 ≤ x) (hy : 0 ≤ y) : Int.gcd y (x % y) = Int.gcd x y := by
  obtain ⟨a, rfl⟩ := Int.eq_ofNat_of_zero_le hx
  obtain ⟨b, rfl⟩ := Int.eq_ofNat_of_zero_le hy
  show Nat.gcd b ((a : Int) % (b : Int)).natAbs = Nat.gcd a b
  have e : ((a : Int) % (b : Int)).natAbs = a % b := by
    rw [← Int.natCast_emod, Int.natAbs_natCast]
  rw [e, Nat.gcd_comm b, ← Nat.gcd_rec, Nat.gcd_comm]
theorem wm {i j : Int} (h1 : i.natAbs < 2 ^ 1000) (h2 : j.natAbs < 2 ^ 1000) : CMulW i j := wide_mul h1 h2 (by decide) (by decide) (by decide)
end Rt
open Rt
section
variable {P : Program} {w : World} {K : PySem.W.Frag} {mg : Str → Option Value} {base : Heap}
theorem ok_isint {f : Addr} {fd : FuncData} (F : Fun K "is_integer" "is_integer" S_is_integer f fd) (T : Txt K mg) : FnOk P w K mg base CX0 1 f fd ["value"] (sp_isint K) := by
  refine F.ok SC_is_integer (fun vs H Q E h => ?_) (fun cdv A outer s H vs Q E hr h => ?_)
  · obtain ⟨x, rfl, _⟩ := h
    rfl
  · obtain ⟨x, rfl, ⟨t, ty, h1, h2⟩, q⟩ := h
    refine ⟨_, (pss_one (ps_ret (pe_and (pe_callB call_isi (by rfl) T.b_isinstance (by decide +kernel) (pa_cons (pv 0) (pa_cons (pe_bltn (v := .ty "int") (by rfl) T.b_int boot_int rfl) pa_nil))) (pe_one (pe_not (pe_callB call_isi (by rfl) T.b_isinstance (by decide +kernel) (pa_cons (pv 0) (pa_cons (pe_bltn (v := .ty "bool") (by rfl) T.b_bool boot_bool rfl) pa_nil)))))))), ?_⟩
    refine ⟨_, rfl, x, _, t, _, _, rfl, .ty _, ty, h1, isI x, rfl, ?_⟩
    by_cases c : isI x = true
    · rw [c] at q ⊢
      refine ifT rfl ?_
      refine ⟨_, rfl, x, _, t, _, _, rfl, .ty _, ty, h2, isB x, rfl, q⟩
    · rw [Bool.not_eq_true] at c
      rw [c] at q ⊢
      exact ifF rfl q
theorem ok_islen {f : Addr} {fd : FuncData} (F : Fun K "is_length" "is_length" S_is_length f fd) (T : Txt K mg) (C_isint : FnC P w K mg base CX0 1 "is_integer" ["value"] (sp_isint K)) : FnOk P w K mg base CX0 2 f fd ["value"] (sp_islen K) := by
  refine F.ok SC_is_length (fun vs H Q E h => ?_) (fun cdv A outer s H vs Q E hr h => ?_)
  · obtain ⟨x, rfl, _⟩ := h
    rfl
  · obtain ⟨x, rfl, kd, q⟩ := h
    refine ⟨_, (pss_one (ps_ret (pe_and (pe_callC C_isint hr rfl (pa_cons (pv 0) pa_nil)) (pe_one (pe_cmpR op_ge (pv 0) pe_int (nomark _)))))), ?_⟩
    refine ⟨_, rfl, x, rfl, kd, _, rfl, ?_⟩
    cases x with
    | int i =>
      refine ifT rfl ?_
      walk_at "kb"
      exact q
    | bl b => exact ifF rfl q
    | non => exact ifF rfl q
    | str z => exact ifF rfl q
    | byt z => exact ifF rfl q
    | flt z => exact ifF rfl q
    | ref z => exact ifF rfl q
    | ty z => exact ifF rfl q
theorem ok_common {f : Addr} {fd : FuncData} (F : Fun K "common_length" "common_length" S_common_length f fd) (T : Txt K mg) : FnOk P w K mg base CX0 1 f fd ["first", "second"] sp_common := by
  refine F.ok SC_common_length (fun vs H Q E h => ?_) (fun cdv A outer s H vs Q E hr h => ?_)
  · obtain ⟨i, j, rfl, _⟩ := h
    rfl
  · obtain ⟨i, j, rfl, h1, h2, q⟩ := h
    refine ⟨_, (pss_cons (ps_while PassesOwn.never (pt_cmpR op_ne (pv 1) pe_int (nomark _)) (pss_one (ps_par (i := 0) (j := 1) (by rfl) SC_common_length.nd rfl rfl (by decide) rfl rfl (pa_cons (pv 1) (pa_cons (pe_op op_mod (pv 0) (pv 1)) pa_nil)) (by rfl))))
      (pss_one (ps_ret (pv 0)))), ?_⟩
    refine while_by (fun σ H' => H' = H ∧ ∃ x y : Int, 0 < x ∧ 0 ≤ y ∧ Int.gcd x y = Int.gcd i j ∧ σ = [some (.int x), some (.int y)]) (fun σ _ => match σ with | [_, some (.int y)] => y.toNat | _ => 0)
      ⟨rfl, i, j, h1, Int.le_of_lt h2, rfl, rfl⟩ (fun σ H1 hP => ?_) (fun σ H Q Q' h q => ?_)
    · obtain ⟨rfl, x, y, hx, hy, hg, rfl⟩ := hP
      walk_at "kb"
      refine ite2 (fun h => ?_) (fun h => ?_)
      · have hy0 : y ≠ 0 := fun e => by subst e; exact absurd h (by decide)
        walk_at "kb"
        refine ⟨⟨rfl, y, x % y, by omega, Int.emod_nonneg _ hy0, ?_, rfl⟩, ?_⟩
        · rw [← hg]; exact gcd_step (Int.le_of_lt hx) hy
        · show (x % y).toNat < y.toNat
          have := Int.emod_lt_of_pos x (show 0 < y by omega)
          omega
      · have hy0 : y = 0 := by
          have : decide (V.int y = V.int 0) = true := by simpa using h
          exact V.int.inj (of_decide_eq_true this)
        subst hy0
        refine ⟨_, rfl, ?_⟩
        have e : x = ((Int.gcd i j : Nat) : Int) := by rw [← hg, Int.gcd_zero_right]; omega
        rw [e]
        exact q
    · obtain ⟨v, h1, e, v2, e2, q⟩ := q
      exact ⟨v, h1, e, v2, e2, h _ _ q⟩
theorem ok_init {f C : Addr} {fd : FuncData} (F : Fun K "__init__" "Ratio.__init__" S_Ratio__init_ f fd) (T : Txt K mg) (R : RatT K mg C) (C_islen : FnC P w K mg base CX0 2 "is_length" ["value"] (sp_islen K)) (C_common : FnC P w K mg base CX0 1 "common_length" ["first", "second"] sp_common) :
    FnOk P w K mg base CX0 3 f fd ["self", "first", "second"] (sp_init C) := by
  refine F.ok SC_Ratio__init_ (fun vs H Q E h => ?_) (fun cdv A outer s H vs Q E hr h => ?_)
  · obtain ⟨x, dx, i, j, rfl, _⟩ := h
    rfl
  · obtain ⟨x, dx, i, j, rfl, i0, j0, i1, j1, hx, q⟩ := h
    refine ⟨_, (pss_cons (ps_if (PW.pt (pw_or (pt_not (pt_val (pe_callC C_islen (hr.mono (by decide)) rfl (pa_cons (pv 1) pa_nil)))) (pw_or1 (pt_not (pt_val (pe_callC C_islen (hr.mono (by decide)) rfl (pa_cons (pv 2) pa_nil))))))) (pss_one ps_never) pss_nil)
      (pss_cons (ps_set (i := 3) SC_Ratio__init_.nd rfl (.inl rfl) (pe_callC C_common (hr.mono (by decide)) rfl (pa_cons (pv 1) (pa_cons (pv 2) pa_nil))))
      (pss_cons (ps_fld (pv 0) (pe_op op_fdivW (pv 1) (pv 3)) rfl)
      (pss_one (ps_fld (pv 0) (pe_op op_fdivW (pv 2) (pv 3)) rfl))))), ?_⟩
    have li : isLen (.int i) = true := decide_eq_true (by omega)
    have lj : isLen (.int j) = true := decide_eq_true (by omega)
    refine ⟨_, rfl, _, rfl, Kd.int i, isLen (.int i), rfl, ?_⟩
    rw [li]
    refine ifF rfl ⟨_, rfl, _, rfl, Kd.int j, isLen (.int j), rfl, ?_⟩
    rw [lj]
    refine ifF rfl ?_
    have g0 : 0 < ((Int.gcd i j : Nat) : Int) := by have := Int.gcd_pos_of_ne_zero_left j (show i ≠ 0 by omega); omega
    have g1 : ((Int.gcd i j : Nat) : Int) ≤ i := Int.le_of_dvd i0 (Int.gcd_dvd_left _ _)
    have hd : CDivW i ((Int.gcd i j : Nat) : Int) := wide_div (b := 1000) g0 (by omega) (by decide) (by decide)
    have hd2 : CDivW j ((Int.gcd i j : Nat) : Int) := hd
    walk_at "kb"
    refine ⟨x, C, dx, _, rfl, hx, R.ins.cl, R.n1, by show 0 < 1000; decide, ?_⟩
    walk_at "kb"
    refine ⟨x, C, dx, _, rfl, upd_same, R.ins.cl, R.n2, by show 1 < 1000; decide, ?_⟩
    refine q _ (fun a o n e => by rw [upd_ne n, upd_ne n]; exact e) ⟨dx, by rw [upd_same]; rfl⟩
end

section
variable {P : Program} {w : World} {K : PySem.W.Frag} {mg : Str → Option Value} {base : Heap}
theorem ok_lt {f C : Addr} {fd : FuncData} (F : Fun K "__lt__" "Ratio.__lt__" S_Ratio__lt_ f fd) (T : Txt K mg) (R : RatT K mg C) : FnOk P w K mg base CX0 1 f fd ["self", "other"] (sp_cmp C r_lt) := by
  refine F.ok SC_Ratio__lt_ (fun vs H Q E h => ?_) (fun cdv A outer s H vs Q E hr h => ?_)
  · obtain ⟨p, q, a, b, c, d, rfl, _⟩ := h
    rfl
  · obtain ⟨p, q, a, b, c, d, rfl, ⟨dx, hp⟩, ⟨dy, hq⟩, a1, b1, c1, d1, k⟩ := h
    refine ⟨_, (pss_cons (ps_if (pt_not (pt_val (pe_callB call_isi (by rfl) T.b_isinstance (by decide +kernel) (pa_cons (pv 1) (pa_cons (pe_glob (v := .ref C) (by rfl) R.mgC rfl) pa_nil))))) (pss_one ps_never) pss_nil)
      (pss_one (ps_ret (pe_cmpR op_lt (pe_op op_mulW (pe_fld (pv 0) rfl) (pe_fld (pv 1) rfl)) (pe_op op_mulW (pe_fld (pv 1) rfl) (pe_fld (pv 0) rfl)) (nomark _))))), ?_⟩
    refine ⟨_, rfl, .ref q, _, .ref C, _, true, rfl, .own C, R.ty hq, R.ins.me, _, rfl, ifF rfl ?_⟩
    refine ⟨_, rfl, p, C, dx, _, _, rfl, hp, R.ins.cl, R.n1, rf1 _ _, _, rfl, q, C, dy, _, _, rfl, hq, R.ins.cl, R.n2, rf2 _ _, _, _, rfl, rfl, wm a1 d1, ?_⟩
    refine ⟨_, rfl, q, C, dy, _, _, rfl, hq, R.ins.cl, R.n1, rf1 _ _, _, rfl, p, C, dx, _, _, rfl, hp, R.ins.cl, R.n2, rf2 _ _, _, _, rfl, rfl, wm c1 b1, ?_⟩
    exact ⟨_, _, rfl, rfl, k⟩
theorem ok_le {f C : Addr} {fd : FuncData} (F : Fun K "__le__" "Ratio.__le__" S_Ratio__le_ f fd) (T : Txt K mg) (R : RatT K mg C) : FnOk P w K mg base CX0 1 f fd ["self", "other"] (sp_cmp C r_le) := by
  refine F.ok SC_Ratio__le_ (fun vs H Q E h => ?_) (fun cdv A outer s H vs Q E hr h => ?_)
  · obtain ⟨p, q, a, b, c, d, rfl, _⟩ := h
    rfl
  · obtain ⟨p, q, a, b, c, d, rfl, ⟨dx, hp⟩, ⟨dy, hq⟩, a1, b1, c1, d1, k⟩ := h
    refine ⟨_, (pss_cons (ps_if (pt_not (pt_val (pe_callB call_isi (by rfl) T.b_isinstance (by decide +kernel) (pa_cons (pv 1) (pa_cons (pe_glob (v := .ref C) (by rfl) R.mgC rfl) pa_nil))))) (pss_one ps_never) pss_nil)
      (pss_one (ps_ret (pe_cmpR op_le (pe_op op_mulW (pe_fld (pv 0) rfl) (pe_fld (pv 1) rfl)) (pe_op op_mulW (pe_fld (pv 1) rfl) (pe_fld (pv 0) rfl)) (nomark _))))), ?_⟩
    refine ⟨_, rfl, .ref q, _, .ref C, _, true, rfl, .own C, R.ty hq, R.ins.me, _, rfl, ifF rfl ?_⟩
    refine ⟨_, rfl, p, C, dx, _, _, rfl, hp, R.ins.cl, R.n1, rf1 _ _, _, rfl, q, C, dy, _, _, rfl, hq, R.ins.cl, R.n2, rf2 _ _, _, _, rfl, rfl, wm a1 d1, ?_⟩
    refine ⟨_, rfl, q, C, dy, _, _, rfl, hq, R.ins.cl, R.n1, rf1 _ _, _, rfl, p, C, dx, _, _, rfl, hp, R.ins.cl, R.n2, rf2 _ _, _, _, rfl, rfl, wm c1 b1, ?_⟩
    exact ⟨_, _, rfl, rfl, k⟩
theorem ok_gt {f C : Addr} {fd : FuncData} (F : Fun K "__gt__" "Ratio.__gt__" S_Ratio__gt_ f fd) (T : Txt K mg) (R : RatT K mg C) : FnOk P w K mg base CX0 1 f fd ["self", "other"] (sp_cmp C r_gt) := by
  refine F.ok SC_Ratio__gt_ (fun vs H Q E h => ?_) (fun cdv A outer s H vs Q E hr h => ?_)
  · obtain ⟨p, q, a, b, c, d, rfl, _⟩ := h
    rfl
  · obtain ⟨p, q, a, b, c, d, rfl, ⟨dx, hp⟩, ⟨dy, hq⟩, a1, b1, c1, d1, k⟩ := h
    refine ⟨_, (pss_cons (ps_if (pt_not (pt_val (pe_callB call_isi (by rfl) T.b_isinstance (by decide +kernel) (pa_cons (pv 1) (pa_cons (pe_glob (v := .ref C) (by rfl) R.mgC rfl) pa_nil))))) (pss_one ps_never) pss_nil)
      (pss_one (ps_ret (pe_cmpR op_gt (pe_op op_mulW (pe_fld (pv 0) rfl) (pe_fld (pv 1) rfl)) (pe_op op_mulW (pe_fld (pv 1) rfl) (pe_fld (pv 0) rfl)) (nomark _))))), ?_⟩
    refine ⟨_, rfl, .ref q, _, .ref C, _, true, rfl, .own C, R.ty hq, R.ins.me, _, rfl, ifF rfl ?_⟩
    refine ⟨_, rfl, p, C, dx, _, _, rfl, hp, R.ins.cl, R.n1, rf1 _ _, _, rfl, q, C, dy, _, _, rfl, hq, R.ins.cl, R.n2, rf2 _ _, _, _, rfl, rfl, wm a1 d1, ?_⟩
    refine ⟨_, rfl, q, C, dy, _, _, rfl, hq, R.ins.cl, R.n1, rf1 _ _, _, rfl, p, C, dx, _, _, rfl, hp, R.ins.cl, R.n2, rf2 _ _, _, _, rfl, rfl, wm c1 b1, ?_⟩
    exact ⟨_, _, rfl, rfl, k⟩
theorem ok_ge {f C : Addr} {fd : FuncData} (F : Fun K "__ge__" "Ratio.__ge__" S_Ratio__ge_ f fd) (T : Txt K mg) (R : RatT K mg C) : FnOk P w K mg base CX0 1 f fd ["self", "other"] (sp_cmp C r_ge) := by
  refine F.ok SC_Ratio__ge_ (fun vs H Q E h => ?_) (fun cdv A outer s H vs Q E hr h => ?_)
  · obtain ⟨p, q, a, b, c, d, rfl, _⟩ := h
    rfl
  · obtain ⟨p, q, a, b, c, d, rfl, ⟨dx, hp⟩, ⟨dy, hq⟩, a1, b1, c1, d1, k⟩ := h
    refine ⟨_, (pss_cons (ps_if (pt_not (pt_val (pe_callB call_isi (by rfl) T.b_isinstance (by decide +kernel) (pa_cons (pv 1) (pa_cons (pe_glob (v := .ref C) (by rfl) R.mgC rfl) pa_nil))))) (pss_one ps_never) pss_nil)
      (pss_one (ps_ret (pe_cmpR op_ge (pe_op op_mulW (pe_fld (pv 0) rfl) (pe_fld (pv 1) rfl)) (pe_op op_mulW (pe_fld (pv 1) rfl) (pe_fld (pv 0) rfl)) (nomark _))))), ?_⟩
    refine ⟨_, rfl, .ref q, _, .ref C, _, true, rfl, .own C, R.ty hq, R.ins.me, _, rfl, ifF rfl ?_⟩
    refine ⟨_, rfl, p, C, dx, _, _, rfl, hp, R.ins.cl, R.n1, rf1 _ _, _, rfl, q, C, dy, _, _, rfl, hq, R.ins.cl, R.n2, rf2 _ _, _, _, rfl, rfl, wm a1 d1, ?_⟩
    refine ⟨_, rfl, q, C, dy, _, _, rfl, hq, R.ins.cl, R.n1, rf1 _ _, _, rfl, p, C, dx, _, _, rfl, hp, R.ins.cl, R.n2, rf2 _ _, _, _, rfl, rfl, wm c1 b1, ?_⟩
    exact ⟨_, _, rfl, rfl, k⟩
theorem ok_eq {f C : Addr} {fd : FuncData} (F : Fun K "__eq__" "Ratio.__eq__" S_Ratio__eq_ f fd) (T : Txt K mg) (R : RatT K mg C) : FnOk P w K mg base CX0 1 f fd ["self", "other"] (sp_cmp C r_eq) := by
  refine F.ok SC_Ratio__eq_ (fun vs H Q E h => ?_) (fun cdv A outer s H vs Q E hr h => ?_)
  · obtain ⟨p, q, a, b, c, d, rfl, _⟩ := h
    rfl
  · obtain ⟨p, q, a, b, c, d, rfl, ⟨dx, hp⟩, ⟨dy, hq⟩, a1, b1, c1, d1, k⟩ := h
    refine ⟨_, (pss_one (ps_ret (pe_and (pe_callB call_isi (by rfl) T.b_isinstance (by decide +kernel) (pa_cons (pv 1) (pa_cons (pe_glob (v := .ref C) (by rfl) R.mgC rfl) pa_nil))) (pe_and (pe_cmpR op_eq (pe_fld (pv 0) rfl) (pe_fld (pv 1) rfl) (nomark _)) (pe_one (pe_cmpR op_eq (pe_fld (pv 0) rfl) (pe_fld (pv 1) rfl) (nomark _))))))), ?_⟩
    refine ⟨_, rfl, .ref q, _, .ref C, _, true, rfl, .own C, R.ty hq, R.ins.me, _, rfl, ifT rfl ?_⟩
    refine ⟨_, rfl, p, C, dx, _, _, rfl, hp, R.ins.cl, R.n1, rf1 _ _, _, rfl, q, C, dy, _, _, rfl, hq, R.ins.cl, R.n1, rf1 _ _, rfl, _, rfl, ?_⟩
    refine ite2 (fun h => ?_) (fun h => ?_)
    · refine ⟨_, rfl, p, C, dx, _, _, rfl, hp, R.ins.cl, R.n2, rf2 _ _, _, rfl, q, C, dy, _, _, rfl, hq, R.ins.cl, R.n2, rf2 _ _, rfl, ?_⟩
      have e : r_eq a b c d = decide (V.int b = V.int d) := by unfold r_eq; rw [h]; rfl
      rw [e] at k
      exact k
    · have e : r_eq a b c d = false := by unfold r_eq; rw [Bool.eq_false_iff.mpr h]; rfl
      rw [e] at k
      exact k
end

/-! ## words in order -/
namespace Wd
theorem pr_cop (u : List Bool) : Nat.gcd (pr u).1 (pr u).2 = 1 := by
  induction u with
  | nil => rfl
  | cons b u ih =>
    cases b
    · show Nat.gcd (pr u).1 ((pr u).1 + (pr u).2) = 1
      rw [Nat.gcd_self_add_right]; exact ih
    · show Nat.gcd ((pr u).1 + (pr u).2) (pr u).2 = 1
      rw [Nat.gcd_add_self_left]; exact ih
theorem cross_eq {a b c d : Nat} (h1 : Nat.gcd a b = 1) (h2 : Nat.gcd c d = 1) (h : a * d = c * b) : a = c ∧ b = d := by
  have e1 : a ∣ c := Nat.Coprime.dvd_of_dvd_mul_right h1 (h ▸ Nat.dvd_mul_right a d)
  have e2 : c ∣ a := Nat.Coprime.dvd_of_dvd_mul_right h2 (h ▸ Nat.dvd_mul_right c b)
  have ea : a = c := Nat.dvd_antisymm e1 e2
  have e3 : b ∣ d := Nat.Coprime.dvd_of_dvd_mul_left (Nat.Coprime.symm h1) (h ▸ Nat.dvd_mul_left b c)
  have e4 : d ∣ b := Nat.Coprime.dvd_of_dvd_mul_left (Nat.Coprime.symm h2) (h ▸ Nat.dvd_mul_left d a)
  exact ⟨ea, Nat.dvd_antisymm e3 e4⟩
/-- the sign of a letter in the order of words: the end between l and r -/
def pc (b : Bool) : Nat := if b then 99 else 97
def plcL (u : List Bool) : List Nat := u.map pc ++ [98]
theorem pr_lt (u : List Bool) : ∀ v : List Bool, (pr u).1 * (pr v).2 < (pr v).1 * (pr u).2 ↔ plcL u < plcL v := by
  induction u with
  | nil =>
    intro v
    cases v with
    | nil => decide
    | cons c v =>
      have p := pr_pos v
      cases c <;> simp only [pr, plcL, pc, List.map_nil, List.nil_append, List.map_cons, List.cons_append, List.cons_lt_cons_iff, Bool.false_eq_true, if_false, if_true] <;> omega
  | cons b u ih =>
    intro v
    have q := pr_pos u
    cases v with
    | nil =>
      cases b <;> simp only [pr, plcL, pc, List.map_nil, List.nil_append, List.map_cons, List.cons_append, List.cons_lt_cons_iff, Bool.false_eq_true, if_false, if_true] <;> omega
    | cons c v =>
      have p := pr_pos v
      have ih := ih v
      have same : ∀ b : Bool, plcL (b :: u) < plcL (b :: v) ↔ plcL u < plcL v := fun b => by
        show pc b :: plcL u < pc b :: plcL v ↔ _
        rw [List.cons_lt_cons_iff]
        constructor
        · rintro (h | h)
          · omega
          · exact h.2
        · exact fun h => .inr ⟨rfl, h⟩
      have c1 : (pr u).1 * (pr v).1 = (pr v).1 * (pr u).1 := Nat.mul_comm _ _
      have c2 : (pr u).2 * (pr v).2 = (pr v).2 * (pr u).2 := Nat.mul_comm _ _
      have c3 : (pr u).1 * (pr v).2 = (pr v).2 * (pr u).1 := Nat.mul_comm _ _
      have c4 : (pr u).2 * (pr v).1 = (pr v).1 * (pr u).2 := Nat.mul_comm _ _
      have p1 : 0 < (pr v).1 * (pr u).2 := Nat.mul_pos p.1 q.2
      have p2 : 0 < (pr v).1 * (pr u).1 := Nat.mul_pos p.1 q.1
      cases b <;> cases c
      · rw [same, ← ih]; simp only [pr, Bool.false_eq_true, if_false, Nat.mul_add, Nat.add_mul]; omega
      · simp only [pr, plcL, pc, List.map_cons, List.cons_append, List.cons_lt_cons_iff, Bool.false_eq_true, if_false, if_true, Nat.mul_add, Nat.add_mul]; omega
      · simp only [pr, plcL, pc, List.map_cons, List.cons_append, List.cons_lt_cons_iff, Bool.false_eq_true, if_false, if_true, Nat.mul_add, Nat.add_mul]; omega
      · rw [same, ← ih]; simp only [pr, if_true, Nat.mul_add, Nat.add_mul]; omega
end Wd

/-! ## the law's own defs -/
namespace L4
def plc (u : List Bool) : Str := ⟨(plcL u).toArray⟩
def sp_place : Sp := fun vs H Q _ => ∃ u : List Bool, vs = [.str (enc u)] ∧ u.length ≤ 100000 ∧ ∀ H' : Hp, Same H H' → Q (.str (plc u)) H'
def sg (a b c d : Int) : List V := [.bl (r_eq a b c d), .bl (!r_eq a b c d), .bl (r_lt a b c d), .bl (r_le a b c d), .bl (r_gt a b c d), .bl (r_ge a b c d)]
def du (l r : Int) : List V := [.bl (decide (V.int l = V.int r)), .bl (!decide (V.int l = V.int r)), .bl (decide (l < r)), .bl (decide (l ≤ r)), .bl (decide (r < l)), .bl (decide (r ≤ l))]
def sp_signs (C : Addr) : Sp := fun vs H Q _ => ∃ (p q : Addr) (a b c d : Int), vs = [.ref p, .ref q] ∧ RatAt C H p a b ∧ RatAt C H q c d ∧ a.natAbs < 2 ^ 1000 ∧ b.natAbs < 2 ^ 1000 ∧ c.natAbs < 2 ^ 1000 ∧ d.natAbs < 2 ^ 1000 ∧
  ∀ (l : Addr) (H' : Hp), H l = none → Same H H' → H' l = some (.lst (sg a b c d)) → Q (.ref l) H'
def sp_due (K : PySem.W.Frag) : Sp := fun vs H Q _ => ∃ (p q : Addr) (a b c d : Int), vs = [.ref p, .ref q] ∧ H p = some (.tup [.int a, .int b]) ∧ H q = some (.tup [.int c, .int d]) ∧ a.natAbs < 2 ^ 1000 ∧ b.natAbs < 2 ^ 1000 ∧ c.natAbs < 2 ^ 1000 ∧ d.natAbs < 2 ^ 1000 ∧
  ∀ (l : Addr) (H' : Hp), H l = none → Same H H' → H' l = some (.lst (du (a * d) (c * b))) → Q (.ref l) H'
theorem el (b : Bool) : atI [V.str ("a" : Str), V.str ("c" : Str)] (if decide (V.str ⟨#[cd b]⟩ = V.str ("r" : Str)) = true then 1 else 0) = some (.str ⟨#[pc b]⟩) := by cases b <;> decide +kernel
theorem plc_add (u : List Bool) : (⟨(u.map pc).toArray⟩ : Str) ++ ("b" : Str) = plc u := by
  show (⟨(u.map pc).toArray ++ ("b" : Str).cps⟩ : Str) = _
  have e : ("b" : Str).cps = #[98] := by decide +kernel
  rw [e]
  simp [plc, plcL]
theorem dp6 {K : PySem.W.Frag} {H : Hp} {p : Addr} {a b c d e f : Bool} (h : H p = some (.lst [.bl a, .bl b, .bl c, .bl d, .bl e, .bl f])) : Dp K H (.ref p) (.list [.bool a, .bool b, .bool c, .bool d, .bool e, .bool f]) :=
  .lst (SqL.of h) (.cons (.bl _) (.cons (.bl _) (.cons (.bl _) (.cons (.bl _) (.cons (.bl _) (.cons (.bl _) .nil))))))
theorem sh6 : ∀ a b c d e f : Bool, (PyData.list [.bool a, .bool b, .bool c, .bool d, .bool e, .bool f]).showable = true ∧ (PyData.list [.bool a, .bool b, .bool c, .bool d, .bool e, .bool f]).hasDict = false ∧ (PyData.list [.bool a, .bool b, .bool c, .bool d, .bool e, .bool f]).depth ≤ 100 ∧ (PyData.list [.bool a, .bool b, .bool c, .bool d, .bool e, .bool f]).shown.length ≤ 1000 := by decide +kernel
theorem pr_small {u : List Bool} (h : u.length ≤ 900) : ((pr u).1 : Int).natAbs < 2 ^ 1000 ∧ ((pr u).2 : Int).natAbs < 2 ^ 1000 := by
  have q := pr_le u
  have p := pr_pos u
  have e : 2 ^ (u.length + 1) ≤ 2 ^ 1000 := Nat.pow_le_pow_right (by decide) (by omega)
  rw [Int.natAbs_natCast, Int.natAbs_natCast]
  omega
theorem pr_div (u : List Bool) : ((pr u).1 : Int) / ((Int.gcd ((pr u).1 : Int) ((pr u).2 : Int) : Nat) : Int) = (pr u).1 ∧ ((pr u).2 : Int) / ((Int.gcd ((pr u).1 : Int) ((pr u).2 : Int) : Nat) : Int) = (pr u).2 := by
  have e : Int.gcd ((pr u).1 : Int) ((pr u).2 : Int) = 1 := pr_cop u
  rw [e]
  simp
theorem plc_list (u : List Bool) : (plc u).cps.toList = plcL u := by simp [plc]
theorem nat_dec (a b : Nat) : decide ((a : Int) < (b : Int)) = decide (a < b) := by
  by_cases h : a < b
  · rw [decide_eq_true h, decide_eq_true (by omega : (a : Int) < (b : Int))]
  · rw [decide_eq_false h, decide_eq_false (by omega : ¬ (a : Int) < (b : Int))]
/-- what the comparisons tell is what the products tell -/
theorem sg_du (u v : List Bool) : sg (pr u).1 (pr u).2 (pr v).1 (pr v).2 = du ((pr u).1 * (pr v).2) ((pr v).1 * (pr u).2) := by
  have e : r_eq (pr u).1 (pr u).2 (pr v).1 (pr v).2 = decide (V.int ((pr u).1 * (pr v).2) = V.int ((pr v).1 * (pr u).2)) := by
    unfold r_eq
    by_cases h : ((pr u).1 : Int) * (pr v).2 = (pr v).1 * (pr u).2
    · have h' : (pr u).1 * (pr v).2 = (pr v).1 * (pr u).2 := by exact_mod_cast h
      obtain ⟨h1, h2⟩ := cross_eq (pr_cop u) (pr_cop v) h'
      rw [h, h1, h2]
      simp
    · rw [decide_eq_false (p := V.int _ = V.int _) fun z => h (V.int.inj z)]
      rw [Bool.eq_false_iff]
      intro z
      rw [Bool.and_eq_true] at z
      have z1 := V.int.inj (of_decide_eq_true z.1)
      have z2 := V.int.inj (of_decide_eq_true z.2)
      exact h (by rw [z1, z2])
  unfold sg du
  rw [e]
  rfl
theorem lt_place (u v : List Bool) : r_lt (pr u).1 (pr u).2 (pr v).1 (pr v).2 = decide (plcL u < plcL v) := by
  unfold r_lt
  rw [← Int.natCast_mul, ← Int.natCast_mul, nat_dec]
  exact decide_eq_decide.mpr (pr_lt u v)
def sp_law (K : PySem.W.Frag) : Sp := fun vs H Q _ => ∃ (a : Addr) (ns : List Int), vs = [.ref a] ∧ SqL K H a (ns.map V.int) ∧ ns.length ≤ 63 ∧ ∀ H', Q (.bl true) H'
end L4
open L4
section
variable {P : Program} {w : World} {K : PySem.W.Frag} {mg : Str → Option Value} {base : Heap}
theorem ok_due {f : Addr} {fd : FuncData} (F : Fun K "_law_due" "_law_due" S__law_due f fd) (T : Txt K mg) : FnOk P w K mg base CX0 1 f fd ["_law_first", "_law_second"] (sp_due K) := by
  refine F.ok SC__law_due (fun vs H Q E h => ?_) (fun cdv A outer s H vs Q E hr h => ?_)
  · obtain ⟨p, q, a, b, c, d, rfl, _⟩ := h
    rfl
  · obtain ⟨p, q, a, b, c, d, rfl, hp, hq, a1, b1, c1, d1, k⟩ := h
    refine ⟨_, (pss_cons (ps_par (i := 2) (j := 3) (by rfl) SC__law_due.nd rfl rfl (by decide) rfl rfl (pa_cons (pe_op op_mulW (pe_ix ix_tup (pv 0) pe_int (fun _ _ => rfl)) (pe_ix ix_tup (pv 1) pe_int (fun _ _ => rfl))) (pa_cons (pe_op op_mulW (pe_ix ix_tup (pv 1) pe_int (fun _ _ => rfl)) (pe_ix ix_tup (pv 0) pe_int (fun _ _ => rfl))) pa_nil)) (by rfl))
      (pss_one (ps_ret (pe_lst (pa_cons (pe_cmpR op_eq (pv 2) (pv 3) (nomark _)) (pa_cons (pe_cmpR op_ne (pv 2) (pv 3) (nomark _)) (pa_cons (pe_cmpR op_lt (pv 2) (pv 3) (nomark _)) (pa_cons (pe_cmpR op_le (pv 2) (pv 3) (nomark _)) (pa_cons (pe_cmpR op_gt (pv 2) (pv 3) (nomark _)) (pa_cons (pe_cmpR op_ge (pv 2) (pv 3) (nomark _)) pa_nil)))))))))), ?_⟩
    refine ⟨_, rfl, p, _, 0, _, rfl, rfl, SqT.of hp, rfl, _, rfl, q, _, 1, _, rfl, rfl, SqT.of hq, rfl, _, _, rfl, rfl, wm a1 d1, _, rfl, q, _, 0, _, rfl, rfl, SqT.of hq, rfl, _, rfl, p, _, 1, _, rfl, rfl, SqT.of hp, rfl, _, _, rfl, rfl, wm c1 b1, _, _, rfl, ?_⟩
    walk_at "kb"
    exact (fun l hl => k l _ hl (fun a o e => by rw [upd_ne (ne_of_none e hl)]; exact e) upd_same)
theorem ok_place {f : Addr} {fd : FuncData} (F : Fun K "_law_place" "_law_place" S__law_place f fd) (T : Txt K mg) : FnOk P w K mg base CX0 1 f fd ["_law_word_here"] sp_place := by
  refine F.ok SC__law_place (fun vs H Q E h => ?_) (fun cdv A outer s H vs Q E hr h => ?_)
  · obtain ⟨u, rfl, _⟩ := h
    rfl
  · obtain ⟨u, rfl, hu, k⟩ := h
    refine ⟨_, (pss_one (ps_ret (pe_op op_add_str (pe_join pe_str (pe_lc (own := [("_law_letter", 1)]) (g := gName 1) (by rfl) SC__law_place.nd (pi_str (pv 0)) (blkOk_by (own := [("_law_letter", 1)]) (N := N__law_place) (sc := defScope S__law_place) (by decide +kernel)) (fun _ _ _ _ _ => pg_name (i := 1) SC__law_place.nd rfl (Or.inl rfl)) (fun _ _ _ _ _ => pts_nil) (fun _ _ _ _ _ => (pe_ix (ix_listK (K := K) rfl) (pe_lst (pa_cons pe_str (pa_cons pe_str pa_nil))) (pe_callTy call_intB (by rfl) T.b_int (by decide +kernel) (pa_cons (pe_cmpR op_eq (pv 1) pe_str (nomark _)) pa_nil)) (fun _ _ => rfl))))) pe_str))), ?_⟩
    walk_at "kb"
    intro D hD
    refine lcR_str (z := enc u) (fun i H' => (∀ b o, b ≠ D → H b = some o → H' b = some o) ∧ H' D = some (.lst ((u.take i).map fun b => V.str ⟨#[pc b]⟩))) ⟨fun b o n e => by rw [upd_ne n]; exact e, upd_same⟩ (fun i c H1 hi hc m => ?_) (gName_mono _) (fun H1 m => ?_)
    · obtain ⟨kp, hH⟩ := m
      obtain ⟨b, hb, rfl⟩ := enc_at hc
      have hlt := (List.getElem?_eq_some_iff.mp hb).1
      refine ⟨rfl, ?_⟩
      refine ⟨by show 2 ≤ sizeLine; decide, fun l hl => ?_⟩
      walk_at "kb"
      refine ⟨l, _, _, _, rfl, rfl, SqL.of upd_same, el b, ?_⟩
      have nDl : D ≠ l := ne_of_none hH hl
      refine ⟨_, by rw [upd_ne nDl]; exact hH, by rw [List.length_map, List.length_take]; exact szs (by omega), fun x o n e => ?_, ?_⟩
      · rw [upd_ne n, upd_ne (ne_of_none (kp x o n e) hl)]; exact kp x o n e
      · rw [upd_same, List.take_succ, hb, List.map_append]; rfl
    · obtain ⟨kp, hH⟩ := m
      have hz : (enc u).cps.size = u.length := enc_len u
      rw [hz, List.take_length] at hH
      refine ⟨_, _, (u.map pc).map fun c => (⟨#[c]⟩ : Str), rfl, rfl, .inl (SqL.of (by rw [List.map_map, List.map_map]; exact hH)), by rw [sum_chars, empty_len, List.length_map]; omega, ?_⟩
      rw [join_chars]
      walk_at "kb"
      refine ⟨by show (u.map pc).toArray.size + 1 ≤ sizeLine; rw [List.size_toArray, List.length_map]; exact szl (by omega), ?_⟩
      rw [plc_add]
      exact k H1 fun x o e => kp x o (ne_of_none e hD) e
theorem ok_signs {f C : Addr} {fd : FuncData} (F : Fun K "_law_signs" "_law_signs" S__law_signs f fd) (T : Txt K mg) (R : RatT K mg C)
    (M_eq : MtC P w K mg base CX0 1 C "__eq__" ["self", "other"] (sp_cmp C r_eq)) (M_lt : MtC P w K mg base CX0 1 C "__lt__" ["self", "other"] (sp_cmp C r_lt)) (M_le : MtC P w K mg base CX0 1 C "__le__" ["self", "other"] (sp_cmp C r_le))
    (M_gt : MtC P w K mg base CX0 1 C "__gt__" ["self", "other"] (sp_cmp C r_gt)) (M_ge : MtC P w K mg base CX0 1 C "__ge__" ["self", "other"] (sp_cmp C r_ge)) : FnOk P w K mg base CX0 3 f fd ["_law_one", "_law_other"] (sp_signs C) := by
  refine F.ok SC__law_signs (fun vs H Q E h => ?_) (fun cdv A outer s H vs Q E hr h => ?_)
  · obtain ⟨p, q, a, b, c, d, rfl, _⟩ := h
    rfl
  · obtain ⟨p, q, a, b, c, d, rfl, ⟨dx, hp⟩, ⟨dy, hq⟩, a1, b1, c1, d1, k⟩ := h
    have hr1 : Room 1 _ := hr.mono (by decide)
    have own : ∀ r : Int → Int → Int → Int → Bool, ∀ Q : VK, Q (.bl (r a b c d)) H → sp_cmp C r [.ref p, .ref q] H Q E0 := fun r Q z => ⟨p, q, a, b, c, d, rfl, ⟨dx, hp⟩, ⟨dy, hq⟩, a1, b1, c1, d1, z⟩
    refine ⟨_, (pss_one (ps_ret (pe_lst (pa_cons (pe_cmpR (op_ownI (op := .Eq) (fun _ _ => rfl) M_eq hr1) (pv 0) (pv 1) (nomark _)) (pa_cons (pe_cmpR (op_neI M_eq R.ne R.so (hr.mono (by decide))) (pv 0) (pv 1) (nomark _)) (pa_cons (pe_cmpR (op_ownI (op := .Lt) (fun _ _ => rfl) M_lt hr1) (pv 0) (pv 1) (nomark _)) (pa_cons (pe_cmpR (op_ownI (op := .LtE) (fun _ _ => rfl) M_le hr1) (pv 0) (pv 1) (nomark _)) (pa_cons (pe_cmpR (op_ownI (op := .Gt) (fun _ _ => rfl) M_gt hr1) (pv 0) (pv 1) (nomark _)) (pa_cons (pe_cmpR (op_ownI (op := .GtE) (fun _ _ => rfl) M_ge hr1) (pv 0) (pv 1) (nomark _)) pa_nil))))))))), ?_⟩
    refine ⟨_, rfl, _, rfl, p, dx, _, _, rfl, hp, R.ty hq, R.nf, own r_eq _ ?_⟩
    refine ⟨_, rfl, _, rfl, p, dx, _, _, rfl, hp, R.ty hq, R.nf, own r_eq _ ⟨_, rfl, ?_⟩⟩
    refine ⟨_, rfl, _, rfl, p, dx, _, _, rfl, hp, R.ty hq, R.nf, own r_lt _ ?_⟩
    refine ⟨_, rfl, _, rfl, p, dx, _, _, rfl, hp, R.ty hq, R.nf, own r_le _ ?_⟩
    refine ⟨_, rfl, _, rfl, p, dx, _, _, rfl, hp, R.ty hq, R.nf, own r_gt _ ?_⟩
    refine ⟨_, rfl, _, rfl, p, dx, _, _, rfl, hp, R.ty hq, R.nf, own r_ge _ ?_⟩
    exact ⟨by show 6 ≤ sizeLine; decide, fun l hl => k l _ hl (fun a o e => by rw [upd_ne (ne_of_none e hl)]; exact e) upd_same⟩
theorem ok_law {f C : Addr} {fd : FuncData} (F : Fun K "law" "law" S_law f fd) (T : Txt K mg) (R : RatT K mg C) (C_box : FnC P w K mg base CX0 1 "_law_box" ["_law_script", "_law_k", "_law_own"] (sp_box K)) (C_take : FnC P w K mg base CX0 1 "_law_take" ["_law_box_here", "_law_many"] sp_take)
    (C_drawn : FnC P w K mg base CX0 3 "_law_drawn_word" ["_law_box_here", "_law_most"] sp_drawn) (C_pair : FnC P w K mg base CX0 1 "_law_pair" ["_law_word_here"] sp_pair) (C_ratio : MkC P w K mg base CX0 3 C "Ratio" ["self", "first", "second"] (sp_init C))
    (C_due : FnC P w K mg base CX0 1 "_law_due" ["_law_first", "_law_second"] (sp_due K)) (C_signs : FnC P w K mg base CX0 3 "_law_signs" ["_law_one", "_law_other"] (sp_signs C)) (C_place : FnC P w K mg base CX0 1 "_law_place" ["_law_word_here"] sp_place)
    (M_lt : MtC P w K mg base CX0 1 C "__lt__" ["self", "other"] (sp_cmp C r_lt)) : FnOkG P w K mg base CX0 5 f fd ["_law_script"] (sp_law K) := by
  refine okG F SC_law (fun vs H Q E h => ?_) (fun cdv A outer s H vs Q E hgd hr h => ?_)
  · obtain ⟨a, ns, rfl, _⟩ := h
    rfl
  · obtain ⟨a, ns, rfl, hS, hlen, q⟩ := h
    have hr1 : Room 1 _ := hr.mono (by decide)
    refine ⟨_, PSs.nox ((pss_cons (ps_for PassesOwn.never rfl (pi_range1 (by rfl) T.b_range (pa_cons (pe_callB (call_max2 rfl) (by rfl) T.b_max (by decide +kernel) (pa_cons pe_int (pa_cons (pe_callB (call_min2 rfl) (by rfl) T.b_min (by decide +kernel) (pa_cons pe_int (pa_cons (pe_callB call_len_seq (by rfl) T.b_len (by decide +kernel) (pa_cons (pv 0) pa_nil)) pa_nil))) pa_nil))) pa_nil)) (pg_name (i := 1) SC_law.nd rfl (.inl rfl)) (pss_cons (ps_set (i := 2) SC_law.nd rfl (.inl rfl) (pe_callC C_box (hr.mono (by decide)) rfl (pa_cons (pv 0) (pa_cons (pv 1) (pa_cons pe_int pa_nil)))))
      (pss_cons (ps_set (i := 3) SC_law.nd rfl (.inl rfl) (pe_callC C_drawn (hr.mono (by decide)) rfl (pa_cons (pv 2) (pa_cons pe_int pa_nil))))
      (pss_cons (ps_set (i := 4) SC_law.nd rfl (.inl rfl) (pe_lst (pa_cons (pv 3) (pa_cons (pv 3) (pa_cons (pe_op op_add_str (pv 3) (pe_callC C_drawn (hr.mono (by decide)) rfl (pa_cons (pv 2) (pa_cons pe_int pa_nil)))) (pa_cons (pe_op op_add_str (pv 3) pe_str) (pa_cons (pe_callC C_drawn (hr.mono (by decide)) rfl (pa_cons (pv 2) (pa_cons pe_int pa_nil))) pa_nil)))))))
      (pss_cons (ps_set (i := 5) SC_law.nd rfl (.inl rfl) (pe_callC C_take (hr.mono (by decide)) rfl (pa_cons (pv 2) (pa_cons (pe_op op_add (pe_callB call_len_str (by rfl) T.b_len (by decide +kernel) (pa_cons (pv 3) pa_nil)) pe_int) pa_nil))))
      (pss_cons (ps_expr (pe_bm PySem.F.plainAttrs_list PySem.F.slot_list_extend PySem.F.type_list_extend mt_extend (pv 4) (pa_cons (pe_lst (pa_cons (pe_slice sl_str (pv 3) po_none (po_some (pv 5))) (pa_cons (pe_op op_add_str (pe_op op_add_str (pe_slice sl_str (pv 3) po_none (po_some (pv 5))) pe_str) (pe_callC C_drawn (hr.mono (by decide)) rfl (pa_cons (pv 2) (pa_cons pe_int pa_nil)))) pa_nil))) pa_nil)))
      (pss_cons (ps_expr (pe_bm PySem.F.plainAttrs_list PySem.F.slot_list_append PySem.F.type_list_append mt_append (pv 4) (pa_cons (pe_op op_add_str (pe_op op_add_str (pe_slice sl_str (pv 3) po_none (po_some (pv 5))) pe_str) (pe_op op_mul_str pe_str (pv 5))) pa_nil)))
      (pss_cons (ps_setLc (i := 6) (own := [("_law_one", 8)]) (g := gName 8) (by rfl) SC_law.nd rfl rfl (sw_true rfl rfl rfl (by decide +kernel)) (pi_list (pv 4)) (blkOk_by (own := [("_law_one", 8)]) (N := N_law) (sc := defScope S_law) (by decide +kernel)) (fun _ _ _ _ _ => pg_name (i := 8) SC_law.nd rfl (Or.inl rfl)) (fun _ _ _ _ _ => pts_nil) (fun _ _ _ _ _ => (pe_callC C_pair (hr.mono (by decide)) rfl (pa_cons (pv 8) pa_nil))))
      (pss_cons (ps_setLc (i := 7) (own := [("_law_pair_here", 14)]) (g := gName 14) (by rfl) SC_law.nd rfl rfl (sw_true rfl rfl rfl (by decide +kernel)) (pi_list (pv 6)) (blkOk_by (own := [("_law_pair_here", 14)]) (N := N_law) (sc := defScope S_law) (by decide +kernel)) (fun _ _ _ _ _ => pg_name (i := 14) SC_law.nd rfl (Or.inl rfl)) (fun _ _ _ _ _ => pts_nil) (fun _ _ _ _ _ => (pe_makeC C_ratio (hr.mono (by decide)) rfl (pa_cons (pe_ix (ix_tupK (K := K) rfl) (pv 14) pe_int (fun _ _ => rfl)) (pa_cons (pe_ix (ix_tupK (K := K) rfl) (pv 14) pe_int (fun _ _ => rfl)) pa_nil)))))
      (pss_one (ps_for PassesOwn.never rfl (pi_enum (by rfl) T.b_enumerate (pa_cons (pv 7) pa_nil)) (pg_tup rfl (pgs_cons (pg_name (i := 8) SC_law.nd rfl (.inl rfl)) (pgs_cons (pg_name (i := 9) SC_law.nd rfl (.inl rfl)) pgs_nil))) (pss_one (ps_for PassesOwn.never rfl (pi_enum (by rfl) T.b_enumerate (pa_cons (pv 7) pa_nil)) (pg_tup rfl (pgs_cons (pg_name (i := 10) SC_law.nd rfl (.inl rfl)) (pgs_cons (pg_name (i := 11) SC_law.nd rfl (.inl rfl)) pgs_nil))) (pss_cons (ps_set (i := 12) SC_law.nd rfl (.inl rfl) (pe_callC C_due (hr.mono (by decide)) rfl (pa_cons (pe_ix ix_list (pv 6) (pv 8) (fun _ _ => rfl)) (pa_cons (pe_ix ix_list (pv 6) (pv 10) (fun _ _ => rfl)) pa_nil))))
      (pss_cons (ps_if (pt_cmpR op_ne (pe_callB (call_reprD hgd hr) (by rfl) T.b_repr (by decide +kernel) (pa_cons (pe_callC C_signs (hr.mono (by decide)) rfl (pa_cons (pv 9) (pa_cons (pv 11) pa_nil))) pa_nil)) (pe_callB (call_reprD hgd hr) (by rfl) T.b_repr (by decide +kernel) (pa_cons (pv 12) pa_nil)) (nomark _)) (pss_one (ps_ret pe_bl)) pss_nil)
      (pss_cons (ps_set (i := 13) SC_law.nd rfl (.inl rfl) (pe_cmpR op_lt_str (pe_callC C_place (hr.mono (by decide)) rfl (pa_cons (pe_ix ix_list (pv 4) (pv 8) (fun _ _ => rfl)) pa_nil)) (pe_callC C_place (hr.mono (by decide)) rfl (pa_cons (pe_ix ix_list (pv 4) (pv 10) (fun _ _ => rfl)) pa_nil)) (nomark _)))
      (pss_one (ps_if (pt_cmpR op_ne (pe_cmpR (op_ownI (op := .Lt) (fun _ _ => rfl) M_lt hr1) (pv 9) (pv 11) (nomark _)) (pv 13) (nomark _)) (pss_one (ps_ret pe_bl)) pss_nil))))))))))))))))))
      (pss_one (ps_ret pe_bl)))), ?_⟩
    walk_at "kb"
    refine for_range (lo := 0) (fun i σ H' => Same H H' ∧ ∃ y1 y2 y3 y4 y5 y6 y7 y8 y9 y10 y11 y12 y13 y14 : Option V, σ = [some (.ref a), y1, y2, y3, y4, y5, y6, y7, y8, y9, y10, y11, y12, y13, y14])
      ⟨Same.refl H, none, none, none, none, none, none, none, none, none, none, none, none, none, none, rfl⟩ (fun i σ H1 hi hP => ?_) (fun σ H1 hP => q H1)
    obtain ⟨sm, y1, y2, y3, y4, y5, y6, y7, y8, y9, y10, y11, y12, y13, y14, rfl⟩ := hP
    walk_at "kb"
    refine ⟨a, ns, _, _, rfl, sm.seq hS, hlen, by omega, by decide, fun B H2 hB sm2 hb2 => ?_⟩
    walk_at "kb"
    intro u H3 hu kp3 hb3
    have l0 := enc_len u
    walk_at "kb"
    intro u1 H4 hu1 kp4 hb4
    have l1 := enc_len u1
    rw [lit_lr]
    have l2 := enc_len [false, true]
    walk_at "kb"
    intro u2 H5 hu2 kp5 hb5
    have l3 := enc_len u2
    walk_at "kb"
    intro W hW
    have hbW := hb5.new (o := .lst [.str (enc u), .str (enc u), .str (enc u ++ enc u1), .str (enc u ++ enc [false, true]), .str (enc u2)]) hW
    have hWB : W ≠ B := hb5.ne hW
    walk_at "kb"
    intro at_ H6 a0 a1 kp6 hb6
    have hW6 := kp6 W _ hWB upd_same
    walk_at "kb"
    refine And.intro (.inl ⟨rfl, _, SqL.of hW6⟩) ?_
    walk_at "kb"
    rw [enc_take u a0, lit_l]
    walk_at "kb"
    have l4 : (enc [false]).length = 1 := enc_len [false]
    intro u3 H7 hu3 kp7 hb7
    rw [enc_app]
    walk_at "kb"
    intro Z hZ
    have hW7 := kp7 W _ hWB hW6
    have hWZ : W ≠ Z := ne_of_none hW7 hZ
    refine ⟨W, Z, _, _, rfl, rfl, by rw [upd_ne hWZ]; exact hW7, upd_same, by show 5 + 2 ≤ sizeLine; decide, ?_⟩
    walk_at "kb"
    refine And.intro (.inl ⟨rfl, _, SqL.of upd_same⟩) ?_
    walk_at "kb"
    rw [enc_take u a0, lit_r]
    walk_at "kb"
    refine ⟨by rw [l4]; omega, ?_⟩
    rw [enc_rep, enc_app]
    walk_at "kb"
    rw [enc_app]
    refine ⟨W, _, _, rfl, rfl, upd_same, by show 5 + 2 < sizeLine; decide, ?_⟩
    -- the words
    obtain ⟨us, hus⟩ : ∃ us : List (List Bool), us = [u, u, u ++ u1, u ++ [false, true], u2, u.take at_.toNat, u.take at_.toNat ++ [false] ++ u3, u.take at_.toNat ++ [true] ++ List.replicate at_.toNat false] := ⟨_, rfl⟩
    have hlen8 : us.length = 8 := by rw [hus]; rfl
    have hat : at_.toNat ≤ 60 := by omega
    have hsm : ∀ v ∈ us, v.length ≤ 300 := by
      have ht : (u.take at_.toNat).length ≤ u.length := by rw [List.length_take]; omega
      rw [hus]
      intro v hv
      simp only [List.mem_cons, List.not_mem_nil, or_false] at hv
      rcases hv with rfl | rfl | rfl | rfl | rfl | rfl | rfl | rfl <;> (try simp only [List.length_append, List.length_cons, List.length_nil, List.length_replicate]) <;> omega
    have sA : ∀ x o, H x = some o → x ≠ B ∧ H5 x = some o := fun x o e =>
      have e1 := sm x o e
      have n := ne_of_none e1 hB
      ⟨n, kp5 x o n (kp4 x o n (kp3 x o n (sm2 x o e1)))⟩
    have sB : ∀ x o, H x = some o → x ≠ W ∧ H7 x = some o := fun x o e =>
      have n := ne_of_none (sA x o e).2 hW
      ⟨n, kp7 x o (sA x o e).1 (kp6 x o (sA x o e).1 (by rw [upd_ne n]; exact (sA x o e).2))⟩
    walk_at "kb"
    refine ⟨⟨_, SqL.of upd_same⟩, fun D hD => ?_⟩
    refine comp_objs (xs := us.map fun v => V.str (enc v)) (fun j H' p => ∀ v, us[j]? = some v → H' p = some (.tup [.int (pr v).1, .int (pr v).2])) (by rw [List.length_map]; omega)
      (fun j H H' p ys hDl kp hF v hv => kp p _ (fun e => by have := hF v hv; rw [e, hDl] at this; cases this) (hF v hv))
      (SqL.of (by rw [upd_same, hus]; simp only [enc_app]; rfl)) hD (gName_mono _) (fun j x H' k hx kp hys cont => ?_) (fun ps H9 hps kp9 hD9 hF => ?_)
    · obtain ⟨v, hv, rfl⟩ : ∃ v, us[j]? = some v ∧ x = V.str (enc v) := by
        rw [List.getElem?_map] at hx
        cases e : us[j]? with
        | none => rw [e] at hx; cases hx
        | some v => rw [e] at hx; exact ⟨v, rfl, (Option.some.inj hx).symm⟩
      have hvl := hsm v (List.mem_of_getElem? hv)
      exact ⟨rfl, _, rfl, v, rfl, by omega, fun p H4 _ sm4 h4 => cont p H4 sm4 fun v' hv' => by rw [hv] at hv'; cases hv'; exact h4⟩
    rw [List.length_map, hlen8] at hps
    have hWD : W ≠ D := ne_of_none upd_same hD
    have hW9 := kp9 W _ hWD upd_same
    have hW9 : H9 W = some (.lst (us.map fun v => V.str (enc v))) := by rw [hW9, hus]; simp only [enc_app]; rfl
    have sC : Same H H9 := fun x o e => by
      have b := sB x o e
      have nZ := ne_of_none b.2 hZ
      have e2 : ∀ l1 l2 l3, (upd (upd (upd H7 Z l1) W l2) W l3) x = some o := fun l1 l2 l3 => by rw [upd_ne b.1, upd_ne b.1, upd_ne nZ]; exact b.2
      exact kp9 x o (ne_of_none (e2 _ _ _) hD) (e2 _ _ _)
    -- the ratios
    walk_at "kb"
    refine ⟨⟨_, SqL.of hD9⟩, fun G hG => ?_⟩
    refine comp_objs (xs := ps.map V.ref) (fun j H' p => ∀ v, us[j]? = some v → RatAt C H' p (pr v).1 (pr v).2) (by rw [List.length_map]; omega)
      (fun j H H' p ys hGl kp hF v hv => by
        obtain ⟨dx, h⟩ := hF v hv
        exact ⟨dx, kp p _ (fun e => by rw [e, hGl] at h; cases h) h⟩)
      (SqL.of hD9) hG (gName_mono _) (fun j x H' k hx kp hys cont => ?_) (fun rs H10 hrs kp10 hG10 hR => ?_)
    · obtain ⟨p, hp, rfl⟩ : ∃ p, ps[j]? = some p ∧ x = V.ref p := by
        rw [List.getElem?_map] at hx
        cases e : ps[j]? with
        | none => rw [e] at hx; cases hx
        | some v => rw [e] at hx; exact ⟨v, rfl, (Option.some.inj hx).symm⟩
      have hj : j < us.length := by have := (List.getElem?_eq_some_iff.mp hp).1; omega
      have hv : us[j]? = some us[j] := List.getElem?_eq_getElem hj
      generalize us[j] = v at hv
      have hvl := hsm v (List.mem_of_getElem? hv)
      have hpt := hF j p hp v hv
      have hpG : p ≠ G := ne_of_none hpt hG
      have hpt' := kp p _ hpG hpt
      have ps0 := pr_pos v
      have sml := pr_small (u := v) (by omega)
      refine ⟨rfl, _, rfl, p, _, 0, _, rfl, rfl, SqT.of hpt', rfl, _, rfl, p, _, 1, _, rfl, rfl, SqT.of hpt', rfl, fun r dx hr hdx hne => ?_⟩
      have hdr : r ≠ dx := fun e => hne e.symm
      refine ⟨r, dx, _, _, rfl, by omega, by omega, sml.1, sml.2, upd_same, fun H4 k4 hR4 => ⟨rfl, ?_⟩⟩
      refine cont r H4 (fun b o e => k4 b o (ne_of_none e hr) (by rw [upd_ne (ne_of_none e hr), upd_ne (ne_of_none e hdx)]; exact e)) fun v' hv' => ?_
      rw [hv] at hv'; cases hv'
      rw [(pr_div v).1, (pr_div v).2] at hR4
      exact hR4
    rw [List.length_map, hps] at hrs
    have hW10 := kp10 W _ (ne_of_none hW9 hG) hW9
    have hD10 := kp10 D _ (ne_of_none hD9 hG) hD9
    have hF10 : ∀ (j : Nat) p, ps[j]? = some p → ∀ v, us[j]? = some v → H10 p = some (.tup [.int (pr v).1, .int (pr v).2]) := fun j p hp v hv => kp10 p _ (ne_of_none (hF j p hp v hv) hG) (hF j p hp v hv)
    have sD : Same H H10 := fun x o e => kp10 x o (ne_of_none (sC x o e) hG) (sC x o e)
    -- each two of them
    walk_at "kb"
    have hu8 : ∀ j, j < 8 → ∃ v p r, us[j]? = some v ∧ ps[j]? = some p ∧ rs[j]? = some r ∧ v.length ≤ 300 := fun j hj =>
      ⟨_, _, _, List.getElem?_eq_getElem (by omega : j < us.length), List.getElem?_eq_getElem (by omega : j < ps.length), List.getElem?_eq_getElem (by omega : j < rs.length), hsm _ (List.getElem_mem _)⟩
    have hmap : ∀ (l : List Addr) (j : Nat) p, l[j]? = some p → (l.map V.ref)[j]? = some (V.ref p) := fun l j p h => by rw [List.getElem?_map, h]; rfl
    have hrl : (rs.map V.ref).length = 8 := by rw [List.length_map, hrs]
    refine ⟨G, _, rfl, SqL.of hG10, for_it walk_enum (fun _ σ H' => Same H10 H' ∧ ∃ z8 z9 z10 z11 z12 z13 : Option V, σ = [some (.ref a), some (.int (0 + (i : Int))), some (.ref B), some (.str (enc u)), some (.ref W), some (.int at_), some (.ref D), some (.ref G), z8, z9, z10, z11, z12, z13, y14])
      ⟨Same.refl _, _, _, _, _, _, _, rfl⟩ (fun _ _ H' _ m => m.1.seq (SqL.of hG10)) (fun i1 x σ H11 H12 hi1 hP hY => ?_) (fun σ H11 hP => ?_)⟩
    · obtain ⟨s11, z8, z9, z10, z11, z12, z13, rfl⟩ := hP
      obtain ⟨T1, X1, Y1, rfl, hT1, rfl, eX, eY⟩ := hY
      cases (show X1 = V.int (i1 : Nat) from (Option.some.inj eX).symm)
      rw [hrl] at hi1
      obtain ⟨v1, p1, r1, hv1, hp1, hr1', hl1⟩ := hu8 i1 hi1
      have eY' : (rs.map V.ref)[i1]? = some Y1 := eY
      rw [hmap rs i1 r1 hr1'] at eY'
      cases eY'
      refine ⟨T1, _, rfl, SqT.of upd_same, rfl, _, _, rfl, _, _, rfl, rfl, ?_⟩
      have s12 : Same H10 (upd H11 T1 (.tup [.int (i1 : Nat), .ref r1])) := fun b o e => by rw [upd_ne (ne_of_none (s11 b o e) hT1)]; exact s11 b o e
      walk_at "kb"
      refine ⟨G, _, rfl, s12.seq (SqL.of hG10), for_it walk_enum (fun _ σ H' => Same H10 H' ∧ ∃ z10 z11 z12 z13 : Option V, σ = [some (.ref a), some (.int (0 + (i : Int))), some (.ref B), some (.str (enc u)), some (.ref W), some (.int at_), some (.ref D), some (.ref G), some (.int (i1 : Nat)), some (.ref r1), z10, z11, z12, z13, y14])
        ⟨s12, _, _, _, _, rfl⟩ (fun _ _ H' _ m => m.1.seq (SqL.of hG10)) (fun i2 x σ H13 H14 hi2 hP hY => ?_) (fun σ H13 hP => ?_)⟩
      · obtain ⟨s13, z10, z11, z12, z13, rfl⟩ := hP
        obtain ⟨T2, X2, Y2, rfl, hT2, rfl, eX, eY⟩ := hY
        cases (show X2 = V.int (i2 : Nat) from (Option.some.inj eX).symm)
        rw [hrl] at hi2
        obtain ⟨v2, p2, r2, hv2, hp2, hr2, hl2⟩ := hu8 i2 hi2
        have eY' : (rs.map V.ref)[i2]? = some Y2 := eY
        rw [hmap rs i2 r2 hr2] at eY'
        cases eY'
        refine ⟨T2, _, rfl, SqT.of upd_same, rfl, _, _, rfl, _, _, rfl, rfl, ?_⟩
        have s14 : Same H10 (upd H13 T2 (.tup [.int (i2 : Nat), .ref r2])) := fun b o e => by rw [upd_ne (ne_of_none (s13 b o e) hT2)]; exact s13 b o e
        generalize upd H13 T2 (.tup [.int (i2 : Nat), .ref r2]) = H15 at s14 ⊢
        have hD15 : SqL K H15 D (ps.map V.ref) := SqL.of (s14 _ _ hD10)
        have hW15 : SqL K H15 W (us.map fun v => V.str (enc v)) := SqL.of (s14 _ _ hW10)
        have sm1 := pr_small (u := v1) (by omega)
        have sm2' := pr_small (u := v2) (by omega)
        have R1 := (hR i1 r1 hr1' v1 hv1).same s14
        have R2 := (hR i2 r2 hr2 v2 hv2).same s14
        walk_at "kb"
        refine ⟨D, _, _, _, rfl, rfl, hD15, atI_nat (hmap ps i1 p1 hp1), _, rfl, _, rfl, D, _, _, _, rfl, rfl, hD15, atI_nat (hmap ps i2 p2 hp2), ?_⟩
        refine ⟨p1, p2, _, _, _, _, rfl, s14 _ _ (hF10 i1 p1 hp1 v1 hv1), s14 _ _ (hF10 i2 p2 hp2 v2 hv2), sm1.1, sm1.2, sm2'.1, sm2'.2, fun L H16 hL s16 hL16 => ?_⟩
        walk_at "kb"
        refine ⟨r1, r2, _, _, _, _, rfl, R1.same s16, R2.same s16, sm1.1, sm1.2, sm2'.1, sm2'.2, fun L2 H17 hL2 s17 hL17 => ?_⟩
        have d1 := dp6 (K := K) hL17
        have e1 := sh6 (r_eq (pr v1).1 (pr v1).2 (pr v2).1 (pr v2).2) (!r_eq (pr v1).1 (pr v1).2 (pr v2).1 (pr v2).2) (r_lt (pr v1).1 (pr v1).2 (pr v2).1 (pr v2).2) (r_le (pr v1).1 (pr v1).2 (pr v2).1 (pr v2).2) (r_gt (pr v1).1 (pr v1).2 (pr v2).1 (pr v2).2) (r_ge (pr v1).1 (pr v1).2 (pr v2).1 (pr v2).2)
        rw [← sg_du] at hL16
        have d2 := dp6 (K := K) (s17 _ _ hL16)
        refine ⟨_, _, rfl, d1, e1.1, e1.2.1, e1.2.2.1, szl (Nat.le_trans e1.2.2.2 (by decide)), ?_⟩
        refine ⟨_, rfl, _, _, rfl, d2, e1.1, e1.2.1, e1.2.2.1, szl (Nat.le_trans e1.2.2.2 (by decide)), ?_⟩
        refine ⟨rfl, _, rfl, iteNS rfl ?_⟩
        have s18 : Same H15 H17 := s16.trans s17
        have hW17 : SqL K H17 W (us.map fun v => V.str (enc v)) := s18.seq hW15
        have hmu : ∀ (j : Nat) v, us[j]? = some v → (us.map fun v => V.str (enc v))[j]? = some (V.str (enc v)) := fun j v h => by rw [List.getElem?_map, h]; rfl
        refine ⟨_, rfl, _, rfl, W, _, _, _, rfl, rfl, hW17, atI_nat (hmu i1 v1 hv1), v1, rfl, by omega, fun H18 s19 => ?_⟩
        refine ⟨_, rfl, _, rfl, W, _, _, _, rfl, rfl, s19.seq hW17, atI_nat (hmu i2 v2 hv2), v2, rfl, by omega, fun H19 s20 => ?_⟩
        refine ⟨_, _, rfl, rfl, ?_⟩
        have R1' := R1.same (s18.trans (s19.trans s20))
        have R2' := R2.same (s18.trans (s19.trans s20))
        obtain ⟨dx, hx⟩ := R1'
        obtain ⟨dy, hy⟩ := R2'
        refine ⟨_, rfl, _, rfl, r1, dx, _, _, rfl, hx, R.ty hy, R.nf, r1, r2, _, _, _, _, rfl, ⟨dx, hx⟩, ⟨dy, hy⟩, sm1.1, sm1.2, sm2'.1, sm2'.2, ?_⟩
        refine ⟨_, rfl, rfl, _, rfl, ?_⟩
        refine iteNS (by rw [lt_place, plc_list, plc_list]) ?_
        exact ⟨s14.trans (s18.trans (s19.trans s20)), _, _, _, _, rfl⟩
      · obtain ⟨s13, z10, z11, z12, z13, rfl⟩ := hP
        exact ⟨s13, _, _, _, _, _, _, rfl⟩
    · obtain ⟨s11, z8, z9, z10, z11, z12, z13, rfl⟩ := hP
      exact ⟨sD.trans s11, _, _, _, _, _, _, _, _, _, _, _, _, _, _, rfl⟩
end

theorem all_mk {l : PySem.W.OpenLaw} {w : World} {K : PySem.W.Frag} {h : Heap} {mg : Str → Option Value} {fa : Addr} {C : Addr} {f1 : Addr} {od1 an1 : Option Addr} {sl1 : Array (Option Value)} {oc1 kV1 dc1 pm1 cd1 ct1 : Value} {f2 : Addr} {od2 an2 : Option Addr} {sl2 : Array (Option Value)} {oc2 kV2 dc2 pm2 cd2 ct2 : Value} {f3 : Addr} {od3 an3 : Option Addr} {sl3 : Array (Option Value)} {oc3 kV3 dc3 pm3 cd3 ct3 : Value} {f4 : Addr} {od4 an4 : Option Addr} {sl4 : Array (Option Value)} {oc4 kV4 dc4 pm4 cd4 ct4 : Value} {f5 : Addr} {od5 an5 : Option Addr} {sl5 : Array (Option Value)} {oc5 kV5 dc5 pm5 cd5 ct5 : Value} {f6 : Addr} {od6 an6 : Option Addr} {sl6 : Array (Option Value)} {oc6 kV6 dc6 pm6 cd6 ct6 : Value} {f7 : Addr} {od7 an7 : Option Addr} {sl7 : Array (Option Value)} {oc7 kV7 dc7 pm7 cd7 ct7 : Value} {f8 : Addr} {od8 an8 : Option Addr} {sl8 : Array (Option Value)} {oc8 kV8 dc8 pm8 cd8 ct8 : Value} {f9 : Addr} {od9 an9 : Option Addr} {sl9 : Array (Option Value)} {oc9 kV9 dc9 pm9 cd9 ct9 : Value} {f10 : Addr} {od10 an10 : Option Addr} {sl10 : Array (Option Value)} {oc10 kV10 dc10 pm10 cd10 ct10 : Value} {f11 : Addr} {od11 an11 : Option Addr} {sl11 : Array (Option Value)} {oc11 kV11 dc11 pm11 cd11 ct11 : Value} {f12 : Addr} {od12 an12 : Option Addr} {sl12 : Array (Option Value)} {oc12 kV12 dc12 pm12 cd12 ct12 : Value} {f13 : Addr} {od13 an13 : Option Addr} {sl13 : Array (Option Value)} {oc13 kV13 dc13 pm13 cd13 ct13 : Value} {f14 : Addr} {od14 an14 : Option Addr} {sl14 : Array (Option Value)} {oc14 kV14 dc14 pm14 cd14 ct14 : Value} {f15 : Addr} {od15 an15 : Option Addr} {sl15 : Array (Option Value)} {oc15 kV15 dc15 pm15 cd15 ct15 : Value} {f16 : Addr} {od16 an16 : Option Addr} {sl16 : Array (Option Value)} {oc16 kV16 dc16 pm16 cd16 ct16 : Value} {f17 : Addr} {od17 an17 : Option Addr} {sl17 : Array (Option Value)} {oc17 kV17 dc17 pm17 cd17 ct17 : Value} {f18 : Addr} {od18 an18 : Option Addr} {sl18 : Array (Option Value)} {oc18 kV18 dc18 pm18 cd18 ct18 : Value} (X : K.In h) (G : h.Ns mainGlobals mg) (hfa : mg "law" = some (.ref fa))
    (aC : PySem.W.nsIn K mainGlobals "Ratio" = some (some (.ref C)))
    (pgC : PySem.W.plainGet K C Str.empty = true)
    (hdC : PySem.W.hasDictIn K C = true)
    (poC : PySem.W.plainOver K C = true)
    (saC : PySem.W.findIn K (.ref C) "__setattr__" = some (some (.builtin "object.__setattr__")))
    (mkC : PySem.W.makesIn K C = true)
    (kcC : PySem.W.keepIn K (.ref C) = true)
    (haC : PySem.W.findIn K (.ref C) "__class__" = some (some (.builtin "object.__class__")))
    (hnC : PySem.W.specialIn K (.builtin "object.__class__") "__get__" = some (some (.builtin "getset_descriptor.__get__")))
    (htC : PySem.W.takesIn K (.builtin "object.__class__") = some true)
    (hmC : PySem.W.mroIn K C (.type "object") = some true)
    (n1 : PySem.W.findIn K (.ref C) "first" = some none)
    (n2 : PySem.W.findIn K (.ref C) "second" = some none)
    (nf : PySem.W.notFirst K C (.ref C) = true)
    (ne : PySem.W.findIn K (.ref C) "__ne__" = some (some (.builtin "object.__ne__")))
    (so : PySem.W.subIn K (.ref C) (.type "object") = some true)
    (a1 : PySem.W.nsIn K mainGlobals "_law_take" = some (some (.ref f1)))
    (l1 : K.lookup f1 = some ⟨oc1, od1, .func (PySem.W.fnOf "_law_take" "_law_take" (defArgs S__law_take) (defBody S__law_take) (defScope S__law_take) .none kV1 dc1 pm1 an1 cd1 ct1), sl1⟩)
    (c1 : PySem.W.codeIn K cd1 "_law_take" = true)
    (k1 : PySem.W.keepIn K (.ref f1) = true)
    (a2 : PySem.W.nsIn K mainGlobals "_law_pick" = some (some (.ref f2)))
    (l2 : K.lookup f2 = some ⟨oc2, od2, .func (PySem.W.fnOf "_law_pick" "_law_pick" (defArgs S__law_pick) (defBody S__law_pick) (defScope S__law_pick) .none kV2 dc2 pm2 an2 cd2 ct2), sl2⟩)
    (c2 : PySem.W.codeIn K cd2 "_law_pick" = true)
    (k2 : PySem.W.keepIn K (.ref f2) = true)
    (a3 : PySem.W.nsIn K mainGlobals "_law_box" = some (some (.ref f3)))
    (l3 : K.lookup f3 = some ⟨oc3, od3, .func (PySem.W.fnOf "_law_box" "_law_box" (defArgs S__law_box) (defBody S__law_box) (defScope S__law_box) .none kV3 dc3 pm3 an3 cd3 ct3), sl3⟩)
    (c3 : PySem.W.codeIn K cd3 "_law_box" = true)
    (k3 : PySem.W.keepIn K (.ref f3) = true)
    (a4 : PySem.W.nsIn K mainGlobals "_law_pair" = some (some (.ref f4)))
    (l4 : K.lookup f4 = some ⟨oc4, od4, .func (PySem.W.fnOf "_law_pair" "_law_pair" (defArgs S__law_pair) (defBody S__law_pair) (defScope S__law_pair) .none kV4 dc4 pm4 an4 cd4 ct4), sl4⟩)
    (c4 : PySem.W.codeIn K cd4 "_law_pair" = true)
    (k4 : PySem.W.keepIn K (.ref f4) = true)
    (a5 : PySem.W.nsIn K mainGlobals "_law_drawn_word" = some (some (.ref f5)))
    (l5 : K.lookup f5 = some ⟨oc5, od5, .func (PySem.W.fnOf "_law_drawn_word" "_law_drawn_word" (defArgs S__law_drawn_word) (defBody S__law_drawn_word) (defScope S__law_drawn_word) .none kV5 dc5 pm5 an5 cd5 ct5), sl5⟩)
    (c5 : PySem.W.codeIn K cd5 "_law_drawn_word" = true)
    (k5 : PySem.W.keepIn K (.ref f5) = true)
    (a6 : PySem.W.nsIn K mainGlobals "is_integer" = some (some (.ref f6)))
    (l6 : K.lookup f6 = some ⟨oc6, od6, .func (PySem.W.fnOf "is_integer" "is_integer" (defArgs S_is_integer) (defBody S_is_integer) (defScope S_is_integer) .none kV6 dc6 pm6 an6 cd6 ct6), sl6⟩)
    (c6 : PySem.W.codeIn K cd6 "is_integer" = true)
    (k6 : PySem.W.keepIn K (.ref f6) = true)
    (a7 : PySem.W.nsIn K mainGlobals "is_length" = some (some (.ref f7)))
    (l7 : K.lookup f7 = some ⟨oc7, od7, .func (PySem.W.fnOf "is_length" "is_length" (defArgs S_is_length) (defBody S_is_length) (defScope S_is_length) .none kV7 dc7 pm7 an7 cd7 ct7), sl7⟩)
    (c7 : PySem.W.codeIn K cd7 "is_length" = true)
    (k7 : PySem.W.keepIn K (.ref f7) = true)
    (a8 : PySem.W.nsIn K mainGlobals "common_length" = some (some (.ref f8)))
    (l8 : K.lookup f8 = some ⟨oc8, od8, .func (PySem.W.fnOf "common_length" "common_length" (defArgs S_common_length) (defBody S_common_length) (defScope S_common_length) .none kV8 dc8 pm8 an8 cd8 ct8), sl8⟩)
    (c8 : PySem.W.codeIn K cd8 "common_length" = true)
    (k8 : PySem.W.keepIn K (.ref f8) = true)
    (a9 : PySem.W.findIn K (.ref C) "__init__" = some (some (.ref f9)))
    (i9 : PySem.W.isFn K (.ref f9) = true)
    (l9 : K.lookup f9 = some ⟨oc9, od9, .func (PySem.W.fnOf "__init__" "Ratio.__init__" (defArgs S_Ratio__init_) (defBody S_Ratio__init_) (defScope S_Ratio__init_) .none kV9 dc9 pm9 an9 cd9 ct9), sl9⟩)
    (c9 : PySem.W.codeIn K cd9 "Ratio.__init__" = true)
    (k9 : PySem.W.keepIn K (.ref f9) = true)
    (a10 : PySem.W.findIn K (.ref C) "__eq__" = some (some (.ref f10)))
    (i10 : PySem.W.isFn K (.ref f10) = true)
    (l10 : K.lookup f10 = some ⟨oc10, od10, .func (PySem.W.fnOf "__eq__" "Ratio.__eq__" (defArgs S_Ratio__eq_) (defBody S_Ratio__eq_) (defScope S_Ratio__eq_) .none kV10 dc10 pm10 an10 cd10 ct10), sl10⟩)
    (c10 : PySem.W.codeIn K cd10 "Ratio.__eq__" = true)
    (k10 : PySem.W.keepIn K (.ref f10) = true)
    (a11 : PySem.W.findIn K (.ref C) "__lt__" = some (some (.ref f11)))
    (i11 : PySem.W.isFn K (.ref f11) = true)
    (l11 : K.lookup f11 = some ⟨oc11, od11, .func (PySem.W.fnOf "__lt__" "Ratio.__lt__" (defArgs S_Ratio__lt_) (defBody S_Ratio__lt_) (defScope S_Ratio__lt_) .none kV11 dc11 pm11 an11 cd11 ct11), sl11⟩)
    (c11 : PySem.W.codeIn K cd11 "Ratio.__lt__" = true)
    (k11 : PySem.W.keepIn K (.ref f11) = true)
    (a12 : PySem.W.findIn K (.ref C) "__le__" = some (some (.ref f12)))
    (i12 : PySem.W.isFn K (.ref f12) = true)
    (l12 : K.lookup f12 = some ⟨oc12, od12, .func (PySem.W.fnOf "__le__" "Ratio.__le__" (defArgs S_Ratio__le_) (defBody S_Ratio__le_) (defScope S_Ratio__le_) .none kV12 dc12 pm12 an12 cd12 ct12), sl12⟩)
    (c12 : PySem.W.codeIn K cd12 "Ratio.__le__" = true)
    (k12 : PySem.W.keepIn K (.ref f12) = true)
    (a13 : PySem.W.findIn K (.ref C) "__gt__" = some (some (.ref f13)))
    (i13 : PySem.W.isFn K (.ref f13) = true)
    (l13 : K.lookup f13 = some ⟨oc13, od13, .func (PySem.W.fnOf "__gt__" "Ratio.__gt__" (defArgs S_Ratio__gt_) (defBody S_Ratio__gt_) (defScope S_Ratio__gt_) .none kV13 dc13 pm13 an13 cd13 ct13), sl13⟩)
    (c13 : PySem.W.codeIn K cd13 "Ratio.__gt__" = true)
    (k13 : PySem.W.keepIn K (.ref f13) = true)
    (a14 : PySem.W.findIn K (.ref C) "__ge__" = some (some (.ref f14)))
    (i14 : PySem.W.isFn K (.ref f14) = true)
    (l14 : K.lookup f14 = some ⟨oc14, od14, .func (PySem.W.fnOf "__ge__" "Ratio.__ge__" (defArgs S_Ratio__ge_) (defBody S_Ratio__ge_) (defScope S_Ratio__ge_) .none kV14 dc14 pm14 an14 cd14 ct14), sl14⟩)
    (c14 : PySem.W.codeIn K cd14 "Ratio.__ge__" = true)
    (k14 : PySem.W.keepIn K (.ref f14) = true)
    (a15 : PySem.W.nsIn K mainGlobals "_law_due" = some (some (.ref f15)))
    (l15 : K.lookup f15 = some ⟨oc15, od15, .func (PySem.W.fnOf "_law_due" "_law_due" (defArgs S__law_due) (defBody S__law_due) (defScope S__law_due) .none kV15 dc15 pm15 an15 cd15 ct15), sl15⟩)
    (c15 : PySem.W.codeIn K cd15 "_law_due" = true)
    (k15 : PySem.W.keepIn K (.ref f15) = true)
    (a16 : PySem.W.nsIn K mainGlobals "_law_place" = some (some (.ref f16)))
    (l16 : K.lookup f16 = some ⟨oc16, od16, .func (PySem.W.fnOf "_law_place" "_law_place" (defArgs S__law_place) (defBody S__law_place) (defScope S__law_place) .none kV16 dc16 pm16 an16 cd16 ct16), sl16⟩)
    (c16 : PySem.W.codeIn K cd16 "_law_place" = true)
    (k16 : PySem.W.keepIn K (.ref f16) = true)
    (a17 : PySem.W.nsIn K mainGlobals "_law_signs" = some (some (.ref f17)))
    (l17 : K.lookup f17 = some ⟨oc17, od17, .func (PySem.W.fnOf "_law_signs" "_law_signs" (defArgs S__law_signs) (defBody S__law_signs) (defScope S__law_signs) .none kV17 dc17 pm17 an17 cd17 ct17), sl17⟩)
    (c17 : PySem.W.codeIn K cd17 "_law_signs" = true)
    (k17 : PySem.W.keepIn K (.ref f17) = true)
    (a18 : PySem.W.nsIn K mainGlobals "law" = some (some (.ref f18)))
    (l18 : K.lookup f18 = some ⟨oc18, od18, .func (PySem.W.fnOf "law" "law" (defArgs S_law) (defBody S_law) (defScope S_law) .none kV18 dc18 pm18 an18 cd18 ct18), sl18⟩)
    (c18 : PySem.W.codeIn K cd18 "law" = true)
    (k18 : PySem.W.keepIn K (.ref f18) = true)
    (z_abs : PySem.W.nsIn K mainGlobals "abs" = some none)
    (z_bool : PySem.W.nsIn K mainGlobals "bool" = some none)
    (z_enumerate : PySem.W.nsIn K mainGlobals "enumerate" = some none)
    (z_int : PySem.W.nsIn K mainGlobals "int" = some none)
    (z_isinstance : PySem.W.nsIn K mainGlobals "isinstance" = some none)
    (z_len : PySem.W.nsIn K mainGlobals "len" = some none)
    (z_max : PySem.W.nsIn K mainGlobals "max" = some none)
    (z_min : PySem.W.nsIn K mainGlobals "min" = some none)
    (z_range : PySem.W.nsIn K mainGlobals "range" = some none)
    (z_repr : PySem.W.nsIn K mainGlobals "repr" = some none) :
    ∃ fd : FuncData, (∀ (s : Shared) (v : Value), BindsTo s fd ⟨[v], []⟩ [("_law_script", v)]) ∧ ∀ base : Heap, K.In base → base.Ns mainGlobals mg → FnOkG l.prog w K mg base CX0 5 fa fd ["_law_script"] (sp_law K) := by
  have e := hfa.symm.trans (PySem.W.mg_of X G a18)
  cases e
  have T : Txt K mg := ⟨PySem.W.mg_none_of X G z_abs, PySem.W.mg_none_of X G z_bool, PySem.W.mg_none_of X G z_enumerate, PySem.W.mg_none_of X G z_int, PySem.W.mg_none_of X G z_isinstance, PySem.W.mg_none_of X G z_len, PySem.W.mg_none_of X G z_max, PySem.W.mg_none_of X G z_min, PySem.W.mg_none_of X G z_range, PySem.W.mg_none_of X G z_repr⟩
  have INSC : C8.InsC K C := ⟨⟨pgC, hdC, poC, saC⟩, haC, hnC, htC, hmC, kit_self _ _ (beq_self_eq_true _)⟩
  have R : RatT K mg C := ⟨INSC, n1, n2, PySem.W.mg_of X G aC, nf, ne, so⟩
  have F1 := fun_mk (st := S__law_take) l1 c1 k1
  have b1 := F1.binds (ps := ["_law_box_here", "_law_many"]) fun _ _ _ _ _ _ us hl => match us, hl with | [_, _], _ => rfl
  have F2 := fun_mk (st := S__law_pick) l2 c2 k2
  have b2 := F2.binds (ps := ["_law_box_here", "_law_items"]) fun _ _ _ _ _ _ us hl => match us, hl with | [_, _], _ => rfl
  have F3 := fun_mk (st := S__law_box) l3 c3 k3
  have b3 := F3.binds (ps := ["_law_script", "_law_k", "_law_own"]) fun _ _ _ _ _ _ us hl => match us, hl with | [_, _, _], _ => rfl
  have F4 := fun_mk (st := S__law_pair) l4 c4 k4
  have b4 := F4.binds (ps := ["_law_word_here"]) fun _ _ _ _ _ _ us hl => match us, hl with | [_], _ => rfl
  have F5 := fun_mk (st := S__law_drawn_word) l5 c5 k5
  have b5 := F5.binds (ps := ["_law_box_here", "_law_most"]) fun _ _ _ _ _ _ us hl => match us, hl with | [_, _], _ => rfl
  have F6 := fun_mk (st := S_is_integer) l6 c6 k6
  have b6 := F6.binds (ps := ["value"]) fun _ _ _ _ _ _ us hl => match us, hl with | [_], _ => rfl
  have F7 := fun_mk (st := S_is_length) l7 c7 k7
  have b7 := F7.binds (ps := ["value"]) fun _ _ _ _ _ _ us hl => match us, hl with | [_], _ => rfl
  have F8 := fun_mk (st := S_common_length) l8 c8 k8
  have b8 := F8.binds (ps := ["first", "second"]) fun _ _ _ _ _ _ us hl => match us, hl with | [_, _], _ => rfl
  have F9 := fun_mk (st := S_Ratio__init_) l9 c9 k9
  have b9 := F9.binds (ps := ["self", "first", "second"]) fun _ _ _ _ _ _ us hl => match us, hl with | [_, _, _], _ => rfl
  have F10 := fun_mk (st := S_Ratio__eq_) l10 c10 k10
  have b10 := F10.binds (ps := ["self", "other"]) fun _ _ _ _ _ _ us hl => match us, hl with | [_, _], _ => rfl
  have F11 := fun_mk (st := S_Ratio__lt_) l11 c11 k11
  have b11 := F11.binds (ps := ["self", "other"]) fun _ _ _ _ _ _ us hl => match us, hl with | [_, _], _ => rfl
  have F12 := fun_mk (st := S_Ratio__le_) l12 c12 k12
  have b12 := F12.binds (ps := ["self", "other"]) fun _ _ _ _ _ _ us hl => match us, hl with | [_, _], _ => rfl
  have F13 := fun_mk (st := S_Ratio__gt_) l13 c13 k13
  have b13 := F13.binds (ps := ["self", "other"]) fun _ _ _ _ _ _ us hl => match us, hl with | [_, _], _ => rfl
  have F14 := fun_mk (st := S_Ratio__ge_) l14 c14 k14
  have b14 := F14.binds (ps := ["self", "other"]) fun _ _ _ _ _ _ us hl => match us, hl with | [_, _], _ => rfl
  have F15 := fun_mk (st := S__law_due) l15 c15 k15
  have b15 := F15.binds (ps := ["_law_first", "_law_second"]) fun _ _ _ _ _ _ us hl => match us, hl with | [_, _], _ => rfl
  have F16 := fun_mk (st := S__law_place) l16 c16 k16
  have b16 := F16.binds (ps := ["_law_word_here"]) fun _ _ _ _ _ _ us hl => match us, hl with | [_], _ => rfl
  have F17 := fun_mk (st := S__law_signs) l17 c17 k17
  have b17 := F17.binds (ps := ["_law_one", "_law_other"]) fun _ _ _ _ _ _ us hl => match us, hl with | [_, _], _ => rfl
  have F18 := fun_mk (st := S_law) l18 c18 k18
  refine ⟨PySem.W.fnOf "law" "law" (defArgs S_law) (defBody S_law) (defScope S_law) .none kV18 dc18 pm18 an18 cd18 ct18, fun s v => .of_eq rfl, fun base _ _ => ?_⟩
  have C_take : FnC l.prog w K mg base CX0 1 "_law_take" ["_law_box_here", "_law_many"] sp_take := ⟨_, _, ok_take F1 T , PySem.W.mg_of X G a1, k1, b1⟩
  have C_pick : FnC l.prog w K mg base CX0 2 "_law_pick" ["_law_box_here", "_law_items"] (sp_pick K) := ⟨_, _, ok_pick F2 T C_take, PySem.W.mg_of X G a2, k2, b2⟩
  have C_box : FnC l.prog w K mg base CX0 1 "_law_box" ["_law_script", "_law_k", "_law_own"] (sp_box K) := ⟨_, _, ok_box F3 T , PySem.W.mg_of X G a3, k3, b3⟩
  have C_pair : FnC l.prog w K mg base CX0 1 "_law_pair" ["_law_word_here"] sp_pair := ⟨_, _, ok_pair F4 T , PySem.W.mg_of X G a4, k4, b4⟩
  have C_drawn : FnC l.prog w K mg base CX0 3 "_law_drawn_word" ["_law_box_here", "_law_most"] sp_drawn := ⟨_, _, ok_drawn F5 T C_take C_pick C_pair, PySem.W.mg_of X G a5, k5, b5⟩
  have C_isint : FnC l.prog w K mg base CX0 1 "is_integer" ["value"] (sp_isint K) := ⟨_, _, ok_isint F6 T , PySem.W.mg_of X G a6, k6, b6⟩
  have C_islen : FnC l.prog w K mg base CX0 2 "is_length" ["value"] (sp_islen K) := ⟨_, _, ok_islen F7 T C_isint, PySem.W.mg_of X G a7, k7, b7⟩
  have C_common : FnC l.prog w K mg base CX0 1 "common_length" ["first", "second"] sp_common := ⟨_, _, ok_common F8 T , PySem.W.mg_of X G a8, k8, b8⟩
  have C_ratio : MkC l.prog w K mg base CX0 3 C "Ratio" ["self", "first", "second"] (sp_init C) := ⟨_, _, ok_init F9 T R C_islen C_common, ⟨mkC, a9, i9, kcC⟩, PySem.W.mg_of X G aC, b9⟩
  have M_eq : MtC l.prog w K mg base CX0 1 C "__eq__" ["self", "other"] (sp_cmp C r_eq) := ⟨_, _, ok_eq F10 T R, ⟨a10, i10, k10⟩, b10⟩
  have M_lt : MtC l.prog w K mg base CX0 1 C "__lt__" ["self", "other"] (sp_cmp C r_lt) := ⟨_, _, ok_lt F11 T R, ⟨a11, i11, k11⟩, b11⟩
  have M_le : MtC l.prog w K mg base CX0 1 C "__le__" ["self", "other"] (sp_cmp C r_le) := ⟨_, _, ok_le F12 T R, ⟨a12, i12, k12⟩, b12⟩
  have M_gt : MtC l.prog w K mg base CX0 1 C "__gt__" ["self", "other"] (sp_cmp C r_gt) := ⟨_, _, ok_gt F13 T R, ⟨a13, i13, k13⟩, b13⟩
  have M_ge : MtC l.prog w K mg base CX0 1 C "__ge__" ["self", "other"] (sp_cmp C r_ge) := ⟨_, _, ok_ge F14 T R, ⟨a14, i14, k14⟩, b14⟩
  have C_due : FnC l.prog w K mg base CX0 1 "_law_due" ["_law_first", "_law_second"] (sp_due K) := ⟨_, _, ok_due F15 T , PySem.W.mg_of X G a15, k15, b15⟩
  have C_place : FnC l.prog w K mg base CX0 1 "_law_place" ["_law_word_here"] sp_place := ⟨_, _, ok_place F16 T , PySem.W.mg_of X G a16, k16, b16⟩
  have C_signs : FnC l.prog w K mg base CX0 3 "_law_signs" ["_law_one", "_law_other"] (sp_signs C) := ⟨_, _, ok_signs F17 T R M_eq M_lt M_le M_gt M_ge, PySem.W.mg_of X G a17, k17, b17⟩
  exact ok_law F18 T R C_box C_take C_drawn C_pair C_ratio C_due C_signs C_place M_lt
end Lw
open PySem PySem.W PyProof.Rows in
set_option maxRecDepth 100000 in
set_option maxHeartbeats 0 in
theorem PySem.Challenge.cw_unmarked_k04_ratios_in_order_holds : PySem.Challenge.rw_unmarked_k04_ratios_in_order.Holds := by
  w_on; o_law; k_head; (case hw => w_witness2)
  k_fill
  refine Kb.walk_ofG (l := PySem.Challenge.rw_unmarked_k04_ratios_in_order) (n := 63) (k := 5) (x := "_law_script") (sp := Lw.L4.sp_law) rfl (by decide) rfl ⟨rfl, by decide, by decide⟩ (fun w h Y => PySem.W.kIn_of Y) ?F (fun K H a ns hl _ hS => ⟨a, ns, rfl, hS, hl, fun _ => rfl⟩)
  case F =>
    intro w mg fa h KX G hmg
    refine' Lw.all_mk KX G hmg ?aC ?pgC ?hdC ?poC ?saC ?mkC ?kcC ?haC ?hnC ?htC ?hmC ?n1 ?n2 ?nf ?ne ?so ?a1 ?l1 ?c1 ?k1 ?a2 ?l2 ?c2 ?k2 ?a3 ?l3 ?c3 ?k3 ?a4 ?l4 ?c4 ?k4 ?a5 ?l5 ?c5 ?k5 ?a6 ?l6 ?c6 ?k6 ?a7 ?l7 ?c7 ?k7 ?a8 ?l8 ?c8 ?k8 ?a9 ?i9 ?l9 ?c9 ?k9 ?a10 ?i10 ?l10 ?c10 ?k10 ?a11 ?i11 ?l11 ?c11 ?k11 ?a12 ?i12 ?l12 ?c12 ?k12 ?a13 ?i13 ?l13 ?c13 ?k13 ?a14 ?i14 ?l14 ?c14 ?k14 ?a15 ?l15 ?c15 ?k15 ?a16 ?l16 ?c16 ?k16 ?a17 ?l17 ?c17 ?k17 ?a18 ?l18 ?c18 ?k18 ?z_abs ?z_bool ?z_enumerate ?z_int ?z_isinstance ?z_len ?z_max ?z_min ?z_range ?z_repr
    (case aC => k_is)
    (case pgC => k_is)
    (case hdC => k_is)
    (case poC => k_is)
    (case saC => k_is)
    (case mkC => k_is)
    (case kcC => k_is)
    (case haC => k_is)
    (case hnC => k_is)
    (case htC => k_is)
    (case hmC => k_is)
    (case n1 => k_is)
    (case n2 => k_is)
    (case nf => k_is)
    (case ne => k_is)
    (case so => k_is)
    (case a1 => k_is)
    (case l1 => k_is)
    (case c1 => k_is)
    (case k1 => k_is)
    (case a2 => k_is)
    (case l2 => k_is)
    (case c2 => k_is)
    (case k2 => k_is)
    (case a3 => k_is)
    (case l3 => k_is)
    (case c3 => k_is)
    (case k3 => k_is)
    (case a4 => k_is)
    (case l4 => k_is)
    (case c4 => k_is)
    (case k4 => k_is)
    (case a5 => k_is)
    (case l5 => k_is)
    (case c5 => k_is)
    (case k5 => k_is)
    (case a6 => k_is)
    (case l6 => k_is)
    (case c6 => k_is)
    (case k6 => k_is)
    (case a7 => k_is)
    (case l7 => k_is)
    (case c7 => k_is)
    (case k7 => k_is)
    (case a8 => k_is)
    (case l8 => k_is)
    (case c8 => k_is)
    (case k8 => k_is)
    (case a9 => k_is)
    (case i9 => k_is)
    (case l9 => k_is)
    (case c9 => k_is)
    (case k9 => k_is)
    (case a10 => k_is)
    (case i10 => k_is)
    (case l10 => k_is)
    (case c10 => k_is)
    (case k10 => k_is)
    (case a11 => k_is)
    (case i11 => k_is)
    (case l11 => k_is)
    (case c11 => k_is)
    (case k11 => k_is)
    (case a12 => k_is)
    (case i12 => k_is)
    (case l12 => k_is)
    (case c12 => k_is)
    (case k12 => k_is)
    (case a13 => k_is)
    (case i13 => k_is)
    (case l13 => k_is)
    (case c13 => k_is)
    (case k13 => k_is)
    (case a14 => k_is)
    (case i14 => k_is)
    (case l14 => k_is)
    (case c14 => k_is)
    (case k14 => k_is)
    (case a15 => k_is)
    (case l15 => k_is)
    (case c15 => k_is)
    (case k15 => k_is)
    (case a16 => k_is)
    (case l16 => k_is)
    (case c16 => k_is)
    (case k16 => k_is)
    (case a17 => k_is)
    (case l17 => k_is)
    (case c17 => k_is)
    (case k17 => k_is)
    (case a18 => k_is)
    (case l18 => k_is)
    (case c18 => k_is)
    (case k18 => k_is)
    (case z_abs => k_is)
    (case z_bool => k_is)
    (case z_enumerate => k_is)
    (case z_int => k_is)
    (case z_isinstance => k_is)
    (case z_len => k_is)
    (case z_max => k_is)
    (case z_min => k_is)
    (case z_range => k_is)
    (case z_repr => k_is)
#print axioms PySem.Challenge.cw_unmarked_k04_ratios_in_order_holds
