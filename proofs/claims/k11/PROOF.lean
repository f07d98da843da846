import PyProof.Rows.All
import Wide.All
import OpenK.AllK
import Wide.FinOn
import HandS.ForMost
import HandS.Wide
import HandS.IsInst
import HandS.Style
import HandS.FStr
import HandS.Property
import HandS.SlotsOwn
import HandS.ClsMeth
import HandS.NoneIn
import HandS.Codes
import HandS.Walk
import HandS.ExcInit
import HandS.ExcIs
import HandS.ExcOwn
import HandS.ExcField
import HandS.TryMany
import HandS.WordsExc
import HandS.ExcBuiltin
import HandS.MakeKw
import HandS.MakeKwOnly
import HandS.TryOnly
import PyProof.ReprLen
import KE.KOpsOwn
import HandS.TupAny
import PySem.Challenge.RW_unmarked_k11_edges_in_order
set_option Elab.async false
set_option linter.all false
set_option maxRecDepth 100000
set_option maxHeartbeats 4000000
namespace Kb
open PySem PySem.Spec PyProof.Rows L2

theorem ifT {c : Bool} {A B : Prop} (hc : c = true) (h : A) : if c = true then A else B := by rw [if_pos hc]; exact h
theorem ifF {c : Bool} {A B : Prop} (hc : c = false) (h : B) : if c = true then A else B := by rw [hc, if_neg Bool.false_ne_true]; exact h
/-! ### a statement, then the rest, joined by a word -/
def tMid (t u : TS) : TS := fun D σ H => ∃ M : L2.St → Hp → Prop, t { D with nx := M } σ H ∧ ∀ σ1 H1, M σ1 H1 → u D σ1 H1
theorem pss_mid {X : Cx} {st : Stmt} {rest : List Stmt} {t u : TS} (a : PS X st t) (b : PSs X rest u) : PSs X (st :: rest) (tMid t u) := by
  refine ⟨fun pins s σ H D I ⟨M, hm, hu⟩ => ?_⟩
  refine wpAny_execs_cons (thn (a.run pins s σ H { D with nx := M } I hm) fun fl s1 z => ?_)
  cases fl with
  | next =>
    obtain ⟨σ1, H1, I1, z⟩ := z
    exact b.run pins s1 σ1 H1 D I1 (hu σ1 H1 z)
  | ret v => exact z
  | brk => exact z
  | cont => exact z
/-! ### what a comprehension's reading asks behind its source -/
def LcR (J : It) (g : TG) (tt : TT) (te : TE) (vs : List Nat) (σ : L2.St) (H1 : Hp) (D : Addr) (Qd : Hp → Prop) : Prop := ∃ W : Nat → Nat → Hp → Prop, (∃ m, W 0 m (upd H1 D (.lst []))) ∧ ∀ i m H, W i m H →
  (J.stop i H ∧ Qd H) ∨ (J.go i H ∧ ∃ Nx : Hp → Prop, (∀ H', Nx H' → ∃ m', m' < m ∧ W (i + 1) m' H') ∧ ∀ x H', J.yld i H x H' → g x (wipe σ vs) H' fun σ2 H2 => wipe σ2 vs = wipe σ vs ∧ tt σ2 H2 fun b H3 =>
    if b = true then te σ2 H3 fun y H4 => ∃ acc, H4 D = some (.lst acc) ∧ acc.length < sizeLine ∧ Nx (upd H4 D (.lst (acc ++ [y]))) else Nx H3)
theorem lcR_range {lo : Int} {n : Nat} {g : TG} {te : TE} {vs : List Nat} {σ : L2.St} {H1 : Hp} {D : Addr} {Qd : Hp → Prop} (M : Nat → Hp → Prop) (h0 : M 0 (upd H1 D (.lst [])))
    (hs : ∀ i H, i < n → M i H → g (.int (lo + i)) (wipe σ vs) H fun σ2 H2 => wipe σ2 vs = wipe σ vs ∧ te σ2 H2 fun y H4 => ∃ acc, H4 D = some (.lst acc) ∧ acc.length < sizeLine ∧ M (i + 1) (upd H4 D (.lst (acc ++ [y]))))
    (hm : ∀ x σ H Q Q', (∀ σ2 H2, Q σ2 H2 → Q' σ2 H2) → g x σ H Q → g x σ H Q') (hd : ∀ H, M n H → Qd H) : LcR (Itr lo n) g tYes te vs σ H1 D Qd :=
  lc_range M h0 (fun i H hi m => hm _ _ _ _ _ (fun σ2 H2 z => ⟨z.1, ifT (B := M (i + 1) H2) rfl z.2⟩) (hs i H hi m)) hd
theorem lcR_list {K : PySem.W.Frag} {a : Addr} {xs : List V} {g : TG} {te : TE} {vs : List Nat} {σ : L2.St} {H1 : Hp} {D : Addr} {Qd : Hp → Prop} (M : Nat → Hp → Prop) (h0 : M 0 (upd H1 D (.lst []))) (hl : ∀ i H, i ≤ xs.length → M i H → SqL K H a xs)
    (hs : ∀ i x H, xs[i]? = some x → M i H → g x (wipe σ vs) H fun σ2 H2 => wipe σ2 vs = wipe σ vs ∧ te σ2 H2 fun y H4 => ∃ acc, H4 D = some (.lst acc) ∧ acc.length < sizeLine ∧ M (i + 1) (upd H4 D (.lst (acc ++ [y]))))
    (hm : ∀ x σ H Q Q', (∀ σ2 H2, Q σ2 H2 → Q' σ2 H2) → g x σ H Q → g x σ H Q') (hd : ∀ H, M xs.length H → Qd H) : LcR (Itl K a) g tYes te vs σ H1 D Qd :=
  lc_list M h0 hl (fun i x H hi m => hm _ _ _ _ _ (fun σ2 H2 z => ⟨z.1, ifT (B := M (i + 1) H2) rfl z.2⟩) (hs i x H hi m)) hd
theorem gName_mono (i : Nat) : ∀ (x : V) (σ : L2.St) (H : Hp) (Q Q' : L2.St → Hp → Prop), (∀ σ2 H2, Q σ2 H2 → Q' σ2 H2) → gName i x σ H Q → gName i x σ H Q' := fun _ _ _ _ _ h q => h _ _ q
theorem szl {n : Nat} (h : n ≤ 1000000) : n ≤ sizeLine := Nat.le_trans h (by decide)
theorem szs {n : Nat} (h : n ≤ 1000000) : n < sizeLine := Nat.lt_of_le_of_lt h (by decide)
/-! ### rules that name the written part: for blocks of comprehensions -/
section
variable {X : Cx} {K : PySem.W.Frag}
theorem ix_listK (h : X.K = K) : IxR X (rIxL K) := h ▸ ix_list
theorem ix_tupK (h : X.K = K) : IxR X (rIxT K) := h ▸ ix_tup
theorem ix_seqK (h : X.K = K) : IxR X (rIx K) := h ▸ ix_seq
theorem pe_fldK {e : Expr} {f : Str} {ta : TE} {pos : Pos} (h : X.K = K) (he : PE X e ta) (hb : attributeBase e f X.env (eval e X.env) = eval e X.env) : PE X (.Attribute e f pos) (tFld K ta f) := h ▸ pe_fld he hb
theorem call_len_seqK (h : X.K = K) : CallR X (.builtin "len") (fun xs H Q => ∃ p ys, xs = [.ref p] ∧ (SqL K H p ys ∨ SqT K H p ys) ∧ Q (.int ys.length) H) := h ▸ call_len_seq
theorem pi_listK {tg l : Expr} {tl : TE} (h : X.K = K) (hl : PE X l tl) : PI X tg l (iList K tl) := h ▸ pi_list hl
theorem pi_tupK {tg l : Expr} {tl : TE} (h : X.K = K) (hl : PE X l tl) : PI X tg l (iTup K tl) := h ▸ pi_tup hl
theorem call_isiK' (h : X.K = K) : CallR X (.builtin "isinstance") (rIsi K) := h ▸ call_isi
end
/-! ### a comprehension over a text -/
theorem lcR_str {z : Str} {g : TG} {te : TE} {vs : List Nat} {σ : L2.St} {H1 : Hp} {D : Addr} {Qd : Hp → Prop} (M : Nat → Hp → Prop) (h0 : M 0 (upd H1 D (.lst [])))
    (hs : ∀ i c H, i < z.cps.size → z.cps[i]? = some c → M i H → g (.str ⟨#[c]⟩) (wipe σ vs) H fun σ2 H2 => wipe σ2 vs = wipe σ vs ∧ te σ2 H2 fun y H4 => ∃ acc, H4 D = some (.lst acc) ∧ acc.length < sizeLine ∧ M (i + 1) (upd H4 D (.lst (acc ++ [y]))))
    (hm : ∀ x σ H Q Q', (∀ σ2 H2, Q σ2 H2 → Q' σ2 H2) → g x σ H Q → g x σ H Q') (hd : ∀ H, M z.cps.size H → Qd H) : LcR (Its z) g tYes te vs σ H1 D Qd :=
  lc_it walk_str M h0 (fun _ _ _ _ => trivial) (fun i x H H' hi m y => by
    obtain ⟨e, c, hc, ex⟩ := y
    subst e; subst ex
    exact hm _ _ _ _ _ (fun σ2 H2 z => ⟨z.1, ifT (B := M (i + 1) H2) rfl z.2⟩) (hs i c _ hi hc m)) hd
/-! ### a comprehension whose every turn makes one object -/
theorem comp_objs {K : PySem.W.Frag} {a : Addr} {xs : List V} {g : TG} {te : TE} {vs : List Nat} {σ : L2.St} {H1 : Hp} {D : Addr} {Qd : Hp → Prop} (F : Nat → Hp → Addr → Prop) (hn : xs.length ≤ 1000000)
    (mono : ∀ j H H' p ys, H D = some (.lst ys) → (∀ b o, b ≠ D → H b = some o → H' b = some o) → F j H p → F j H' p) (hl : SqL K H1 a xs) (hD : H1 D = none) (hm : ∀ x σ H Q Q', (∀ σ2 H2, Q σ2 H2 → Q' σ2 H2) → g x σ H Q → g x σ H Q')
    (turn : ∀ i x H (k : VK), xs[i]? = some x → (∀ b o, b ≠ D → H1 b = some o → H b = some o) → (∃ ys, H D = some (.lst ys)) → (∀ p H4, Same H H4 → F i H4 p → k (.ref p) H4) → g x (wipe σ vs) H fun σ2 H2 => wipe σ2 vs = wipe σ vs ∧ te σ2 H2 k)
    (done : ∀ (ps : List Addr) H, ps.length = xs.length → (∀ b o, b ≠ D → H1 b = some o → H b = some o) → H D = some (.lst (ps.map V.ref)) → (∀ j p, ps[j]? = some p → F j H p) → Qd H) : LcR (Itl K a) g tYes te vs σ H1 D Qd := by
  have kS : ∀ H, (∀ b o, b ≠ D → H1 b = some o → H b = some o) → SqL K H a xs := fun H kp => by
    have rd : ∀ u, Rd H1 a u → Rd H a u := fun u q => q.elim (fun q => .inl (kp _ _ (ne_of_none q hD) q)) fun ⟨o, q⟩ => .inr ⟨o, kp _ _ (ne_of_none q hD) q⟩
    exact hl.elim (fun q => .inl (rd _ q)) .inr
  refine lcR_list (fun i H => (∀ b o, b ≠ D → H1 b = some o → H b = some o) ∧ ∃ ps : List Addr, ps.length = i ∧ H D = some (.lst (ps.map V.ref)) ∧ ∀ j p, ps[j]? = some p → F j H p)
    ⟨fun b o n e => by rw [upd_ne n]; exact e, [], rfl, upd_same, fun j p h => by simp at h⟩ (fun i H _ m => kS H m.1) (fun i x H hi m => ?_) hm (fun H m => ?_)
  · obtain ⟨kp, ps, hp, hD', hF⟩ := m
    have hlt : i < xs.length := (List.getElem?_eq_some_iff.mp hi).1
    refine turn i x H _ hi kp ⟨_, hD'⟩ fun p H4 sm hp4 => ?_
    have h4 : H4 D = some (.lst (ps.map V.ref)) := sm _ _ hD'
    have kk : ∀ b o, b ≠ D → H4 b = some o → upd H4 D (.lst (ps.map V.ref ++ [.ref p])) b = some o := fun b o n e => by rw [upd_ne n]; exact e
    refine ⟨_, h4, by rw [List.length_map]; exact szs (by omega), fun b o n e => kk b o n (sm _ _ (kp b o n e)), ps ++ [p], by simp [hp], by rw [upd_same]; simp, fun j r hj => ?_⟩
    refine mono j H4 _ r _ h4 kk ?_
    by_cases c : j < ps.length
    · rw [List.getElem?_append_left c] at hj
      exact mono j H H4 r _ hD' (fun b o _ e => sm b o e) (hF j r hj)
    · have e : j = ps.length := by
        have := (List.getElem?_eq_some_iff.mp hj).1
        simp at this
        omega
      subst e
      simp at hj
      subst hj
      rw [hp]
      exact hp4
  · obtain ⟨kp, ps, hp, hD', hF⟩ := m
    exact done ps H hp kp hD' hF
theorem kit_self (K : PySem.W.Frag) (t : Value) (h : (t == t) = true) : PySem.W.kitOne K t t = some true := by
  unfold PySem.W.kitOne
  rw [if_pos h]
/-! ### int of an int, of a truth -/
theorem call_intI {X : Cx} : CallR X (.type "int") (fun xs H Q => ∃ i, xs = [.int i] ∧ Q (.int i) H) := fun pins s σ H xs us Q I r h => call_int1 pins s σ H xs us Q I r (.inl h)
theorem call_intB {X : Cx} : CallR X (.type "int") (fun xs H Q => ∃ k, xs = [.bl k] ∧ Q (.int (if k then 1 else 0)) H) := fun pins s σ H xs us Q I r h => call_int1 pins s σ H xs us Q I r (.inr h)
/-! ### a def that may be called by its name -/
structure FnC (P : Program) (w : World) (K : PySem.W.Frag) (mg : Str → Option Value) (base : Heap) (CX : CXT) (k : Nat) (x : Str) (ps : List Str) (sp : Sp) : Prop where
  ex : ∃ (f : Addr) (fd : FuncData), FnOk P w K mg base CX k f fd ps sp ∧ mg x = some (.ref f) ∧ PySem.W.keepIn K (.ref f) = true ∧ Binds K fd ps []
section
variable {X : Cx} {k : Nat} {x : Str} {ps : List Str} {sp : Sp} {e : Expr} {es : List Expr} {t : TA} {p pos : Pos}
theorem pe_callC (F : FnC X.prog X.w X.K X.mg X.base CX0 k x ps sp) (hr : Room k X.A) (hg : Gl X x) (ha : PA X (e :: es) t) (hdb : (x == ("__debug__" : Str)) = false := by decide)
    (he : starEach (e :: es) X.env = (false, eval e X.env) :: starEach es X.env := by rfl) (hpl : (backTo pos (starEach es X.env)).any (·.1) = false := by rfl) :
    PE X (.Call (.Name x p) (e :: es) [] pos) (tCall sp [] E0 t) := by
  obtain ⟨f, fd, h, hm, hk, hb⟩ := F.ex
  exact pe_call h hr hg hm hk hb .nil pass0 ha hdb he hpl
end

/-! ### texts -/
section
variable {X : Cx}
def repS (z : Str) (n : Nat) : Str := ⟨(List.replicate n z.cps.toList).flatten.toArray⟩
theorem fold_rep (a : Array Nat) : ∀ (n : Nat) (b : Array Nat), (List.replicate n a).foldl (· ++ ·) b = (b.toList ++ (List.replicate n a.toList).flatten).toArray
  | 0, b => by simp
  | n + 1, b => by
    rw [List.replicate_succ, List.foldl_cons, fold_rep a n]
    simp [List.replicate_succ]
theorem repS_eq (z : Str) (n : Nat) : (⟨(List.replicate n z.cps).foldl (· ++ ·) #[]⟩ : Str) = repS z n := by
  rw [fold_rep]; simp [repS]
theorem repS_len (z : Str) (n : Nat) : (repS z n).length = z.length * n := by
  show (List.replicate n z.cps.toList).flatten.toArray.size = z.cps.size * n
  simp [Nat.mul_comm]
def rMulS : R2 := fun x y H Q => ∃ (z : Str) (n : Int), x = .str z ∧ y = .int n ∧ 0 ≤ n ∧ n < 2 ^ 40 ∧ z.length * n.toNat ≤ 1000000 ∧ Q (.str (repS z n.toNat)) H
theorem op_mul_str : OpR X (binaryOp .Mult) rMulS := by
  intro pins s σ H x y v u Q I rx ry h
  obtain ⟨z, n, rfl, rfl, h0, h1, h2, q⟩ := h
  obtain ⟨t, rfl⟩ := rx
  obtain ⟨t', rfl⟩ := ry
  have b1 : ¬ n < -(2 ^ 63 : Int) := by omega
  have b2 : ¬ n ≥ (2 ^ 63 : Int) := by omega
  have hz : z.length * n.toNat ≤ sizeLine := Nat.le_trans h2 (by decide)
  refine PySem.P.mul_str (by rw [decide_eq_false b1, decide_eq_false b2]; rfl) (fun c1 _ => ?_) (fun _ _ => ?_) ?_
  · have hn : 1 ≤ n := by omega
    have hl : z.length ≤ 1000000 := by
      have : 1 ≤ n.toNat := by omega
      calc z.length = z.length * 1 := (Nat.mul_one _).symm
        _ ≤ z.length * n.toNat := Nat.mul_le_mul_left _ this
        _ ≤ 1000000 := h2
    have hd : (1000000 : Int) ≤ (2 ^ 63 - 1) / n := by
      rw [Int.le_ediv_iff_mul_le (by omega)]
      omega
    omega
  · show (decide _) = false
    exact decide_eq_false (by omega)
  · by_cases c1 : n < 1
    · rw [if_pos c1]
      have e : n.toNat = 0 := by omega
      have e2 : repS z n.toNat = Str.empty := by rw [e]; rfl
      rw [e2] at q
      exact ⟨by decide, .str Str.empty, H, I.tok _, ⟨_, rfl⟩, q⟩
    · rw [if_neg c1]
      by_cases c2 : (n == 1 || z.length == 0) = true
      · rw [if_pos c2]
        have e2 : repS z n.toNat = z := by
          rcases Bool.or_eq_true_iff.mp c2 with c | c
          · have : n = 1 := eq_of_beq c
            subst this
            show (⟨(List.replicate 1 z.cps.toList).flatten.toArray⟩ : Str) = z
            simp
          · have c' : z.length = 0 := eq_of_beq c
            have hz0 : z.cps = #[] := Array.eq_empty_of_size_eq_zero c'
            obtain ⟨cps⟩ := z
            simp only at hz0
            subst hz0
            simp [repS]
        rw [e2] at q
        exact ⟨.str z, H, I, ⟨t, rfl⟩, q⟩
      · rw [if_neg c2]
        refine ⟨?_, ?_⟩
        · rw [repS_eq, repS_len]; exact hz
        · rw [repS_eq]
          exact ⟨.str _, H, I.tok _, ⟨_, rfl⟩, q⟩

/-- z[::-1] -/
def revS (z : Str) : Str := ⟨z.cps.toList.reverse.toArray⟩
def tRevS (te : TE) : TE := fun σ H Q => te σ H fun x H1 => ∃ z : Str, x = .str z ∧ z.length ≤ sizeLine ∧ Q (.str (revS z)) H1
theorem picked_rev (z : Str) (t : Tok) : ((PySem.slicePicked z none none (some (-1, t))).filterMap (z.cps[·]?)).toArray = z.cps.toList.reverse.toArray := by
  unfold PySem.slicePicked Builtin.Str.strSliceIndices
  simp only [Option.map_none, Option.map_some, Option.getD_some, show ¬ ((-1 : Int) > 0) by decide, if_false]
  rw [show (z.length : Int) = ((z.cps.size : Nat) : Int) from rfl, PySem.W.krv_sliceRange, PySem.W.krv_range, List.filterMap_reverse, PySem.W.krv_all]
theorem pe_revS {e : Expr} {te : TE} {k : Nat} {p1 p2 p3 pos : Pos} (he : PE X e te) : PE X (.Subscript e (.Slice none none (some (.UnaryOp .USub (.Constant (.int 1) k p1) p2)) p3) pos) (tRevS te) := by
  refine ⟨fun pins s σ H Q I h => ?_⟩
  refine Subscript_ (thn (he.run pins s σ H _ I h) fun v s1 ⟨x, H1, I1, r1, q1⟩ => ?_)
  obtain ⟨z, ex, hz, q⟩ := q1
  subst ex
  obtain ⟨t, rfl⟩ := r1
  have stp : PO X (some (.UnaryOp .USub (.Constant (.int 1) k p1) p2)) (tPart (tUn (rU fun i => .int (-i)) (tC (.int 1)))) := po_some (pe_un un_neg pe_int)
  refine wpAny_Slice (thn (po_none.run pins s1 σ H1 (fun o H2 => o = none ∧ H2 = H1) I1 ⟨rfl, rfl⟩) fun vl s2 ⟨l, H2, I2, pl, el, e2⟩ => ?_)
  subst el; subst e2
  refine thn (po_none.run pins s2 σ H2 (fun o H3 => o = none ∧ H3 = H2) I2 ⟨rfl, rfl⟩) fun vu s3 ⟨u, H3, I3, pu, eu, e3⟩ => ?_
  subst eu; subst e3
  refine thn (stp.run pins s3 σ H3 (fun o H4 => o = some (-1) ∧ H4 = H3) I3 ⟨1, rfl, -1, rfl, rfl, rfl⟩) fun vs s4 ⟨o, H4, I4, ps, eo, e4⟩ => ?_
  subst eo; subst e4
  have I5 : Inv X pins σ H4 { s4 with heap := s4.heap.push { cls := .type "slice", data := .fields #[vl, vu, vs] } } := I4.kept (t' := s4.toks) fun b ob q => Heap.get?_push_of_some _ q
  cases pl; cases pu; cases ps
  rename_i tk _
  show wpAny (model X.prog X.w) X.A (subscriptTail e (.Slice none none (some (.UnaryOp .USub (.Constant (.int 1) k p1) p2)) p3) (.str z t) (.ref s4.heap.objs.size)) (EP X pins σ Q) X.xe _
  refine tail_any (ops := [.str z t, .ref s4.heap.objs.size]) (typeIs_str _ _ _) (PySem.F.slot_str_getitem.lookup) ?_ (by with_unfolding_all rfl)
  refine wpAny_getItem_str_slice (l := none) (u := none) (st := some (-1, tk)) (Heap.IsSliceOf.new _ _ _ _) rfl ?_
  have ne : ¬ ((((some (-1, tk) : Option (Int × Tok)).map (·.1)).getD 1 == 1 && (PySem.slicePicked z none none (some (-1, tk))).length == z.length) = true) := by
    show ¬ (((-1 : Int) == 1 && _) = true)
    simp
  unfold PySem.sliceMade
  rw [if_neg ne, picked_rev]
  refine ⟨?_, .str (revS z), H4, I5.tok _, ⟨_, rfl⟩, q⟩
  show z.cps.toList.reverse.toArray.size ≤ sizeLine
  rw [List.size_toArray, List.length_reverse, Array.length_toList]
  exact hz
end
end Kb

/-! ### own comparisons -/
namespace Kb
open PySem PySem.W PySem.Spec PyProof.Rows
section
variable {prog : Program} {w : World} {A : Around} {E : Value → Shared → Prop} {s : Shared} {K : Frag} {x C f L : Addr} {ox : Obj} {od : Option Obj} {h₀ : Heap} {m : Str → Option Value} {tb : Value}
theorem ifBound_B {M : Model} {name : Str} {id : String} {args : List Value} {Q : Option Value → Shared → Prop} (X : K.In s.heap) (I : InstAt s.heap x ox C od) (hs : findIn K (.ref C) name = some (some (.builtin id)))
    (hb : ∀ self, bindSpecial (.builtin id) self = pure (.builtin id, [self]))
    (h : wpAny M A (call (.builtin id) (.ref x :: args)) (fun v => Q (some v)) E s) : wpAny M A (callSpecialIfBound? (.ref x) name args) Q E s := by
  simp only [callSpecialIfBound?, bindSpecialIfBound?]
  refine wpAny_holding (wpAny_bind (wpAny_bind (wpAny_bind (I.type.here ((looks_findIn X hs).here ?_)))))
  refine wpAny_bind (wpAny_askSetting (wpAny_ite ?_))
  have fin : wpAny M A (call (.builtin id) ([.ref x] ++ args) >>= fun v => pure (some v)) Q E s := wpAny_bind (wpAny_mono h (fun v s' z => wpAny_pure z) fun _ _ z => z)
  split
  · exact wpAny_bind ((Looks.of_pure (hb _)).here (wpAny_pure (by exact fin)))
  · exact wpAny_tryCatch (wpAny_bind ((Looks.of_pure (hb _)).here (wpAny_pure (by exact fin))))
theorem check_slotI {i owner n : String} {self : Value} {rest : List Value} {kw : List (Str × Value)} {Q : Unit → Shared → Prop}
    (hk : builtinKind i = some .slot) (hs : splitId i = some (owner, n)) (hi : Looks (model prog w) s.heap (isInstance self (.type owner)) true) (ha : argsOk i ⟨self :: rest, kw⟩) (q : Q () s) :
    wpAny (model prog w) A (checkBuiltinCall i ⟨self :: rest, kw⟩) Q E s := by
  simp only [checkBuiltinCall, hk, hs]
  refine wpAny_bind (hi.here ?_)
  simp only [Bool.not_true, Bool.false_eq_true, if_false]
  cases hsig : Manifest.signature? i with
  | none => exact wpAny_pure q
  | some sig =>
    simp only [argsOk, hsig] at ha
    have h2 : Bind.checkArgs i sig ⟨self :: rest, kw⟩ = pure () := ha
    show wpAny _ A (Bind.checkArgs i sig ⟨self :: rest, kw⟩) Q E s
    rw [h2]; exact wpAny_pure q
theorem cmp_ne {b : Value} {Q : Value → Shared → Prop} (hu : A.units + 1 < cLine) (F : Fr h₀ L s.heap m) (X₀ : K.In h₀) (I : InstAt s.heap x ox C od) (hb : Looks (model prog w) s.heap (typeOf b) tb) (hn : notFirst K C tb = true)
    (hne : findIn K (.ref C) "__ne__" = some (some (.builtin "object.__ne__"))) (hm : subIn K (.ref C) (.type "object") = some true)
    (hs : findIn K (.ref C) "__eq__" = some (some (.ref f))) (hf : isFn K (.ref f) = true)
    (h : wpAny (model prog w) A.in1 (call (.ref f) [.ref x, b]) (fun v s' => ∃ k, v = .bool k ∧ Q (.bool (!k)) s') E s) : wpAny (model prog w) A (richCompare .NotEq (.ref x) b) Q E s := by
  have X := X₀.keeps F.keep
  have bs : ∀ self, bindSpecial (.builtin "object.__ne__") self = pure (.builtin "object.__ne__", [self]) := fun self => by with_unfolding_all rfl
  have isi : Looks (model prog w) s.heap (isInstance (.ref x) (.type "object")) true := by
    unfold isInstance
    exact I.type.andThen (looks_subIn X hm)
  have one : wpAny (model prog w) A (tryCompare (.ref x) (cmpInfo .NotEq).2.1 b) (fun r s' => ∃ v, r = some v ∧ Q v s') E s := by
    unfold tryCompare
    refine wpAny_bind (ifBound_B (id := "object.__ne__") X I hne bs ?_)
    refine wpAny_call (codeAny_call_builtin (by decide +kernel) PySem.F.cmpEntry_ne (check_slotI PySem.F.cmpKind_ne PySem.F.cmpSplit_ne isi (PySem.F.cmpArgs_ne _ _) ?_))
    unfold Builtin.«object.__ne__»
    have hu2 : A.in1.units < cLine := hu
    repeat (first
      | with_reducible refine wpAny_cRoomFor hu2 ?_
      | refine wpAny_bind (m := callSpecialIfBound? (.ref x) (Str.ofString "__eq__") [b]) (ifBound_K X I hs hf (wpAny_mono h (fun r s' hr => ?_) fun _ _ e => e))
      | wp_step)
    obtain ⟨k, rfl, hq⟩ := hr
    repeat (first | exact ⟨_, rfl, wpAny_pure hq⟩ | exact ⟨_, rfl, hq⟩ | exact hq | exact wpAny_pure hq | (refine wpAny_bind (m := truthy (.bool _)) (wpAny_truthy_bool ?_)) | wp_step)
  unfold richCompare
  simp only [oneThing_ref]
  refine wpAny_holding (wpAny_bind (wpAny_cRoomFor (by omega) ?_))
  refine wpAny_bind (I.type.here (wpAny_bind (hb.here ?_)))
  have fin : wpAny (model prog w) A (tryCompare (.ref x) (cmpInfo .NotEq).2.1 b) (fun r s' => ∃ v, r = some v ∧ Q v s') E s := one
  split
  · rename_i q
    have e : subIn K tb (.ref C) = some false := by
      rcases Bool.or_eq_true_iff.mp hn with e | e
      · rw [beq_iff_eq.mp e] at q; simp at q
      · exact beq_iff_eq.mp e
    refine wpAny_bind ((looks_subIn X e).here ?_)
    simp only [Bool.false_eq_true, if_false]
    refine wpAny_bind (wpAny_mono fin (fun r s' z => ?_) fun _ _ e => e)
    obtain ⟨v, rfl, hq⟩ := z
    exact wpAny_pure hq
  · refine wpAny_bind (wpAny_pure ?_)
    simp only [Bool.false_eq_true, if_false]
    refine wpAny_bind (wpAny_mono fin (fun r s' z => ?_) fun _ _ e => e)
    obtain ⟨v, rfl, hq⟩ := z
    exact wpAny_pure hq
end
end Kb

/-! ### methods of own classes, own comparisons, repr, defs that ask for the guards -/
namespace Kb
open PySem PySem.Spec PyProof.Rows L2
/-- a method of the class at C -/
structure MtC (P : Program) (w : World) (K : PySem.W.Frag) (mg : Str → Option Value) (base : Heap) (CX : CXT) (k : Nat) (C : Addr) (m : Str) (ps : List Str) (sp : Sp) : Prop where
  ex : ∃ (f : Addr) (fd : FuncData), FnOk P w K mg base CX k f fd ps sp ∧ Meth K C m f ∧ Binds K fd ps []
/-- how the class at C is made -/
structure MkC (P : Program) (w : World) (K : PySem.W.Frag) (mg : Str → Option Value) (base : Heap) (CX : CXT) (k : Nat) (C : Addr) (x : Str) (ps : List Str) (sp : Sp) : Prop where
  ex : ∃ (f : Addr) (fd : FuncData), FnOk P w K mg base CX k f fd ps sp ∧ Mk K C f ∧ mg x = some (.ref C) ∧ Binds K fd ps []
section
variable {X : Cx} {k : Nat} {x m : Str} {C : Addr} {ps : List Str} {sp : Sp} {e o : Expr} {es : List Expr} {t : TA} {ta : TE} {p pos apos : Pos}
theorem pe_makeC (F : MkC X.prog X.w X.K X.mg X.base CX0 k C x ps sp) (hr : Room (k + 1) X.A) (hg : Gl X x) (ha : PA X (e :: es) t) (hdb : (x == ("__debug__" : Str)) = false := by decide)
    (he : starEach (e :: es) X.env = (false, eval e X.env) :: starEach es X.env := by rfl) (hpl : (backTo pos (starEach es X.env)).any (·.1) = false := by rfl) :
    PE X (.Call (.Name x p) (e :: es) [] pos) (tMake C sp [] E0 t) := by
  obtain ⟨f, fd, h, M, hm, hb⟩ := F.ex
  exact pe_make M h hr hg hm hb .nil pass0 ha hdb he hpl
/-- x op y by the class's own def -/
def rOwnI (K : PySem.W.Frag) (C : Addr) (sp : Sp) (E : XK) : R2 := fun x y H Q => ∃ (a dx : Addr) (fs : List (Str × V)) (t : Value), x = .ref a ∧ H a = some (.ins C dx fs) ∧ TyX K H y t ∧ PySem.W.notFirst K C t = true ∧ sp [x, y] H Q E
theorem op_ownI {op : CmpOp} (hop : ∀ a b, compareOp op a b = richCompare op a b) (F : MtC X.prog X.w X.K X.mg X.base CX0 k C (cmpInfo op).2.1 ps sp) (hr : Room k X.A) : OpR X (compareOp op) (rOwnI X.K C sp E0) := by
  intro pins s σ H x y v u Q I rx ry h
  obtain ⟨a, dx, fs, ty, rfl, ha, hty, hn, q⟩ := h
  obtain ⟨f, fd, hf, M, hb⟩ := F.ex
  cases (show v = Value.ref a from rx)
  obtain ⟨mA, O, _⟩ := ins_get I.hok ha
  obtain ⟨od, J, _⟩ := O.look
  obtain ⟨P, Z, hP, _⟩ := kit_of I ry hty
  obtain ⟨m, hF⟩ := I.fr
  rw [hop]
  refine PySem.W.cmp_K (op := op) (tb := ty) hr.units0 hF I.ok.mod.kin J (Z.ty _ _ I.kIn hP) hn M.at_ M.fn ?_
  refine wpAny_mono (run_fn (us := [.ref a, u]) (vs := [.ref a, y]) hf hr hb .nil pass0 I (.cons rfl (.cons ry .nil)) q) (fun w s' z => ?_) fun _ _ z => z
  obtain ⟨z', H', I', rz, qz⟩ := z
  exact SlX.cmpback rz ⟨z', H', I', rz, qz⟩
/-- x != y by the class's own == alone -/
def rOwnNe (K : PySem.W.Frag) (C : Addr) (sp : Sp) : R2 := fun x y H Q => ∃ (a dx : Addr) (fs : List (Str × V)) (t : Value), x = .ref a ∧ H a = some (.ins C dx fs) ∧ TyX K H y t ∧ PySem.W.notFirst K C t = true ∧ sp [x, y] H (fun z H' => ∃ b, z = .bl b ∧ Q (.bl (!b)) H') E0
theorem op_neI (F : MtC X.prog X.w X.K X.mg X.base CX0 k C "__eq__" ps sp) (hne : PySem.W.findIn X.K (.ref C) "__ne__" = some (some (.builtin "object.__ne__"))) (hm : PySem.W.subIn X.K (.ref C) (.type "object") = some true) (hr : Room (k + 1) X.A) : OpR X (compareOp .NotEq) (rOwnNe X.K C sp) := by
  intro pins s σ H x y v u Q I rx ry h
  obtain ⟨a, dx, fs, ty, rfl, ha, hty, hn, q⟩ := h
  obtain ⟨f, fd, hf, M, hb⟩ := F.ex
  cases (show v = Value.ref a from rx)
  obtain ⟨mA, O, _⟩ := ins_get I.hok ha
  obtain ⟨od, J, _⟩ := O.look
  obtain ⟨P, Z, hP, _⟩ := kit_of I ry hty
  obtain ⟨m, hF⟩ := I.fr
  show wpAny _ _ (richCompare .NotEq (.ref a) u) _ _ _
  refine cmp_ne (tb := ty) (by have := hr.un; omega) hF I.ok.mod.kin J (Z.ty _ _ I.kIn hP) hn hne hm M.at_ M.fn ?_
  have r2 : Vals ([V.ref a, y] ++ []) ([Value.ref a, u] ++ []) := .cons rfl (.cons ry .nil)
  have q' : sp ([V.ref a, y] ++ []) H (fun z H' => ∃ b, z = .bl b ∧ Q (.bl (!b)) H') E0 := q
  have hl : ([Value.ref a, u] ++ []).length = ps.length := by rw [← r2.length]; exact hf.len _ _ _ _ q'
  refine wpAny_call (codeAny_mono (hf.run X.A.in1 X.stack s H ⟨[.ref a, u], []⟩ ([.ref a, u] ++ []) ([.ref a, y] ++ []) _ E0 hr.in1 I.env0.in1 (hb s _ I.kIn hl) r2 q') fun r s' hq => ?_)
  cases r with
  | error e => exact (show False from hq).elim
  | ok fl =>
    cases fl with
    | ret w =>
      obtain ⟨z, H', I', rz, b, eb, qz⟩ := I.after hq
      subst eb
      cases (show w = Value.bool b from rz)
      exact ⟨b, rfl, .bl (!b), H', I', rfl, qz⟩
    | next => exact False.elim hq
    | brk => exact False.elim hq
    | cont => exact False.elim hq
/-! ### repr of data -/
theorem call_reprD (hg : X.A.guards = some []) (hr : Room k X.A) : CallR X (.builtin "repr") (fun xs H Q => ∃ x d, xs = [x] ∧ Dp X.K H x d ∧ d.showable = true ∧ d.hasDict = false ∧ d.depth ≤ 100 ∧ d.shown.length ≤ sizeLine ∧ Q (.str d.shown) H) := by
  intro pins s σ H xs us Q I r h
  obtain ⟨x, d, rfl, hd, hs, hn, hdp, hl, q⟩ := h
  obtain ⟨u, rfl, ru⟩ := r.one
  obtain ⟨as, hR⟩ := Dp.reads I d x u hd ru
  have hu := hr.un
  cases hd with
  | non =>
    cases (show u = Value.none from ru)
    exact PySem.P.repr_of_none ⟨.str _, H, I.tok _, ⟨_, rfl⟩, q⟩
  | bl b =>
    cases (show u = Value.bool b from ru)
    exact PySem.P.repr_of_bool ⟨.str _, H, I.tok _, ⟨_, rfl⟩, by cases b <;> exact q⟩
  | int i => 
    obtain ⟨t, rfl⟩ := ru
    exact PySem.P.repr_of_int (of_decide_eq_true hs) ⟨.str _, H, I.tok _, ⟨_, rfl⟩, q⟩
  | str z =>
    obtain ⟨t, rfl⟩ := ru
    exact PySem.P.repr_of_str ⟨.str _, H, I.tok _, ⟨_, rfl⟩, q⟩ hl
  | @lst a ys ds h1 h2 =>
    cases (show u = Value.ref a from ru)
    exact PySem.repr_of_reads' hR hs (PySem.PyData.noDict_hsm hn) hg (by omega) (fun _ _ e => e) (fun h' t tk k => ⟨.str _, H, I.kept (t' := tk) k, ⟨_, rfl⟩, q⟩) hl
  | @tup a ys ds h1 h2 =>
    cases (show u = Value.ref a from ru)
    exact PySem.repr_of_reads' hR hs (PySem.PyData.noDict_hsm hn) hg (by omega) (fun _ _ e => e) (fun h' t tk k => ⟨.str _, H, I.kept (t' := tk) k, ⟨_, rfl⟩, q⟩) hl
end
end Kb

/-! ### defs that ask that no repr is under way -/
namespace Kb
open PySem PySem.Spec PyProof.Rows L2
structure FnOkG (P : Program) (w : World) (K : PySem.W.Frag) (mg : Str → Option Value) (base : Heap) (CX : CXT) (k : Nat) (f : Addr) (fd : FuncData) (ps : List Str) (sp : Sp) : Prop where
  len : ∀ vs H Q E, sp vs H Q E → vs.length = ps.length
  run : ∀ (A : Around) (outer : List Env) (s : Shared) (H : Hp) (ar : Args) (us : List Value) (vs : List V) (Q : VK) (E : XK), A.guards = some [] → Room k A → Env0 P w K mg base A outer s H → BindsTo s fd ar (ps.zip us) → Vals vs us → sp vs H Q E →
    codeAny (model P w) A (.call (.ref f) ar) (CR CX outer P w H s Q E) s
theorem FnOkG.of {P : Program} {w : World} {K : PySem.W.Frag} {mg : Str → Option Value} {base : Heap} {CX : CXT} {k : Nat} {f : Addr} {fd : FuncData} {ps : List Str} {sp : Sp} (F : FnOk P w K mg base CX k f fd ps sp) : FnOkG P w K mg base CX k f fd ps sp :=
  ⟨F.len, fun A o s H ar us vs Q E _ => F.run A o s H ar us vs Q E⟩
section
variable {CX : CXT} {P : Program} {w : World} {K : PySem.W.Frag} {mg : Str → Option Value} {base : Heap} {k : Nat} {f : Addr} {name qual : Str} {N ps : List Str} {sp : Sp} {st : Stmt} {fd : FuncData}
theorem okG (F : Fun K name qual st f fd) (S : FnScope N ps (defScope st)) (hlen : ∀ vs H Q E, sp vs H Q E → vs.length = ps.length)
    (hb : ∀ (cdv : Value) (A : Around) (outer : List Env) (s : Shared) (H : Hp) (vs : List V) (Q : VK) (E : XK), (A.deeper (envOfC qual (defScope st) s.heap.objs.size f cdv)).guards = some [] → Room k (A.deeper (envOfC qual (defScope st) s.heap.objs.size f cdv)) → sp vs H Q E →
      ∃ t, PSs (cxOf CX P w K mg base N qual (defScope st) f cdv A outer s H E) (defBody st) t ∧ t { nx := fun _ H' => Q .non H', rt := Q } (start N vs) H) :
    FnOkG P w K mg base CX (k + 1) f fd ps sp := by
  obtain ⟨oc, od, kV, doc, pm, an, cdv, ct, osl, rfl, lk, hcd⟩ := F.ex
  refine ⟨hlen, fun A outer s H ar us vs Q E hg hr e0 hbi r hsp => ?_⟩
  have hl := hlen _ _ _ _ hsp
  have KX : K.In s.heap := e0.mod.kin.keeps fun b o z => (e0.bs b o z).1
  have nl : s.heap.NoLimit := e0.mod.nolimit.keeps fun b o z => (e0.bs b o z).1
  have kinds : ∀ y ∈ ps.zip us, (defScope st).names.lookup y.1 = some .local ∨ ((defScope st).names.lookup y.1 = some .cell ∧ ((cellsFrom (s.heap.objs.size + 1) (defScope st).names []).lookup y.1).isSome = true) := fun ⟨n, v⟩ hy =>
    (S.par n (List.of_mem_zip hy).1).elim (fun q => .inl q) fun q => .inr ⟨q, PySem.W.cellsFrom_some _ _ _ (.inl q)⟩
  refine codeAny_call_function (Room.depth hr) (KX _ _ lk) rfl S.co S.gen rfl (PySem.W.codeRec_of KX hcd) (hbi _ _ _ _ ?_)
  refine wpAny_newFunctionEnv_cells (S.kind) kinds fun env he s1 x => ?_
  subst he
  refine ⟨nl.keeps x.toInCall.keep, codeAny_func ?_⟩
  obtain ⟨t, ht, hq⟩ := hb cdv A outer s H vs Q E hg (hr.deeper _) hsp
  have I := inv_start (CX := CX) (E := E) S hr.hd e0 hl r x
  refine wpAny_mono (ht.run [] s1 (start N vs) H _ I hq) (fun fl s' hs => ?_) fun _ _ z => z
  cases fl with
  | ret u =>
    obtain ⟨v, σ', H', J, rv, q⟩ := hs
    exact ⟨v, H', J.os, J.bare, J.base, J.hok, rv, q⟩
  | next =>
    obtain ⟨σ', H', J, q⟩ := hs
    exact ⟨.non, H', J.os, J.bare, J.base, J.hok, rfl, q⟩
  | brk =>
    obtain ⟨_, _, _, q⟩ := hs
    exact q.elim
  | cont =>
    obtain ⟨_, _, _, q⟩ := hs
    exact q.elim
end
structure FnG (P : Program) (w : World) (K : PySem.W.Frag) (mg : Str → Option Value) (base : Heap) (CX : CXT) (k : Nat) (x : Str) (ps : List Str) (sp : Sp) : Prop where
  ex : ∃ (f : Addr) (fd : FuncData), FnOkG P w K mg base CX k f fd ps sp ∧ mg x = some (.ref f) ∧ PySem.W.keepIn K (.ref f) = true ∧ Binds K fd ps []
section
variable {X : Cx} {CX : CXT} {k : Nat} {x : Str} {ps : List Str} {sp : Sp} {e : Expr} {es : List Expr} {t : TA} {p pos : Pos}
theorem pe_callG (F : FnG X.prog X.w X.K X.mg X.base CX0 k x ps sp) (hgd : X.A.guards = some []) (hr : Room k X.A) (hg : Gl X x) (ha : PA X (e :: es) t) (hdb : (x == ("__debug__" : Str)) = false := by decide)
    (he : starEach (e :: es) X.env = (false, eval e X.env) :: starEach es X.env := by rfl) (hpl : (backTo pos (starEach es X.env)).any (·.1) = false := by rfl) :
    PE X (.Call (.Name x p) (e :: es) [] pos) (tCall sp [] E0 t) := by
  obtain ⟨f, fd, hf, hm, hk, hb⟩ := F.ex
  refine ⟨fun pins s σ H Q I h => ?_⟩
  refine wpAny_Call_Name_kw (ld_glob I hg hm ?_ hdb)
  refine PySem.W.callWith_K (h₀ := X.base) I.ok.mod.kin hk (thn (ha.run pos pins s σ H _ I h) fun us s1 ⟨vs, H1, I1, r, q⟩ => ⟨I1.kIn, ?_⟩) he hpl
  have r2 : Vals (vs ++ []) (us ++ []) := r.append .nil
  have hl : (us ++ []).length = ps.length := by rw [← r2.length]; exact hf.len _ _ _ _ q
  refine wpAny_call (codeAny_mono (hf.run X.A X.stack s1 H1 ⟨us, []⟩ (us ++ []) (vs ++ []) Q E0 hgd hr I1.env0 (hb s1 us I1.kIn hl) r2 q) fun r s' hq => ?_)
  cases r with
  | error e => exact (show False from hq).elim
  | ok fl => cases fl with
    | ret u => exact I1.after hq
    | next => exact (show False from hq).elim
    | brk => exact (show False from hq).elim
    | cont => exact (show False from hq).elim
end
/-! ### the end for a law that asks for the guards -/
theorem lawG {P : Program} {w : World} {K : PySem.W.Frag} {mg mb : Str → Option Value} {k : Nat} {fa a : Addr} {fd : FuncData} {x : Str} {sp : Sp} {s₁ : Shared} {vs : List Value} {ns : List Int}
    (KX : K.In s₁.heap) (hns : s₁.heap.Ns mainGlobals mg) (hbn : s₁.heap.Ns builtinsNs mb) (hbb : ∀ x : Str, x ≠ "__name__" → mb x = bootBuiltins x) (nl : s₁.heap.NoLimit) (hg : s₁.gens = #[])
    (ha : s₁.heap.get? a = some { cls := .type "list", data := .seq vs.toArray }) (hi : IntsAre vs ns) (hl : ns.length ≤ sizeLine) (hr : Room k callerA)
    (F : ∀ base : Heap, K.In base → base.Ns mainGlobals mg → FnOkG P w K mg base CX0 k fa fd [x] sp) (bd : ∀ (s : Shared) (u : Value), BindsTo s fd ⟨[u], []⟩ [(x, u)])
    (hsp : ∀ H : Hp, Only H → SqL K H a (ns.map V.int) → sp [.ref a] H (fun v _ => v = .bl true) E0) :
    codeAny (model P w) callerA (.call (.ref fa) ⟨[.ref a], []⟩) (fun r s' => r = .ok (.ret (.bool true)) ∧ OldK s₁.heap s'.heap ∧ s'.os = s₁.os ∧ AllBare s'.gens) s₁ := by
  have rv := vals_ints hi
  have core : ∀ H : Hp, Only H → SqL K H a (ns.map V.int) → HOk P w H s₁.heap → (∀ b, H b ≠ none → b = a) → (H a ≠ none → K.lookup a = none) →
      codeAny (model P w) callerA (.call (.ref fa) ⟨[.ref a], []⟩) (fun r s' => r = .ok (.ret (.bool true)) ∧ OldK s₁.heap s'.heap ∧ s'.os = s₁.os ∧ AllBare s'.gens) s₁ := by
    intro H hO hS hok hA hK
    have free : ∀ {b : Addr} {o : Obj} {es : Array DictEntry} {ep : Nat}, s₁.heap.get? b = some o → o.data = .dict es ep → H b = none := fun {b o es ep} e d => Classical.byContradiction fun z => by
      have e' := hA b z
      subst e'
      rw [ha] at e; cases e
      exact nomatch (show Data.seq vs.toArray _ = Data.dict es ep from d)
    have nsK : ∀ {b : Addr} {m : Str → Option Value}, s₁.heap.Ns b m → (hidT s₁.heap H).Ns b m := fun {b m} ⟨o, es, ep, e, d, r⟩ => ⟨o, es, ep, hidT_get e (free e d), d, r⟩
    have hKb : K.In (hidT s₁.heap H) := fun b o e => hidT_get (KX b o e) (Classical.byContradiction fun z => by
      have e' := hA b z
      subst e'
      rw [hK z] at e; cases e)
    have hM : Mod K mg (hidT s₁.heap H) := ⟨hKb, nsK hns, ⟨mb, nsK hbn, hbb⟩, nl.elim fun mc z => ⟨mc, nsK z.1, z.2⟩⟩
    have e0 : Env0 P w K mg (hidT s₁.heap H) callerA [] s₁ H := ⟨rfl, hM, fun b o e => of_hidT e, Nat.le_of_eq (hidT_size _ _), trivial, fun b hb => (List.not_mem_nil hb).elim, hok, .of_eq hg⟩
    refine codeAny_mono ((F _ hKb (nsK hns)).run callerA [] s₁ H ⟨[.ref a], []⟩ [.ref a] [.ref a] _ _ rfl hr e0 (bd s₁ (.ref a)) (.cons rfl .nil) (hsp H hO hS)) fun r s' z => ?_
    cases r with
    | error e => exact (show False from z).elim
    | ok fl => cases fl with
      | next => exact (show False from z).elim
      | brk => exact (show False from z).elim
      | cont => exact (show False from z).elim
      | ret u =>
        obtain ⟨v, H', os, bare, un, hok', r', q⟩ := z
        cases (show v = V.bl true from q)
        cases (show u = Value.bool true from r')
        refine ⟨rfl, OldK.of_keep fun b o e => ?_, os, bare⟩
        rcases hO b with q | ⟨ob, xs, q⟩
        · exact un.keep b o e q (fun z => (List.not_mem_nil z).elim) (fun z => (List.not_mem_nil z).elim)
        · have e1 := (hok b _ q).1
          have e2 := (hok' b _ (un.frzs b ob _ q)).1
          rw [e] at e1; cases e1
          exact e2
  cases hk : K.lookup a with
  | some o =>
    have e := KX a o hk
    rw [ha] at e
    cases e
    exact core (fun _ => none) (fun _ => .inl rfl) (.inr ⟨_, vs.toArray, _, hk, rfl, rfl, rfl, by rw [List.size_toArray, hi.length]; exact hl, by simpa using rv⟩) (fun b u z => nomatch z) (fun b z => absurd rfl z) fun z => absurd rfl z
  | none =>
    refine core (fun b => if b = a then some (.frz { cls := .type "list", data := .seq vs.toArray } (.lst (ns.map V.int))) else none) (fun b => ?_) (.inl (.inr ⟨_, if_pos rfl⟩)) (fun b u z => ?_) (fun b z => Classical.byContradiction fun c => z (if_neg c)) fun _ => hk
    · by_cases c : b = a
      · exact .inr ⟨_, _, if_pos c⟩
      · exact .inl (if_neg c)
    · by_cases c : b = a
      · have z := (if_pos c).symm.trans z
        cases z
        subst c
        exact ⟨ha, by rw [List.length_map]; exact hl, vs, _, rv, ha⟩
      · have z := (if_neg c).symm.trans z
        cases z
theorem walk_ofG {l : PySem.W.OpenLaw} {n k : Nat} {q : Program} {loose : List Str} {XP : (Str → Option Value) → Heap → Prop} {YP : World → Heap → Prop} {d : DefRec} {K : Params → PySem.W.Frag} {sp : PySem.W.Frag → Sp} {x : Str}
    (hn : l.most = some n) (hn2 : n ≤ sizeLine) (hdf : d.params.defaults = []) (hr : Room k callerA) (hY : ∀ (w : World) (h : Heap), YP w h → (K w.params).In h)
    (F : ∀ (w : World) (mg : Str → Option Value) (fa : Addr) (h : Heap), (K w.params).In h → h.Ns mainGlobals mg → mg d.name = some (.ref fa) →
      ∃ fd : FuncData, (∀ (s : Shared) (u : Value), BindsTo s fd ⟨[u], []⟩ [(x, u)]) ∧ ∀ base : Heap, (K w.params).In base → base.Ns mainGlobals mg → FnOkG l.prog w (K w.params) mg base CX0 k fa fd [x] (sp (K w.params)))
    (hsp : ∀ (K : PySem.W.Frag) (H : Hp) (a : Addr) (ns : List Int), ns.length ≤ n → Only H → SqL K H a (ns.map V.int) → sp K [.ref a] H (fun v _ => v = .bl true) E0) :
    PySem.W.WalkO q loose XP YP l.row.toRowW d [] (fun f vs => PySem.call f vs) := by
  refine Att.attach_call hn hdf fun w s₀ s₁ mg mb fa o pm cd doc a vs ns G Y ho hd hcd hmg hobj hints hlen hg => ?_
  have KX := hY w _ Y
  obtain ⟨fd, hb, hF⟩ := F w mg fa _ KX G.T.g hmg
  exact lawG KX G.T.g G.T.b G.T.builtins G.T.nolimit hg hobj hints (Nat.le_trans hlen hn2) hr hF hb fun H hO hS => hsp (K w.params) H a ns hlen hO hS
end Kb

/-! ### own errors, defs that refuse, calls at the slots, clauses with and without a name -/
namespace Kb
open PySem PySem.Spec PyProof.Rows L2 ClX
def calm (sp : Sp) : Sp := fun vs H Q _ => sp vs H Q E0
theorem fn_calm {P : Program} {w : World} {K : PySem.W.Frag} {mg : Str → Option Value} {base : Heap} {k : Nat} {f : Addr} {fd : FuncData} {ps : List Str} {sp : Sp} (F : FnOk P w K mg base (L2.CX P w) k f fd ps sp) : FnOk P w K mg base CX0 k f fd ps (calm sp) := by
  refine ⟨fun vs H Q E h => F.len vs H Q E0 h, fun A outer s H ar us vs Q E hr e0 hb r h => codeAny_mono (F.run A outer s H ar us vs Q E0 hr e0 hb r h) fun rs s' z => ?_⟩
  cases rs with
  | ok fl => cases fl <;> exact z
  | error e =>
    obtain ⟨_, _, _, _, _, _, _, _, _, _, _, _, q⟩ := z
    exact (show False from q).elim
theorem FnC.calm {P : Program} {w : World} {K : PySem.W.Frag} {mg : Str → Option Value} {base : Heap} {k : Nat} {x : Str} {ps : List Str} {sp : Sp} (F : FnC P w K mg base (L2.CX P w) k x ps sp) : FnC P w K mg base CX0 k x ps (Kb.calm sp) :=
  let ⟨f, fd, h, r⟩ := F.ex
  ⟨f, fd, fn_calm h, r⟩
theorem MkC.calm {P : Program} {w : World} {K : PySem.W.Frag} {mg : Str → Option Value} {base : Heap} {k : Nat} {C : Addr} {x : Str} {ps : List Str} {sp : Sp} (F : MkC P w K mg base (L2.CX P w) k C x ps sp) : MkC P w K mg base CX0 k C x ps (Kb.calm sp) :=
  let ⟨f, fd, h, r⟩ := F.ex
  ⟨f, fd, fn_calm h, r⟩
theorem MtC.calm {P : Program} {w : World} {K : PySem.W.Frag} {mg : Str → Option Value} {base : Heap} {k : Nat} {C : Addr} {m : Str} {ps : List Str} {sp : Sp} (F : MtC P w K mg base (L2.CX P w) k C m ps sp) : MtC P w K mg base CX0 k C m ps (Kb.calm sp) :=
  let ⟨f, fd, h, r⟩ := F.ex
  ⟨f, fd, fn_calm h, r⟩

/-! ### calls that may raise, at the slots -/
def tMakeS (C : Addr) (sp : Sp) (E : L2.St → XK) (t : TA) : TE := fun σ H Q => t σ H fun vs H1 => ∀ x dx, H1 x = none → H1 dx = none → dx ≠ x →
  sp (.ref x :: vs) (upd (upd H1 dx (.own x)) x (.ins C dx [])) (fun v H2 => v = .non ∧ Q (.ref x) H2) (E σ)
section
variable {X : Cx} {k : Nat} {x m : Str} {f C : Addr} {fd : FuncData} {ps : List Str} {sp : Sp} {W : WX} {e o : Expr} {es : List Expr} {t : TA} {ta : TE} {p pos apos : Pos}
theorem pe_callSC (F : FnC X.prog X.w X.K X.mg X.base (L2.CX X.prog X.w) k x ps sp) (hr : Room k X.A) (tk : Takes X W) (hg : Gl X x) (ha : PA X (e :: es) t) (hdb : (x == ("__debug__" : Str)) = false := by decide)
    (he : starEach (e :: es) X.env = (false, eval e X.env) :: starEach es X.env := by rfl) (hpl : (backTo pos (starEach es X.env)).any (·.1) = false := by rfl) :
    PE X (.Call (.Name x p) (e :: es) [] pos) (tCallS sp (WE W) t) := by
  obtain ⟨f, fd, h, hm, hk, hb⟩ := F.ex
  exact pe_callS h hr hg hm hk hb (passAt tk) ha hdb he hpl
theorem run_makeS {CX : CXT} {E : XK} {pins : List (Addr × Obj)} {σ : L2.St} {H : Hp} {s : Shared} {Q : VK} {us : List Value} {vs : List V} (M : Mk X.K C f) (F : FnOk X.prog X.w X.K X.mg X.base CX k f fd ps sp) (hr : Room (k + 1) X.A) (hb : Binds X.K fd ps [])
    (hx : ∀ (pins : List (Addr × Obj)) (H' : Hp) (s : Shared) (e : Value) (s' : Shared), Inv X pins σ H' s → CX X.stack H' s E e s' → X.xe e s') (I : Inv X pins σ H s) (r : Vals vs us)
    (h : ∀ x dx, H x = none → H dx = none → dx ≠ x → sp (.ref x :: vs) (upd (upd H dx (.own x)) x (.ins C dx [])) (fun v H2 => v = .non ∧ Q (.ref x) H2) E) :
    wpAny (model X.prog X.w) X.A (call (.ref C) us) (EP X pins σ Q) X.xe s := by
  have hq := h (s.heap.objs.size + 1) s.heap.objs.size (I.hok.fresh (Nat.le_succ _)) (I.hok.fresh (Nat.le_refl _)) (Nat.ne_of_lt (Nat.lt_succ_self _))
  have I2 := Inv.made (C := C) I
  have r2 : Vals (V.ref (s.heap.objs.size + 1) :: vs) (Value.ref (s.heap.objs.size + 1) :: us) := .cons rfl r
  have hl : (Value.ref (s.heap.objs.size + 1) :: us).length = ps.length := by
    have e := r2.length
    rw [F.len _ _ _ _ hq] at e
    exact e.symm
  have b := hb _ (Value.ref (s.heap.objs.size + 1) :: us) I2.kIn (by rw [List.append_nil]; exact hl)
  rw [List.append_nil] at b
  refine wpAny_call (make_map (f := f) I.kIn M.makes M.init (beq_iff_eq.mp M.fn) (codeAny_mono (F.run _ X.stack _ _ ⟨Value.ref (s.heap.objs.size + 1) :: us, []⟩ (Value.ref (s.heap.objs.size + 1) :: us) _ _ E (hr.make C us [])
    (I2.env0.make C us []) b r2 hq) fun r s' hq' => ?_))
  cases r with
  | error e => exact hx pins _ _ e s' I2 hq'
  | ok fl =>
    cases fl with
    | ret u =>
      obtain ⟨v, H', I3, rv, ev, q3⟩ := I2.after hq'
      subst ev
      exact ⟨rv, ⟨V.ref (s.heap.objs.size + 1), H', I3, rfl, q3⟩⟩
    | next => exact False.elim hq'
    | brk => exact False.elim hq'
    | cont => exact False.elim hq'
theorem pe_makeS (F : MkC X.prog X.w X.K X.mg X.base (L2.CX X.prog X.w) k C x ps sp) (hr : Room (k + 1) X.A) (tk : Takes X W) (hg : Gl X x) (ha : PA X (e :: es) t) (hdb : (x == ("__debug__" : Str)) = false := by decide)
    (he : starEach (e :: es) X.env = (false, eval e X.env) :: starEach es X.env := by rfl) (hpl : (backTo pos (starEach es X.env)).any (·.1) = false := by rfl) :
    PE X (.Call (.Name x p) (e :: es) [] pos) (tMakeS C sp (WE W) t) := by
  obtain ⟨f, fd, h, M, hm, hb⟩ := F.ex
  refine ⟨fun pins s σ H Q I hh => ?_⟩
  refine wpAny_Call_Name_kw (ld_glob I hg hm ?_ hdb)
  refine PySem.W.callWith_K (h₀ := X.base) I.ok.mod.kin M.kp (thn (ha.run pos pins s σ H _ I hh) fun us s1 ⟨vs, H1, I1, r, q⟩ => ⟨I1.kIn, ?_⟩) he hpl
  exact run_makeS M h hr hb (fun pins H s e s' I z => passAt tk σ pins H s e s' I z) I1 r q
/-- cls(..), the i-th slot holds the class at C -/
def tMakeL (i : Nat) (C : Addr) (sp : Sp) (E : L2.St → XK) (t : TA) : TE := fun σ H Q => σ[i]? = some (some (.ref C)) ∧ tMakeS C sp E t σ H Q
theorem pe_makeL {i : Nat} {y : Str} (F : MkC X.prog X.w X.K X.mg X.base (L2.CX X.prog X.w) k C y ps sp) (hr : Room (k + 1) X.A) (tk : Takes X W) (hN : X.N[i]? = some x) (hv : Vis X.env.scope x) (ha : PA X (e :: es) t)
    (hdb : (x == ("__debug__" : Str)) = false := by decide) (hcd : (x == ("__classdict__" : Str)) = false := by decide)
    (he : starEach (e :: es) X.env = (false, eval e X.env) :: starEach es X.env := by rfl) (hpl : (backTo pos (starEach es X.env)).any (·.1) = false := by rfl) :
    PE X (.Call (.Name x p) (e :: es) [] pos) (tMakeL i C sp (WE W) t) := by
  obtain ⟨f, fd, h, M, hm, hb⟩ := F.ex
  refine ⟨fun pins s σ H Q I hh => ?_⟩
  obtain ⟨hs, ht⟩ := hh
  refine wpAny_Call_Name_kw (thn ((pe_var (pos := p) hN hv hdb hcd).run pins s σ H (fun v H1 => v = .ref C ∧ H1 = H) I ⟨.ref C, hs, rfl, rfl⟩) fun u s1 ⟨v, H1, I1, r1, q1⟩ => ?_)
  obtain ⟨rfl, rfl⟩ := q1
  cases r1
  refine PySem.W.callWith_K (h₀ := X.base) I.ok.mod.kin M.kp (thn (ha.run pos pins s1 σ _ _ I1 ht) fun us s2 ⟨vs, H2, I2, r, q⟩ => ⟨I2.kIn, ?_⟩) he hpl
  exact run_makeS M h hr hb (fun pins H s e s' I z => passAt tk σ pins H s e s' I z) I2 r q
/-- a classmethod of the class at C, its name x -/
structure CmC (P : Program) (w : World) (K : PySem.W.Frag) (mg : Str → Option Value) (base : Heap) (CX : CXT) (k : Nat) (C : Addr) (x m : Str) (ps : List Str) (sp : Sp) : Prop where
  ex : ∃ (f q : Addr) (fd : FuncData), FnOk P w K mg base CX k f fd ps sp ∧ CRead K C (.type "type") ∧ CMet K C (.type "type") m q f ∧ mg x = some (.ref C) ∧ Binds K fd ps []
theorem CmC.calm {P : Program} {w : World} {K : PySem.W.Frag} {mg : Str → Option Value} {base : Heap} {k : Nat} {C : Addr} {x m : Str} {ps : List Str} {sp : Sp} (F : CmC P w K mg base (L2.CX P w) k C x m ps sp) : CmC P w K mg base CX0 k C x m ps (Kb.calm sp) :=
  let ⟨f, q, fd, h, r⟩ := F.ex
  ⟨f, q, fd, fn_calm h, r⟩
def tCm (C : Addr) (sp : Sp) (E : L2.St → XK) (t : TA) : TE := fun σ H Q => t σ H fun vs H2 => sp (.ref C :: vs) H2 Q (E σ)
theorem pe_cmX {CX : CXT} {E : L2.St → XK} {pl : Sem Bool} (F : CmC X.prog X.w X.K X.mg X.base CX k C x m ps sp) (hr : Room k X.A) (hx : ∀ σ, PassesAt CX X σ (E σ)) (hg : Gl X x) (ha : PA X (e :: es) t) (hdb : (x == ("__debug__" : Str)) = false := by decide)
    (hst : starEach (e :: es) X.env = (false, eval e X.env) :: starEach es X.env := by rfl) (hpl : (backTo pos (starEach es X.env)).any (·.1) = false := by rfl)
    (ht : eval (.Call (.Attribute (.Name x p) m apos) (e :: es) [] pos) X.env = (do
      let ov ← eval (.Name x p) X.env
      standAt apos.atName
      let (f, first) ← holding [ov] (getMethod ov m pl)
      callWith pos f first (backTo pos (starEach (e :: es) X.env)) (backToKw pos (keywordEach [] X.env))) := by rfl) :
    PE X (.Call (.Attribute (.Name x p) m apos) (e :: es) [] pos) (tCm C sp E t) := by
  obtain ⟨f, q, fd, h, r, c, hm, hb⟩ := F.ex
  refine ⟨fun pins s σ H Q I hh => ?_⟩
  refine PySem.W.methodCall_KW (pl := pl) (ld_glob I hg hm ?_ hdb) ht
  refine getmethcm_ok I r c fun s2 I2 => ?_
  refine callwith_cm I2 (base_none I (Nat.le_refl _)) c.fi (thn (ha.run pos _ s2 σ H _ I2 hh) fun us s3 ⟨vs, H2, I3, rv, q2⟩ => ⟨⟨pin_at I3, I3.kIn⟩, ?_⟩) hst hpl
  have hl : (Value.ref C :: us).length = ps.length := by
    rw [← h.len _ _ _ _ q2]
    show us.length + 1 = vs.length + 1
    rw [rv.length]
  have b := hb s3 (.ref C :: us) I3.kIn (by rw [List.append_nil]; exact hl)
  rw [List.append_nil] at b
  have z : wpAny (model X.prog X.w) X.A (call (.ref s.heap.objs.size) us) (EP X ((s.heap.objs.size, PySem.W.methodObj (.ref f) (.ref C)) :: pins) σ Q) X.xe s3 := by
   refine wpAny_call (PySem.W.method_call (pin_at I3) (codeAny_mono (h.run X.A X.stack s3 H2 ⟨.ref C :: us, []⟩ (.ref C :: us) (.ref C :: vs) Q (E σ) hr I3.env0 b (.cons rfl rv) q2) fun r s' hq => ?_))
   cases r with
   | error e => exact hx σ _ H2 s3 e s' I3 hq
   | ok fl =>
    cases fl with
    | ret u => exact I3.after hq
    | next => exact False.elim hq
    | brk => exact False.elim hq
    | cont => exact False.elim hq
  exact thn z fun _ _ y => unpinE y
theorem pe_cmS {pl : Sem Bool} (F : CmC X.prog X.w X.K X.mg X.base (L2.CX X.prog X.w) k C x m ps sp) (hr : Room k X.A) (tk : Takes X W) (hg : Gl X x) (ha : PA X (e :: es) t) (hdb : (x == ("__debug__" : Str)) = false := by decide)
    (hst : starEach (e :: es) X.env = (false, eval e X.env) :: starEach es X.env := by rfl) (hpl : (backTo pos (starEach es X.env)).any (·.1) = false := by rfl)
    (ht : eval (.Call (.Attribute (.Name x p) m apos) (e :: es) [] pos) X.env = (do
      let ov ← eval (.Name x p) X.env
      standAt apos.atName
      let (f, first) ← holding [ov] (getMethod ov m pl)
      callWith pos f first (backTo pos (starEach (e :: es) X.env)) (backToKw pos (keywordEach [] X.env))) := by rfl) :
    PE X (.Call (.Attribute (.Name x p) m apos) (e :: es) [] pos) (tCm C sp (WE W) t) := pe_cmX F hr (passAt tk) hg ha hdb hst hpl ht
theorem pe_cmC {pl : Sem Bool} (F : CmC X.prog X.w X.K X.mg X.base CX0 k C x m ps sp) (hr : Room k X.A) (hg : Gl X x) (ha : PA X (e :: es) t) (hdb : (x == ("__debug__" : Str)) = false := by decide)
    (hst : starEach (e :: es) X.env = (false, eval e X.env) :: starEach es X.env := by rfl) (hpl : (backTo pos (starEach es X.env)).any (·.1) = false := by rfl)
    (ht : eval (.Call (.Attribute (.Name x p) m apos) (e :: es) [] pos) X.env = (do
      let ov ← eval (.Name x p) X.env
      standAt apos.atName
      let (f, first) ← holding [ov] (getMethod ov m pl)
      callWith pos f first (backTo pos (starEach (e :: es) X.env)) (backToKw pos (keywordEach [] X.env))) := by rfl) :
    PE X (.Call (.Attribute (.Name x p) m apos) (e :: es) [] pos) (tCm C sp (fun _ => E0) t) := pe_cmX F hr (fun _ _ _ _ _ _ _ z => (show False from z).elim) hg ha hdb hst hpl ht
/-- a property of the class at C -/
structure PrC (P : Program) (w : World) (K : PySem.W.Frag) (mg : Str → Option Value) (base : Heap) (k : Nat) (C : Addr) (m : Str) (sp : Sp) : Prop where
  ex : ∃ (f q : Addr) (fd : FuncData), FnOk P w K mg base CX0 k f fd ["self"] sp ∧ Cls K C ∧ PropOf K C m q f ∧ Binds K fd ["self"] []
theorem pe_propC (F : PrC X.prog X.w X.K X.mg X.base k C m sp) (hr : Room (k + 1) X.A) (he : PE X e ta) (hab : attributeBase e m X.env (eval e X.env) = eval e X.env := by rfl) : PE X (.Attribute e m pos) (tProp C sp [] E0 ta) := by
  obtain ⟨f, q, fd, h, c, hp, hb⟩ := F.ex
  exact pe_prop he c hp h hr hb .nil (fun _ _ _ _ _ _ _ z => (show False from z).elim) hab
end
end Kb

namespace Kb
open PySem PySem.Spec PyProof.Rows L2 ClX
/-! ### an own error that has no fields -/
/-- the class whose own initialiser is called by its name -/
structure UeC (K : PySem.W.Frag) (U : Addr) : Prop where
  rd : CRead K U (.type "type")
  at_ : PySem.W.findCls K (.ref U) (.type "type") "__init__" = some (.val (.builtin "ValueError.__init__"))
section
variable {X : Cx} {o e : Expr} {es : List Expr} {ta : TA} {x : Str} {U : Addr} {p p1 p2 pos : Pos}
theorem pe_uinit {pl : Sem Bool} (hU : UeC X.K U) (hg : Gl X x) (hm : X.mg x = some (.ref U)) (ha : PA X (e :: es) ta) (hdb : (x == ("__debug__" : Str)) = false := by decide)
    (hc : eval (.Call (.Attribute (.Name x p1) "__init__" p2) (e :: es) [] pos) X.env = (do
      let ov ← eval (.Name x p1) X.env
      standAt p2.atName
      let (f, first) ← holding [ov] (getMethod ov "__init__" pl)
      callWith pos f first (backTo pos (starEach (e :: es) X.env)) (backToKw pos (keywordEach [] X.env))) := by rfl)
    (he : starEach (e :: es) X.env = (false, eval e X.env) :: starEach es X.env := by rfl) (hpl : (backTo pos (starEach es X.env)).any (·.1) = false := by rfl) :
    PE X (.Call (.Attribute (.Name x p1) "__init__" p2) (e :: es) [] pos) (tVeI X.K ta) := by
  refine ⟨fun pins s σ H Q I h => ?_⟩
  refine PySem.W.methodCall_KW (ld_glob I hg hm ?_ hdb) hc
  refine PySem.W.method_cls I.kIn hU.rd.ga (PySem.W.cls_value I.kIn hU.rd.rd hU.at_ rfl ?_)
  show wpAny _ _ (callWith pos (Value.builtin "ValueError.__init__") [] (backTo pos (starEach (e :: es) X.env)) []) _ _ _
  refine PyProof.Rows.callWith_method1 (thn (ha.run pos pins _ σ H _ (I.tok _) h) fun us s1 ⟨vs, H1, I1, r1, a, C, ws, ev, hl, T, ea, q⟩ => ?_) he hpl
  subst ev
  cases r1 with
  | @cons _ u0 _ ur ra rw' =>
    obtain rfl : u0 = Value.ref a := ra
    have hlen : ur.length ≤ sizeLine := by
      rw [← Paired.length rw', sizeLine_eq]
      omega
    exact oinit_ok T I1 ea hlen fun s' J => ⟨.non, H1, J, rfl, q⟩
end
def sp_err0 (C : Addr) : Sp := fun vs H Q _ => ∃ a, vs = [.ref a] ∧ H a = some (exo a C none) ∧ Q .non H
theorem mk_endN {X : Cx} {pins : List (Addr × Obj)} {σ : L2.St} {H1 H2 : Hp} {hp hp2 h2 : Heap} {g1 g2 : Array GenState} {d1 d2 : Drawn} {t1 t2 : Nat} {os1 os2 : OsState} {a C : Addr} (I1 : Inv X pins σ H1 ⟨hp, g1, d1, t1, os1⟩)
    (ha : hp.objs.size ≤ a) (k : ∀ b o, hp.get? b = some o → hp2.get? b = some o) (un : Un (frs X.stack) [] (upd H1 a (exo a C none)) H2 hp2 h2) (hok : HOk X.prog X.w H2 h2) (ho : os2 = os1) (hb : AllBare g2)
    (ea : H2 a = some (exo a C none)) :
    ∃ (t0 : Addr) (G : Heap), Inv X pins σ (del H2 a) ⟨G, g2, d2, t2, os2⟩ ∧ (∀ b o, G.get? b = some o → h2.get? b = some o) ∧ G.get? a = none ∧
      h2.get? a = some ({ cls := .ref C, dict := none, data := .fields #[.ref t0, .none, .none, .none, .bool false, .none] } : Obj) ∧ (del H2 a) a = none := by
  obtain ⟨t0, hoe⟩ := exo_at hok ea
  have hn : H1 a = none := I1.hok.fresh ha
  obtain ⟨G, g1', g2'⟩ := restrict h2 fun b => decide (b ≠ a)
  have gk : ∀ b, b ≠ a → G.get? b = h2.get? b := fun b hb => g1' b (decide_eq_true hb)
  have ge : G.get? a = none := g2' a (by simp)
  have nha : ∀ {b : Addr} {o : Obj}, hp.get? b = some o → b ≠ a := fun {b o} z => Nat.ne_of_lt (Nat.lt_of_lt_of_le (Heap.lt_size z) ha)
  have up : ∀ {b : Addr}, b ≠ a → H1 b = none → upd H1 a (exo a C none) b = none := fun {b} hb n => by rw [upd_ne hb]; exact n
  have U : Un (frs X.stack) [] H1 (del H2 a) hp G := {
    keep := fun b o z n hf hx => by
      rw [gk b (nha z)]
      exact un.keep b o (k b o z) (up (nha z) n) hf hx
    slot := fun b o z n hf hx => by
      rw [gk b (nha z)]
      exact un.slot b o (k b o z) (up (nha z) n) hf hx
    free := fun b o z n hx => by
      rw [del_ne (nha z)]
      exact un.free b o (k b o z) (up (nha z) n) hx
    there := fun b o z hx => by
      rw [gk b (nha z)]
      exact un.there b o (k b o z) hx
    tups := fun b xs z => by
      rw [del_ne (ne_of_none z hn)]
      exact un.tups b xs (by rw [upd_ne (ne_of_none z hn)]; exact z)
    frzs := fun b o v z => by
      rw [del_ne (ne_of_none z hn)]
      exact un.frzs b o v (by rw [upd_ne (ne_of_none z hn)]; exact z)
    tbls := fun b ps z => by
      rw [del_ne (ne_of_none z hn)]
      exact un.tbls b ps (by rw [upd_ne (ne_of_none z hn)]; exact z) }
  have hok3 : HOk X.prog X.w (del H2 a) G := fun b o z => by
    have hba : b ≠ a := fun e => by
      rw [e, del_same] at z
      cases z
    rw [del_ne hba] at z
    have noa : ∀ {c : Addr}, H2 c = some (.own b) → c ≠ a := fun {c} hc => at_ne ea hc exo_own
    exact (hok b o z).stay (fun c v hc y => by
        have hca : c ≠ a := by
          rcases hc with hc | hc
          · rw [hc]
            exact hba
          · exact noa hc
        rw [gk c hca]
        exact y)
      (fun c hc => by rw [del_ne (noa hc)]; exact hc) (fun c xs hc => by rw [del_ne (at_ne ea hc exo_tup)]; exact hc)
  have J : Inv X pins σ (del H2 a) ⟨G, g2, d2, t2, os2⟩ := I1.call' (ch := []) ho U hok3 hb (fun b z => absurd z (by simp))
  refine ⟨t0, G, J, fun b o z => ?_, ge, hoe, del_same⟩
  by_cases hba : b = a
  · rw [hba, ge] at z
    cases z
  · exact (gk b hba).symm.trans z
/-- an own error without fields, made by its name -/
structure ErC (P : Program) (w : World) (K : PySem.W.Frag) (mg : Str → Option Value) (base : Heap) (x : Str) (C : Addr) : Prop where
  ex : ∃ (f : Addr) (fd : FuncData), FnOk P w K mg base CX0 2 f fd ["self"] (sp_err0 C) ∧ OexC K C ∧ PySem.W.findIn K (.ref C) "__init__" = some (some (.ref f)) ∧ PySem.W.typeIn K (.ref f) = some (.type "function") ∧ mg x = some (.ref C) ∧ Binds K fd ["self"] []
theorem pmk_err0 {X : Cx} {C : Addr} {x : Str} {p pos : Pos} (F : ErC X.prog X.w X.K X.mg X.base x C) (hr : Room 3 X.A) (hg : Gl X x) (hdb : (x == ("__debug__" : Str)) = false := by decide) :
    PMk X (.Call (.Name x p) [] [] pos) (fun _ H Q => Q (.ref C) none H) := by
  obtain ⟨f, fd, F1, T, iC, tI, hm, hb⟩ := F.ex
  intro pins s σ H Q I h
  obtain ⟨nm, q, N, bs, bm, sn, sub, ab, col, dd, k0, k1, k2, k3, k5, hC, hbm⟩ := T.cls
  refine wpAny_Call_Name_kw (ld_glob I hg hm ?_ hdb)
  refine PySem.W.callWith_K0 I.kIn T.kC ?_
  show wpAny _ _ (call (.ref C) []) _ _ _
  obtain ⟨hp, g, dr, tk, os⟩ := s
  have hsz : hp.objs.size ≤ hp.objs.size + 1 := Nat.le_succ _
  have hn : H (hp.objs.size + 1) = none := I.hok.fresh hsz
  have kk : ∀ b o, hp.get? b = some o → ((hp.push (PySem.W.kdv_tup [])).push (PySem.HandSPX.excO C hp.objs.size)).get? b = some o := fun b o e => Heap.get?_push_of_some _ (Heap.get?_push_of_some _ e)
  have hget : ((hp.push (PySem.W.kdv_tup [])).push (PySem.HandSPX.excO C hp.objs.size)).get? (hp.objs.size + 1) = some (PySem.HandSPX.excO C hp.objs.size) := by heap_get
  have I2 : Inv X pins σ (upd H (hp.objs.size + 1) (exo (hp.objs.size + 1) C none)) ⟨(hp.push (PySem.W.kdv_tup [])).push (PySem.HandSPX.excO C hp.objs.size), g, dr, tk, os⟩ :=
    I.laid (t' := tk) (a := hp.objs.size + 1) (o := exo (hp.objs.size + 1) C none) (h' := (hp.push (PySem.W.kdv_tup [])).push (PySem.HandSPX.excO C hp.objs.size)) kk hsz (exo_ok hget)
  have r2 : Vals [V.ref (hp.objs.size + 1)] [Value.ref (hp.objs.size + 1)] := .cons rfl .nil
  have b := hb _ [Value.ref (hp.objs.size + 1)] I2.kIn rfl
  have hq : sp_err0 C [V.ref (hp.objs.size + 1)] (upd H (hp.objs.size + 1) (exo (hp.objs.size + 1) C none)) (fun v H2 => v = .non ∧ H2 = upd H (hp.objs.size + 1) (exo (hp.objs.size + 1) C none)) E0 := ⟨_, rfl, upd_same, rfl, rfl⟩
  refine wpAny_call (PySem.HandSPX.call_own _root_.PySem.F.excBase_ValueError (fun Y => PySem.HandSPX.refsVE_contains Y bm hbm) (I.kIn _ _ hC) (PySem.W.looks_findIn I.kIn iC) (fun self => PySem.W.bind_fn I.kIn self tI) (Nat.zero_le _)
    (codeAny_mono (F1.run _ X.stack _ _ ⟨[Value.ref (hp.objs.size + 1)], []⟩ [Value.ref (hp.objs.size + 1)] _ _ E0 (hr.make C [] []) (I2.env0.make C [] []) b r2 hq) fun r s' hq' => ?_))
  cases r with
  | error er => exact (show False from hq').elim
  | ok fl =>
    cases fl with
    | ret u =>
      obtain ⟨v, H2, os2, bare2, un2, hok2, rv, ev, eH⟩ := hq'
      subst ev
      subst eH
      obtain ⟨h2, g2, d2, t2, os'⟩ := s'
      have ed : del (upd H (hp.objs.size + 1) (exo (hp.objs.size + 1) C none)) (hp.objs.size + 1) = H := by
        funext b
        by_cases hb : b = hp.objs.size + 1
        · rw [hb, del_same, hn]
        · rw [del_ne hb, upd_ne hb]
      obtain ⟨t0, G, J, kG, ge, hoe, na⟩ := mk_endN (d2 := d2) (t2 := t2) I hsz kk un2 hok2 os2 bare2 upd_same
      rw [ed] at J na
      exact ⟨rv, _, _, _, ⟨G, g2, d2, t2, os'⟩, _, .ref C, none, rfl, J, kG, ge, hoe, ⟨rfl, rfl⟩, rfl, rfl, na, rfl, bare2, raises_own T.exC T.tyC, h⟩
    | next => exact False.elim hq'
    | brk => exact False.elim hq'
    | cont => exact False.elim hq'
theorem ps_raise0 {X : Cx} {W : WX} {C : Addr} {x : Str} {p pos pos' : Pos} (F : ErC X.prog X.w X.K X.mg X.base x C) (hr : Room 3 X.A) (hc : X.calm = true) (tk : Takes X W) (hg : Gl X x) (hdb : (x == ("__debug__" : Str)) = false := by decide) :
    PS X (.Raise (some (.Call (.Name x p) [] [] pos)) none pos') (fun _ σ H => W (.ref C) none σ H) := ps_raise hc tk (pmk_err0 F hr hg hdb)
/-! ### clauses, with a name or without -/
inductive Cl where
  | pl (c : Value) (ts : Addr → Value → Option Addr → TS)
  | nm (c : Value) (i : Nat) (ts : Addr → Value → Option Addr → TS)
def Ends.unset (D : Ends) (i : Nat) : Ends := { nx := fun σ' H' => D.nx (σ'.set i none) H', rt := fun v H' => D.rt v H', bk := fun σ' H' => D.bk (σ'.set i none) H', ct := fun σ' H' => D.ct (σ'.set i none) H' }
def wCl (K : PySem.W.Frag) (Wout : WX) (D : Ends) : List Cl → WX
  | [] => Wout
  | .pl c ts :: r => fun cls d σ H => ∃ b, PySem.W.exmOne K cls c = some b ∧ (b = true → ∀ a, H a = none → ts a cls d D σ H) ∧ (b = false → wCl K Wout D r cls d σ H)
  | .nm c i ts :: r => fun cls d σ H => ∃ b, PySem.W.exmOne K cls c = some b ∧ (b = true → ∀ a, H a = none → ts a cls d (Ends.unset D i) (σ.set i (some (.ref a))) H) ∧ (b = false → wCl K Wout D r cls d σ H)
inductive ClOk (X : Cx) : List ExceptHandler → List Cl → Prop
  | nil : ClOk X [] []
  | pl {x : Str} {c : Value} {ts : Addr → Value → Option Addr → TS} {b₀ : Stmt} {suite : List Stmt} {np pos' : Pos} {hds : List ExceptHandler} {l : List Cl} (hc : Names X x c)
      (hsu : ∀ (a : Addr) (oe : Obj) (cls : Value) (d : Option Addr) (pn : List (Addr × Obj)), Zc cls d oe → (∃ vs, oe.data = .fields vs) → PSs (X.suite a ((a, oe) :: pn)) (b₀ :: suite) (ts a cls d)) (r : ClOk X hds l) :
      ClOk X (.ExceptHandler (some (.Name x np)) none (b₀ :: suite) pos' :: hds) (.pl c ts :: l)
  | nm {x n : Str} {i : Nat} {c : Value} {ts : Addr → Value → Option Addr → TS} {b₀ : Stmt} {suite : List Stmt} {np pos' : Pos} {hds : List ExceptHandler} {l : List Cl} (hN : X.N.Nodup) (hi : X.N[i]? = some n) (hln : X.env.kindOf n = some .local) (hc : Names X x c)
      (hsu : ∀ (a : Addr) (oe : Obj) (cls : Value) (d : Option Addr) (pn : List (Addr × Obj)), Zc cls d oe → (∃ vs, oe.data = .fields vs) → PSs (X.suite a ((a, oe) :: pn)) (b₀ :: suite) (ts a cls d)) (r : ClOk X hds l) :
      ClOk X (.ExceptHandler (some (.Name x np)) (some n) (b₀ :: suite) pos' :: hds) (.nm c i ts :: l)
section
variable {X : Cx} {body : List Stmt} {h₀ : ExceptHandler} {hds : List ExceptHandler} {l : List Cl} {pos : Pos} {tb : WX → TS} {Wout : WX}
theorem ps_tryCl (hs : X.stack = X.env :: X.outer) (hf : X.env.frame = some X.env.locals) (tk : Takes X Wout)
    (hb : ∀ (W : WX) (pn : List (Addr × Obj)) (xe : Value → Shared → Prop), Takes (X.tr pn xe) W → PassesOwn (model X.prog X.w) X.A X.env xe → PSs (X.tr pn xe) body (tb W))
    (hh : ClOk X (h₀ :: hds) l) : PS X (.Try body (h₀ :: hds) [] [] pos) (fun D σ H => tb (wCl X.K Wout D l) D σ H) := by
  refine ⟨fun pins s σ H D I h => ?_⟩
  have ok := I.ok
  have hfr : X.A.frames = some (X.env :: X.outer) := by rw [ok.frames, hs]
  refine wpAny_Try_except ?_
  refine wpAny_mono ((hb (wCl X.K Wout D l) (X.pn ++ pins) (fun e s₁ => wpAny (model X.prog X.w) X.A (noteFrame e X.env) (fun _ s₂ => wpAny (model X.prog X.w) X.A (setFlight e none) (fun _ s₃ =>
    wpAny (model X.prog X.w) X.A (handleBy e X.env (h₀ :: hds)) (SP X pins D) X.xe s₃) X.xe s₂) X.xe s₁) (fun u s' xx => ?_) PassesOwn.looking).run [] s σ H D (I.toTry _) h) (fun f s1 hsp => ?_) (fun e s1 he => he)
  · -- the catch
    obtain ⟨a, B, sI, pins', σ', H', cls, d, rfl, J', nb, up, sky, na, os, ag, w⟩ := xx
    have J : Inv X pins σ' H' sI := J'.ofTry ok
    have sky' : Sky B (X.env :: X.outer) a (Zc cls d) X.env.locals s'.heap := by rw [← hs]; exact sky
    show wpAny (model X.prog X.w) X.A (noteFrame (.ref a) X.env) _ _ _
    refine Sky.land Zc.steady hfr hf sky' fun h3 fl3 up3 => ?_
    have J3 : Inv X pins σ' H' { s' with heap := h3 } := J.landed nb fl3.1 (up.trans up3) os ag
    obtain ⟨oe3, vs3, he3, hz3, hd3⟩ := fl3.there
    have notFr : ∀ {h : Heap} {o : Obj} {vs : Array Value}, h.FunFrames B (X.env :: X.outer) → h.get? a = some o → o.data = .fields vs → a ∉ frs (X.env :: X.outer) := fun {h o vs} ff e dd hm => by
      obtain ⟨_, o', e', hnf⟩ := ff.mem hm
      rw [e] at e'; cases e'
      exact hnf _ dd
    have nfr := notFr fl3.2.2.1 he3 hd3
    have nL : a ≠ X.env.locals := fun z => nfr (List.mem_filterMap.mpr ⟨X.env, List.mem_cons_self, by rw [hf, z]⟩)
    have nF : a ∉ X.fs := fun hm => by
      obtain ⟨e, he, q⟩ := List.mem_filterMap.mp hm
      exact nfr (List.mem_filterMap.mpr ⟨e, List.mem_cons_of_mem _ he, q⟩)
    have S3 := J3.suite he3 hd3 na nL nF
    have LT : PySem.W.Looks (model X.prog X.w) h3 (typeOf (.ref a)) cls := fun A Q E s k q => wpAny_typeOf_ref (k _ _ he3) (by rw [hz3.1]; exact q)
    have test : ∀ {x : Str} {c : Value} {np : Pos}, Names X x c → ∀ {Q : Value → Shared → Prop} {E : Value → Shared → Prop}, Q c { s' with heap := h3 } → wpAny (model X.prog X.w) (X.A.mark (some (.ref a))) (eval (.Name x np) X.env) Q E { s' with heap := h3 } := fun {x c np} hc {Q E} q => by
      obtain ⟨hg, hdbg, hm | ⟨hm, hv, hnn⟩⟩ := hc
      · exact ld_glob (X := X.suite a ((a, oe3) :: (X.pn ++ pins))) S3 hg hm q hdbg
      · exact ld_blt (X := X.suite a ((a, oe3) :: (X.pn ++ pins))) S3 hg hm hv q hnn hdbg
    have go : ∀ {hds' : List ExceptHandler} {l' : List Cl}, ClOk X hds' l' → wCl X.K Wout D l' cls d σ' H' →
        wpAny (model X.prog X.w) X.A (handleBy (.ref a) X.env hds') (SP X pins D) X.xe { s' with heap := h3 } := by
      intro hds' l' hk
      induction hk with
      | nil =>
        intro w
        refine wpAny_handleBy_nil ?_
        obtain ⟨k1, k2, k3, oe, vs, T, oT, ts', he, hz, hd, h1, hr⟩ := id fl3
        unfold PySem.passOn
        refine wpAny_bind (wpAny_field he hd h1 ?_)
        rw [if_neg (show ¬ ((Value.ref T == Value.none) = true) from by simp)]
        have fin : wpAny (model X.prog X.w) X.A (setFlight (.ref a) X.env.frame) (fun _ s4 => wpAny (model X.prog X.w) X.A (throw (.ref a) : Sem Flow) (SP X pins D) X.xe s4) X.xe { s' with heap := h3 } := by
          rw [hf]
          refine HandSPX.setFlight_upZ fl3 fun h4 hh4 up4 => wpAny_throw (tk _ _ ?_)
          exact ⟨a, B, sI, pins, σ', H', cls, d, rfl, J, nb, (up.trans up3).trans up4, .inr (.inr (by rw [hs]; exact hh4)), na, os, ag, w⟩
        first
          | exact wpAny_bind (wpAny_pure (wpAny_bind fin))
          | exact wpAny_bind fin
      | @pl x c ts b₀ suite np pos' hds2 l2 hc hsu r ih =>
        intro w
        obtain ⟨b, hb1, hyes, hno⟩ := w
        refine wpAny_handleBy_cons (codeAny_handlers_test ?_) (by intro q; cases q)
        have LM := PySem.W.exm_one (M := model X.prog X.w) (J3.kIn) LT hb1
        refine test hc (LM.here ?_)
        cases b with
        | true =>
          refine codeAny_handlers_suite ?_
          refine HandSPX.lands_againZ fl3 fun h4 fl4 up4 => ?_
          have J4 : Inv X pins σ' H' { s' with heap := h4 } := J.landed nb fl4.1 ((up.trans up3).trans up4) os ag
          obtain ⟨oe4, vs4, he4, hz4, hd4⟩ := fl4.there
          have S4 := J4.suite he4 hd4 na nL nF
          refine wpAny_mono ((hsu a oe4 cls d (X.pn ++ pins) hz4 ⟨_, hd4⟩).run [] _ _ H' _ S4 (hyes rfl a na)) (fun f s6 hsp => ?_) (fun _ _ z => False.elim z)
          cases f with
          | next =>
            obtain ⟨σ6, H6, S6, q6⟩ := hsp
            exact ⟨_, _, S6.unsuite ok, q6⟩
          | brk =>
            obtain ⟨σ6, H6, S6, q6⟩ := hsp
            exact ⟨_, _, S6.unsuite ok, q6⟩
          | cont =>
            obtain ⟨σ6, H6, S6, q6⟩ := hsp
            exact ⟨_, _, S6.unsuite ok, q6⟩
          | ret u =>
            obtain ⟨v6, σ6, H6, S6, r6, q6⟩ := hsp
            exact ⟨_, _, _, S6.unsuite ok, r6, q6⟩
        | false =>
          show wpAny _ X.A (handleBy (.ref a) X.env hds2) _ _ _
          exact ih (hno rfl)
      | @nm x n i c ts b₀ suite np pos' hds2 l2 hN hi hln hc hsu r ih =>
        intro w
        have hloc : Loc X.env.scope n := .inl hln
        obtain ⟨b, hb1, hyes, hno⟩ := w
        refine wpAny_handleBy_cons (codeAny_handlers_test ?_) (by intro q; cases q)
        have LM := PySem.W.exm_one (M := model X.prog X.w) (J3.kIn) LT hb1
        refine test hc (LM.here ?_)
        cases b with
        | true =>
          refine codeAny_handlers_suite_as ?_
          refine HandSPX.lands_againZ fl3 fun h4 fl4 up4 => ?_
          have J4 : Inv X pins σ' H' { s' with heap := h4 } := J.landed nb fl4.1 ((up.trans up3).trans up4) os ag
          obtain ⟨oe4, vs4, he4, hz4, hd4⟩ := fl4.there
          have S4 := J4.suite he4 hd4 na nL nF
          refine store_ok (X := X.suite a ((a, oe4) :: (X.pn ++ pins))) (v := .ref a) S4 hN hi hloc rfl (fun s5 S5 => ?_) (.inr hln)
          refine wpAny_mono ((hsu a oe4 cls d (X.pn ++ pins) hz4 ⟨_, hd4⟩).run [] s5 _ H' _ S5 (hyes rfl a na)) (fun f s6 hsp => ?_) (fun _ _ z => False.elim z)
          have end_ : ∀ {σ6 : L2.St} {H6 : Hp} {Q : Shared → Prop}, Inv (X.suite a ((a, oe4) :: (X.pn ++ pins))) [] σ6 H6 s6 → (∀ s7, Inv X pins (σ6.set i none) H6 s7 → Q s7) →
              wpAny (model X.prog X.w) X.A (do bindName X.env n .none; unbindBehindTheSuite X.env n pos') (fun _ s7 => Q s7) X.xe s6 := fun {σ6 H6 Q} S6 hq => gone_ok (S6.unsuite ok) hN hi hln hq
          cases f with
          | next =>
            obtain ⟨σ6, H6, S6, q6⟩ := hsp
            exact end_ S6 fun s7 J7 => ⟨_, _, J7, q6⟩
          | brk =>
            obtain ⟨σ6, H6, S6, q6⟩ := hsp
            exact end_ S6 fun s7 J7 => ⟨_, _, J7, q6⟩
          | cont =>
            obtain ⟨σ6, H6, S6, q6⟩ := hsp
            exact end_ S6 fun s7 J7 => ⟨_, _, J7, q6⟩
          | ret u =>
            obtain ⟨v6, σ6, H6, S6, r6, q6⟩ := hsp
            exact end_ S6 fun s7 J7 => ⟨_, _, _, J7, r6, q6⟩
        | false =>
          show wpAny _ X.A (handleBy (.ref a) X.env hds2) _ _ _
          exact ih (hno rfl)
    exact go hh w
  · cases f with
    | next =>
      obtain ⟨σ', H', J', q⟩ := hsp
      exact wpAny_execs_nil ⟨σ', H', J'.ofTry ok, q⟩
    | brk =>
      obtain ⟨σ', H', J', q⟩ := hsp
      exact ⟨σ', H', J'.ofTry ok, q⟩
    | cont =>
      obtain ⟨σ', H', J', q⟩ := hsp
      exact ⟨σ', H', J'.ofTry ok, q⟩
    | ret u =>
      obtain ⟨v, σ', H', J', r, q⟩ := hsp
      exact ⟨v, σ', H', J'.ofTry ok, r, q⟩
end
/-! ### isinstance of a caught error and several classes -/
def clsA : Value → Addr
  | .ref D => D
  | _ => 0
/-- a suite whose reading has what it knows of the class -/
theorem pss_if {X : Cx} {p : Prop} {b : List Stmt} {t : TS} (h : p → PSs X b t) : PSs X b (fun D σ H => p ∧ t D σ H) :=
  ⟨fun pins s σ H D I z => (h z.1).run pins s σ H D I z.2⟩
def ErrD (K : PySem.W.Frag) (cls : Value) (d : Option Addr) : Prop := ∃ D, cls = .ref D ∧ d = none ∧ ExcC K D
def rIsET (K : PySem.W.Frag) (D a : Addr) : List V → Hp → VK → Prop := fun xs H Q => ∃ (tp : Addr) (cs : List V) (us : List Value) (b : Bool), xs = [.ref a, .ref tp] ∧ H tp = some (.tup cs) ∧ Paired ClsV cs us ∧ PySem.W.kitAny K (.ref D) us = some b ∧ Q (.bl b) H
theorem call_isET {X : Cx} {a : Addr} {cls : Value} {d : Option Addr} {oe : Obj} {pn : List (Addr × Obj)} (C : ErrD X.K cls d) (hz : Zc cls d oe) (hf : ∃ vs, oe.data = .fields vs) : CallR (X.suite a ((a, oe) :: pn)) (.builtin "isinstance") (rIsET X.K (clsA cls) a) := by
  obtain ⟨D, rfl, rfl, C⟩ := C
  intro pins s σ H xs us Q I r h
  obtain ⟨tp, cs, ws, b, rfl, hT, k, e, q⟩ := h
  obtain ⟨u1, u2, rfl, r1, r2⟩ := vals2 r
  cases (show u1 = Value.ref a from r1)
  cases (show u2 = Value.ref tp from r2)
  obtain ⟨hget, _⟩ := I.pin (a, oe) (List.mem_append.mpr (.inl List.mem_cons_self))
  obtain ⟨vs, hv⟩ := hf
  have J : PySem.W.InstAt s.heap a oe D none := by
    obtain ⟨oc, od, oda, osl⟩ := oe
    obtain ⟨h1, h2⟩ := hz
    dsimp only at h1 h2 hv
    subst h1 h2 hv
    exact ⟨hget, rfl, rfl, trivial⟩
  obtain ⟨_, its, rv, o, h1, h2, n, h3⟩ := (show ObjOk X.prog X.w H s.heap tp (.tup cs) from I.hok tp _ hT)
  have e3 := ClsV.all k rv
  subst e3
  obtain ⟨oc, od, dt, sl⟩ := o
  simp only at h2 h3
  subst h2 h3
  exact PySem.W.kia_tup (PySem.W.handS_kitx_exc C.hg C.hk C.hs C.hd C.ha C.hn C.ht C.hm) I.kIn J h1 e (fun z => nomatch z) fun tk => ⟨.bl b, H, I.kept (t' := tk) fun _ _ z => z, rfl, q⟩
theorem call_isED {X : Cx} {a : Addr} {cls : Value} {d : Option Addr} {oe : Obj} {pn : List (Addr × Obj)} (C : ErrD X.K cls d) (hz : Zc cls d oe) (hf : ∃ vs, oe.data = .fields vs) : CallR (X.suite a ((a, oe) :: pn)) (.builtin "isinstance") (rIsE X.K (clsA cls) a) := by
  obtain ⟨D, rfl, rfl, C⟩ := C
  exact call_isE C hz hf
end Kb
namespace Kb
open PySem PySem.Spec PyProof.Rows L2 ClX
theorem ErC.nm {P : Program} {w : World} {K : PySem.W.Frag} {mg : Str → Option Value} {base : Heap} {x : Str} {C : Addr} (F : ErC P w K mg base x C) : mg x = some (.ref C) := let ⟨_, _, _, _, _, _, h, _⟩ := F.ex; h
structure NmC (mg : Str → Option Value) (x : Str) (C : Addr) : Prop where
  nm : mg x = some (.ref C)
end Kb
namespace Kb
open PySem PySem.Spec PyProof.Rows L2 ClX
theorem kit_ownF {K : PySem.W.Frag} {t c : Addr} (hr : PySem.W.subIn K (.ref t) (.ref t) = some true) (hd : PySem.W.hasDictIn K c = true) (ht : PySem.W.typeIn K (.ref c) = some (.type "type")) (h : PySem.W.subIn K (.ref t) (.ref c) = some false) : PySem.W.kitOne K (.ref t) (.ref c) = some false := by
  unfold PySem.W.kitOne
  by_cases e : t = c
  · subst e; rw [hr] at h; cases h
  · obtain ⟨cd, hc, _⟩ := PySem.W.any_some hd
    have e2 : ((PySem.W.clsIn K c).isSome && PySem.W.typeIn K (.ref c) == some (.type "type")) = true := by rw [hc, ht] <;> rfl
    rw [if_neg (fun z => e (Value.ref.inj (beq_iff_eq.mp z)))]
    show (if ((PySem.W.clsIn K c).isSome && PySem.W.typeIn K (.ref c) == some (.type "type")) = true then PySem.W.subIn K (.ref t) (.ref c) else none) = some false
    rw [if_pos e2]
    exact h
theorem kit_ownB {K : PySem.W.Frag} {b : String} {c : Addr} (hd : PySem.W.hasDictIn K c = true) (ht : PySem.W.typeIn K (.ref c) = some (.type "type")) (h : PySem.W.subIn K (.type b) (.ref c) = some false) : PySem.W.kitOne K (.type b) (.ref c) = some false := by
  unfold PySem.W.kitOne
  obtain ⟨cd, hc, _⟩ := PySem.W.any_some hd
  have e2 : ((PySem.W.clsIn K c).isSome && PySem.W.typeIn K (.ref c) == some (.type "type")) = true := by rw [hc, ht] <;> rfl
  rw [if_neg (fun z => nomatch (beq_iff_eq.mp z : Value.type b = Value.ref c))]
  show (if ((PySem.W.clsIn K c).isSome && PySem.W.typeIn K (.ref c) == some (.type "type")) = true then PySem.W.subIn K (.type b) (.ref c) else none) = some false
  rw [if_pos e2]
  exact h
theorem kit_ownT {K : PySem.W.Frag} {t c : Addr} (hd : PySem.W.hasDictIn K c = true) (ht : PySem.W.typeIn K (.ref c) = some (.type "type")) (h : PySem.W.subIn K (.ref t) (.ref c) = some true) : PySem.W.kitOne K (.ref t) (.ref c) = some true := by
  unfold PySem.W.kitOne
  by_cases e : t = c
  · subst e; rw [if_pos (beq_self_eq_true _)]
  · obtain ⟨cd, hc, _⟩ := PySem.W.any_some hd
    have e2 : ((PySem.W.clsIn K c).isSome && PySem.W.typeIn K (.ref c) == some (.type "type")) = true := by rw [hc, ht] <;> rfl
    rw [if_neg (fun z => e (Value.ref.inj (beq_iff_eq.mp z)))]
    show (if ((PySem.W.clsIn K c).isSome && PySem.W.typeIn K (.ref c) == some (.type "type")) = true then PySem.W.subIn K (.ref t) (.ref c) else none) = some true
    rw [if_pos e2]
    exact h
theorem kit_VE {K : PySem.W.Frag} {t : Addr} (h : PySem.W.subIn K (.ref t) (.type "ValueError") = some true) : PySem.W.kitOne K (.ref t) (.type "ValueError") = some true := by
  unfold PySem.W.kitOne
  rw [if_neg (by intro z; have := beq_iff_eq.mp z; cases this)]
  show (if PySem.W.kitMeta "ValueError" = true then PySem.W.subIn K (.ref t) (.type "ValueError") else none) = some true
  rw [if_pos (by decide +kernel)]
  exact h
end Kb

namespace PySem.W
open PySem PySem.Calls PyProof.Rows Builtin
theorem abs_K {prog : Program} {w : World} {A : Around} {E : Value → Shared → Prop} {s : Shared} {K : Frag} {x C f : Addr} {ox : Obj} {od : Option Obj} {Q : Value → Shared → Prop} (X : K.In s.heap) (I : InstAt s.heap x ox C od)
    (hs : findIn K (.ref C) "__abs__" = some (some (.ref f))) (hf : isFn K (.ref f) = true) (h : wpAny (model prog w) A.in1 (call (.ref f) [.ref x]) Q E s) : wpAny (model prog w) A (call (.builtin "abs") [.ref x]) Q E s := by
  refine Calls.call_function_entry kind_abs plain_abs entry_abs (args_abs _) ?_
  unfold Builtin.«abs»
  refine wpAny_bind (m := oneArg "abs" _) (wpAny_pure ?_)
  refine wpAny_bind (m := callSpecial? (.ref x) (Str.ofString "__abs__")) (special_fn X I hs (beq_iff_eq.mp hf) (wpAny_mono h (fun r s' hr => ?_) fun _ _ y => y))
  exact wpAny_pure ⟨_, rfl, hr⟩
def InsP (K : Frag) (x dx C : Addr) (h : Heap) : Prop := K.In h ∧ ∃ od, InstAt h x (instObj C dx) C od
theorem callWith_inst {M : Model} {A : Around} {E : Value → Shared → Prop} {s : Shared} {K : Frag} {env : Env} {pos : Pos} {x dx C : Addr} {Q : Value → Shared → Prop} {e : Expr} {rest : List Expr}
    (h : wpAny M A (spliced (backTo pos (starEach (e :: rest) env))) (fun vs s₁ => InsP K x dx C s₁.heap ∧ wpAny M A (call (.ref x) vs) Q E s₁) E s)
    (he : starEach (e :: rest) env = (false, eval e env) :: starEach rest env := by rfl) (hplain : (backTo pos (starEach rest env)).any (·.1) = false := by rfl) :
    wpAny M A (callWith pos (.ref x) [] (backTo pos (starEach (e :: rest) env)) []) Q E s := by
  rw [he] at h ⊢
  have hp : ((backTo pos ((false, eval e env) :: starEach rest env)).any (·.1) || ([] : List (Option Str × Sem Value)).any (·.1.isNone)) = false := by
    show ((false || (backTo pos (starEach rest env)).any (·.1)) || false) = false
    rw [hplain]; rfl
  have h2 := evalArgs_plain (f := .ref x) (Q := fun (a : Args) s₁ => InsP K x dx C s₁.heap ∧ wpAny M A (call (.ref x) a.pos a.kw) Q E s₁) h
  unfold callWith
  refine wpAny_bind (wpAny_holding (wpAny_mono h2 (fun a s₁ h₁ => wpAny_bind (wpAny_standAt ?_)) fun _ _ y => y))
  obtain ⟨⟨_, od, J⟩, h3⟩ := h₁
  have L := kco_keeper (M := M) J rfl
  simp only [hp]
  refine wpAny_bind (L.here ?_)
  have tail : ∀ {t : Sem Value}, wpAny M A t Q E s₁ → wpAny M A (t >>= fun r => holding [r] point >>= fun _ => pure r) Q E s₁ :=
    fun ht => wpAny_bind (wpAny_mono ht (fun r s₂ hr => wpAny_bind (wpAny_holding (wpAny_point (wpAny_pure hr)))) fun _ _ y => y)
  exact tail (wpAny_operateT h3)
end PySem.W
namespace Kb
open PySem PySem.Spec PyProof.Rows L2 ClX
section
variable {X : Cx} {k : Nat} {C : Addr} {ps : List Str} {sp : Sp}
/-- a method with self alone, called one in, its answer looked at -/
theorem run_self {pins : List (Addr × Obj)} {σ : L2.St} {H : Hp} {s : Shared} {a : Addr} {f : Addr} {fd : FuncData} {Q : VK} {Qf : Value → Shared → Prop} {A : Around} (I : Inv X pins σ H s) (F : FnOk X.prog X.w X.K X.mg X.base CX0 k f fd ["self"] sp) (hr : Room k A) (hb : Binds X.K fd ["self"] []) (h : sp [.ref a] H Q E0)
    (fin : ∀ u s', EP X pins σ Q u s' → Qf u s') (hA : A.frames = X.A.frames) {E : Value → Shared → Prop} : wpAny (model X.prog X.w) A (call (.ref f) [.ref a]) Qf E s := by
  have b := hb s [.ref a] I.kIn rfl
  have e0 : Env0 X.prog X.w X.K X.mg X.base A X.stack s H := ⟨hA.trans I.env0.frames, I.env0.mod, I.env0.bs, I.env0.bsz, I.env0.funs, I.env0.frf, I.env0.hok, I.env0.bare⟩
  refine wpAny_call (codeAny_mono (F.run A X.stack s H ⟨[.ref a], []⟩ ([.ref a] ++ []) [.ref a] Q E0 hr e0 b (Paired.cons (show RelV (V.ref a) (Value.ref a) from rfl) Paired.nil) h) fun r s' hq => ?_)
  cases r with
  | error e => exact (show False from hq).elim
  | ok fl =>
    cases fl with
    | ret u => exact fin u s' (I.after hq)
    | next => exact False.elim hq
    | brk => exact False.elim hq
    | cont => exact False.elim hq
def rSelf (C : Addr) (sp : Sp) : List V → Hp → VK → Prop := fun xs H Q => ∃ (a dx : Addr) (fs : List (Str × V)), xs = [.ref a] ∧ H a = some (.ins C dx fs) ∧ sp [.ref a] H Q E0
/-- abs(x), x an own instance -/
theorem call_absC (F : MtC X.prog X.w X.K X.mg X.base CX0 k C "__abs__" ["self"] sp) (hr : Room (k + 1) X.A) : CallR X (.builtin "abs") (rSelf C sp) := by
  intro pins s σ H xs us Q I r h
  obtain ⟨a, dx, fs, rfl, ha, q⟩ := h
  obtain ⟨f, fd, hf, M, hb⟩ := F.ex
  obtain ⟨u, rfl, ru⟩ := r.one
  cases (show u = Value.ref a from ru)
  obtain ⟨mA, O, _⟩ := ins_get I.hok ha
  obtain ⟨od, J, _⟩ := O.look
  exact PySem.W.abs_K I.kIn J M.at_ M.fn (run_self I hf hr.in1 hb q (fun u s' z => z) rfl)
/-- len(x), x an own instance -/
def rSelfLen (C : Addr) (sp : Sp) : List V → Hp → VK → Prop := fun xs H Q => ∃ (a dx : Addr) (fs : List (Str × V)), xs = [.ref a] ∧ H a = some (.ins C dx fs) ∧ sp [.ref a] H (fun v H' => ∃ n : Int, v = .int n ∧ 0 ≤ n ∧ n < 2 ^ 63 ∧ Q (.int n) H') E0
theorem call_lenC (F : MtC X.prog X.w X.K X.mg X.base CX0 k C "__len__" ["self"] sp) (hr : Room (k + 1) X.A) : CallR X (.builtin "len") (rSelfLen C sp) := by
  intro pins s σ H xs us Q I r h
  obtain ⟨a, dx, fs, rfl, ha, q⟩ := h
  obtain ⟨f, fd, hf, M, hb⟩ := F.ex
  obtain ⟨u, rfl, ru⟩ := r.one
  cases (show u = Value.ref a from ru)
  obtain ⟨mA, O, _⟩ := ins_get I.hok ha
  obtain ⟨od, J, _⟩ := O.look
  obtain ⟨m, hF⟩ := I.fr
  refine PySem.W.len_K hF I.ok.mod.kin J M.at_ M.fn (run_self I hf hr.in1 hb q (fun u s' z => ?_) rfl)
  obtain ⟨v, H', I', rv, n, rfl, n0, n1, q'⟩ := z
  obtain ⟨t, rfl⟩ := rv
  exact ⟨⟨n0, n1⟩, .int n, H', I'.tok _, ⟨_, rfl⟩, q'⟩
/-- str(x), x an own instance -/
def rSelfStr (C : Addr) (sp : Sp) : List V → Hp → VK → Prop := fun xs H Q => ∃ (a dx : Addr) (fs : List (Str × V)), xs = [.ref a] ∧ H a = some (.ins C dx fs) ∧ sp [.ref a] H (fun v H' => ∃ z : Str, v = .str z ∧ Q (.str z) H') E0
theorem call_strC (F : MtC X.prog X.w X.K X.mg X.base CX0 k C "__str__" ["self"] sp) (hr : Room (k + 2) X.A) : CallR X (.type "str") (rSelfStr C sp) := by
  intro pins s σ H xs us Q I r h
  obtain ⟨a, dx, fs, rfl, ha, q⟩ := h
  obtain ⟨f, fd, hf, M, hb⟩ := F.ex
  obtain ⟨u, rfl, ru⟩ := r.one
  cases (show u = Value.ref a from ru)
  obtain ⟨mA, O, _⟩ := ins_get I.hok ha
  obtain ⟨od, J, _⟩ := O.look
  have hu := hr.un
  refine PySem.W.kso_call (by show X.A.units + 1 + 1 < _; omega) I.kIn J M.at_ M.fn (run_self I hf hr.in1.in1 hb q (fun u s' z => ?_) rfl)
  obtain ⟨v, H', I', rv, n, rfl, q'⟩ := z
  obtain ⟨t, rfl⟩ := rv
  exact ⟨.str n, H', I', ⟨_, rfl⟩, q'⟩
end
/-! ### an own instance, called -/
def tInst (i : Nat) (C : Addr) (sp : Sp) (E : L2.St → XK) (t : TA) : TE := fun σ H Q => ∃ (a dx : Addr) (fs : List (Str × V)), σ[i]? = some (some (.ref a)) ∧ H a = some (.ins C dx fs) ∧ t σ H fun vs H1 => (∃ fs', H1 a = some (.ins C dx fs')) ∧ sp (.ref a :: vs) H1 Q (E σ)
section
variable {X : Cx} {CX : CXT} {k i : Nat} {x : Str} {C : Addr} {ps : List Str} {sp : Sp} {E : L2.St → XK} {W : WX} {e : Expr} {es : List Expr} {t : TA} {p pos : Pos}
theorem ins_in1 {A : Around} {k : Nat} (hr : Room (k + 1) A) : Room k A := hr.mono (Nat.le_succ _)
theorem pe_instX (F : MtC X.prog X.w X.K X.mg X.base CX k C "__call__" ps sp) (hfn : ∀ f, Meth X.K C "__call__" f → PySem.W.fnIn X.K f = true) (hr : Room k X.A) (hx : ∀ σ, PassesAt CX X σ (E σ)) (hN : X.N[i]? = some x) (hv : Vis X.env.scope x) (ha : PA X (e :: es) t)
    (hdb : (x == ("__debug__" : Str)) = false := by decide) (hcd : (x == ("__classdict__" : Str)) = false := by decide)
    (he : starEach (e :: es) X.env = (false, eval e X.env) :: starEach es X.env := by rfl) (hpl : (backTo pos (starEach es X.env)).any (·.1) = false := by rfl) :
    PE X (.Call (.Name x p) (e :: es) [] pos) (tInst i C sp E t) := by
  obtain ⟨f, fd, h, M, hb⟩ := F.ex
  refine ⟨fun pins s σ H Q I hh => ?_⟩
  obtain ⟨a, dx, fs, hs, hA, ht⟩ := hh
  refine wpAny_Call_Name_kw (thn ((pe_var (pos := p) hN hv hdb hcd).run pins s σ H (fun v H1 => v = .ref a ∧ H1 = H) I ⟨.ref a, hs, rfl, rfl⟩) fun u s1 ⟨v, H1, I1, r1, q1⟩ => ?_)
  obtain ⟨rfl, rfl⟩ := q1
  cases r1
  refine PySem.W.callWith_inst (K := X.K) (dx := dx) (C := C) (thn (ha.run pos pins s1 σ _ _ I1 ht) fun us s2 ⟨vs, H2, I2, r, ⟨fs', hA2⟩, q⟩ => ?_) he hpl
  obtain ⟨mA, O, _⟩ := ins_get I2.hok hA2
  obtain ⟨od, J, _⟩ := O.look
  refine ⟨⟨I2.kIn, _, J⟩, wpAny_call (PySem.W.kco_code I2.kIn J rfl M.at_ M.fn (hfn f M) ?_)⟩
  have hl : (Value.ref a :: us).length = ps.length := by
    rw [← h.len _ _ _ _ q]
    show us.length + 1 = vs.length + 1
    rw [r.length]
  have b := hb s2 (.ref a :: us) I2.kIn (by rw [List.append_nil]; exact hl)
  rw [List.append_nil] at b
  refine codeAny_mono (h.run X.A X.stack s2 H2 ⟨.ref a :: us, []⟩ (.ref a :: us) (.ref a :: vs) Q (E σ) hr I2.env0 b (.cons rfl r) q) fun r s' hq => ?_
  cases r with
  | error e => exact hx σ _ H2 s2 e s' I2 hq
  | ok fl =>
    cases fl with
    | ret u => exact I2.after hq
    | next => exact False.elim hq
    | brk => exact False.elim hq
    | cont => exact False.elim hq
theorem pe_instC (F : MtC X.prog X.w X.K X.mg X.base CX0 k C "__call__" ps sp) (hfn : ∀ f, Meth X.K C "__call__" f → PySem.W.fnIn X.K f = true) (hr : Room k X.A) (hN : X.N[i]? = some x) (hv : Vis X.env.scope x) (ha : PA X (e :: es) t)
    (hdb : (x == ("__debug__" : Str)) = false := by decide) (hcd : (x == ("__classdict__" : Str)) = false := by decide)
    (he : starEach (e :: es) X.env = (false, eval e X.env) :: starEach es X.env := by rfl) (hpl : (backTo pos (starEach es X.env)).any (·.1) = false := by rfl) :
    PE X (.Call (.Name x p) (e :: es) [] pos) (tInst i C sp (fun _ => E0) t) := pe_instX F hfn hr (fun _ _ _ _ _ _ _ z => (show False from z).elim) hN hv ha hdb hcd he hpl
theorem pe_instS (F : MtC X.prog X.w X.K X.mg X.base (L2.CX X.prog X.w) k C "__call__" ps sp) (hfn : ∀ f, Meth X.K C "__call__" f → PySem.W.fnIn X.K f = true) (hr : Room k X.A) (tk : Takes X W) (hN : X.N[i]? = some x) (hv : Vis X.env.scope x) (ha : PA X (e :: es) t)
    (hdb : (x == ("__debug__" : Str)) = false := by decide) (hcd : (x == ("__classdict__" : Str)) = false := by decide)
    (he : starEach (e :: es) X.env = (false, eval e X.env) :: starEach es X.env := by rfl) (hpl : (backTo pos (starEach es X.env)).any (·.1) = false := by rfl) :
    PE X (.Call (.Name x p) (e :: es) [] pos) (tInst i C sp (WE W) t) := pe_instX F hfn hr (passAt tk) hN hv ha hdb hcd he hpl
end
/-! ### an own class made by keywords alone -/
structure MkKC (P : Program) (w : World) (K : PySem.W.Frag) (mg : Str → Option Value) (base : Heap) (k : Nat) (C : Addr) (x : Str) (ps ks : List Str) (gV : List V → List V → List V) (sp : Sp) : Prop where
  ex : ∃ (f : Addr) (fd : FuncData) (g : List Value → List Value → List Value), FnOk P w K mg base CX0 k f fd ps sp ∧ Mk K C f ∧ mg x = some (.ref C) ∧ KBn K fd ps 1 ks g gV
theorem pe_makeKC {X : Cx} {k : Nat} {C : Addr} {x : Str} {ps ks : List Str} {gV : List V → List V → List V} {sp : Sp} {kws : List Keyword} {tk : TA} {p pos : Pos} (F : MkKC X.prog X.w X.K X.mg X.base k C x ps ks gV sp) (hr : Room (k + 1) X.A) (hg : Gl X x) (hkw : PK X kws tk)
    (hall : (backToKw pos (keywordEach kws X.env)).all (·.1.isSome) = true := by rfl) (hks : (backToKw pos (keywordEach kws X.env)).filterMap (·.1) = ks := by rfl) (hdb : (x == ("__debug__" : Str)) = false := by decide)
    (hpl : ((backTo pos (starEach [] X.env)).any (·.1) || (backToKw pos (keywordEach kws X.env)).any (·.1.isNone)) = false := by rfl) :
    PE X (.Call (.Name x p) [] kws pos) (tMakeK C 0 ks.length sp gV E0 tNil tk) := by
  obtain ⟨f, fd, g, h, M, hm, hb⟩ := F.ex
  exact pe_makeK0 M h hr hg hm hb pass0 hkw hall hks hdb hpl
theorem vals_rev : ∀ {vs : List V} {us : List Value}, Vals vs us → Vals vs.reverse us.reverse
  | _, _, .nil => .nil
  | _, _, .cons r h => by
    rw [List.reverse_cons, List.reverse_cons]
    exact (vals_rev h).append (.cons r .nil)
def kwV : List V → List V → List V := fun vs zs => vs ++ zs.reverse
def kwU : List Value → List Value → List Value := fun vs zs => vs ++ zs.reverse
theorem kwRel {vs : List V} {us : List Value} {zs : List V} {ws : List Value} (r : Vals vs us) (z : Vals zs ws) : Vals (kwV vs zs) (kwU us ws) := r.append (vals_rev z)
theorem meth_fn {K : PySem.W.Frag} {C f g : Addr} {m : Str} (M : Meth K C m f) (h : PySem.W.findIn K (.ref C) m = some (some (.ref g))) (hf : PySem.W.fnIn K g = true) : PySem.W.fnIn K f = true := by
  have e := M.at_.symm.trans h
  cases e
  exact hf
end Kb

/-! ### shown data of ints -/
namespace Kb
open PySem PySem.Spec PyProof.Rows L2 ClX
theorem shown_int {i : Int} (h : i.natAbs < 2 ^ 1000) : (PyData.shown (.int i)).length ≤ 1001 := by
  show (Str.ofString (toString i)).length ≤ 1001
  rw [PySem.ofString_length]
  exact int_text_length_le (by decide) (PySem.Flt.log2_lt_of (by decide) h)
def showsI (i : Int) : Prop := i.natAbs < 2 ^ 1000
theorem weight_int {i : Int} (h : showsI i) : (PyData.int i).weight ≤ 1001 := by
  have := PySem.Flt.log2_lt_of (show 0 < 1000 by decide) h
  show (if i == 0 then 0 else i.natAbs.log2 + 1) ≤ 1001
  split <;> omega
theorem show_int {i : Int} (h : showsI i) : (PyData.int i).showable = true ∧ (PyData.int i).leavesShort 1001 = true := by
  refine ⟨decide_eq_true ?_, decide_eq_true (shown_int h)⟩
  exact Nat.lt_of_lt_of_le (PySem.Flt.log2_lt_of (by decide) h) (by decide)
structure ShOk (d : PyData) : Prop where
  a : d.showable = true
  b : d.hasDict = false
  c : d.depth ≤ 100
  d : d.shown.length ≤ sizeLine
theorem shOk {d : PyData} (h1 : d.showable = true) (h2 : d.hasDict = false) (h3 : d.depth ≤ 100) (h4 : d.leavesShort 1001 = true) (h5 : 1003 * d.weight + 1001 ≤ sizeLine) : ShOk d := ⟨h1, h2, h3, Nat.le_trans (PyData.shown_le 1001 (by decide) d h4) h5⟩
theorem sh2 {a b : Int} (ha : showsI a) (hb : showsI b) : ShOk (.tuple [.int a, .int b]) := by
  have sa := show_int ha
  have sb := show_int hb
  refine shOk ?_ rfl (by show 1 ≤ 100; decide) ?_ ?_
  · show ((PyData.int a).showable && ((PyData.int b).showable && true)) = true
    rw [sa.1, sb.1]; rfl
  · show ((PyData.int a).leavesShort 1001 && ((PyData.int b).leavesShort 1001 && true)) = true
    rw [sa.2, sb.2]; rfl
  · have wa := weight_int ha
    have wb := weight_int hb
    show 1003 * ((PyData.int a).weight + 1 + ((PyData.int b).weight + 1 + 0)) + 1001 ≤ sizeLine
    rw [sizeLine_eq]; omega
theorem sh4 {a b c d : Int} (ha : showsI a) (hb : showsI b) (hc : showsI c) (hd : showsI d) : (PyData.tuple [.int a, .int b, .int c, .int d]).showable = true ∧ (PyData.tuple [.int a, .int b, .int c, .int d]).leavesShort 1001 = true := by
  have sa := show_int ha
  have sb := show_int hb
  have sc := show_int hc
  have sd := show_int hd
  refine ⟨?_, ?_⟩
  · show ((PyData.int a).showable && ((PyData.int b).showable && ((PyData.int c).showable && ((PyData.int d).showable && true)))) = true
    rw [sa.1, sb.1, sc.1, sd.1]; rfl
  · show ((PyData.int a).leavesShort 1001 && ((PyData.int b).leavesShort 1001 && ((PyData.int c).leavesShort 1001 && ((PyData.int d).leavesShort 1001 && true)))) = true
    rw [sa.2, sb.2, sc.2, sd.2]; rfl
theorem shM {a b c d t u : Int} (ha : showsI a) (hb : showsI b) (hc : showsI c) (hd : showsI d) (ht : showsI t) (hu : showsI u) : ShOk (.tuple [.tuple [.int a, .int b, .int c, .int d], .int t, .int u]) := by
  have s4 := sh4 ha hb hc hd
  have st := show_int ht
  have su := show_int hu
  refine shOk ?_ rfl (by show 2 ≤ 100; decide) ?_ ?_
  · show ((PyData.tuple [.int a, .int b, .int c, .int d]).showable && ((PyData.int t).showable && ((PyData.int u).showable && true))) = true
    rw [s4.1, st.1, su.1]; rfl
  · show ((PyData.tuple [.int a, .int b, .int c, .int d]).leavesShort 1001 && ((PyData.int t).leavesShort 1001 && ((PyData.int u).leavesShort 1001 && true))) = true
    rw [s4.2, st.2, su.2]; rfl
  · have wa := weight_int ha
    have wb := weight_int hb
    have wc := weight_int hc
    have wd := weight_int hd
    have wt := weight_int ht
    have wu := weight_int hu
    show 1003 * (((PyData.int a).weight + 1 + ((PyData.int b).weight + 1 + ((PyData.int c).weight + 1 + ((PyData.int d).weight + 1 + 0)))) + 1 + ((PyData.int t).weight + 1 + ((PyData.int u).weight + 1 + 0))) + 1001 ≤ sizeLine
    rw [sizeLine_eq]; omega
end Kb

/-! ### own operators, classmethods without arguments -/
namespace PySem.W
open PySem PySem.Calls PyProof.Rows
section
variable {prog : Program} {w : World} {M : Model} {A : Around} {E : Value → Shared → Prop} {s : Shared} {K : Frag} {x C D L f : Addr} {h₀ : Heap} {m : Str → Option Value} {ox : Obj} {od : Option Obj} {nm : String}
def plainMro (K : Frag) (C : Addr) : Bool := (clsIn K C).any fun cd => cd.mro == [.ref C, .type "object"]
theorem plain_mro (h : plainMro K C = true) : ∃ cd, clsIn K C = some cd ∧ cd.mro = [.ref C, .type "object"] := by
  obtain ⟨cd, hc, hm⟩ := any_some h
  exact ⟨cd, hc, eq_of_beq hm⟩
theorem plain_of {cd : ClassData} (h : clsIn K C = some cd) (hm : cd.mro = [.ref C, .type "object"]) : plainMro K C = true := by
  unfold plainMro
  rw [h]
  show (cd.mro == _) = true
  rw [hm]
  exact beq_self_eq_true _
/-- a class without the operator -/
theorem fills_no {h : Heap} (X : K.In h) (hp : plainMro K D = true) (h1 : findIn K (.ref D) (PySem.dunder nm) = some none) (h2 : findIn K (.ref D) (dunderR nm) = some none) (h3 : findIn K (.type "object") (PySem.dunder nm) = some none) (h4 : findIn K (.type "object") (dunderR nm) = some none) :
    Looks M h (fillsNumberSlot (.ref D) nm) false := by
  intro A Q E s k q
  obtain ⟨cd, hcd, hm⟩ := plain_mro hp
  have Lm := (looks_clsIn (M := M) (X.keeps k) hcd).andThen (f := fun cd => pure cd.mro) .now
  have X' : K.In s.heap := X.keeps k
  have L1 : Looks M s.heap (typeLookup (.ref D) (PySem.dunder nm)) none := looks_findIn X' h1
  have L2 : Looks M s.heap (typeLookup (.ref D) (dunderR nm)) none := looks_findIn X' h2
  have L3 : Looks M s.heap (typeLookup (.type "object") (PySem.dunder nm)) none := looks_findIn X' h3
  have L4 : Looks M s.heap (typeLookup (.type "object") (dunderR nm)) none := looks_findIn X' h4
  unfold fillsNumberSlot
  refine wpAny_bind (Lm.at ?_)
  rw [hm, List.anyM_cons]
  refine wpAny_bind ?_
  show wpAny M A (List.anyM _ [PySem.dunder nm, dunderR nm]) _ _ _
  rw [List.anyM_cons]
  refine wpAny_bind (wpAny_bind (L1.at (wpAny_pure ?_)))
  rw [if_neg Bool.false_ne_true, List.anyM_cons]
  refine wpAny_bind (wpAny_bind (L2.at (wpAny_pure ?_)))
  rw [if_neg Bool.false_ne_true]
  refine wpAny_pure ?_
  rw [if_neg Bool.false_ne_true, List.anyM_cons]
  refine wpAny_bind (wpAny_bind (L3.at (wpAny_bind (L4.at (wpAny_pure ?_)))))
  rw [if_neg (by decide)]
  exact wpAny_pure q
theorem binop_KO {op : Operator} {b : Value} {Q : Value → Shared → Prop} (F : Fr h₀ L s.heap m) (X₀ : K.In h₀) (I : InstAt s.heap x ox C od) (hb : Looks (model prog w) s.heap (typeOf b) (.ref D)) (hne : C ≠ D) (hc : selfFirst K C = true)
    (hs : findIn K (.ref C) (PySem.dunder op.info.2) = some (some (.ref f))) (hf : isFn K (.ref f) = true)
    (hp : plainMro K D = true) (h1 : findIn K (.ref D) (PySem.dunder op.info.2) = some none) (h2 : findIn K (.ref D) (dunderR op.info.2) = some none) (h3 : findIn K (.type "object") (PySem.dunder op.info.2) = some none) (h4 : findIn K (.type "object") (dunderR op.info.2) = some none)
    (h : wpAny (model prog w) A (call (.ref f) [.ref x, b]) (CmpBack Q) E s) : wpAny (model prog w) A (binaryOp op (.ref x) b) Q E s := by
  have X := X₀.keeps F.keep
  obtain ⟨cd, rest, hcd, hm⟩ := ksp_first hc
  have L3 : Looks (model prog w) s.heap (fillsNumberSlot (.ref C) op.info.2) true := fills_K X hcd hm hs
  have L4 : Looks (model prog w) s.heap (fillsNumberSlot (.ref D) op.info.2) false := fills_no X hp h1 h2 h3 h4
  have hn : (Value.ref C == Value.ref D) = false := Bool.eq_false_iff.mpr fun q => hne (Value.ref.inj (beq_iff_eq.mp q))
  have one := ksp_try X I hs hf h
  unfold binaryOp
  refine wpAny_holding (wpAny_bind ?_)
  unfold binaryOp1
  refine wpAny_bind (I.type.here (wpAny_bind (hb.here (wpAny_bind (L3.here ?_)))))
  simp only [hn, Bool.false_eq_true, if_false]
  refine wpAny_bind (L4.here ?_)
  simp only [Bool.and_false, Bool.false_eq_true, if_false, Bool.false_and]
  refine wpAny_bind (wpAny_pure ?_)
  simp only [Bool.false_eq_true, if_false, if_true]
  refine wpAny_bind (m := tryMethod (.ref x) _ b) (wpAny_mono one (fun r s' hr => ?_) fun _ _ e => e)
  obtain ⟨v, rfl, hv⟩ := hr
  exact wpAny_pure (wpAny_pure hv)
theorem fillsI_no {h : Heap} {add : Bool} (X : K.In h) (hp : plainMro K D = true) (h1 : findIn K (.ref D) (dunderI nm) = some none) (h3 : findIn K (.type "object") (dunderI nm) = some none) :
    Looks M h (fillsInplaceSlot (.ref D) nm add) false := by
  intro A Q E s k q
  obtain ⟨cd, hcd, hm⟩ := plain_mro hp
  have Lm := (looks_clsIn (M := M) (X.keeps k) hcd).andThen (f := fun cd => pure cd.mro) .now
  have X' : K.In s.heap := X.keeps k
  have L1 : Looks M s.heap (typeLookup (.ref D) (dunderI nm)) none := looks_findIn X' h1
  have L3 : Looks M s.heap (typeLookup (.type "object") (dunderI nm)) none := looks_findIn X' h3
  unfold fillsInplaceSlot
  refine wpAny_bind (Lm.at ?_)
  rw [hm, List.anyM_cons]
  refine wpAny_bind (wpAny_bind (L1.at (wpAny_pure ?_)))
  rw [if_neg Bool.false_ne_true, List.anyM_cons]
  refine wpAny_bind (wpAny_bind (L3.at (wpAny_pure ?_)))
  rw [if_neg (by decide)]
  exact wpAny_pure q
theorem inplace_K {op : Operator} {b : Value} {Q : Value → Shared → Prop} (F : Fr h₀ L s.heap m) (X₀ : K.In h₀) (I : InstAt s.heap x ox C od) (hb : Looks (model prog w) s.heap (typeOf b) (.ref C)) (hp : plainMro K C = true)
    (hi : findIn K (.ref C) (dunderI op.info.2) = some none) (hi2 : findIn K (.type "object") (dunderI op.info.2) = some none)
    (hs : findIn K (.ref C) (PySem.dunder op.info.2) = some (some (.ref f))) (hf : isFn K (.ref f) = true)
    (h : wpAny (model prog w) A (call (.ref f) [.ref x, b]) (CmpBack Q) E s) : wpAny (model prog w) A (inplaceOp op (.ref x) b) Q E s := by
  have X := X₀.keeps F.keep
  obtain ⟨cd, hcd, hm⟩ := plain_mro hp
  have L3 : Looks (model prog w) s.heap (fillsNumberSlot (.ref C) op.info.2) true := fills_K X hcd hm hs
  have LI : Looks (model prog w) s.heap (fillsInplaceSlot (.ref C) op.info.2 (op == .Add)) false := fillsI_no X hp hi hi2
  have one := ksp_try X I hs hf h
  unfold inplaceOp
  refine wpAny_holding (wpAny_bind (I.type.here (wpAny_bind (LI.here ?_))))
  simp only [Bool.false_eq_true, if_false]
  refine wpAny_bind ?_
  unfold binaryOp1
  refine wpAny_bind (I.type.here (wpAny_bind (hb.here (wpAny_bind (L3.here ?_)))))
  simp only [beq_self_eq_true, if_true]
  refine wpAny_bind (wpAny_pure ?_)
  simp only [Bool.and_false, Bool.false_eq_true, if_false, Bool.false_and]
  refine wpAny_bind (wpAny_pure ?_)
  simp only [Bool.false_eq_true, if_false]
  refine wpAny_bind (m := tryMethod (.ref x) _ b) (wpAny_mono one (fun r s' hr => ?_) fun _ _ e => e)
  obtain ⟨v, rfl, hv⟩ := hr
  exact wpAny_pure (wpAny_pure hv)
end
end PySem.W
namespace Kb
open PySem PySem.Spec PyProof.Rows L2 ClX
/-- the class at C carries the operator -/
structure OpC (K : PySem.W.Frag) (C : Addr) (op : Operator) : Prop where
  sf : PySem.W.selfFirst K C = true
  r : PySem.W.findIn K (.ref C) (dunderR op.info.2) = some none
/-- the class at D doesn't -/
structure OpNo (K : PySem.W.Frag) (D : Addr) (op : Operator) : Prop where
  pm : PySem.W.plainMro K D = true
  h1 : PySem.W.findIn K (.ref D) (PySem.dunder op.info.2) = some none
  h2 : PySem.W.findIn K (.ref D) (dunderR op.info.2) = some none
  h3 : PySem.W.findIn K (.type "object") (PySem.dunder op.info.2) = some none
  h4 : PySem.W.findIn K (.type "object") (dunderR op.info.2) = some none
structure OpInt (K : PySem.W.Frag) (C : Addr) (op : Operator) : Prop where
  h1 : ∃ fo, PySem.W.findIn K (.type "int") (PySem.dunder op.info.2) = some fo
  h2 : ∃ ro, PySem.W.findIn K (.type "int") (dunderR op.info.2) = some ro
  sb : PySem.W.subIn K (.type "int") (.ref C) = some false
structure OpIn (K : PySem.W.Frag) (C : Addr) (op : Operator) : Prop where
  pm : PySem.W.plainMro K C = true
  i1 : PySem.W.findIn K (.ref C) (dunderI op.info.2) = some none
  i2 : PySem.W.findIn K (.type "object") (dunderI op.info.2) = some none
def rBinC (C : Addr) (sp : Sp) : R2 := fun x y H Q => ∃ (a dx : Addr) (fs : List (Str × V)) (b dy : Addr) (gs : List (Str × V)), x = .ref a ∧ y = .ref b ∧ H a = some (.ins C dx fs) ∧ H b = some (.ins C dy gs) ∧ sp [x, y] H Q E0
def rBinD (C D : Addr) (sp : Sp) : R2 := fun x y H Q => ∃ (a dx : Addr) (fs : List (Str × V)) (b dy : Addr) (gs : List (Str × V)), x = .ref a ∧ y = .ref b ∧ H a = some (.ins C dx fs) ∧ H b = some (.ins D dy gs) ∧ sp [x, y] H Q E0
def rBinI (C : Addr) (sp : Sp) : R2 := fun x y H Q => ∃ (a dx : Addr) (fs : List (Str × V)) (n : Int), x = .ref a ∧ y = .int n ∧ H a = some (.ins C dx fs) ∧ sp [x, y] H Q E0
section
variable {X : Cx} {k : Nat} {C D : Addr} {ps : List Str} {sp : Sp} {op : Operator}
theorem run_bin {pins : List (Addr × Obj)} {σ : L2.St} {H : Hp} {s : Shared} {a : Addr} {y : V} {u : Value} {f : Addr} {fd : FuncData} {Q : VK} (I : Inv X pins σ H s) (hf : FnOk X.prog X.w X.K X.mg X.base CX0 k f fd ps sp) (hr : Room k X.A) (hb : Binds X.K fd ps []) (ry : RelV y u) (q : sp [.ref a, y] H Q E0) :
    wpAny (model X.prog X.w) X.A (call (.ref f) [.ref a, u]) (PySem.W.CmpBack (EP X pins σ Q)) X.xe s := by
  refine wpAny_mono (run_fn (us := [.ref a, u]) (vs := [.ref a, y]) hf hr hb .nil pass0 I (.cons rfl (.cons ry .nil)) q) (fun w s' z => ?_) fun _ _ z => z
  obtain ⟨z', H', I', rz, qz⟩ := z
  exact SlX.cmpback rz ⟨z', H', I', rz, qz⟩
theorem op_binC {m : Str} (F : MtC X.prog X.w X.K X.mg X.base CX0 k C m ps sp) (c : OpC X.K C op) (hr : Room k X.A) (hm : PySem.dunder op.info.2 = m := by decide +kernel) : OpR X (binaryOp op) (rBinC C sp) := by
  subst hm
  intro pins s σ H x y v u Q I rx ry h
  obtain ⟨a, dx, fs, b, dy, gs, rfl, rfl, ha, hb', q⟩ := h
  obtain ⟨f, fd, hf, M, hb⟩ := F.ex
  cases (show v = Value.ref a from rx)
  cases (show u = Value.ref b from ry)
  obtain ⟨_, O, _⟩ := ins_get I.hok ha
  obtain ⟨od, J, _⟩ := O.look
  obtain ⟨_, O', _⟩ := ins_get I.hok hb'
  obtain ⟨od', J', _⟩ := O'.look
  obtain ⟨m, hF⟩ := I.fr
  exact PySem.W.binop_K hF I.ok.mod.kin J J'.type c.sf M.at_ M.fn (run_bin (y := .ref b) I hf hr hb (by exact rfl) q)
theorem op_binD {m : Str} (F : MtC X.prog X.w X.K X.mg X.base CX0 k C m ps sp) (c : OpC X.K C op) (d : OpNo X.K D op) (hr : Room k X.A) (hm : PySem.dunder op.info.2 = m := by decide +kernel) : OpR X (binaryOp op) (rBinD C D sp) := by
  subst hm
  intro pins s σ H x y v u Q I rx ry h
  obtain ⟨a, dx, fs, b, dy, gs, rfl, rfl, ha, hb', q⟩ := h
  obtain ⟨f, fd, hf, M, hb⟩ := F.ex
  cases (show v = Value.ref a from rx)
  cases (show u = Value.ref b from ry)
  obtain ⟨_, O, _⟩ := ins_get I.hok ha
  obtain ⟨od, J, _⟩ := O.look
  obtain ⟨_, O', _⟩ := ins_get I.hok hb'
  obtain ⟨od', J', _⟩ := O'.look
  obtain ⟨m, hF⟩ := I.fr
  have hne : C ≠ D := fun e => by
    have h1 := M.at_
    rw [e, d.h1] at h1
    cases h1
  exact PySem.W.binop_KO hF I.ok.mod.kin J J'.type hne c.sf M.at_ M.fn d.pm d.h1 d.h2 d.h3 d.h4 (run_bin (y := .ref b) I hf hr hb (by exact rfl) q)
theorem op_binI {m : Str} (F : MtC X.prog X.w X.K X.mg X.base CX0 k C m ps sp) (c : OpC X.K C op) (d : OpInt X.K C op) (hr : Room k X.A) (hm : PySem.dunder op.info.2 = m := by decide +kernel) : OpR X (binaryOp op) (rBinI C sp) := by
  subst hm
  intro pins s σ H x y v u Q I rx ry h
  obtain ⟨a, dx, fs, n, rfl, rfl, ha, q⟩ := h
  obtain ⟨f, fd, hf, M, hb⟩ := F.ex
  cases (show v = Value.ref a from rx)
  obtain ⟨_, O, _⟩ := ins_get I.hok ha
  obtain ⟨od, J, _⟩ := O.look
  obtain ⟨m, hF⟩ := I.fr
  obtain ⟨fo, h1⟩ := d.h1
  obtain ⟨ro, h2⟩ := d.h2
  obtain ⟨t, rfl⟩ := ry
  exact PySem.W.ksp_binT (T := "int") hF I.ok.mod.kin J rfl c.sf M.at_ M.fn c.r (.inl rfl) h1 h2 d.sb (run_bin (y := .int n) I hf hr hb (by exact ⟨t, rfl⟩) q)
theorem op_inC {m : Str} (F : MtC X.prog X.w X.K X.mg X.base CX0 k C m ps sp) (d : OpIn X.K C op) (hr : Room k X.A) (hm : PySem.dunder op.info.2 = m := by decide +kernel) : OpR X (inplaceOp op) (rBinC C sp) := by
  subst hm
  intro pins s σ H x y v u Q I rx ry h
  obtain ⟨a, dx, fs, b, dy, gs, rfl, rfl, ha, hb', q⟩ := h
  obtain ⟨f, fd, hf, M, hb⟩ := F.ex
  cases (show v = Value.ref a from rx)
  cases (show u = Value.ref b from ry)
  obtain ⟨_, O, _⟩ := ins_get I.hok ha
  obtain ⟨od, J, _⟩ := O.look
  obtain ⟨_, O', _⟩ := ins_get I.hok hb'
  obtain ⟨od', J', _⟩ := O'.look
  obtain ⟨m, hF⟩ := I.fr
  exact PySem.W.inplace_K hF I.ok.mod.kin J J'.type d.pm d.i1 d.i2 M.at_ M.fn (run_bin (y := .ref b) I hf hr hb (by exact rfl) q)
end
/-! ### C.m(), m a classmethod -/
section
variable {X : Cx} {k : Nat} {C : Addr} {x m : Str} {ps : List Str} {sp : Sp} {W : WX} {p pos apos : Pos}
theorem pe_cm0X {CX : CXT} {E : L2.St → XK} {pl : Sem Bool} (F : CmC X.prog X.w X.K X.mg X.base CX k C x m ps sp) (hr : Room k X.A) (hx : ∀ σ, PassesAt CX X σ (E σ)) (hg : Gl X x) (hdb : (x == ("__debug__" : Str)) = false := by decide)
    (ht : eval (.Call (.Attribute (.Name x p) m apos) [] [] pos) X.env = (do
      let ov ← eval (.Name x p) X.env
      standAt apos.atName
      let (f, first) ← holding [ov] (getMethod ov m pl)
      callWith pos f first (backTo pos (starEach [] X.env)) (backToKw pos (keywordEach [] X.env))) := by rfl) :
    PE X (.Call (.Attribute (.Name x p) m apos) [] [] pos) (tCm C sp E tNil) := by
  obtain ⟨f, q, fd, h, r, c, hm, hb⟩ := F.ex
  refine ⟨fun pins s σ H Q I hh => ?_⟩
  refine PySem.W.methodCall_KW (pl := pl) (ld_glob I hg hm ?_ hdb) ht
  refine getmethcm_ok I r c fun s2 I2 => ?_
  refine PySem.W.callWith_M0 (K := X.K) (first := []) ⟨pin_at I2, I2.kIn⟩ c.fi ?_
  have hl : ([Value.ref C] : List Value).length = ps.length := by
    rw [← h.len _ _ _ _ hh]; rfl
  have b := hb s2 [.ref C] I2.kIn (by rw [List.append_nil]; exact hl)
  rw [List.append_nil] at b
  have z : wpAny (model X.prog X.w) X.A (call (.ref s.heap.objs.size) []) (EP X ((s.heap.objs.size, PySem.W.methodObj (.ref f) (.ref C)) :: pins) σ Q) X.xe s2 := by
   refine wpAny_call (PySem.W.method_call (pin_at I2) (codeAny_mono (h.run X.A X.stack s2 H ⟨[.ref C], []⟩ [.ref C] [.ref C] Q (E σ) hr I2.env0 b (.cons rfl .nil) hh) fun r s' hq => ?_))
   cases r with
   | error e => exact hx σ _ H s2 e s' I2 hq
   | ok fl =>
    cases fl with
    | ret u => exact I2.after hq
    | next => exact False.elim hq
    | brk => exact False.elim hq
    | cont => exact False.elim hq
  exact thn z fun _ _ y => unpinE y
theorem pe_cm0C {pl : Sem Bool} (F : CmC X.prog X.w X.K X.mg X.base CX0 k C x m ps sp) (hr : Room k X.A) (hg : Gl X x) (hdb : (x == ("__debug__" : Str)) = false := by decide)
    (ht : eval (.Call (.Attribute (.Name x p) m apos) [] [] pos) X.env = (do
      let ov ← eval (.Name x p) X.env
      standAt apos.atName
      let (f, first) ← holding [ov] (getMethod ov m pl)
      callWith pos f first (backTo pos (starEach [] X.env)) (backToKw pos (keywordEach [] X.env))) := by rfl) :
    PE X (.Call (.Attribute (.Name x p) m apos) [] [] pos) (tCm C sp (fun _ => E0) tNil) := pe_cm0X F hr (fun _ _ _ _ _ _ _ z => (show False from z).elim) hg hdb ht
end
end Kb

/-! ### new objects at an abstract heap, repr of data, what stands in the heap -/
namespace Kb
open PySem PySem.Spec PyProof.Rows L2 ClX
theorem isIte {c A B : Prop} {i : Decidable c} (h : @ite Prop c i A B) : @ite Prop c i A B := h
theorem iteNSI {c A B : Prop} {i : Decidable c} {j : Decidable ((!(@decide c i)) = true)} (hc : c) (h : B) : @ite Prop ((!(@decide c i)) = true) j A B := by
  rw [if_neg (by simp [hc])]; exact h
theorem iteTI {A B : Prop} {j : Decidable (true = true)} (h : A) : @ite Prop (true = true) j A B := by
  rw [if_pos rfl]; exact h
theorem iteFI {A B : Prop} {j : Decidable (false = true)} (h : B) : @ite Prop (false = true) j A B := by
  rw [if_neg Bool.false_ne_true]; exact h
/-- a new object o: whatever heap holds it and all that stood -/
def New (H : Hp) (o : HO) (Q : VK) : Prop := ∀ p H', H p = none → Same H H' → H' p = some o → Q (.ref p) H'
theorem sm_new {H : Hp} {p : Addr} {o : HO} (h : H p = none) : Same H (upd H p o) := fun a u e => by rw [upd_ne (ne_of_none e h)]; exact e
theorem New.at {H : Hp} {o : HO} {Q : VK} (h : New H o Q) {p : Addr} (hp : H p = none) : Q (.ref p) (upd H p o) := h p _ hp (sm_new hp) upd_same
def tTupN (t : TA) : TE := fun σ H Q => t σ H fun xs H1 => xs.length ≤ 1000000 ∧ New H1 (.tup xs) Q
def tLstN (t : TA) : TE := fun σ H Q => t σ H fun xs H1 => xs.length ≤ 1000000 ∧ New H1 (.lst xs) Q
section
variable {X : Cx} {es : List Expr} {t : TA} {pos : Pos}
theorem pe_tupN {x1} (h : PA X es t) : PE X (.Tuple es x1 pos) (tTupN t) := by
  refine ⟨fun pins s σ H Q I hq => ?_⟩
  refine wpAny_Tuple_spliced (thn (h.run pos pins s σ H _ I hq) fun us s1 ⟨xs, H1, I1, r, z, q⟩ => ⟨by rw [← r.length]; exact szl z, ?_⟩)
  have hf : H1 s1.heap.objs.size = none := I1.hok.fresh (Nat.le_refl _)
  refine ⟨.ref s1.heap.objs.size, upd H1 s1.heap.objs.size (.tup xs), I1.laid (t' := s1.toks) (fun b u e => Heap.get?_push_of_some _ e) (Nat.le_refl _) ?_, rfl, q.at hf⟩
  exact ⟨szl z, us, r, ⟨_, Heap.get?_push_size _ rfl, rfl, _, rfl⟩⟩
theorem pe_lstN (h : PA X es t) : PE X (.List es pos) (tLstN t) := by
  refine ⟨fun pins s σ H Q I hq => ?_⟩
  refine wpAny_List_spliced (thn (h.run pos pins s σ H _ I hq) fun us s1 ⟨xs, H1, I1, r, z, q⟩ => ⟨by rw [← r.length]; exact szl z, ?_⟩)
  have hf : H1 s1.heap.objs.size = none := I1.hok.fresh (Nat.le_refl _)
  refine ⟨.ref s1.heap.objs.size, upd H1 s1.heap.objs.size (.lst xs), I1.laid (t' := s1.toks) (fun b u e => Heap.get?_push_of_some _ e) (Nat.le_refl _) ?_, rfl, q.at hf⟩
  exact ⟨szl z, us, 0, r, Heap.get?_push_size _ rfl⟩
end
/-! ### repr -/
structure Shw (d : PyData) (n w : Nat) : Prop where
  a : d.showable = true
  b : d.hasDict = false
  c : d.depth ≤ n
  l : d.leavesShort 1001 = true
  w : d.weight ≤ w
structure ShwL (ds : List PyData) (n w : Nat) : Prop where
  a : PyData.showableAll ds = true
  b : PyData.hasDictAll ds = false
  c : PyData.depthAll ds ≤ n
  l : PyData.leavesShortAll 1001 ds = true
  w : PyData.weightAll ds ≤ w
theorem Shw.int {i : Int} (h : showsI i) : Shw (.int i) 0 1001 := ⟨(show_int h).1, rfl, Nat.le_refl _, (show_int h).2, weight_int h⟩
theorem Shw.bool (b : Bool) : Shw (.bool b) 0 0 := ⟨rfl, rfl, Nat.le_refl _, rfl, Nat.le_refl _⟩
theorem Shw.none : Shw .none 0 0 := ⟨rfl, rfl, Nat.le_refl _, rfl, Nat.le_refl _⟩
theorem Shw.str {z : Str} {m : Nat} (h : z.cps.toList.all (fun c => decide (c < 16 ^ 8)) = true) (hm : z.length ≤ m) : Shw (.str z) 0 m := ⟨rfl, rfl, Nat.le_refl _, h, hm⟩
theorem ShwL.nil : ShwL [] 0 0 := ⟨rfl, rfl, Nat.le_refl _, rfl, Nat.le_refl _⟩
theorem ShwL.cons {d : PyData} {ds : List PyData} {n w n' w' : Nat} (h : Shw d n w) (hs : ShwL ds n' w') : ShwL (d :: ds) (max n n') (w + 1 + w') := by
  refine ⟨?_, ?_, ?_, ?_, ?_⟩
  · show (d.showable && PyData.showableAll ds) = true
    rw [h.a, hs.a]; rfl
  · show (d.hasDict || PyData.hasDictAll ds) = false
    rw [h.b, hs.b]; rfl
  · show max d.depth (PyData.depthAll ds) ≤ _
    have := h.c
    have := hs.c
    omega
  · show (d.leavesShort 1001 && PyData.leavesShortAll 1001 ds) = true
    rw [h.l, hs.l]; rfl
  · show d.weight + 1 + PyData.weightAll ds ≤ _
    have := h.w
    have := hs.w
    omega
theorem Shw.tup {ds : List PyData} {n w : Nat} (h : ShwL ds n w) : Shw (.tuple ds) (n + 1) w := ⟨h.a, h.b, Nat.succ_le_succ h.c, h.l, h.w⟩
theorem Shw.lst {ds : List PyData} {n w : Nat} (h : ShwL ds n w) : Shw (.list ds) (n + 1) w := ⟨h.a, h.b, Nat.succ_le_succ h.c, h.l, h.w⟩
theorem Shw.ok {d : PyData} {n w : Nat} (h : Shw d n w) (hn : n ≤ 100) (hw : 1003 * w + 1001 ≤ 16000000) : ShOk d := shOk h.a h.b (Nat.le_trans h.c hn) h.l (by
  have := h.w
  have e : 1003 * d.weight ≤ 1003 * w := Nat.mul_le_mul_left _ this
  exact Nat.le_trans (show 1003 * d.weight + 1001 ≤ 16000000 by omega) (by decide))
section
variable {X : Cx} {k : Nat}
theorem call_reprW (hg : X.A.guards = some []) (hr : Room k X.A) : CallR X (.builtin "repr") (fun xs H Q => ∃ x d, xs = [x] ∧ Dp X.K H x d ∧ ShOk d ∧ Q (.str d.shown) H) := by
  intro pins s σ H xs us Q I r h
  obtain ⟨x, d, e, hd, hs, q⟩ := h
  exact call_reprD hg hr pins s σ H xs us Q I r ⟨x, d, e, hd, hs.a, hs.b, hs.c, hs.d, q⟩
end
end Kb

/-! ### tuples put together and cut, at an abstract heap -/
namespace Kb
open PySem PySem.Spec PyProof.Rows L2 ClX
def rCatN : R2 := fun x y H Q => ∃ a b xs ys, x = .ref a ∧ y = .ref b ∧ H a = some (.tup xs) ∧ H b = some (.tup ys) ∧ xs.length + ys.length ≤ 1000000 ∧ ∀ p H', Same H H' → H' p = some (.tup (xs ++ ys)) → Q (.ref p) H'
def rSlN : V → Option Int → Option Int → Hp → VK → Prop := fun x lo hi H Q => ∃ a xs, x = .ref a ∧ H a = some (.tup xs) ∧ ∀ p H', Same H H' → H' p = some (.tup (cutV xs lo hi)) → Q (.ref p) H'
section
variable {X : Cx}
theorem op_catN : OpR X (binaryOp .Add) rCatN := by
  intro pins s σ H x y v u Q I rx ry h
  obtain ⟨a, b, xs, ys, e1, e2, ha, hb, hz, q⟩ := h
  refine op_catA pins s σ H x y v u Q I rx ry ⟨a, b, xs, ys, e1, e2, SqT.of ha, SqT.of hb, szl hz, fun e => ?_, fun _ e => ?_, fun _ _ p hp => q p _ (sm_new hp) upd_same⟩
  · refine q b H (Same.refl H) ?_
    rw [hb, e]; rfl
  · refine q a H (Same.refl H) ?_
    rw [ha, e, List.append_nil]
theorem sl_tupN : SlR X rSlN := by
  intro pins s σ H x v vl vu lo hi sl Q I rx hs pl pu h
  obtain ⟨a, xs, e1, ha, q⟩ := h
  refine sl_tupA pins s σ H x v vl vu lo hi sl Q I rx hs pl pu ⟨a, xs, e1, SqT.of ha, fun hw => ?_, fun _ p hp => q p _ (sm_new hp) upd_same⟩
  refine q a H (Same.refl H) ?_
  rw [ha]
  unfold cutV
  rw [hw.1, hw.2]
  simp
end
end Kb

/-! ### NotImplemented told by the left operand's method, the right operand's own reflected operator -/
namespace PySem.W
open PySem PySem.Calls PyProof.Rows
section
variable {prog : Program} {w : World} {M : Model} {A : Around} {E : Value → Shared → Prop} {s : Shared} {K : Frag} {x y C D L f g : Addr} {h₀ : Heap} {m : Str → Option Value} {ox oy : Obj} {od od' : Option Obj} {nm : String}
theorem fills_R {h : Heap} {cd : ClassData} {rest : List Value} (X : K.In h) (hc : clsIn K C = some cd) (hm : cd.mro = .ref C :: rest) (h1 : findIn K (.ref C) (PySem.dunder nm) = some none) (hs : findIn K (.ref C) (dunderR nm) = some (some (.ref f))) : Looks M h (fillsNumberSlot (.ref C) nm) true := by
  intro A Q E s k q
  unfold fillsNumberSlot
  refine wpAny_bind ((looks_clsIn X hc).andThen (f := fun cd => pure cd.mro) .now A _ E s k ?_)
  rw [hm, List.anyM_cons]
  refine wpAny_bind ?_
  show wpAny M A (List.anyM _ [PySem.dunder nm, dunderR nm]) _ _ _
  rw [List.anyM_cons]
  refine wpAny_bind (wpAny_bind (looks_findIn X h1 A _ E s k (wpAny_pure ?_)))
  rw [if_neg Bool.false_ne_true, List.anyM_cons]
  refine wpAny_bind (wpAny_bind (looks_findIn X hs A _ E s k ?_))
  dsimp only
  rw [if_pos (show (!ownNameWrapper (.ref f) (dunderR nm)) = true from rfl)]
  refine wpAny_pure ?_
  rw [if_pos rfl]
  refine wpAny_pure ?_
  rw [if_pos rfl]
  exact wpAny_pure q
theorem inPy_R {h : Heap} (X : K.In h) (h1 : findIn K (.ref C) (PySem.dunder nm) = some none) (hs : findIn K (.ref C) (dunderR nm) = some (some (.ref f))) : Looks M h (numberSlotInPython (.ref C) nm) true := by
  intro A Q E s k q
  obtain ⟨hh, g, d, tt, os⟩ := s
  have X' : K.In hh := X.keeps k
  have L1 : Looks M hh (typeLookup (.ref C) (PySem.dunder nm)) none := looks_findIn X' h1
  have L2 : Looks M hh (typeLookup (.ref C) (dunderR nm)) (some (.ref f)) := looks_findIn X' hs
  unfold numberSlotInPython
  repeat lk
  exact q
theorem try_no {Q : Shared → Prop} {name : Str} {b : Value} (X : K.In s.heap) (I : InstAt s.heap x ox C od) (hs : findIn K (.ref C) name = some (some (.ref f))) (hf : isFn K (.ref f) = true)
    (h : wpAny M A (call (.ref f) [.ref x, b]) (fun v s' => v = .notImplemented ∧ Q s') E s) : wpAny M A (tryMethod (.ref x) name b) (fun r s' => r = none ∧ Q s') E s := by
  unfold tryMethod
  refine wpAny_bind (special_fn X I hs (beq_iff_eq.mp hf) (wpAny_mono h (fun v s' hv => ?_) fun _ _ e => e))
  obtain ⟨rfl, hv⟩ := hv
  exact wpAny_pure ⟨rfl, hv⟩
/-- x op y: the left one's method doesn't know the right one, whose own reflected one answers -/
theorem binop_R {op : Operator} {Q : Value → Shared → Prop} {R : Shared → Prop} (F : Fr h₀ L s.heap m) (X₀ : K.In h₀) (I : InstAt s.heap x ox C od) (J : InstAt s.heap y oy D od') (hne : C ≠ D) (hc : selfFirst K C = true) (hd : selfFirst K D = true) (hsub : subIn K (.ref D) (.ref C) = some false)
    (hs : findIn K (.ref C) (PySem.dunder op.info.2) = some (some (.ref f))) (hf : isFn K (.ref f) = true) (hr : findIn K (.ref C) (dunderR op.info.2) = some none)
    (gs : findIn K (.ref D) (PySem.dunder op.info.2) = some none) (gr : findIn K (.ref D) (dunderR op.info.2) = some (some (.ref g))) (hg : isFn K (.ref g) = true)
    (h : wpAny (model prog w) A (call (.ref f) [.ref x, .ref y]) (fun v s' => v = .notImplemented ∧ R s') E s)
    (h2 : ∀ s', R s' → K.In s'.heap ∧ (∃ ox od, InstAt s'.heap x ox C od) ∧ (∃ oy od', InstAt s'.heap y oy D od') ∧ wpAny (model prog w) A (call (.ref g) [.ref y, .ref x]) (CmpBack Q) E s') : wpAny (model prog w) A (binaryOp op (.ref x) (.ref y)) Q E s := by
  have X := X₀.keeps F.keep
  obtain ⟨cd, rest, hcd, hm⟩ := ksp_first hc
  obtain ⟨ce, rest', hce, hm'⟩ := ksp_first hd
  have hn : (Value.ref C == Value.ref D) = false := Bool.eq_false_iff.mpr fun q => hne (Value.ref.inj (beq_iff_eq.mp q))
  have one := try_no (b := .ref y) (M := model prog w) X I hs hf h
  have L3 : Looks (model prog w) s.heap (fillsNumberSlot (.ref C) op.info.2) true := fills_K X hcd hm hs
  have L4 : Looks (model prog w) s.heap (fillsNumberSlot (.ref D) op.info.2) true := fills_R X hce hm' gs gr
  have L5 : Looks (model prog w) s.heap (isSubtype (.ref D) (.ref C)) false := looks_subIn X hsub
  have L6 : Looks (model prog w) s.heap (numberSlotInPython (.ref C) op.info.2) true := ksp_inPy X hs hr (.inl rfl)
  have L7 : Looks (model prog w) s.heap (numberSlotInPython (.ref D) op.info.2) true := inPy_R X gs gr
  unfold binaryOp
  refine wpAny_holding (wpAny_bind ?_)
  unfold binaryOp1
  refine wpAny_bind (I.type.here (wpAny_bind (J.type.here (wpAny_bind (L3.here ?_)))))
  simp only [hn, Bool.false_eq_true, if_false]
  refine wpAny_bind (L4.here ?_)
  simp only [Bool.and_self, if_true]
  refine wpAny_bind (L5.here ?_)
  simp only [Bool.false_eq_true, if_false]
  refine wpAny_bind (L6.here ?_)
  simp only [if_true]
  refine wpAny_bind (L7.here ?_)
  simp only [Bool.not_true, Bool.false_eq_true, if_false]
  refine wpAny_bind (m := tryMethod (.ref x) _ _) (wpAny_mono one (fun r s' hr => ?_) fun _ _ e => e)
  obtain ⟨rfl, hR⟩ := hr
  obtain ⟨X', ⟨_, _, I'⟩, ⟨_, _, J'⟩, h3⟩ := h2 s' hR
  dsimp only
  have two := ksp_try X' J' gr hg h3
  refine wpAny_bind (I'.type.here (wpAny_bind (J'.type.here ?_)))
  simp only [hn, Bool.false_eq_true, if_false]
  refine wpAny_bind (m := tryMethod (.ref y) _ _) (wpAny_mono two (fun r s' hr => ?_) fun _ _ e => e)
  obtain ⟨v, rfl, hv⟩ := hr
  obtain ⟨hh, gg, d, tt, os⟩ := s'
  ksp_lk
  exact hv
end
end PySem.W
namespace Kb
open PySem PySem.Spec PyProof.Rows L2 ClX
/-- a function that answers NotImplemented and leaves the heap as it was -/
structure FnNi (P : Program) (w : World) (K : PySem.W.Frag) (mg : Str → Option Value) (base : Heap) (k : Nat) (f : Addr) (fd : FuncData) (ps : List Str) (sn : List V → Hp → Prop) : Prop where
  len : ∀ vs H, sn vs H → vs.length = ps.length
  run : ∀ (A : Around) (outer : List Env) (s : Shared) (H : Hp) (args : Args) (us : List Value) (vs : List V), Room k A → Env0 P w K mg base A outer s H → BindsTo s fd args (ps.zip us) → Vals vs us → sn vs H →
    codeAny (model P w) A (.call (.ref f) args) (fun r s' => r = .ok (.ret .notImplemented) ∧ CE outer P w H s (fun _ H' => H' = H) .none s') s
structure PSn (X : Cx) (st : List Stmt) (t : L2.St → Hp → Prop) : Prop where
  run : ∀ (pins : List (Addr × Obj)) (s : Shared) (σ : L2.St) (H : Hp), Inv X pins σ H s → t σ H → wpAny (model X.prog X.w) X.A (execs st X.env) (fun f s' => f = .ret .notImplemented ∧ Inv X pins σ H s') X.xe s
section
variable {X : Cx}
theorem psn_ret {pos p : Pos} (hg : Gl X "NotImplemented") (hm : X.mg "NotImplemented" = none) : PSn X [.Return (some (.Name "NotImplemented" p)) pos] (fun _ _ => True) := by
  refine ⟨fun pins s σ H I _ => ?_⟩
  refine wpAny_execs_cons (wpAny_Return_some (ld_blt I hg hm (show bootBuiltins "NotImplemented" = some .notImplemented by decide +kernel) ⟨rfl, I⟩))
theorem psn_if {c : Expr} {a : List Stmt} {rest : List Stmt} {pos : Pos} {tc : TT} {u : L2.St → Hp → Prop} (hc : PT X c tc) (hr : PSn X rest u) : PSn X (.If c a [] pos :: rest) (fun σ H => tc σ H fun b H1 => b = false ∧ H1 = H ∧ u σ H) := by
  refine ⟨fun pins s σ H I h => ?_⟩
  refine wpAny_execs_cons (wpAny_If (thn (hc.run pins s σ H _ I h) fun d s1 ⟨H1, I1, e, e1, q1⟩ => ?_))
  subst e e1
  exact wpAny_execs_nil (hr.run pins s1 σ _ I1 q1)
end
section
variable {P : Program} {w : World} {K : PySem.W.Frag} {mg : Str → Option Value} {base : Heap}
theorem fn_ofN {k : Nat} {f : Addr} {name qual : Str} {params : Arguments} {body : List Stmt} {scope : Scope} {dV kV doc pm cdv ct oc : Value} {an od : Option Addr} {osl : Array (Option Value)} {N ps : List Str} {sn : List V → Hp → Prop}
    (lk : K.lookup f = some ⟨oc, od, .func (PySem.W.fnOf name qual params body scope dV kV doc pm an cdv ct), osl⟩) (hcd : PySem.W.codeIn K cdv qual = true) (S : FnScope N ps scope) (len : ∀ vs H, sn vs H → vs.length = ps.length)
    (hbody : ∀ (A : Around) (outer : List Env) (s : Shared) (H : Hp) (vs : List V), Room k (A.deeper (envOfC qual scope s.heap.objs.size f cdv)) → sn vs H →
      ∃ t, PSn (cxOf CX0 P w K mg base N qual scope f cdv A outer s H E0).nox body t ∧ t (start N vs) H) :
    FnNi P w K mg base (k + 1) f (PySem.W.fnOf name qual params body scope dV kV doc pm an cdv ct) ps sn := by
  refine ⟨len, fun A outer s H args us vs hr e0 hb r hsp => ?_⟩
  have hl := len _ _ hsp
  have KX : K.In s.heap := e0.mod.kin.keeps fun b o e => (e0.bs b o e).1
  have lim : s.heap.NoLimit := e0.mod.nolimit.keeps fun b o e => (e0.bs b o e).1
  have hkind : ∀ y ∈ ps.zip us, scope.names.lookup y.1 = some .local ∨ (scope.names.lookup y.1 = some .cell ∧ ((cellsFrom (s.heap.objs.size + 1) scope.names []).lookup y.1).isSome = true) := fun ⟨n, v⟩ hy => by
    rcases S.par n (List.of_mem_zip hy).1 with q | q
    · exact .inl q
    · exact .inr ⟨q, PySem.W.cellsFrom_some _ _ _ (.inl q)⟩
  refine codeAny_call_function hr.depth (KX _ _ lk) rfl S.co S.gen rfl (PySem.W.codeRec_of KX hcd) (hb _ _ _ _ ?_)
  refine wpAny_newFunctionEnv_cells S.kind hkind fun env he s1 x => ?_
  subst he
  refine ⟨lim.keeps x.toInCall.keep, codeAny_func ?_⟩
  obtain ⟨t, ht, hq⟩ := hbody A outer s H vs (hr.deeper _) hsp
  have I : Inv (cxOf CX0 P w K mg base N qual scope f cdv A outer s H E0) [] (start N vs) H s1 := inv_start S hr.hd e0 hl r x
  refine wpAny_mono (ht.run [] s1 (start N vs) H (I.wish _) hq) (fun fl s' hs => ?_) fun e s' hs => False.elim hs
  obtain ⟨rfl, J0⟩ := hs
  have J := J0.unwish
  exact ⟨rfl, V.non, _, J.os, J.bare, J.base, J.hok, rfl, rfl⟩
/-- a method that answers NotImplemented -/
structure MtNi (P : Program) (w : World) (K : PySem.W.Frag) (mg : Str → Option Value) (base : Heap) (k : Nat) (C : Addr) (m : Str) (ps : List Str) (sn : List V → Hp → Prop) : Prop where
  ex : ∃ (f : Addr) (fd : FuncData), FnNi P w K mg base k f fd ps sn ∧ Meth K C m f ∧ Binds K fd ps []
theorem Fun.okN {x qual : Str} {st : Stmt} {f : Addr} {fd : FuncData} {N ps : List Str} {k : Nat} {sn : List V → Hp → Prop} (F : Fun K x qual st f fd) (S : FnScope N ps (defScope st)) (len : ∀ vs H, sn vs H → vs.length = ps.length)
    (hbody : ∀ (cdv : Value) (A : Around) (outer : List Env) (s : Shared) (H : Hp) (vs : List V), Room k (A.deeper (envOfC qual (defScope st) s.heap.objs.size f cdv)) → sn vs H →
      ∃ t, PSn (cxOf CX0 P w K mg base N qual (defScope st) f cdv A outer s H E0).nox (defBody st) t ∧ t (start N vs) H) : FnNi P w K mg base (k + 1) f fd ps sn := by
  obtain ⟨oc, od, kV, doc, pm, an, cdv, ct, osl, rfl, lk, hcd⟩ := F.ex
  exact fn_ofN lk hcd S len fun A outer s H vs hr hsp => hbody cdv A outer s H vs hr hsp
end
/-- both classes stand in the order that the reflected operator wants -/
structure OpR2 (K : PySem.W.Frag) (C D : Addr) (op : Operator) : Prop where
  ne : C ≠ D
  sf : PySem.W.selfFirst K C = true
  sg : PySem.W.selfFirst K D = true
  sub : PySem.W.subIn K (.ref D) (.ref C) = some false
  r : PySem.W.findIn K (.ref C) (dunderR op.info.2) = some none
  no : PySem.W.findIn K (.ref D) (PySem.dunder op.info.2) = some none
def rBinR (C D : Addr) (sn : List V → Hp → Prop) (sp : Sp) : R2 := fun x y H Q => ∃ (a dx : Addr) (fs : List (Str × V)) (b dy : Addr) (gs : List (Str × V)), x = .ref a ∧ y = .ref b ∧ H a = some (.ins C dx fs) ∧ H b = some (.ins D dy gs) ∧ sn [x, y] H ∧ sp [y, x] H Q E0
section
variable {X : Cx} {k j : Nat} {C D : Addr} {ps ps' : List Str} {sn : List V → Hp → Prop} {sp : Sp} {op : Operator}
theorem op_binR {m m' : Str} (F : MtNi X.prog X.w X.K X.mg X.base j C m ps' sn) (G : MtC X.prog X.w X.K X.mg X.base CX0 k D m' ps sp) (c : OpR2 X.K C D op) (hr : Room j X.A) (hr' : Room k X.A) (hm : PySem.dunder op.info.2 = m := by decide +kernel) (hm' : dunderR op.info.2 = m' := by decide +kernel) : OpR X (binaryOp op) (rBinR C D sn sp) := by
  subst hm hm'
  intro pins s σ H x y v u Q I rx ry h
  obtain ⟨a, dx, fs, b, dy, gs, rfl, rfl, ha, hb', qn, q⟩ := h
  obtain ⟨f, fd, hf, M, hb⟩ := F.ex
  obtain ⟨g, gd, hg, N, hb2⟩ := G.ex
  cases (show v = Value.ref a from rx)
  cases (show u = Value.ref b from ry)
  obtain ⟨_, O, _⟩ := ins_get I.hok ha
  obtain ⟨od, J, _⟩ := O.look
  obtain ⟨_, O', _⟩ := ins_get I.hok hb'
  obtain ⟨od', J', _⟩ := O'.look
  obtain ⟨m, hF⟩ := I.fr
  refine PySem.W.binop_R hF I.ok.mod.kin J J' c.ne c.sf c.sg c.sub M.at_ M.fn c.r c.no N.at_ N.fn (R := fun s' => Inv X pins σ H s') ?_ fun s' I' => ?_
  · refine wpAny_call (codeAny_mono (hf.run X.A X.stack s H ⟨[.ref a, .ref b], []⟩ [.ref a, .ref b] [.ref a, .ref b] hr I.env0 (by
      have := hb s [.ref a, .ref b] I.kIn (by have := hf.len _ _ qn; exact this)
      rwa [List.append_nil] at this) (.cons rfl (.cons rfl .nil)) qn) fun r s' hq => ?_)
    obtain ⟨rfl, z⟩ := hq
    obtain ⟨_, H', I', _, e⟩ := I.after z
    subst e
    exact ⟨rfl, I'⟩
  · obtain ⟨_, O, _⟩ := ins_get I'.hok ha
    obtain ⟨od, J, _⟩ := O.look
    obtain ⟨_, O', _⟩ := ins_get I'.hok hb'
    obtain ⟨od', J', _⟩ := O'.look
    exact ⟨I'.kIn, ⟨_, _, J⟩, ⟨_, _, J'⟩, run_bin (y := .ref a) I' hg hr' hb2 (by exact rfl) q⟩
end
end Kb
/-! ### the slots made plain -/
namespace Kb
open PySem PySem.Spec PyProof.Rows L2 ClX
abbrev tNrm (t : TS) : TS := fun D σ H => ∀ σ', σ = σ' → t D σ' H
theorem pss_nrm {X : Cx} {st : List Stmt} {t : TS} (h : PSs X st t) : PSs X st (tNrm t) := ⟨fun pins s σ H D I q => h.run pins s σ H D I (q σ rfl)⟩
theorem nrm_of {T : L2.St → Prop} {σ σ' : L2.St} (e : σ = σ') (h : T σ') : ∀ σ'', σ = σ'' → T σ'' := fun _ e' => e' ▸ e ▸ h
end Kb

namespace Lw
open PySem PySem.Spec PyProof.Rows L2 ClX Kb
def top (i : Nat) : Stmt := PySem.Challenge.pw_unmarked_k11_edges_in_order.main.body.getD i (.Pass ⟨0, 0, 0, 0⟩)
abbrev S__law_take : Stmt := (top 36)
abbrev N__law_take : List Str := ["_law_box_here", "_law_many", "_law_digit", "_law_one"]
theorem SC__law_take : FnScope N__law_take ["_law_box_here", "_law_many"] (defScope S__law_take) := ⟨rfl, rfl, rfl, by decide +kernel, rfl, by decide +kernel, by decide +kernel⟩
abbrev S__law_box : Stmt := (top 35)
abbrev N__law_box : List Str := ["_law_script", "_law_k", "_law_cell", "_law_seed"]
theorem SC__law_box : FnScope N__law_box ["_law_script", "_law_k"] (defScope S__law_box) := ⟨rfl, rfl, rfl, by decide +kernel, rfl, by decide +kernel, by decide +kernel⟩
abbrev S_is_integer : Stmt := (top 8)
abbrev N_is_integer : List Str := ["value"]
theorem SC_is_integer : FnScope N_is_integer ["value"] (defScope S_is_integer) := ⟨rfl, rfl, rfl, by decide +kernel, rfl, by decide +kernel, by decide +kernel⟩
abbrev S_is_length : Stmt := (top 9)
abbrev N_is_length : List Str := ["value"]
theorem SC_is_length : FnScope N_is_length ["value"] (defScope S_is_length) := ⟨rfl, rfl, rfl, by decide +kernel, rfl, by decide +kernel, by decide +kernel⟩
abbrev S_common_length : Stmt := (top 12)
abbrev N_common_length : List Str := ["first", "second"]
theorem SC_common_length : FnScope N_common_length ["first", "second"] (defScope S_common_length) := ⟨rfl, rfl, rfl, by decide +kernel, rfl, by decide +kernel, by decide +kernel⟩
abbrev S_InvalidRatio__init_ : Stmt := (inClass (top 3) 0)
abbrev N_InvalidRatio__init_ : List Str := ["self"]
theorem SC_InvalidRatio__init_ : FnScope N_InvalidRatio__init_ ["self"] (defScope S_InvalidRatio__init_) := ⟨rfl, rfl, rfl, by decide +kernel, rfl, by decide +kernel, by decide +kernel⟩
abbrev S_InvalidEdge__init_ : Stmt := (inClass (top 4) 0)
abbrev N_InvalidEdge__init_ : List Str := ["self"]
theorem SC_InvalidEdge__init_ : FnScope N_InvalidEdge__init_ ["self"] (defScope S_InvalidEdge__init_) := ⟨rfl, rfl, rfl, by decide +kernel, rfl, by decide +kernel, by decide +kernel⟩
abbrev S_Ratio__init_ : Stmt := (inClass (top 14) 0)
abbrev N_Ratio__init_ : List Str := ["self", "first", "second", "unit"]
theorem SC_Ratio__init_ : FnScope N_Ratio__init_ ["self", "first", "second"] (defScope S_Ratio__init_) := ⟨rfl, rfl, rfl, by decide +kernel, rfl, by decide +kernel, by decide +kernel⟩
abbrev S_common : Stmt := (top 16)
abbrev N_common : List Str := ["one", "other"]
theorem SC_common : FnScope N_common ["one", "other"] (defScope S_common) := ⟨rfl, rfl, rfl, by decide +kernel, rfl, by decide +kernel, by decide +kernel⟩
abbrev S_sign_of : Stmt := (top 17)
abbrev N_sign_of : List Str := ["number"]
theorem SC_sign_of : FnScope N_sign_of ["number"] (defScope S_sign_of) := ⟨rfl, rfl, rfl, by decide +kernel, rfl, by decide +kernel, by decide +kernel⟩
abbrev S_whole_root : Stmt := (top 18)
abbrev N_whole_root : List Str := ["number", "found", "less"]
theorem SC_whole_root : FnScope N_whole_root ["number"] (defScope S_whole_root) := ⟨rfl, rfl, rfl, by decide +kernel, rfl, by decide +kernel, by decide +kernel⟩
abbrev S_sign_with_root : Stmt := (top 19)
abbrev N_sign_with_root : List Str := ["one", "times", "inner", "left", "right"]
theorem SC_sign_with_root : FnScope N_sign_with_root ["one", "times", "inner"] (defScope S_sign_with_root) := ⟨rfl, rfl, rfl, by decide +kernel, rfl, by decide +kernel, by decide +kernel⟩
abbrev S_lowered : Stmt := (top 21)
abbrev N_lowered : List Str := ["a", "b", "c", "side", "factor"]
theorem SC_lowered : FnScope N_lowered ["a", "b", "c", "side"] (defScope S_lowered) := ⟨rfl, rfl, rfl, by decide +kernel, rfl, by decide +kernel, by decide +kernel⟩
abbrev S_inner_of : Stmt := (top 22)
abbrev N_inner_of : List Str := ["root"]
theorem SC_inner_of : FnScope N_inner_of ["root"] (defScope S_inner_of) := ⟨rfl, rfl, rfl, by decide +kernel, rfl, by decide +kernel, by decide +kernel⟩
abbrev S_Edge__init_ : Stmt := (inClass (top 32) 0)
abbrev N_Edge__init_ : List Str := ["self", "place"]
theorem SC_Edge__init_ : FnScope N_Edge__init_ ["self", "place"] (defScope S_Edge__init_) := ⟨rfl, rfl, rfl, by decide +kernel, rfl, by decide +kernel, by decide +kernel⟩
abbrev S_Edge_of : Stmt := (inClass (top 32) 3)
abbrev N_Edge_of : List Str := ["cls", "ratio"]
theorem SC_Edge_of : FnScope N_Edge_of ["cls", "ratio"] (defScope S_Edge_of) := ⟨rfl, rfl, rfl, by decide +kernel, rfl, by decide +kernel, by decide +kernel⟩
abbrev S_Edge_zero : Stmt := (inClass (top 32) 1)
abbrev N_Edge_zero : List Str := ["cls"]
theorem SC_Edge_zero : FnScope N_Edge_zero ["cls"] (defScope S_Edge_zero) := ⟨rfl, rfl, rfl, by decide +kernel, rfl, by decide +kernel, by decide +kernel⟩
abbrev S_Edge_endless : Stmt := (inClass (top 32) 2)
abbrev N_Edge_endless : List Str := ["cls"]
theorem SC_Edge_endless : FnScope N_Edge_endless ["cls"] (defScope S_Edge_endless) := ⟨rfl, rfl, rfl, by decide +kernel, rfl, by decide +kernel, by decide +kernel⟩
abbrev S_Edge__eq_ : Stmt := (inClass (top 32) 12)
abbrev N_Edge__eq_ : List Str := ["self", "other"]
theorem SC_Edge__eq_ : FnScope N_Edge__eq_ ["self", "other"] (defScope S_Edge__eq_) := ⟨rfl, rfl, rfl, by decide +kernel, rfl, by decide +kernel, by decide +kernel⟩
abbrev S_Edge_parts : Stmt := (inClass (top 32) 9)
abbrev N_Edge_parts : List Str := ["self"]
theorem SC_Edge_parts : FnScope N_Edge_parts ["self"] (defScope S_Edge_parts) := ⟨rfl, rfl, rfl, by decide +kernel, rfl, by decide +kernel, by decide +kernel⟩
abbrev S_Edge_ratio : Stmt := (inClass (top 32) 7)
abbrev N_Edge_ratio : List Str := ["self"]
theorem SC_Edge_ratio : FnScope N_Edge_ratio ["self"] (defScope S_Edge_ratio) := ⟨rfl, rfl, rfl, by decide +kernel, rfl, by decide +kernel, by decide +kernel⟩
abbrev S_Edge_root : Stmt := (inClass (top 32) 4)
abbrev N_Edge_root : List Str := ["cls", "p", "q", "d", "r", "whole", "top", "factor", "value"]
theorem SC_Edge_root : FnScope N_Edge_root ["cls", "p", "q", "d", "r"] (defScope S_Edge_root) := ⟨rfl, rfl, rfl, by decide +kernel, rfl, by decide +kernel, by decide +kernel⟩
abbrev S_sign_with_roots : Stmt := (top 20)
abbrev N_sign_with_roots : List Str := ["one", "times", "inner", "again", "other", "left", "right", "squares"]
theorem SC_sign_with_roots : FnScope N_sign_with_roots ["one", "times", "inner", "again", "other"] (defScope S_sign_with_roots) := ⟨rfl, rfl, rfl, by decide +kernel, rfl, by decide +kernel, by decide +kernel⟩
abbrev S_compared : Stmt := (top 23)
abbrev N_compared : List Str := ["one", "other", "top", "under", "last", "below", "plain"]
theorem SC_compared : FnScope N_compared ["one", "other"] (defScope S_compared) := ⟨rfl, rfl, rfl, by decide +kernel, rfl, by decide +kernel, by decide +kernel⟩
abbrev S_Edge__lt_ : Stmt := (inClass (top 32) 13)
abbrev N_Edge__lt_ : List Str := ["self", "other"]
theorem SC_Edge__lt_ : FnScope N_Edge__lt_ ["self", "other"] (defScope S_Edge__lt_) := ⟨rfl, rfl, rfl, by decide +kernel, rfl, by decide +kernel, by decide +kernel⟩
abbrev S_Edge__le_ : Stmt := (inClass (top 32) 14)
abbrev N_Edge__le_ : List Str := ["self", "other"]
theorem SC_Edge__le_ : FnScope N_Edge__le_ ["self", "other"] (defScope S_Edge__le_) := ⟨rfl, rfl, rfl, by decide +kernel, rfl, by decide +kernel, by decide +kernel⟩
abbrev S_Edge__gt_ : Stmt := (inClass (top 32) 15)
abbrev N_Edge__gt_ : List Str := ["self", "other"]
theorem SC_Edge__gt_ : FnScope N_Edge__gt_ ["self", "other"] (defScope S_Edge__gt_) := ⟨rfl, rfl, rfl, by decide +kernel, rfl, by decide +kernel, by decide +kernel⟩
abbrev S_Edge__ge_ : Stmt := (inClass (top 32) 16)
abbrev N_Edge__ge_ : List Str := ["self", "other"]
theorem SC_Edge__ge_ : FnScope N_Edge__ge_ ["self", "other"] (defScope S_Edge__ge_) := ⟨rfl, rfl, rfl, by decide +kernel, rfl, by decide +kernel, by decide +kernel⟩
abbrev S__law_sign : Stmt := (top 37)
abbrev N__law_sign : List Str := ["_law_number"]
theorem SC__law_sign : FnScope N__law_sign ["_law_number"] (defScope S__law_sign) := ⟨rfl, rfl, rfl, by decide +kernel, rfl, by decide +kernel, by decide +kernel⟩
abbrev S__law_gcd : Stmt := (top 41)
abbrev N__law_gcd : List Str := ["_law_one", "_law_other"]
theorem SC__law_gcd : FnScope N__law_gcd ["_law_one", "_law_other"] (defScope S__law_gcd) := ⟨rfl, rfl, rfl, by decide +kernel, rfl, by decide +kernel, by decide +kernel⟩
abbrev S__law_sign_root : Stmt := (top 38)
abbrev N__law_sign_root : List Str := ["_law_one", "_law_times", "_law_inner", "_law_left", "_law_right"]
theorem SC__law_sign_root : FnScope N__law_sign_root ["_law_one", "_law_times", "_law_inner"] (defScope S__law_sign_root) := ⟨rfl, rfl, rfl, by decide +kernel, rfl, by decide +kernel, by decide +kernel⟩
abbrev S__law_whole_root : Stmt := (top 39)
abbrev N__law_whole_root : List Str := ["_law_number", "_law_low", "_law_high", "_law_middle"]
theorem SC__law_whole_root : FnScope N__law_whole_root ["_law_number"] (defScope S__law_whole_root) := ⟨rfl, rfl, rfl, by decide +kernel, rfl, by decide +kernel, by decide +kernel⟩
abbrev S__law_is_square : Stmt := (top 40)
abbrev N__law_is_square : List Str := ["_law_number"]
theorem SC__law_is_square : FnScope N__law_is_square ["_law_number"] (defScope S__law_is_square) := ⟨rfl, rfl, rfl, by decide +kernel, rfl, by decide +kernel, by decide +kernel⟩
abbrev S__law_root : Stmt := (top 42)
abbrev N__law_root : List Str := ["_law_box_here", "_law_most", "_law_p", "_law_q", "_law_d", "_law_r"]
theorem SC__law_root : FnScope N__law_root ["_law_box_here", "_law_most"] (defScope S__law_root) := ⟨rfl, rfl, rfl, by decide +kernel, rfl, by decide +kernel, by decide +kernel⟩
abbrev S__law_fraction : Stmt := (top 43)
abbrev N__law_fraction : List Str := ["_law_given", "_law_p", "_law_q", "_law_d", "_law_r", "_law_top", "_law_unit"]
theorem SC__law_fraction : FnScope N__law_fraction ["_law_given"] (defScope S__law_fraction) := ⟨rfl, rfl, rfl, by decide +kernel, rfl, by decide +kernel, by decide +kernel⟩
abbrev S__law_is_same : Stmt := (top 44)
abbrev N__law_is_same : List Str := ["_law_one", "_law_other", "_law_p", "_law_q", "_law_d", "_law_r", "_law_a", "_law_b", "_law_c", "_law_e"]
theorem SC__law_is_same : FnScope N__law_is_same ["_law_one", "_law_other"] (defScope S__law_is_same) := ⟨rfl, rfl, rfl, by decide +kernel, rfl, by decide +kernel, by decide +kernel⟩
abbrev S__law_is_least : Stmt := (top 45)
abbrev N__law_is_least : List Str := ["_law_numbers", "_law_p", "_law_q", "_law_d", "_law_r", "_law_third", "_law_number"]
theorem SC__law_is_least : FnScope N__law_is_least ["_law_numbers"] (defScope S__law_is_least) := ⟨rfl, rfl, rfl, by decide +kernel, rfl, by decide +kernel, by decide +kernel⟩
abbrev S__law_sign_roots : Stmt := (top 46)
abbrev N__law_sign_roots : List Str := ["_law_one", "_law_times", "_law_inner", "_law_again", "_law_other", "_law_left", "_law_right", "_law_whole"]
theorem SC__law_sign_roots : FnScope N__law_sign_roots ["_law_one", "_law_times", "_law_inner", "_law_again", "_law_other"] (defScope S__law_sign_roots) := ⟨rfl, rfl, rfl, by decide +kernel, rfl, by decide +kernel, by decide +kernel⟩
abbrev S__law_gap : Stmt := (top 47)
abbrev N__law_gap : List Str := ["_law_one", "_law_other", "_law_heights", "_law_p", "_law_q", "_law_d", "_law_r", "_law_a", "_law_b", "_law_c", "_law_e", "_law_place"]
theorem SC__law_gap : FnScope N__law_gap ["_law_one", "_law_other"] (defScope S__law_gap) := ⟨rfl, rfl, rfl, by decide +kernel, rfl, by decide +kernel, by decide +kernel⟩
abbrev S__law_edge : Stmt := (top 48)
abbrev N__law_edge : List Str := ["_law_place"]
theorem SC__law_edge : FnScope N__law_edge ["_law_place"] (defScope S__law_edge) := ⟨rfl, rfl, rfl, by decide +kernel, rfl, by decide +kernel, by decide +kernel⟩
abbrev S__law_near : Stmt := (top 49)
abbrev N__law_near : List Str := ["_law_given", "_law_count", "_law_low", "_law_high", "_law_p", "_law_q", "_law_d", "_law_r", "_law_turn", "_law_middle"]
theorem SC__law_near : FnScope N__law_near ["_law_given", "_law_count"] (defScope S__law_near) := ⟨rfl, rfl, rfl, by decide +kernel, rfl, by decide +kernel, by decide +kernel⟩
abbrev S__law_places : Stmt := (top 50)
abbrev N__law_places : List Str := ["_law_box_here", "_law_found", "_law_turn", "_law_p", "_law_q", "_law_d", "_law_r", "_law_times", "_law_kin", "_law_is_root", "_law_many", "_law_place"]
theorem SC__law_places : FnScope N__law_places ["_law_box_here"] (defScope S__law_places) := ⟨rfl, rfl, rfl, by decide +kernel, rfl, by decide +kernel, by decide +kernel⟩
abbrev S_law : Stmt := (top 51)
abbrev N_law : List Str := ["_law_script", "_law_k", "_law_places_here", "_law_one", "_law_other", "_law_a", "_law_b", "_law_gap_here", "_law_thing"]
theorem SC_law : FnScope N_law ["_law_script"] (defScope S_law) := ⟨rfl, rfl, rfl, by decide +kernel, rfl, by decide +kernel, by decide +kernel⟩
structure Txt (K : PySem.W.Frag) (mg : Str → Option Value) : Prop where
  b_ValueError : mg "ValueError" = none
  b_abs : mg "abs" = none
  b_all : mg "all" = none
  b_any : mg "any" = none
  b_bool : mg "bool" = none
  b_enumerate : mg "enumerate" = none
  b_int : mg "int" = none
  b_isinstance : mg "isinstance" = none
  b_len : mg "len" = none
  b_list : mg "list" = none
  b_max : mg "max" = none
  b_min : mg "min" = none
  b_range : mg "range" = none
  b_repr : mg "repr" = none
  b_sorted : mg "sorted" = none
  b_str : mg "str" = none
  b_sum : mg "sum" = none
  b_tuple : mg "tuple" = none
  b_zip : mg "zip" = none
/-! ## words -/
namespace Wd
def cd (b : Bool) : Nat := if b then 114 else 108
/-- the text of a word: true is r -/
def enc (u : List Bool) : Str := ⟨(u.map cd).toArray⟩
theorem enc_cps (u : List Bool) : (enc u).cps.toList = u.map cd := by simp [enc]
theorem enc_len (u : List Bool) : (enc u).length = u.length := by show (u.map cd).toArray.size = _; simp
theorem enc_app (u v : List Bool) : enc u ++ enc v = enc (u ++ v) := by
  show (⟨(enc u).cps ++ (enc v).cps⟩ : Str) = _
  simp [enc]
theorem cd_inj {a b : Bool} (h : cd a = cd b) : a = b := by revert h; cases a <;> cases b <;> decide
theorem map_cd_inj : ∀ {u v : List Bool}, u.map cd = v.map cd → u = v
  | [], [], _ => rfl
  | [], _ :: _, h => by simp at h
  | _ :: _, [], h => by simp at h
  | a :: u, b :: v, h => by
    rw [List.map_cons, List.map_cons, List.cons.injEq] at h
    rw [cd_inj h.1, map_cd_inj h.2]
theorem enc_inj {u v : List Bool} (h : enc u = enc v) : u = v := map_cd_inj (by rw [← enc_cps, ← enc_cps, h])
theorem enc_rev (u : List Bool) : revS (enc u) = enc u.reverse := by
  unfold revS
  rw [enc_cps]
  simp [enc]
theorem enc_rep (b : Bool) (n : Nat) : repS (enc [b]) n = enc (List.replicate n b) := by
  unfold repS
  rw [enc_cps]
  simp only [enc, List.map_replicate, List.map_cons, List.map_nil]
  congr 2
  induction n with
  | zero => rfl
  | succ n ih => rw [List.replicate_succ, List.flatten_cons, ih]; rfl
theorem enc_take (u : List Bool) {k : Int} (h : 0 ≤ k) : cutS (enc u) none (some k) = enc (u.take k.toNat) := by
  unfold cutS
  rw [enc_cps, enc_len]
  have e1 : HT.sIx u.length 0 none = 0 := rfl
  have e2 : HT.sIx u.length u.length (some k) = min k.toNat u.length := by
    unfold HT.sIx
    first | omega | (simp; omega) | (split <;> omega) | (simp only; split <;> omega)
  rw [e1, e2, List.drop_zero, Nat.sub_zero]
  unfold enc
  rw [List.map_take, List.take_eq_take_iff.mpr]
  simp
theorem lit_l : ("l" : Str) = enc [false] := by decide +kernel
theorem lit_r : ("r" : Str) = enc [true] := by decide +kernel
theorem lit_e : ("" : Str) = enc [] := by decide +kernel
theorem lit_lr : ("lr" : Str) = enc [false, true] := by decide +kernel
theorem foldl_cps : ∀ (ps : List Str) (a : Array Nat), (ps.foldl (fun acc p => acc ++ (#[] : Array Nat) ++ p.cps) a).toList = a.toList ++ (ps.map (·.cps.toList)).flatten
  | [], a => by simp
  | p :: ps, a => by
    rw [List.foldl_cons, foldl_cps ps]
    simp
theorem join_cps (ys : List Str) : Txt.join ("" : Str) ys = ⟨(ys.map (·.cps.toList)).flatten.toArray⟩ := by
  cases ys with
  | nil => rfl
  | cons y ys =>
    show (⟨(ys.foldl (fun acc p => acc ++ (#[] : Array Nat) ++ p.cps) y.cps)⟩ : Str) = _
    have e := foldl_cps ys y.cps
    refine congrArg Str.mk (Array.toList_inj.mp ?_)
    rw [e]
    simp
theorem join_enc (us : List (List Bool)) : Txt.join ("" : Str) (us.map enc) = enc us.flatten := by
  rw [join_cps, List.map_map]
  have e : (us.map ((fun y : Str => y.cps.toList) ∘ enc)) = us.map (List.map cd) := List.map_congr_left fun u _ => enc_cps u
  rw [e]
  simp [enc, List.map_flatten]
theorem join_chars (cs : List Nat) : Txt.join ("" : Str) (cs.map fun c => (⟨#[c]⟩ : Str)) = ⟨cs.toArray⟩ := by
  rw [join_cps, List.map_map]
  refine congrArg Str.mk (Array.toList_inj.mp ?_)
  simp only
  induction cs with
  | nil => rfl
  | cons c r ih => simpa using ih
theorem sum_chars (cs : List Nat) : ((cs.map fun c => (⟨#[c]⟩ : Str)).map (·.length)).sum = cs.length := by
  induction cs with
  | nil => rfl
  | cons c r ih => rw [List.map_cons, List.map_cons, List.sum_cons, ih, List.length_cons]; show 1 + r.length = _; omega
theorem empty_len : ("" : Str).length = 0 := by decide +kernel
theorem enc_at {u : List Bool} {i c : Nat} (h : (enc u).cps[i]? = some c) : ∃ b, u[i]? = some b ∧ c = cd b := by
  rw [← Array.getElem?_toList, enc_cps, List.getElem?_map] at h
  cases e : u[i]? with
  | none => rw [e] at h; cases h
  | some b => rw [e] at h; exact ⟨b, rfl, (Option.some.inj h).symm⟩
/-- the lengths of a word -/
def pr : List Bool → Nat × Nat
  | [] => (1, 1)
  | b :: u => if b then ((pr u).1 + (pr u).2, (pr u).2) else ((pr u).1, (pr u).1 + (pr u).2)
theorem pr_pos (u : List Bool) : 0 < (pr u).1 ∧ 0 < (pr u).2 := by
  induction u with
  | nil => decide
  | cons b u ih => unfold pr; cases b <;> simp <;> omega
theorem pr_le (u : List Bool) : (pr u).1 + (pr u).2 ≤ 2 ^ (u.length + 1) := by
  induction u with
  | nil => decide
  | cons b u ih =>
    have := pr_pos u
    have e : 2 ^ (u.length + 1 + 1) = 2 * 2 ^ (u.length + 1) := by rw [Nat.pow_succ]; omega
    cases b <;> simp only [pr, List.length_cons, Bool.false_eq_true, if_false, if_true] <;> omega
end Wd
open Wd

local macro_rules | `(tactic| walk_at "kbs") => `(tactic| first | omega | decide | exact .inl ⟨by omega, by omega⟩ | exact .inr ⟨by omega, by omega⟩ | exact ⟨by omega, by omega⟩ | exact ⟨by decide, by decide, by decide⟩ | assumption | exact szl (by simp only [enc_len, List.length_cons, List.length_nil, List.length_append, List.length_replicate, List.length_take]; omega))
local macro_rules | `(tactic| walk_at "kb1") => `(tactic| first
  | refine ⟨_, rfl, ?_⟩
  | (refine ⟨_, _, rfl, rfl, ?_⟩; try refine And.intro (by walk_at "kbs") ?_)
  | refine ⟨_, _, _, _, rfl, rfl, (by first | assumption | exact SqL.of (by assumption) | exact SqT.of (by assumption)), rfl, ?_⟩
  | refine ⟨_, _, rfl, (show SqL _ _ _ _ ∨ SqT _ _ _ _ from by first | assumption | exact .inl (by assumption) | exact .inr (by assumption) | exact .inl (SqL.of (by assumption)) | exact .inr (SqT.of (by assumption))), ?_⟩
  | refine ⟨_, _, rfl, ?_⟩
  | refine And.intro (show scal _ _ = true from rfl) ?_
  | refine And.intro (by walk_at "kbs") ?_
  | refine And.intro ⟨_, rfl⟩ ?_)
local macro_rules | `(tactic| walk_at "kb") => `(tactic| repeat (walk_at "kb1"))

/-! ## draws -/
namespace Dr
def BoxAt (H : Hp) (b : Addr) : Prop := ∃ c s n : Int, H b = some (.lst [.int c, .int s, .int n]) ∧ 0 ≤ c ∧ 0 ≤ s ∧ s < 4294967296
def Keep (b : Addr) (H H' : Hp) : Prop := ∀ a o, a ≠ b → H a = some o → H' a = some o
theorem Keep.refl (b : Addr) (H : Hp) : Keep b H H := fun _ _ _ h => h
theorem Keep.trans {b : Addr} {H H1 H2 : Hp} (x : Keep b H H1) (y : Keep b H1 H2) : Keep b H H2 := fun a o n h => y a o n (x a o n h)
theorem Keep.same {b : Addr} {H H' : Hp} (x : Same H H') : Keep b H H' := fun a o _ h => x a o h
theorem Keep.upd (b : Addr) (H : Hp) (o : HO) : Keep b H (upd H b o) := fun a u n h => by rw [upd_ne n]; exact h
theorem Keep.new {b p : Addr} {H : Hp} {o : HO} (h : H p = none) : Keep b H (L2.upd H p o) := fun a u n e => by rw [upd_ne (ne_of_none e h)]; exact e
theorem Keep.put {b p : Addr} {H H1 : Hp} {o : HO} (x : Keep b H H1) (h : H p = none) : Keep b H (L2.upd H1 p o) := fun a u n e => by rw [upd_ne (ne_of_none e h)]; exact x a u n e
theorem BoxAt.ne {H : Hp} {b p : Addr} (x : BoxAt H b) (h : H p = none) : p ≠ b := fun e => by
  obtain ⟨c, s, n, q, _⟩ := x
  rw [e, q] at h; cases h
theorem BoxAt.lst {H : Hp} {b : Addr} (x : BoxAt H b) : ∃ xs, H b = some (.lst xs) := let ⟨_, _, _, q, _⟩ := x; ⟨_, q⟩
theorem BoxAt.keep {H H' : Hp} {b : Addr} (x : BoxAt H b) (h : ∀ o, H b = some o → H' b = some o) : BoxAt H' b := by
  obtain ⟨c, s, n, q, z⟩ := x
  exact ⟨c, s, n, h _ q, z⟩
theorem BoxAt.same {H H' : Hp} {b : Addr} (x : BoxAt H b) (h : Same H H') : BoxAt H' b := x.keep fun o => h b o
theorem BoxAt.new {H : Hp} {b p : Addr} {o : HO} (x : BoxAt H b) (h : H p = none) : BoxAt (upd H p o) b := x.keep fun u e => by rw [upd_ne (ne_of_none e h)]; exact e
/-- what stood nowhere ahead stands nowhere behind a smaller heap -/
theorem Keep.free {b p : Addr} {H H' : Hp} (x : Keep b H H') (hb : ∃ o, H' b = some o) (h : H' p = none) : H p = none := by
  cases e : H p with
  | none => rfl
  | some o =>
    by_cases c : p = b
    · obtain ⟨u, hu⟩ := hb
      rw [c, hu] at h; cases h
    · rw [x p o c e] at h; cases h
theorem BoxAt.any {H : Hp} {b : Addr} (x : BoxAt H b) : ∃ o, H b = some o := let ⟨_, q⟩ := x.lst; ⟨_, q⟩

def sp_take : Sp := fun vs H Q _ => ∃ (b : Addr) (m : Int), vs = [.ref b, .int m] ∧ BoxAt H b ∧ 0 < m ∧ m ≤ 1000000000000 ∧ ∀ (d : Int) (H' : Hp), 0 ≤ d → d < m → Keep b H H' → BoxAt H' b → Q (.int d) H'
def sp_pick (K : PySem.W.Frag) : Sp := fun vs H Q _ => ∃ (b l : Addr) (xs : List V), vs = [.ref b, .ref l] ∧ BoxAt H b ∧ l ≠ b ∧ (SqL K H l xs ∨ SqT K H l xs) ∧ 0 < xs.length ∧ xs.length ≤ 100000 ∧ ∀ (d : Nat) (v : V) (H' : Hp), xs[d]? = some v → Keep b H H' → BoxAt H' b → Q v H'
def sp_box (K : PySem.W.Frag) : Sp := fun vs H Q _ => ∃ (a : Addr) (ns : List Int) (k own : Int), vs = [.ref a, .int k, .int own] ∧ SqL K H a (ns.map V.int) ∧ ns.length ≤ 63 ∧ 0 ≤ k ∧ 0 ≤ own ∧ ∀ (p : Addr) (H' : Hp), H p = none → Same H H' → BoxAt H' p → Q (.ref p) H'
def sp_box2 (K : PySem.W.Frag) : Sp := fun vs H Q _ => ∃ (a : Addr) (ns : List Int) (k : Int), vs = [.ref a, .int k] ∧ SqL K H a (ns.map V.int) ∧ ns.length ≤ 63 ∧ 0 ≤ k ∧ ∀ (p : Addr) (H' : Hp), H p = none → Same H H' → BoxAt H' p → Q (.ref p) H'
end Dr
open Dr
section
variable {P : Program} {w : World} {K : PySem.W.Frag} {mg : Str → Option Value} {base : Heap}
theorem ok_take {f : Addr} {fd : FuncData} (F : Fun K "_law_take" "_law_take" S__law_take f fd) (T : Txt K mg) : FnOk P w K mg base CX0 1 f fd ["_law_box_here", "_law_many"] sp_take := by
  refine F.ok SC__law_take (fun vs H Q E h => ?_) (fun cdv A outer s H vs Q E hr h => ?_)
  · obtain ⟨b, m, rfl, _⟩ := h
    rfl
  · obtain ⟨b, m, rfl, ⟨c, sd, n, hb, hc, hs0, hs1⟩, m0, m1, k⟩ := h
    refine ⟨_, (pss_cons (ps_if (pt_cmpR op_gt (pe_ix ix_list (pv 0) pe_int (fun _ _ => rfl)) pe_int (nomark _)) (pss_cons (ps_set (i := 2) SC__law_take.nd rfl (.inl rfl) (pe_op op_mod (pe_callTy call_intI (by rfl) T.b_int (by decide +kernel) (pa_cons (pe_ix ix_list (pv 0) pe_int (fun _ _ => rfl)) pa_nil)) (pv 1)))
      (pss_cons (ps_asg (pe_op op_fdivW (pe_ix ix_list (pv 0) pe_int (fun _ _ => rfl)) (pv 1)) (pg_sub (pv 0) pe_int set_list))
      (pss_one (ps_ret (pv 2))))) pss_nil)
      (pss_cons (ps_asg (pe_op op_add (pe_ix ix_list (pv 0) pe_int (fun _ _ => rfl)) pe_int) (pg_sub (pv 0) pe_int set_list))
      (pss_cons (ps_set (i := 3) SC__law_take.nd rfl (.inl rfl) (pe_op op_mod (pe_callTy call_intI (by rfl) T.b_int (by decide +kernel) (pa_cons (pe_op op_mul (pe_op op_add (pe_ix ix_list (pv 0) pe_int (fun _ _ => rfl)) (pe_op op_mul pe_int (pe_ix ix_list (pv 0) pe_int (fun _ _ => rfl)))) pe_int) pa_nil)) pe_int))
      (pss_cons (ps_asg (pe_op op_add (pe_op op_mod (pe_callTy call_intI (by rfl) T.b_int (by decide +kernel) (pa_cons (pe_op op_add (pe_op op_mul (pv 3) pe_int) pe_int) pa_nil)) pe_int) pe_int) (pg_sub (pv 0) pe_int set_list))
      (pss_one (ps_ret (pe_op op_mod (pe_callTy call_intI (by rfl) T.b_int (by decide +kernel) (pa_cons (pe_op op_fdiv (pe_op op_add (pe_op op_mul (pv 3) pe_int) (pe_ix ix_list (pv 0) pe_int (fun _ _ => rfl))) pe_int) pa_nil)) (pv 1)))))))), ?_⟩
    refine ⟨_, rfl, b, _, 0, _, rfl, rfl, SqL.of hb, rfl, _, _, rfl, rfl, _, rfl, ite2 (fun h => ?_) fun h => ?_⟩
    · have hc0 : 0 < c := of_decide_eq_true h
      refine ⟨_, rfl, b, _, 0, _, rfl, rfl, SqL.of hb, rfl, _, rfl, _, rfl, _, _, rfl, rfl, m0, ?_⟩
      refine ⟨_, rfl, b, _, 0, _, rfl, rfl, SqL.of hb, rfl, _, rfl, _, _, rfl, rfl, ⟨m0, ?_⟩, _, rfl, b, _, 0, 0, rfl, rfl, hb, rfl, ?_⟩
      · have q : m.natAbs < 2 ^ 64 := by omega
        exact Nat.lt_of_lt_of_le (PySem.Flt.log2_lt_of (by decide) q) (by decide)
      · refine ⟨_, rfl, k (c % m) _ (Int.emod_nonneg _ (by omega)) (Int.emod_lt_of_pos _ m0) (Keep.upd _ _ _) ⟨c / m, sd, n, upd_same, Int.ediv_nonneg hc (by omega), hs0, hs1⟩⟩
    · refine ⟨_, rfl, b, _, 2, _, rfl, rfl, SqL.of hb, rfl, _, _, rfl, rfl, _, rfl, b, _, 2, 2, rfl, rfl, hb, rfl, ?_⟩
      have hb1 : (upd H b (.lst ([V.int c, V.int sd, V.int n].set 2 (V.int (n + 1))))) b = some (.lst [.int c, .int sd, .int (n + 1)]) := upd_same
      refine ⟨_, rfl, b, _, 1, _, rfl, rfl, SqL.of hb1, rfl, _, rfl, b, _, 2, _, rfl, rfl, SqL.of hb1, rfl, _, _, rfl, rfl, .inl ⟨by decide, by decide⟩, _, _, rfl, rfl, _, _, rfl, rfl, .inr ⟨by decide, by decide⟩, _, rfl, _, _, rfl, rfl, (by show (0 : Int) < 2147483647; decide), ?_⟩
      refine ⟨_, rfl, _, _, rfl, rfl, .inr ⟨by decide, by decide⟩, _, _, rfl, rfl, _, rfl, _, _, rfl, rfl, (by show (0 : Int) < 2147483629; decide), _, _, rfl, rfl, _, rfl, b, _, 1, 1, rfl, rfl, hb1, rfl, ?_⟩
      have hb2 : ∀ y : Int, (upd (upd H b (.lst ([V.int c, V.int sd, V.int n].set 2 (V.int (n + 1))))) b (.lst ([V.int c, V.int sd, V.int (n + 1)].set 1 (V.int y)))) b = some (.lst [.int c, .int y, .int (n + 1)]) := fun _ => upd_same
      refine ⟨_, rfl, _, _, rfl, rfl, .inr ⟨by decide, by decide⟩, _, rfl, b, _, 1, _, rfl, rfl, SqL.of (hb2 _), rfl, _, _, rfl, rfl, _, _, rfl, rfl, ⟨by decide, by decide⟩, _, rfl, _, rfl, _, _, rfl, rfl, m0, ?_⟩
      exact k _ _ (Int.emod_nonneg _ (by omega)) (Int.emod_lt_of_pos _ m0) ((Keep.upd _ _ _).trans (Keep.upd _ _ _)) ⟨c, _, n + 1, hb2 _, hc, by omega, by omega⟩
theorem ok_box {f : Addr} {fd : FuncData} (F : Fun K "_law_box" "_law_box" S__law_box f fd) (T : Txt K mg) : FnOk P w K mg base CX0 1 f fd ["_law_script", "_law_k"] (sp_box2 K) := by
  refine F.ok SC__law_box (fun vs H Q E h => ?_) (fun cdv A outer s H vs Q E hr h => ?_)
  · obtain ⟨a, ns, k, rfl, _⟩ := h
    rfl
  · obtain ⟨a, ns, k, rfl, hS, hlen, hk, q⟩ := h
    refine ⟨_, (pss_cons (ps_set (i := 2) SC__law_box.nd rfl (.inl rfl) (pe_op op_add (pe_op op_mul pe_int (pv 1)) pe_int))
      (pss_mid (ps_if (pt_cmpR op_lt (pv 1) (pe_callB call_len_seq (by rfl) T.b_len (by decide +kernel) (pa_cons (pv 0) pa_nil)) (nomark _)) (pss_one (ps_set (i := 2) SC__law_box.nd rfl (.inl rfl) (pe_ix ix_list (pv 0) (pv 1) (fun _ _ => rfl)))) (pss_one (ps_if (pt_cmpR op_gt (pe_callB call_len_seq (by rfl) T.b_len (by decide +kernel) (pa_cons (pv 0) pa_nil)) pe_int (nomark _)) (pss_one (ps_set (i := 2) SC__law_box.nd rfl (.inl rfl) (pe_op op_add (pv 2) (pe_op op_mul (pe_op op_mod (pe_callTy call_intI (by rfl) T.b_int (by decide +kernel) (pa_cons (pe_ix ix_list (pv 0) (pe_op op_mod (pe_callTy call_intI (by rfl) T.b_int (by decide +kernel) (pa_cons (pv 1) pa_nil)) (pe_callB call_len_seq (by rfl) T.b_len (by decide +kernel) (pa_cons (pv 0) pa_nil))) (fun _ _ => rfl)) pa_nil)) pe_int) pe_int)))) pss_nil)))
      (pss_cons (ps_set (i := 3) SC__law_box.nd rfl (.inl rfl) (pe_op op_add (pe_op op_mod (pe_callTy call_intI (by rfl) T.b_int (by decide +kernel) (pa_cons (pe_op op_add (pe_op op_add (pe_op op_mul (pe_op op_mod (pe_callTy call_intI (by rfl) T.b_int (by decide +kernel) (pa_cons (pv 2) pa_nil)) pe_int) pe_int) (pe_op op_mul pe_int (pv 1))) pe_int) pa_nil)) pe_int) pe_int))
      (pss_one (ps_ret (pe_lst (pa_cons (pe_ix ix_list (pe_lst (pa_cons pe_int (pa_cons (pv 2) pa_nil))) (pe_callTy call_intB (by rfl) T.b_int (by decide +kernel) (pa_cons (pe_cmpR op_ge (pv 2) (pe_op op_pow pe_int pe_int) (nomark _)) pa_nil)) (fun _ _ => rfl)) (pa_cons (pv 3) (pa_cons pe_int pa_nil))))))))), ?_⟩
    walk_at "kb"
    refine ⟨fun σ' H' => H' = H ∧ ∃ c : Int, σ' = [some (.ref a), some (.int k), some (.int c), none], ?_, fun σ1 H1 z => ?_⟩
    · have hl : ((ns.map V.int).length : Int) = ns.length := by rw [List.length_map]
      walk_at "kb"
      refine ite2 (fun h => ?_) (fun h => ?_)
      · have h1 : k < (ns.length : Int) := by have := of_decide_eq_true h; omega
        have h2 : k.toNat < ns.length := by omega
        refine ⟨_, rfl, _, rfl, a, _, k, _, rfl, rfl, hS, at_of (j := k.toNat) (by omega) (by rw [List.getElem?_map, List.getElem?_eq_getElem h2]; rfl), ?_⟩
        walk_at "kb"
        exact ⟨rfl, _, rfl⟩
      · walk_at "kb"
        refine ite2 (fun h' => ?_) (fun h' => ?_)
        · have h0 : 0 < (ns.length : Int) := by have := of_decide_eq_true h'; omega
          walk_at "kb"
          have m0 := Int.emod_nonneg k (show ((ns.map V.int).length : Int) ≠ 0 by omega)
          have m1 := Int.emod_lt_of_pos k (show (0 : Int) < ((ns.map V.int).length : Int) by omega)
          have h2 : (k % ((ns.map V.int).length : Int)).toNat < ns.length := by omega
          refine ⟨a, _, _, _, rfl, rfl, hS, at_of (j := (k % ((ns.map V.int).length : Int)).toNat) (by omega) (by rw [List.getElem?_map, List.getElem?_eq_getElem h2]; rfl), ?_⟩
          walk_at "kb"
          exact ⟨rfl, _, rfl⟩
        · exact ⟨rfl, _, rfl⟩
    · obtain ⟨rfl, c, rfl⟩ := z
      walk_at "kb"
      intro l hl
      walk_at "kb"
      have hB : SqL K (upd H1 l (.lst [.int 0, .int c])) l [.int 0, .int c] := SqL.of upd_same
      have hi : ∃ v : Int, 0 ≤ v ∧ atI [V.int 0, V.int c] (if decide ((10 : Int) ^ (18 : Int).toNat ≤ c) = true then 1 else 0) = some (.int v) := by
        by_cases hd : (10 : Int) ^ (18 : Int).toNat ≤ c
        · rw [if_pos (decide_eq_true hd)]
          exact ⟨c, Int.le_trans (by decide) hd, atI_nat (j := 1) rfl⟩
        · rw [if_neg fun z => hd (of_decide_eq_true z)]
          exact ⟨0, Int.le_refl 0, atI_nat (j := 0) rfl⟩
      obtain ⟨v, hv, hi⟩ := hi
      refine ⟨l, _, _, _, rfl, rfl, hB, hi, ?_⟩
      walk_at "kb"
      intro p hp
      have hp1 : H1 p = none := by
        have hne : p ≠ l := fun e => by rw [e, upd_same] at hp; cases hp
        rw [upd_ne hne] at hp; exact hp
      refine q p _ hp1 (fun b o e => ?_) ⟨v, _, 0, upd_same, hv, ?_, ?_⟩
      · rw [upd_ne (ne_of_none e hp1), upd_ne (ne_of_none e hl)]; exact e
      · omega
      · omega
end

/-! ## words in order -/
namespace Wd
theorem pr_cop (u : List Bool) : Nat.gcd (pr u).1 (pr u).2 = 1 := by
  induction u with
  | nil => rfl
  | cons b u ih =>
    cases b
    · show Nat.gcd (pr u).1 ((pr u).1 + (pr u).2) = 1
      rw [Nat.gcd_self_add_right]; exact ih
    · show Nat.gcd ((pr u).1 + (pr u).2) (pr u).2 = 1
      rw [Nat.gcd_add_self_left]; exact ih
theorem cross_eq {a b c d : Nat} (h1 : Nat.gcd a b = 1) (h2 : Nat.gcd c d = 1) (h : a * d = c * b) : a = c ∧ b = d := by
  have e1 : a ∣ c := Nat.Coprime.dvd_of_dvd_mul_right h1 (h ▸ Nat.dvd_mul_right a d)
  have e2 : c ∣ a := Nat.Coprime.dvd_of_dvd_mul_right h2 (h ▸ Nat.dvd_mul_right c b)
  have ea : a = c := Nat.dvd_antisymm e1 e2
  have e3 : b ∣ d := Nat.Coprime.dvd_of_dvd_mul_left (Nat.Coprime.symm h1) (h ▸ Nat.dvd_mul_left b c)
  have e4 : d ∣ b := Nat.Coprime.dvd_of_dvd_mul_left (Nat.Coprime.symm h2) (h ▸ Nat.dvd_mul_left d a)
  exact ⟨ea, Nat.dvd_antisymm e3 e4⟩
/-- the sign of a letter in the order of words: the end between l and r -/
def pc (b : Bool) : Nat := if b then 99 else 97
def plcL (u : List Bool) : List Nat := u.map pc ++ [98]
theorem pr_lt (u : List Bool) : ∀ v : List Bool, (pr u).1 * (pr v).2 < (pr v).1 * (pr u).2 ↔ plcL u < plcL v := by
  induction u with
  | nil =>
    intro v
    cases v with
    | nil => decide
    | cons c v =>
      have p := pr_pos v
      cases c <;> simp only [pr, plcL, pc, List.map_nil, List.nil_append, List.map_cons, List.cons_append, List.cons_lt_cons_iff, Bool.false_eq_true, if_false, if_true] <;> omega
  | cons b u ih =>
    intro v
    have q := pr_pos u
    cases v with
    | nil =>
      cases b <;> simp only [pr, plcL, pc, List.map_nil, List.nil_append, List.map_cons, List.cons_append, List.cons_lt_cons_iff, Bool.false_eq_true, if_false, if_true] <;> omega
    | cons c v =>
      have p := pr_pos v
      have ih := ih v
      have same : ∀ b : Bool, plcL (b :: u) < plcL (b :: v) ↔ plcL u < plcL v := fun b => by
        show pc b :: plcL u < pc b :: plcL v ↔ _
        rw [List.cons_lt_cons_iff]
        constructor
        · rintro (h | h)
          · omega
          · exact h.2
        · exact fun h => .inr ⟨rfl, h⟩
      have c1 : (pr u).1 * (pr v).1 = (pr v).1 * (pr u).1 := Nat.mul_comm _ _
      have c2 : (pr u).2 * (pr v).2 = (pr v).2 * (pr u).2 := Nat.mul_comm _ _
      have c3 : (pr u).1 * (pr v).2 = (pr v).2 * (pr u).1 := Nat.mul_comm _ _
      have c4 : (pr u).2 * (pr v).1 = (pr v).1 * (pr u).2 := Nat.mul_comm _ _
      have p1 : 0 < (pr v).1 * (pr u).2 := Nat.mul_pos p.1 q.2
      have p2 : 0 < (pr v).1 * (pr u).1 := Nat.mul_pos p.1 q.1
      cases b <;> cases c
      · rw [same, ← ih]; simp only [pr, Bool.false_eq_true, if_false, Nat.mul_add, Nat.add_mul]; omega
      · simp only [pr, plcL, pc, List.map_cons, List.cons_append, List.cons_lt_cons_iff, Bool.false_eq_true, if_false, if_true, Nat.mul_add, Nat.add_mul]; omega
      · simp only [pr, plcL, pc, List.map_cons, List.cons_append, List.cons_lt_cons_iff, Bool.false_eq_true, if_false, if_true, Nat.mul_add, Nat.add_mul]; omega
      · rw [same, ← ih]; simp only [pr, if_true, Nat.mul_add, Nat.add_mul]; omega
end Wd

/-! ## errors -/
section
variable {P : Program} {w : World} {K : PySem.W.Frag} {mg : Str → Option Value} {base : Heap}
theorem ok_err_InvalidRatio {f C U : Addr} {fd : FuncData} (F : Fun K "__init__" "InvalidRatio.__init__" S_InvalidRatio__init_ f fd) (hU : UeC K U) (hm : mg "UnmarkedError" = some (.ref U)) (O : OexC K C) : FnOk P w K mg base CX0 1 f fd ["self"] (sp_err0 C) := by
  refine F.ok SC_InvalidRatio__init_ (fun vs H Q E h => ?_) (fun cdv A outer s H vs Q E hr h => ?_)
  · obtain ⟨a, rfl, _⟩ := h
    rfl
  · obtain ⟨a, rfl, ha, q⟩ := h
    refine ⟨_, (pss_one (ps_expr (pe_uinit hU rfl hm (pa_cons (pv 0) (pa_cons pe_str pa_nil))))), ?_⟩
    exact ⟨_, rfl, a, C, _, rfl, by decide, O, ha, q⟩
theorem ok_err_InvalidEdge {f C U : Addr} {fd : FuncData} (F : Fun K "__init__" "InvalidEdge.__init__" S_InvalidEdge__init_ f fd) (hU : UeC K U) (hm : mg "UnmarkedError" = some (.ref U)) (O : OexC K C) : FnOk P w K mg base CX0 1 f fd ["self"] (sp_err0 C) := by
  refine F.ok SC_InvalidEdge__init_ (fun vs H Q E h => ?_) (fun cdv A outer s H vs Q E hr h => ?_)
  · obtain ⟨a, rfl, _⟩ := h
    rfl
  · obtain ⟨a, rfl, ha, q⟩ := h
    refine ⟨_, (pss_one (ps_expr (pe_uinit hU rfl hm (pa_cons (pv 0) (pa_cons pe_str pa_nil))))), ?_⟩
    exact ⟨_, rfl, a, C, _, rfl, by decide, O, ha, q⟩
end

/-! ## lengths and ratios -/
namespace Rt
def isI : V → Bool | .int _ => true | .bl _ => true | _ => false
def isB : V → Bool | .bl _ => true | _ => false
def isS : V → Bool | .str _ => true | _ => false
def isLen : V → Bool | .int i => decide (1 ≤ i) | _ => false
/-- what isinstance tells of a value against int, bool and str -/
structure Kd (K : PySem.W.Frag) (H : Hp) (x : V) : Prop where
  ex : ∃ t, TyX K H x t ∧ PySem.W.kitOne K t (.type "int") = some (isI x) ∧ PySem.W.kitOne K t (.type "bool") = some (isB x) ∧ PySem.W.kitOne K t (.type "str") = some (isS x)
theorem Kd.int {K : PySem.W.Frag} {H : Hp} (i : Int) : Kd K H (.int i) := ⟨_, .base (.int i), kit_ty (show kitB "int" "int" = some true by decide +kernel), kit_ty (show kitB "int" "bool" = some false by decide +kernel), kit_ty (show kitB "int" "str" = some false by decide +kernel)⟩
theorem Kd.bl {K : PySem.W.Frag} {H : Hp} (i : Bool) : Kd K H (.bl i) := ⟨_, .base (.bl i), kit_ty (show kitB "bool" "int" = some true by decide +kernel), kit_ty (show kitB "bool" "bool" = some true by decide +kernel), kit_ty (show kitB "bool" "str" = some false by decide +kernel)⟩
theorem Kd.str {K : PySem.W.Frag} {H : Hp} (i : Str) : Kd K H (.str i) := ⟨_, .base (.str i), kit_ty (show kitB "str" "int" = some false by decide +kernel), kit_ty (show kitB "str" "bool" = some false by decide +kernel), kit_ty (show kitB "str" "str" = some true by decide +kernel)⟩
theorem Kd.non {K : PySem.W.Frag} {H : Hp} : Kd K H .non := ⟨_, .base .non, kit_ty (show kitB "NoneType" "int" = some false by decide +kernel), kit_ty (show kitB "NoneType" "bool" = some false by decide +kernel), kit_ty (show kitB "NoneType" "str" = some false by decide +kernel)⟩
theorem Kd.lst {K : PySem.W.Frag} {H : Hp} {p : Addr} {xs : List V} (h : H p = some (.lst xs)) : Kd K H (.ref p) := ⟨_, .base (.lst h), kit_ty (show kitB "list" "int" = some false by decide +kernel), kit_ty (show kitB "list" "bool" = some false by decide +kernel), kit_ty (show kitB "list" "str" = some false by decide +kernel)⟩
theorem Kd.tup {K : PySem.W.Frag} {H : Hp} {p : Addr} {xs : List V} (h : H p = some (.tup xs)) : Kd K H (.ref p) := ⟨_, .base (.tup h), kit_ty (show kitB "tuple" "int" = some false by decide +kernel), kit_ty (show kitB "tuple" "bool" = some false by decide +kernel), kit_ty (show kitB "tuple" "str" = some false by decide +kernel)⟩
theorem tyX_at {K : PySem.W.Frag} {H H' : Hp} {x : V} {t : Value} (h : TyX K H x t) (s : ∀ a o, x = .ref a → H a = some o → H' a = some o) : TyX K H' x t := by
  cases h with
  | base h => exact .base (by
      cases h with
      | non => exact .non
      | bl x => exact .bl x
      | int i => exact .int i
      | str x => exact .str x
      | flt x => exact .flt x
      | lst e => exact .lst (s _ _ rfl e)
      | frz e => exact .frz (s _ _ rfl e)
      | tup e => exact .tup (s _ _ rfl e)
      | dK e => exact .dK (s _ _ rfl e)
      | dT e => exact .dT (s _ _ rfl e)
      | ins e cl ha hn htk hm => exact .ins (s _ _ rfl e) cl ha hn htk hm)
  | byt b => exact .byt b
  | set e => exact .set (s _ _ rfl e)
  | kList e c => exact .kList e c
  | kTuple e c => exact .kTuple e c
  | kDict e c => exact .kDict e c
  | fTuple e => exact .fTuple (s _ _ rfl e)
  | fDict e => exact .fDict (s _ _ rfl e)
theorem Kd.at {K : PySem.W.Frag} {H H' : Hp} {x : V} (h : Kd K H x) (s : ∀ a o, x = .ref a → H a = some o → H' a = some o) : Kd K H' x := let ⟨t, ty, r⟩ := h.ex; ⟨t, tyX_at ty s, r⟩
theorem Kd.same {K : PySem.W.Frag} {H H' : Hp} {x : V} (h : Kd K H x) (s : Same H H') : Kd K H' x := h.at fun a o _ => s a o
def sp_isint (K : PySem.W.Frag) : Sp := fun vs H Q _ => ∃ x, vs = [x] ∧ Kd K H x ∧ Q (.bl (isI x && !isB x)) H
def sp_islen (K : PySem.W.Frag) : Sp := fun vs H Q _ => ∃ x, vs = [x] ∧ Kd K H x ∧ Q (.bl (isLen x)) H
def sp_common : Sp := fun vs H Q _ => ∃ i j : Int, vs = [.int i, .int j] ∧ 0 < i ∧ 0 < j ∧ Q (.int (Int.gcd i j)) H
/-- the attributes of a ratio -/
def rf (a b : Int) : List (Str × V) := putF "second" (.int b) (putF "first" (.int a) [])
theorem n_fs : ¬ (("first" : Str) = "second") := by decide +kernel
theorem n_sf : ¬ (("second" : Str) = "first") := by decide +kernel
theorem rf1 (a b : Int) : (rf a b).lookup ("first" : Str) = some (.int a) := by
  unfold rf; rw [lookup_putF, if_neg n_fs, lookup_putF, if_pos rfl]
theorem rf2 (a b : Int) : (rf a b).lookup ("second" : Str) = some (.int b) := by
  unfold rf; rw [lookup_putF, if_pos rfl]
def RatAt (C : Addr) (H : Hp) (p : Addr) (a b : Int) : Prop := ∃ dx, H p = some (.ins C dx (rf a b))
theorem RatAt.same {C : Addr} {H H' : Hp} {p : Addr} {a b : Int} (x : RatAt C H p a b) (s : Same H H') : RatAt C H' p a b := let ⟨d, h⟩ := x; ⟨d, s _ _ h⟩
structure RatT (K : PySem.W.Frag) (mg : Str → Option Value) (C : Addr) : Prop where
  ins : C8.InsC K C
  n1 : NoAttr K C "first"
  n2 : NoAttr K C "second"
  mgC : mg "Ratio" = some (.ref C)
  nf : PySem.W.notFirst K C (.ref C) = true
  ne : PySem.W.findIn K (.ref C) "__ne__" = some (some (.builtin "object.__ne__"))
  so : PySem.W.subIn K (.ref C) (.type "object") = some true
theorem RatT.cl {K : PySem.W.Frag} {mg : Str → Option Value} {C : Addr} (T : RatT K mg C) : Cls K C := T.ins.cl
theorem RatT.ty {K : PySem.W.Frag} {mg : Str → Option Value} {C : Addr} (T : RatT K mg C) {H : Hp} {p dx : Addr} {fs : List (Str × V)} (h : H p = some (.ins C dx fs)) : TyX K H (.ref p) (.ref C) := .base (.ins h T.ins.cl T.ins.ha T.ins.hn T.ins.htk T.ins.hm)
/-- Ratio(first, second): made, or refused -/
def sp_init (C IR : Addr) (K : PySem.W.Frag) : Sp := fun vs H Q E => ∃ (x dx : Addr) (u v : V), vs = [.ref x, u, v] ∧ Kd K H u ∧ Kd K H v ∧ H x = some (.ins C dx []) ∧
  (isLen u = true → isLen v = true → ∃ i j : Int, u = .int i ∧ v = .int j ∧ i.natAbs < 2 ^ 1000 ∧ j.natAbs < 2 ^ 1000 ∧ ∀ H' : Hp, (∀ a o, a ≠ x → H a = some o → H' a = some o) → RatAt C H' x (i / (Int.gcd i j : Nat)) (j / (Int.gcd i j : Nat)) → Q .non H') ∧
  ((isLen u && isLen v) = false → E (.ref IR) none H)
/-- a comparison of two ratios -/
def sp_cmp (C : Addr) (r : Int → Int → Int → Int → Bool) : Sp := fun vs H Q _ => ∃ (p q : Addr) (a b c d : Int), vs = [.ref p, .ref q] ∧ RatAt C H p a b ∧ RatAt C H q c d ∧ a.natAbs < 2 ^ 1000 ∧ b.natAbs < 2 ^ 1000 ∧ c.natAbs < 2 ^ 1000 ∧ d.natAbs < 2 ^ 1000 ∧ Q (.bl (r a b c d)) H
def r_eq (a b c d : Int) : Bool := decide (V.int a = V.int c) && decide (V.int b = V.int d)
def r_lt (a b c d : Int) : Bool := decide (a * d < c * b)
def r_le (a b c d : Int) : Bool := decide (a * d ≤ c * b)
def r_gt (a b c d : Int) : Bool := decide (c * b < a * d)
def r_ge (a b c d : Int) : Bool := decide (c * b ≤ a * d)
theorem gcd_step {x y : Int} (hx : 0 ≤ x) (hy : 0 ≤ y) : Int.gcd y (x % y) = Int.gcd x y := by
  obtain ⟨a, rfl⟩ := Int.eq_ofNat_of_zero_le hx
  obtain ⟨b, rfl⟩ := Int.eq_ofNat_of_zero_le hy
  show Nat.gcd b ((a : Int) % (b : Int)).natAbs = Nat.gcd a b
  have e : ((a : Int) % (b : Int)).natAbs = a % b := by
    rw [← Int.natCast_emod, Int.natAbs_natCast]
  rw [e, Nat.gcd_comm b, ← Nat.gcd_rec, Nat.gcd_comm]
theorem wm {i j : Int} (h1 : i.natAbs < 2 ^ 1000) (h2 : j.natAbs < 2 ^ 1000) : CMulW i j := wide_mul h1 h2 (by decide) (by decide) (by decide)
/-- a text of l and r alone -/
def goodC (z : Str) : Bool := (z.cps.toList.map fun c => decide (c ∈ ("lr" : Str).cps.toList)).all id
def goodW : V → Bool | .str z => goodC z | _ => false
theorem lr_cps : ("lr" : Str).cps.toList = [108, 114] := by decide +kernel
theorem good_enc (u : List Bool) : goodC (enc u) = true := by
  unfold goodC
  rw [enc_cps, List.map_map, List.all_eq_true]
  intro x hx
  obtain ⟨b, _, rfl⟩ := List.mem_map.mp hx
  cases b <;> decide +kernel
theorem good_is {z : Str} (h : goodC z = true) : ∃ u, z = enc u := by
  have hm : ∀ c ∈ z.cps.toList, c = 108 ∨ c = 114 := fun c hc => by
    unfold goodC at h
    rw [List.all_eq_true] at h
    have e := h _ (List.mem_map.mpr ⟨c, hc, rfl⟩)
    have e := of_decide_eq_true (show decide (c ∈ ("lr" : Str).cps.toList) = true from e)
    rw [lr_cps] at e
    simpa using e
  refine ⟨z.cps.toList.map fun c => decide (c = 114), ?_⟩
  obtain ⟨cps⟩ := z
  unfold enc
  rw [List.map_map]
  congr 1
  have : ∀ l : List Nat, (∀ c ∈ l, c = 108 ∨ c = 114) → l.map (cd ∘ fun c => decide (c = 114)) = l := by
    intro l
    induction l with
    | nil => intro _; rfl
    | cons c l ih =>
      intro h
      rw [List.map_cons, ih fun c hc => h c (List.mem_cons_of_mem _ hc)]
      rcases h c (List.mem_cons_self) with rfl | rfl <;> rfl
  rw [this _ hm]
def sp_need (IW : Addr) (K : PySem.W.Frag) : Sp := fun vs H Q E => ∃ x, vs = [x] ∧ Kd K H x ∧ (∀ z, x = .str z → z.length ≤ 100000) ∧ (goodW x = true → ∀ H', Same H H' → Q .non H') ∧ (goodW x = false → ∀ H', Same H H' → E (.ref IW) none H')
/-- the word's ratio, or refused -/
def sp_ofword (C IW : Addr) (K : PySem.W.Frag) : Sp := fun vs H Q E => ∃ x, vs = [.ref C, x] ∧ Kd K H x ∧ (∀ z, x = .str z → z.length ≤ 900) ∧ (∀ u, x = .str (enc u) → ∀ (p : Addr) (H' : Hp), H p = none → Same H H' → RatAt C H' p (pr u).1 (pr u).2 → Q (.ref p) H') ∧ (goodW x = false → ∀ H', Same H H' → E (.ref IW) none H')
def sp_wol : Sp := fun vs H Q _ => ∃ u : List Bool, vs = [.int (pr u).1, .int (pr u).2] ∧ u.length ≤ 900 ∧ ∀ H', Same H H' → Q (.str (enc u)) H'
def sp_word (C : Addr) : Sp := fun vs H Q _ => ∃ (p : Addr) (u : List Bool), vs = [.ref p] ∧ RatAt C H p (pr u).1 (pr u).2 ∧ u.length ≤ 900 ∧ ∀ H', Same H H' → Q (.str (enc u)) H'
theorem pr_small {u : List Bool} (h : u.length ≤ 900) : ((pr u).1 : Int).natAbs < 2 ^ 1000 ∧ ((pr u).2 : Int).natAbs < 2 ^ 1000 := by
  have q := pr_le u
  have p := pr_pos u
  have e : 2 ^ (u.length + 1) ≤ 2 ^ 1000 := Nat.pow_le_pow_right (by decide) (by omega)
  rw [Int.natAbs_natCast, Int.natAbs_natCast]
  omega
theorem pr_div (u : List Bool) : ((pr u).1 : Int) / ((Int.gcd ((pr u).1 : Int) ((pr u).2 : Int) : Nat) : Int) = (pr u).1 ∧ ((pr u).2 : Int) / ((Int.gcd ((pr u).1 : Int) ((pr u).2 : Int) : Nat) : Int) = (pr u).2 := by
  have e : Int.gcd ((pr u).1 : Int) ((pr u).2 : Int) = 1 := pr_cop u
  rw [e]
  simp
theorem pr_eq {u : List Bool} (h : (pr u).1 = (pr u).2) : u = [] := by
  cases u with
  | nil => rfl
  | cons b u => have := pr_pos u; cases b <;> simp only [pr, Bool.false_eq_true, if_false, if_true] at h <;> omega
/-- a run of r ahead -/
theorem pr_run_r (u : List Bool) (h : (pr u).2 < (pr u).1) : ∃ u' : List Bool, u = List.replicate (((pr u).1 - 1) / (pr u).2) true ++ u' ∧ pr u' = ((pr u).1 - (((pr u).1 - 1) / (pr u).2) * (pr u).2, (pr u).2) := by
  induction u with
  | nil => exact absurd h (by decide)
  | cons b u ih =>
    have p := pr_pos u
    cases b with
    | false => simp only [pr, Bool.false_eq_true, if_false] at h; omega
    | true =>
      simp only [pr, if_true] at h ⊢
      generalize hx : (pr u).1 = x at *
      generalize hy : (pr u).2 = y at *
      have d1 : (x + y - 1) / y = (x - 1) / y + 1 := by
        rw [show x + y - 1 = (x - 1) + y by omega, Nat.add_div_right _ p.2]
      by_cases c : y < x
      · obtain ⟨u', e1, e2⟩ := ih c
        refine ⟨u', ?_, ?_⟩
        · rw [d1, List.replicate_succ, List.cons_append, ← e1]
        · rw [d1, e2, Nat.add_mul]
          congr 1
          omega
      · have z : (x - 1) / y = 0 := Nat.div_eq_of_lt (by omega)
        refine ⟨u, ?_, ?_⟩
        · rw [d1, z]; rfl
        · rw [d1, z]
          rw [← hx, ← hy]
          simp
theorem pr_run_l (u : List Bool) (h : (pr u).1 < (pr u).2) : ∃ u' : List Bool, u = List.replicate (((pr u).2 - 1) / (pr u).1) false ++ u' ∧ pr u' = ((pr u).1, (pr u).2 - (((pr u).2 - 1) / (pr u).1) * (pr u).1) := by
  induction u with
  | nil => exact absurd h (by decide)
  | cons b u ih =>
    have p := pr_pos u
    cases b with
    | true => simp only [pr, if_true] at h; omega
    | false =>
      simp only [pr, Bool.false_eq_true, if_false] at h ⊢
      generalize hx : (pr u).1 = x at *
      generalize hy : (pr u).2 = y at *
      have d1 : (x + y - 1) / x = (y - 1) / x + 1 := by
        rw [show x + y - 1 = (y - 1) + x by omega, Nat.add_div_right _ p.1]
      by_cases c : x < y
      · obtain ⟨u', e1, e2⟩ := ih c
        refine ⟨u', ?_, ?_⟩
        · rw [d1, List.replicate_succ, List.cons_append, ← e1]
        · rw [d1, e2, Nat.add_mul]
          congr 1
          omega
      · have z : (y - 1) / x = 0 := Nat.div_eq_of_lt (by omega)
        refine ⟨u, ?_, ?_⟩
        · rw [d1, z]; rfl
        · rw [d1, z]
          rw [← hx, ← hy]
          simp
end Rt
open Rt

section
variable {P : Program} {w : World} {K : PySem.W.Frag} {mg : Str → Option Value} {base : Heap}
theorem ok_isint {f : Addr} {fd : FuncData} (F : Fun K "is_integer" "is_integer" S_is_integer f fd) (T : Txt K mg) : FnOk P w K mg base CX0 1 f fd ["value"] (sp_isint K) := by
  refine F.ok SC_is_integer (fun vs H Q E h => ?_) (fun cdv A outer s H vs Q E hr h => ?_)
  · obtain ⟨x, rfl, _⟩ := h
    rfl
  · obtain ⟨x, rfl, ⟨t, ty, h1, h2, _⟩, q⟩ := h
    refine ⟨_, (pss_one (ps_ret (pe_and (pe_callB call_isi (by rfl) T.b_isinstance (by decide +kernel) (pa_cons (pv 0) (pa_cons (pe_bltn (v := .ty "int") (by rfl) T.b_int boot_int rfl) pa_nil))) (pe_one (pe_not (pe_callB call_isi (by rfl) T.b_isinstance (by decide +kernel) (pa_cons (pv 0) (pa_cons (pe_bltn (v := .ty "bool") (by rfl) T.b_bool boot_bool rfl) pa_nil)))))))), ?_⟩
    refine ⟨_, rfl, x, _, t, _, _, rfl, .ty _, ty, h1, isI x, rfl, ?_⟩
    by_cases c : isI x = true
    · rw [c] at q ⊢
      refine ifT rfl ?_
      refine ⟨_, rfl, x, _, t, _, _, rfl, .ty _, ty, h2, isB x, rfl, q⟩
    · rw [Bool.not_eq_true] at c
      rw [c] at q ⊢
      exact ifF rfl q
theorem ok_islen {f : Addr} {fd : FuncData} (F : Fun K "is_length" "is_length" S_is_length f fd) (T : Txt K mg) (C_isint : FnC P w K mg base CX0 1 "is_integer" ["value"] (sp_isint K)) : FnOk P w K mg base CX0 2 f fd ["value"] (sp_islen K) := by
  refine F.ok SC_is_length (fun vs H Q E h => ?_) (fun cdv A outer s H vs Q E hr h => ?_)
  · obtain ⟨x, rfl, _⟩ := h
    rfl
  · obtain ⟨x, rfl, kd, q⟩ := h
    refine ⟨_, (pss_one (ps_ret (pe_and (pe_callC C_isint hr rfl (pa_cons (pv 0) pa_nil)) (pe_one (pe_cmpR op_ge (pv 0) pe_int (nomark _)))))), ?_⟩
    refine ⟨_, rfl, x, rfl, kd, _, rfl, ?_⟩
    cases x with
    | int i =>
      refine ifT rfl ?_
      walk_at "kb"
      exact q
    | bl b => exact ifF rfl q
    | non => exact ifF rfl q
    | str z => exact ifF rfl q
    | byt z => exact ifF rfl q
    | flt z => exact ifF rfl q
    | ref z => exact ifF rfl q
    | ty z => exact ifF rfl q
theorem ok_common {f : Addr} {fd : FuncData} (F : Fun K "common_length" "common_length" S_common_length f fd) (T : Txt K mg) : FnOk P w K mg base CX0 1 f fd ["first", "second"] sp_common := by
  refine F.ok SC_common_length (fun vs H Q E h => ?_) (fun cdv A outer s H vs Q E hr h => ?_)
  · obtain ⟨i, j, rfl, _⟩ := h
    rfl
  · obtain ⟨i, j, rfl, h1, h2, q⟩ := h
    refine ⟨_, (pss_cons (ps_while PassesOwn.never (pt_cmpR op_ne (pv 1) pe_int (nomark _)) (pss_one (ps_par (i := 0) (j := 1) (by rfl) SC_common_length.nd rfl rfl (by decide) rfl rfl (pa_cons (pv 1) (pa_cons (pe_op op_mod (pv 0) (pv 1)) pa_nil)) (by rfl))))
      (pss_one (ps_ret (pv 0)))), ?_⟩
    refine while_by (fun σ H' => H' = H ∧ ∃ x y : Int, 0 < x ∧ 0 ≤ y ∧ Int.gcd x y = Int.gcd i j ∧ σ = [some (.int x), some (.int y)]) (fun σ _ => match σ with | [_, some (.int y)] => y.toNat | _ => 0)
      ⟨rfl, i, j, h1, Int.le_of_lt h2, rfl, rfl⟩ (fun σ H1 hP => ?_) (fun σ H Q Q' h q => ?_)
    · obtain ⟨rfl, x, y, hx, hy, hg, rfl⟩ := hP
      walk_at "kb"
      refine ite2 (fun h => ?_) (fun h => ?_)
      · have hy0 : y ≠ 0 := fun e => by subst e; exact absurd h (by decide)
        walk_at "kb"
        refine ⟨⟨rfl, y, x % y, by omega, Int.emod_nonneg _ hy0, ?_, rfl⟩, ?_⟩
        · rw [← hg]; exact gcd_step (Int.le_of_lt hx) hy
        · show (x % y).toNat < y.toNat
          have := Int.emod_lt_of_pos x (show 0 < y by omega)
          omega
      · have hy0 : y = 0 := by
          have : decide (V.int y = V.int 0) = true := by simpa using h
          exact V.int.inj (of_decide_eq_true this)
        subst hy0
        refine ⟨_, rfl, ?_⟩
        have e : x = ((Int.gcd i j : Nat) : Int) := by rw [← hg, Int.gcd_zero_right]; omega
        rw [e]
        exact q
    · obtain ⟨v, h1, e, v2, e2, q⟩ := q
      exact ⟨v, h1, e, v2, e2, h _ _ q⟩
theorem ok_init {f C IR : Addr} {fd : FuncData} (F : Fun K "__init__" "Ratio.__init__" S_Ratio__init_ f fd) (T : Txt K mg) (R : RatT K mg C) (E_InvalidRatio : ErC P w K mg base "InvalidRatio" IR) (C_islen : FnC P w K mg base CX0 2 "is_length" ["value"] (sp_islen K)) (C_common : FnC P w K mg base CX0 1 "common_length" ["first", "second"] sp_common) :
    FnOk P w K mg base (L2.CX P w) 4 f fd ["self", "first", "second"] (sp_init C IR K) := by
  refine F.okX SC_Ratio__init_ (fun vs H Q E h => ?_) (fun cdv A outer s H vs Q E hr h => ?_)
  · obtain ⟨x, dx, u, v, rfl, _⟩ := h
    rfl
  · obtain ⟨x, dx, u, v, rfl, ku, kv, hx, ok, bad⟩ := h
    refine ⟨_, (pss_cons (ps_if (PW.pt (pw_or (pt_not (pt_val (pe_callC C_islen (hr.mono (by decide)) rfl (pa_cons (pv 1) pa_nil)))) (pw_or1 (pt_not (pt_val (pe_callC C_islen (hr.mono (by decide)) rfl (pa_cons (pv 2) pa_nil))))))) (pss_one (ps_raise0 E_InvalidRatio (hr.mono (by decide)) rfl (takes_of rfl rfl rfl rfl) rfl)) pss_nil)
      (pss_cons (ps_set (i := 3) SC_Ratio__init_.nd rfl (.inl rfl) (pe_callC C_common (hr.mono (by decide)) rfl (pa_cons (pv 1) (pa_cons (pv 2) pa_nil))))
      (pss_cons (ps_fld (pv 0) (pe_op op_fdivW (pv 1) (pv 3)) rfl)
      (pss_one (ps_fld (pv 0) (pe_op op_fdivW (pv 2) (pv 3)) rfl))))), ?_⟩
    refine ⟨_, rfl, _, rfl, ku, isLen u, rfl, ?_⟩
    by_cases lu : isLen u = true
    · rw [lu]
      refine ifF rfl ⟨_, rfl, _, rfl, kv, isLen v, rfl, ?_⟩
      by_cases lv : isLen v = true
      · rw [lv]
        refine ifF rfl ?_
        obtain ⟨i, j, rfl, rfl, i1, j1, q⟩ := ok lu lv
        have i0 : 0 < i := by have := of_decide_eq_true lu; omega
        have j0 : 0 < j := by have := of_decide_eq_true lv; omega
        have g0 : 0 < ((Int.gcd i j : Nat) : Int) := by have := Int.gcd_pos_of_ne_zero_left j (show i ≠ 0 by omega); omega
        have g1 : ((Int.gcd i j : Nat) : Int) ≤ i := Int.le_of_dvd i0 (Int.gcd_dvd_left _ _)
        have hd : CDivW i ((Int.gcd i j : Nat) : Int) := wide_div (b := 1000) g0 (by omega) (by decide) (by decide)
        have hd2 : CDivW j ((Int.gcd i j : Nat) : Int) := hd
        walk_at "kb"
        refine ⟨x, C, dx, _, rfl, hx, R.ins.cl, R.n1, by show 0 < 1000; decide, ?_⟩
        walk_at "kb"
        refine ⟨x, C, dx, _, rfl, upd_same, R.ins.cl, R.n2, by show 1 < 1000; decide, ?_⟩
        refine q _ (fun a o n e => by rw [upd_ne n, upd_ne n]; exact e) ⟨dx, by rw [upd_same]; rfl⟩
      · rw [Bool.not_eq_true] at lv
        rw [lv]
        refine ifT rfl ?_
        exact bad (by rw [lv, Bool.and_false])
    · rw [Bool.not_eq_true] at lu
      rw [lu]
      refine ifT rfl ?_
      exact bad (by rw [lu]; rfl)
end

/-! ## what stands in the heap, kept as a list -/
namespace Wl
structure Wo (B : Addr) (H0 H : Hp) (L : List (Addr × HO)) : Prop where
  box : BoxAt H B
  kp : Keep B H0 H
  at_ : ∀ x ∈ L, x.1 ≠ B ∧ H x.1 = some x.2
structure Ho (H0 H : Hp) (L : List (Addr × HO)) : Prop where
  sm : Same H0 H
  at_ : ∀ x ∈ L, H x.1 = some x.2
section
variable {B p : Addr} {o : HO} {H0 H H' : Hp} {L L' : List (Addr × HO)}
theorem Wo.get (w : Wo B H0 H L) (h : (p, o) ∈ L) : H p = some o := (w.at_ _ h).2
theorem Ho.get (w : Ho H0 H L) (h : (p, o) ∈ L) : H p = some o := w.at_ _ h
theorem Wo.ne (w : Wo B H0 H L) (h : (p, o) ∈ L) : p ≠ B := (w.at_ _ h).1
theorem Wo.same (w : Wo B H0 H L) (s : Same H H') : Wo B H0 H' L := ⟨w.box.same s, w.kp.trans (Keep.same s), fun x h => ⟨(w.at_ x h).1, s _ _ (w.at_ x h).2⟩⟩
theorem Ho.same (w : Ho H0 H L) (s : Same H H') : Ho H0 H' L := ⟨w.sm.trans s, fun x h => s _ _ (w.at_ x h)⟩
theorem Wo.keep (w : Wo B H0 H L) (k : Keep B H H') (b : BoxAt H' B) : Wo B H0 H' L := ⟨b, w.kp.trans k, fun x h => ⟨(w.at_ x h).1, k _ _ (w.at_ x h).1 (w.at_ x h).2⟩⟩
theorem Wo.add (w : Wo B H0 H L) (h : H p = some o) (n : p ≠ B) : Wo B H0 H ((p, o) :: L) := ⟨w.box, w.kp, fun x hx => by
  rcases List.mem_cons.mp hx with rfl | hx
  · exact ⟨n, h⟩
  · exact w.at_ x hx⟩
theorem Ho.add (w : Ho H0 H L) (h : H p = some o) : Ho H0 H ((p, o) :: L) := ⟨w.sm, fun x hx => by
  rcases List.mem_cons.mp hx with rfl | hx
  · exact h
  · exact w.at_ x hx⟩
/-- an object that is no list isn't the box -/
theorem Wo.addN (w : Wo B H0 H L) (h : H p = some o) (n : ∀ xs, o ≠ .lst xs) : Wo B H0 H ((p, o) :: L) := w.add h fun e => by
  obtain ⟨xs, q⟩ := w.box.lst
  rw [← e, h] at q
  exact n xs (Option.some.inj q)
theorem Wo.tup {vs : List V} (w : Wo B H0 H L) (h : H p = some (.tup vs)) : Wo B H0 H ((p, .tup vs) :: L) := w.addN h (fun _ e => nomatch e)
theorem Wo.insA {C dx : Addr} {fs : List (Str × V)} (w : Wo B H0 H L) (h : H p = some (.ins C dx fs)) : Wo B H0 H ((p, .ins C dx fs) :: L) := w.addN h (fun _ e => nomatch e)
theorem Wo.fresh (w : Wo B H0 H L) (h : H p = none) : p ≠ B := w.box.ne h
theorem Wo.call (w : Wo B H0 H L) (hn : H p = none) (s : Same H H') (h : H' p = some o) : Wo B H0 H' ((p, o) :: L) := (w.same s).add h (w.fresh hn)
theorem Ho.call (w : Ho H0 H L) (s : Same H H') (h : H' p = some o) : Ho H0 H' ((p, o) :: L) := (w.same s).add h
theorem Wo.sub (w : Wo B H0 H L) (h : ∀ x ∈ L', x ∈ L) : Wo B H0 H L' := ⟨w.box, w.kp, fun x hx => w.at_ x (h x hx)⟩
theorem Wo.free (w : Wo B H0 H L) (h : H p = none) : H0 p = none := w.kp.free w.box.any h
theorem Wo.nw {Q : VK} (w : Wo B H0 H L) (k : ∀ p H', H0 p = none → Wo B H0 H' ((p, o) :: L) → Q (.ref p) H') : New H o Q := fun p H' hn s h => k p H' (w.free hn) (w.call hn s h)
theorem Ho.nw {Q : VK} (w : Ho H0 H L) (k : ∀ p H', H0 p = none → Ho H0 H' ((p, o) :: L) → Q (.ref p) H') : New H o Q := fun p H' hn s h => k p H' (w.sm.free hn) (w.call s h)
def isLst : HO → Bool
  | .lst _ => true
  | _ => false
theorem of_notLst {o : HO} (h : isLst o = false) : ∀ xs, o ≠ .lst xs := fun xs e => by subst e; cases h
/-- a list of one's own is changed -/
theorem Wo.set {l : Addr} {xs : List V} (w : Wo B H0 H L) (hl : H l = some (.lst xs)) (n : l ≠ B) (hf : H0 l = none) (o : HO) : Wo B H0 (upd H l o) ((l, o) :: L.filter fun x => !isLst x.2) := by
  have ne : ∀ x ∈ L.filter (fun x => !isLst x.2), x.1 ≠ l := fun x hx e => by
    have h1 := (List.mem_filter.mp hx)
    have h2 := (w.at_ x h1.1).2
    rw [e, hl] at h2
    have h3 : isLst x.2 = true := by rw [← Option.some.inj h2]; rfl
    rw [h3] at h1
    cases h1.2
  refine ⟨w.box.keep fun u e => by rw [upd_ne n.symm]; exact e, fun a u na e => by rw [upd_ne (ne_of_none e hf)]; exact w.kp a u na e, fun x hx => ?_⟩
  rcases List.mem_cons.mp hx with rfl | hx
  · exact ⟨n, upd_same⟩
  · refine ⟨(w.at_ x (List.mem_filter.mp hx).1).1, ?_⟩
    rw [upd_ne (ne x hx)]
    exact (w.at_ x (List.mem_filter.mp hx).1).2
theorem Ho.set {l : Addr} {xs : List V} (w : Ho H0 H L) (hl : H l = some (.lst xs)) (hf : H0 l = none) (o : HO) : Ho H0 (upd H l o) ((l, o) :: L.filter fun x => !isLst x.2) := by
  have ne : ∀ x ∈ L.filter (fun x => !isLst x.2), x.1 ≠ l := fun x hx e => by
    have h1 := (List.mem_filter.mp hx)
    have h2 := w.at_ x h1.1
    rw [e, hl] at h2
    have h3 : isLst x.2 = true := by rw [← Option.some.inj h2]; rfl
    rw [h3] at h1
    cases h1.2
  refine ⟨fun a u e => by rw [upd_ne (ne_of_none e hf)]; exact w.sm a u e, fun x hx => ?_⟩
  rcases List.mem_cons.mp hx with rfl | hx
  · exact upd_same
  · rw [upd_ne (ne x hx)]
    exact w.at_ x (List.mem_filter.mp hx).1
theorem Wo.drop2 {x y : Addr × HO} (w : Wo B H0 H (x :: y :: L)) : Wo B H0 H (x :: L) := w.sub fun z hz => by
  rcases List.mem_cons.mp hz with rfl | hz
  · exact .head _
  · exact .tail _ (.tail _ hz)
theorem Ho.drop2 {x y : Addr × HO} (w : Ho H0 H (x :: y :: L)) : Ho H0 H (x :: L) := ⟨w.sm, fun z hz => by
  rcases List.mem_cons.mp hz with rfl | hz
  · exact w.at_ _ (.head _)
  · exact w.at_ _ (.tail _ (.tail _ hz))⟩
theorem Wo.tl {x : Addr × HO} (w : Wo B H0 H (x :: L)) : Wo B H0 H L := w.sub fun _ hx => .tail _ hx
theorem Wo.one {x : Addr × HO} (w : Wo B H0 H (x :: L)) : Wo B H0 H [x] := w.sub fun z hz => by cases List.mem_singleton.mp hz; exact .head _
theorem Wo.nil (w : Wo B H0 H L) : Wo B H0 H [] := w.sub fun z hz => nomatch hz
theorem Ho.one {x : Addr × HO} (w : Ho H0 H (x :: L)) : Ho H0 H [x] := ⟨w.sm, fun z hz => by cases List.mem_singleton.mp hz; exact w.at_ _ (.head _)⟩
theorem Ho.tl {x : Addr × HO} (w : Ho H0 H (x :: L)) : Ho H0 H L := ⟨w.sm, fun z hz => w.at_ _ (.tail _ hz)⟩
theorem Ho.nil (w : Ho H0 H L) : Ho H0 H [] := ⟨w.sm, fun z hz => nomatch hz⟩
theorem filter_not {L : List (Addr × HO)} (h : ∀ x ∈ L, isLst x.2 = false) : (L.filter fun x => !isLst x.2) = L := List.filter_eq_self.mpr fun x hx => by rw [h x hx]; rfl
theorem Wo.set2 {l : Addr} {u : HO} (w : Wo B H0 H ((l, u) :: L)) (hu : isLst u = true) (h : ∀ x ∈ L, isLst x.2 = false) (hf : H0 l = none) (o : HO) : Wo B H0 (upd H l o) ((l, o) :: L) := by
  obtain ⟨xs, rfl⟩ : ∃ xs, u = .lst xs := by
    cases u with
    | lst xs => exact ⟨xs, rfl⟩
    | _ => cases hu
  have e := w.set (w.get (.head _)) (w.ne (.head _)) hf o
  rw [List.filter_cons] at e
  rw [show (!isLst (HO.lst xs)) = false from rfl, filter_not h] at e
  exact e
/-- within a list being made at a new place D -/
theorem Wo.inD {D : Addr} (w : Wo B H0 H L) (hD : H D = none) (k : ∀ b o, b ≠ D → H b = some o → H' b = some o) : Wo B H0 H' L :=
  ⟨w.box.keep fun o e => k _ _ (w.fresh hD).symm e, fun a o n e => k a o (ne_of_none (w.kp a o n e) hD) (w.kp a o n e), fun x h => ⟨(w.at_ x h).1, k _ _ (ne_of_none (w.at_ x h).2 hD) (w.at_ x h).2⟩⟩
theorem Ho.inD {D : Addr} (w : Ho H0 H L) (hD : H D = none) (k : ∀ b o, b ≠ D → H b = some o → H' b = some o) : Ho H0 H' L :=
  ⟨fun a o e => k a o (ne_of_none (w.sm a o e) hD) (w.sm a o e), fun x h => k _ _ (ne_of_none (w.at_ x h) hD) (w.at_ x h)⟩
theorem Ho.start (H : Hp) : Ho H H [] := ⟨Same.refl H, fun _ h => nomatch h⟩
theorem Wo.start (b : BoxAt H B) : Wo B H H [] := ⟨b, Keep.refl _ _, fun _ h => nomatch h⟩
/-- the draws -/
theorem Wo.take {m : Int} {Q : VK} {E : XK} (w : Wo B H0 H L) (m0 : 0 < m) (m1 : m ≤ 1000000000000) (k : ∀ d H', 0 ≤ d → d < m → Wo B H0 H' L → Q (.int d) H') : sp_take [.ref B, .int m] H Q E :=
  ⟨B, m, by rfl, w.box, m0, m1, fun d H' d0 d1 kp hb => k d H' d0 d1 (w.keep kp hb)⟩
theorem Wo.pick {K : PySem.W.Frag} {l : Addr} {xs : List V} {Q : VK} {E : XK} (w : Wo B H0 H L) (hl : H l = some (.lst xs)) (n : l ≠ B) (m0 : 0 < xs.length) (m1 : xs.length ≤ 100000) (k : ∀ (d : Nat) v H', xs[d]? = some v → Wo B H0 H' L → Q v H') : sp_pick K [.ref B, .ref l] H Q E :=
  ⟨B, l, xs, by rfl, w.box, n, .inl (SqL.of hl), m0, m1, fun d v H' hv kp hb => k d v H' hv (w.keep kp hb)⟩
end
end Wl
open Wl

local macro_rules | `(tactic| walk_at "mem") => `(tactic| first | exact List.Mem.head _ | (refine List.Mem.tail _ ?_; walk_at "mem"))
local macro_rules | `(tactic| walk_at "hp") => `(tactic| first | assumption | exact Wo.get (by assumption) (by walk_at "mem") | exact Ho.get (by assumption) (by walk_at "mem") | exact upd_same)
local macro_rules | `(tactic| walk_at "seq") => `(tactic| first | assumption | exact SqL.of (by walk_at "hp") | exact SqT.of (by walk_at "hp"))
local macro_rules | `(tactic| walk_at "sqo") => `(tactic| first | assumption | exact .inl (by walk_at "seq") | exact .inr (by walk_at "seq"))
local macro_rules | `(tactic| walk_at "dp") => `(tactic| first | exact .int _ | exact .str _ | exact .bl _ | exact .non | exact .tup (SqT.of (by walk_at "hp")) (by walk_at "dps") | exact .lst (SqL.of (by walk_at "hp")) (by walk_at "dps"))
local macro_rules | `(tactic| walk_at "dps") => `(tactic| first | exact .nil | exact .cons (by walk_at "dp") (by walk_at "dps"))
local macro_rules | `(tactic| walk_at "shw") => `(tactic| first | exact Shw.int (by assumption) | exact Shw.int (by unfold showsI; decide) | exact Shw.tup (by walk_at "shwl") | exact Shw.lst (by walk_at "shwl") | exact Shw.bool _ | exact Shw.none | exact Shw.str (by decide +kernel) (Nat.le_refl _))
local macro_rules | `(tactic| walk_at "shwl") => `(tactic| first | exact ShwL.nil | exact ShwL.cons (by walk_at "shw") (by walk_at "shwl"))
local macro_rules | `(tactic| walk_at "sho") => `(tactic| first | assumption | (refine' Shw.ok ?shwa ?shwb ?shwc; (case shwa => walk_at "shw"); (case shwb => decide); (case shwc => decide)))
local macro_rules | `(tactic| walk_at "cls") => `(tactic| first | assumption | exact ChT.cl (by assumption) | exact RatT.cl (by assumption))
local macro_rules | `(tactic| walk_at "noat") => `(tactic| first | assumption | exact ChT.n1 (by assumption) | exact ChT.n2 (by assumption) | exact RatT.n1 (by assumption) | exact RatT.n2 (by assumption))
local macro_rules | `(tactic| walk_at "flk") => `(tactic| first | exact cf1 _ _ | exact cf2 _ _ | exact rf1 _ _ | exact rf2 _ _)
local macro_rules | `(tactic| walk_at "new") => `(tactic| first | refine Wo.nw (by assumption) fun _ _ _ _ => ?_ | refine Ho.nw (by assumption) fun _ _ _ _ => ?_)
local macro_rules | `(tactic| walk_at "kws") => `(tactic| first | exact wm (by assumption) (by assumption) | exact Nat.le_of_ble_eq_true rfl | exact szl (by omega) | walk_at "kbs")
local macro_rules | `(tactic| walk_at "kw1") => `(tactic| first
  | refine And.intro (show scal _ _ = true from rfl) ?_
  | refine ⟨_, rfl, ?_⟩
  | (refine ⟨_, _, rfl, rfl, ?_⟩; try refine And.intro (by walk_at "kws") ?_)
  | refine ⟨_, _, _, _, rfl, rfl, (by walk_at "seq"), rfl, ?_⟩
  | refine ⟨_, _, _, _, _, rfl, (by walk_at "hp"), (by walk_at "cls"), (by walk_at "noat"), (by walk_at "flk"), ?_⟩
  | refine ⟨_, _, rfl, (show SqL _ _ _ _ ∨ SqT _ _ _ _ from by walk_at "sqo"), ?_⟩
  | refine ⟨_, _, rfl, (show SqT _ _ _ _ from by walk_at "seq"), rfl, ?_⟩
  | refine ⟨_, _, rfl, (show Dp _ _ _ _ from by walk_at "dp"), (show ShOk _ from by walk_at "sho"), ?_⟩
  | refine ⟨_, _, (show Dp _ _ _ _ from by walk_at "dp"), (show Dp _ _ _ _ from by walk_at "dp"), (by first | rfl | decide +kernel), (by first | rfl | decide +kernel), ?_⟩
  | refine ⟨_, _, rfl, ?_⟩
  | refine And.intro (show _ ≤ 1000000 by walk_at "kws") ?_
  | walk_at "new"
  | refine And.intro (by walk_at "kws") ?_
  | refine And.intro ⟨_, rfl⟩ ?_
  | refine And.intro (show _ = some (some _) from rfl) ?_)
local macro_rules | `(tactic| walk_at "kw") => `(tactic| repeat (first | ((with_reducible refine iteNSI ?_ ?_); (with_reducible rfl)) | (with_reducible refine iteTI ?_) | (with_reducible refine iteFI ?_) | ((fail_if_success (with_reducible refine isIte ?_)); walk_at "kw1")))

local macro_rules | `(tactic| walk_at "kw1") => `(tactic| refine ⟨_, _, rfl, (show SqL _ _ _ _ from by walk_at "seq"), rfl, ?_⟩)
local macro_rules | `(tactic| walk_at "kw1") => `(tactic| ((refine' nrm_of ?nre ?nrg); (case nre => ((try simp only [L2.start, List.map, List.length_cons, List.length_nil, Nat.reduceAdd, Nat.reduceSub, Nat.zero_add, List.reduceReplicate, List.cons_append, List.nil_append, List.set_cons_succ, List.set_cons_zero]); exact rfl))))

namespace Rt
theorem mk_ratH' {H : Hp} {C IR : Addr} {K : PySem.W.Frag} {R : Hp → Prop} {E : XK} {i j : Int} (hi : 1 ≤ i) (hj : 1 ≤ j) (bi : i.natAbs < 2 ^ 1000) (bj : j.natAbs < 2 ^ 1000) {x dx : Addr} (hx : H x = none) (hdx : H dx = none) (hne : dx ≠ x) (k : ∀ H', Same H H' → RatAt C H' x (i / (Int.gcd i j : Nat)) (j / (Int.gcd i j : Nat)) → R H') :
    sp_init C IR K (.ref x :: [.int i, .int j]) (upd (upd H dx (.own x)) x (.ins C dx [])) (fun v H2 => v = .non ∧ R H2) E := by
  have sm : Same H (upd (upd H dx (.own x)) x (.ins C dx [])) := (sm_new hdx).trans (sm_new (by rw [upd_ne (Ne.symm hne)]; exact hx))
  refine ⟨x, dx, _, _, rfl, .int _, .int _, upd_same, fun _ _ => ⟨_, _, rfl, rfl, bi, bj, fun H' k' ch => ⟨rfl, ?_⟩⟩, fun g => ?_⟩
  · exact k H' (fun a o e => k' a o (ne_of_none e hx) (sm a o e)) ch
  · have b1 : isLen (.int i) = true := decide_eq_true hi
    have b2 : isLen (.int j) = true := decide_eq_true hj
    rw [b1, b2] at g
    cases g
theorem Wo.rat {B r C : Addr} {H0 H H' : Hp} {L : List (Addr × HO)} {a b : Int} (w : Wo B H0 H L) (s : Same H H') (c : RatAt C H' r a b) : ∃ dx, Wo B H0 H' ((r, .ins C dx (rf a b)) :: L) := by
  obtain ⟨dx, h1⟩ := c
  exact ⟨dx, (w.same s).insA h1⟩
end Rt

/-! ## how great ints are -/
theorem pe_never {X : Cx} {e : Expr} : PE X e (fun _ _ _ => False) := ⟨fun _ _ _ _ _ _ h => h.elim⟩
namespace Ro
theorem lcR_tp {K : PySem.W.Frag} {a : Addr} {xs : List V} {g : TG} {te : TE} {vs : List Nat} {σ : L2.St} {H1 : Hp} {D : Addr} {Qd : Hp → Prop} (M : Nat → Hp → Prop) (h0 : M 0 (upd H1 D (.lst []))) (hl : ∀ i H, i ≤ xs.length → M i H → SqT K H a xs)
    (hs : ∀ i x H, xs[i]? = some x → M i H → g x (wipe σ vs) H fun σ2 H2 => wipe σ2 vs = wipe σ vs ∧ te σ2 H2 fun y H4 => ∃ acc, H4 D = some (.lst acc) ∧ acc.length < sizeLine ∧ M (i + 1) (upd H4 D (.lst (acc ++ [y]))))
    (hm : ∀ x σ H Q Q', (∀ σ2 H2, Q σ2 H2 → Q' σ2 H2) → g x σ H Q → g x σ H Q') (hd : ∀ H, M xs.length H → Qd H) : LcR (Itt K a) g tYes te vs σ H1 D Qd :=
  lc_it walk_tup M h0 hl (fun i x H H' hi m y => by
    obtain ⟨e, hx⟩ := y
    subst e
    exact hm _ _ _ _ _ (fun σ2 H2 z => ⟨z.1, ifT (B := M (i + 1) H2) rfl z.2⟩) (hs i x _ hx m)) hd
def Bd (n : Nat) (i : Int) : Prop := i.natAbs < 2 ^ n
theorem Bd.mono {n m : Nat} {i : Int} (h : Bd n i) (e : n ≤ m) : Bd m i := Nat.lt_of_lt_of_le h (Nat.pow_le_pow_right (by decide) e)
theorem Bd.lit {i : Int} (h : decide (i.natAbs < 18446744073709551616) = true) : Bd 64 i := Nat.lt_of_lt_of_le (of_decide_eq_true (p := i.natAbs < 18446744073709551616) h) (by decide)
theorem Bd.mul {n m : Nat} {i j : Int} (h : Bd n i) (g : Bd m j) : Bd (n + m) (i * j) := by
  unfold Bd at *
  rw [Int.natAbs_mul, Nat.pow_add]
  exact Nat.mul_lt_mul'' h g
theorem two_max (n m : Nat) : 2 ^ n + 2 ^ m ≤ 2 ^ (max n m + 1) := by
  have h1 : 2 ^ n ≤ 2 ^ max n m := Nat.pow_le_pow_right (by decide) (Nat.le_max_left ..)
  have h2 : 2 ^ m ≤ 2 ^ max n m := Nat.pow_le_pow_right (by decide) (Nat.le_max_right ..)
  rw [Nat.pow_succ]
  omega
theorem Bd.add {n m : Nat} {i j : Int} (h : Bd n i) (g : Bd m j) : Bd (max n m + 1) (i + j) := by
  have := two_max n m
  unfold Bd at *
  generalize 2 ^ n = a at *
  generalize 2 ^ m = b at *
  omega
theorem Bd.sub {n m : Nat} {i j : Int} (h : Bd n i) (g : Bd m j) : Bd (max n m + 1) (i - j) := by
  have := two_max n m
  unfold Bd at *
  generalize 2 ^ n = a at *
  generalize 2 ^ m = b at *
  omega
theorem Bd.neg {n : Nat} {i : Int} (h : Bd n i) : Bd n (-i) := by unfold Bd at *; omega
theorem Bd.gcd {n m : Nat} {i j : Int} (h : Bd n i) (g : Bd m j) : Bd (max n m) ((Int.gcd i j : Nat) : Int) := by
  unfold Bd at *
  rw [Int.natAbs_natCast]
  have h1 : 2 ^ n ≤ 2 ^ max n m := Nat.pow_le_pow_right (by decide) (Nat.le_max_left ..)
  have h2 : 2 ^ m ≤ 2 ^ max n m := Nat.pow_le_pow_right (by decide) (Nat.le_max_right ..)
  by_cases hi : i = 0
  · subst hi
    rw [Int.gcd_zero_left]
    omega
  · have : Int.gcd i j ≤ i.natAbs := Int.gcd_le_natAbs_left _ (by omega)
    omega
theorem Bd.div {n : Nat} {i : Int} (j : Int) (h : Bd n i) : Bd n (i / j) := by
  unfold Bd at *
  exact Nat.lt_of_le_of_lt (Int.natAbs_ediv_le_natAbs _ _) h
theorem Bd.fdiv {n : Nat} {i : Int} (j : Int) (h : Bd n i) : Bd (n + 1) (Int.fdiv i j) := by
  have e := two_max n 0
  have : (Int.fdiv i j).natAbs ≤ i.natAbs + 1 := by
    rw [Int.fdiv_eq_ediv]
    have := Int.natAbs_ediv_le_natAbs i j
    split <;> omega
  unfold Bd at *
  rw [Nat.max_zero] at e
  generalize 2 ^ n = a at *
  generalize 2 ^ (n + 1) = b at *
  omega
theorem Bd.cm {n m : Nat} {i j : Int} (h : Bd n i) (g : Bd m j) (e : n + m ≤ 900000) : CMulW i j := wide_mul (h.mono (Nat.le_succ n)) (g.mono (Nat.le_succ m)) (Nat.succ_pos _) (Nat.succ_pos _) (by omega)
theorem Bd.lg {n : Nat} {j : Int} (g : Bd n j) (e : n ≤ 8999) : j.natAbs.log2 < 9000 := Nat.lt_of_lt_of_le (PySem.Flt.log2_lt_of (Nat.succ_pos n) (g.mono (Nat.le_succ n))) (by omega)
theorem Bd.cd {n : Nat} {i j : Int} (p : 0 < j) (g : Bd n j) (e : n ≤ 8999) : CDivW i j := ⟨p, g.lg e⟩
def CDivG (_ j : Int) : Prop := j ≠ 0 ∧ j.natAbs.log2 < 9000
theorem Bd.cg {n : Nat} {i j : Int} (p : j ≠ 0) (g : Bd n j) (e : n ≤ 8999) : CDivG i j := ⟨p, g.lg e⟩
theorem op_fdivG {X : Cx} : OpR X (binaryOp .FloorDiv) (rI CDivG fun i j => .int (Int.fdiv i j)) := opI fun i j _ _ _ _ _ hc q => floordiv_int hc.1 q (.inl (PyProof.noPylong_of_log2 hc.2))
theorem Bd.sh {n : Nat} {i : Int} (h : Bd n i) (e : n ≤ 1000) : showsI i := h.mono e
/-- the sign of a number, as programs tell it -/
def sg (i : Int) : Int := (if decide (0 < i) = true then 1 else 0) - (if decide (i < 0) = true then 1 else 0)
theorem sg_p {i : Int} (h : 0 < i) : sg i = 1 := by unfold sg; simp [h]; omega
theorem sg_n {i : Int} (h : i < 0) : sg i = -1 := by unfold sg; simp [h]; omega
theorem sg_z : sg 0 = 0 := rfl
theorem sg_c (i : Int) : (0 < i ∧ sg i = 1) ∨ (i = 0 ∧ sg i = 0) ∨ (i < 0 ∧ sg i = -1) := by
  rcases Int.lt_trichotomy i 0 with h | h | h
  · exact .inr (.inr ⟨h, sg_n h⟩)
  · subst h; exact .inr (.inl ⟨rfl, rfl⟩)
  · exact .inl ⟨h, sg_p h⟩
theorem Bd.sg (i : Int) : Bd 2 (sg i) := by
  unfold Bd
  rcases sg_c i with ⟨_, h⟩ | ⟨_, h⟩ | ⟨_, h⟩ <;> rw [h] <;> decide
theorem sg_mul (i j : Int) : sg (i * j) = sg i * sg j := by
  rcases sg_c i with ⟨hi, h⟩ | ⟨hi, h⟩ | ⟨hi, h⟩ <;> rcases sg_c j with ⟨hj, g⟩ | ⟨hj, g⟩ | ⟨hj, g⟩ <;> rw [h, g]
  · exact sg_p (Int.mul_pos hi hj)
  · rw [hj, Int.mul_zero]; rfl
  · exact sg_n (Int.mul_neg_of_pos_of_neg hi hj)
  · rw [hi, Int.zero_mul]; rfl
  · rw [hi, Int.zero_mul]; rfl
  · rw [hi, Int.zero_mul]; rfl
  · exact sg_n (Int.mul_neg_of_neg_of_pos hi hj)
  · rw [hj, Int.mul_zero]; rfl
  · exact sg_p (Int.mul_pos_of_neg_of_neg hi hj)
/-- the sign of one + times * root of inner -/
def swr (a b c : Int) : Int := if sg a = sg b * sg c ∨ sg b * sg c = 0 then sg a else if sg a = 0 then sg b * sg c else sg a * sg (a * a - b * b * c)
theorem Bd.swr (a b c : Int) : Bd 4 (swr a b c) := by
  unfold Ro.swr
  split
  · exact (Bd.sg a).mono (by decide)
  · split
    · exact (Bd.sg b).mul (Bd.sg c)
    · exact (Bd.sg a).mul (Bd.sg _)
end Ro
open Ro

local macro_rules | `(tactic| walk_at "bd") => `(tactic| first | assumption | exact Bd.lit (by decide) | exact Bd.add (by walk_at "bd") (by walk_at "bd") | exact Bd.sub (by walk_at "bd") (by walk_at "bd") | exact Bd.mul (by walk_at "bd") (by walk_at "bd") | exact Bd.neg (by walk_at "bd") | exact Bd.sg _ | exact Bd.swr _ _ _ | exact Bd.gcd (by walk_at "bd") (by walk_at "bd") | exact Bd.div _ (by walk_at "bd") | exact Bd.fdiv _ (by walk_at "bd"))
local macro_rules | `(tactic| walk_at "kw1") => `(tactic| first
  | ((with_reducible refine And.intro (a := CMulW _ _) ?cw ?_); (case cw => exact Bd.cm (by walk_at "bd") (by walk_at "bd") (Nat.le_of_ble_eq_true rfl)))
  | ((with_reducible refine And.intro (a := CDivW _ _) ?cw ?_); (case cw => exact Bd.cd (by first | assumption | omega) (by walk_at "bd") (Nat.le_of_ble_eq_true rfl)))
  | ((with_reducible refine And.intro (a := CDivG _ _) ?cw ?_); (case cw => exact Bd.cg (by first | assumption | omega) (by walk_at "bd") (Nat.le_of_ble_eq_true rfl)))
  | ((refine ⟨_, _, _, rfl, (?cw : Bd _ _), ?_⟩); (case cw => exact Bd.mono (by walk_at "bd") (Nat.le_of_ble_eq_true rfl)))
  | ((refine ⟨_, _, _, _, rfl, (?cw : Bd _ _), ?_⟩); (case cw => exact Bd.mono (by walk_at "bd") (Nat.le_of_ble_eq_true rfl)))
  | ((with_reducible refine And.intro (a := Bd _ _) ?cw ?_); (case cw => exact Bd.mono (by walk_at "bd") (Nat.le_of_ble_eq_true rfl))))

/-! ## numbers with roots -/
namespace Ro
def sp_sign : Sp := fun vs H Q _ => ∃ i : Int, vs = [.int i] ∧ Q (.int (sg i)) H
def sp_com : Sp := fun vs H Q _ => ∃ i j : Int, vs = [.int i, .int j] ∧ Q (.int (Int.gcd i j)) H
def sp_wr : Sp := fun vs H Q _ => ∃ n : Int, vs = [.int n] ∧ 0 ≤ n ∧ Bd 400 n ∧ ∀ s : Int, 0 ≤ s → s * s ≤ n → n < (s + 1) * (s + 1) → Q (.int s) H
def sp_swr : Sp := fun vs H Q _ => ∃ a b c : Int, vs = [.int a, .int b, .int c] ∧ Bd 400 a ∧ Bd 400 b ∧ Bd 400 c ∧ Q (.int (swr a b c)) H
/-- the root of an equation, without a common factor -/
def lwf (a b c : Int) : Int := if a < 0 then 0 - (Int.gcd (Int.gcd a b) c : Int) else (Int.gcd (Int.gcd a b) c : Int)
def lwd (a b c s : Int) : List Int := [Int.fdiv a (lwf a b c), Int.fdiv b (lwf a b c), Int.fdiv c (lwf a b c), s]
def sp_low : Sp := fun vs H Q _ => ∃ a b c s : Int, vs = [.int a, .int b, .int c, .int s] ∧ a ≠ 0 ∧ Bd 800 a ∧ Bd 800 b ∧ Bd 800 c ∧ New H (.tup ((lwd a b c s).map V.int)) Q
def sp_inner (K : PySem.W.Frag) : Sp := fun vs H Q _ => ∃ (p : Addr) (a b c s : Int), vs = [.ref p] ∧ H p = some (.tup [.int a, .int b, .int c, .int s]) ∧ Bd 800 a ∧ Bd 800 b ∧ Bd 800 c ∧ Q (.int (b * b - 4 * a * c)) H
theorem lwf_ne {a b c : Int} (h : a ≠ 0) : lwf a b c ≠ 0 := by
  have g : Int.gcd a b ≠ 0 := fun e => h (Int.gcd_eq_zero_iff.mp e).1
  have g2 : Int.gcd (Int.gcd a b : Int) c ≠ 0 := fun e => by
    have := (Int.gcd_eq_zero_iff.mp e).1
    omega
  unfold lwf
  split <;> omega
theorem root_step {n x y t : Int} (hx : 1 ≤ x) (ht : t = n / x) (hy : y = (x + t) / 2) (hn : 0 ≤ n) : n < (y + 1) * (y + 1) := by
  have h1 : n < (t + 1) * x := by
    have := Int.lt_ediv_add_one_mul_self n (show 0 < x by omega)
    rw [← ht] at this
    exact this
  have h2 : x + t + 1 ≤ 2 * (y + 1) := by omega
  have t0 : 0 ≤ t := by rw [ht]; exact Int.ediv_nonneg hn (by omega)
  have h3 : (x + (t + 1)) * (x + (t + 1)) ≤ (2 * (y + 1)) * (2 * (y + 1)) := Int.mul_le_mul (by omega) (by omega) (by omega) (by omega)
  have h4 : 0 ≤ (x - (t + 1)) * (x - (t + 1)) := by
    rcases Int.le_total 0 (x - (t + 1)) with h | h
    · exact Int.mul_nonneg h h
    · exact Int.mul_nonneg_of_nonpos_of_nonpos h h
  have h5 : (x + (t + 1)) * (x + (t + 1)) = (x - (t + 1)) * (x - (t + 1)) + 4 * ((t + 1) * x) := by grind
  have h6 : (2 * (y + 1)) * (2 * (y + 1)) = 4 * ((y + 1) * (y + 1)) := by grind
  omega
end Ro
section
variable {P : Program} {w : World} {K : PySem.W.Frag} {mg : Str → Option Value} {base : Heap}
theorem ok_sign {f : Addr} {fd : FuncData} (F : Fun K "sign_of" "sign_of" S_sign_of f fd) (T : Txt K mg) : FnOk P w K mg base CX0 1 f fd ["number"] sp_sign := by
  refine F.ok SC_sign_of (fun vs H Q E h => ?_) (fun cdv A outer s H vs Q E hr h => ?_)
  · obtain ⟨i, rfl, _⟩ := h
    rfl
  · obtain ⟨i, rfl, q⟩ := h
    refine ⟨_, (pss_one (ps_ret (pe_op op_sub (pe_callTy call_intB (by rfl) T.b_int (by decide +kernel) (pa_cons (pe_cmpR op_gt (pv 0) pe_int (nomark _)) pa_nil)) (pe_callTy call_intB (by rfl) T.b_int (by decide +kernel) (pa_cons (pe_cmpR op_lt (pv 0) pe_int (nomark _)) pa_nil))))), ?_⟩
    walk_at "kw"
    exact q
theorem ok_com {f : Addr} {fd : FuncData} (F : Fun K "common" "common" S_common f fd) (T : Txt K mg) : FnOk P w K mg base CX0 1 f fd ["one", "other"] sp_com := by
  refine F.ok SC_common (fun vs H Q E h => ?_) (fun cdv A outer s H vs Q E hr h => ?_)
  · obtain ⟨i, j, rfl, _⟩ := h
    rfl
  · obtain ⟨i, j, rfl, q⟩ := h
    refine ⟨_, (pss_cons (ps_par (i := 0) (j := 1) (by rfl) SC_common.nd rfl rfl (by decide) rfl rfl (pa_cons (pe_callB call_abs (by rfl) T.b_abs (by decide +kernel) (pa_cons (pv 0) pa_nil)) (pa_cons (pe_callB call_abs (by rfl) T.b_abs (by decide +kernel) (pa_cons (pv 1) pa_nil)) pa_nil)) (by rfl))
      (pss_cons (ps_while PassesOwn.never (pt_cmpR op_ne (pv 1) pe_int (nomark _)) (pss_one (ps_par (i := 0) (j := 1) (by rfl) SC_common.nd rfl rfl (by decide) rfl rfl (pa_cons (pv 1) (pa_cons (pe_op op_mod (pe_callTy call_intI (by rfl) T.b_int (by decide +kernel) (pa_cons (pv 0) pa_nil)) (pv 1)) pa_nil)) (by rfl))))
      (pss_one (ps_ret (pv 0))))), ?_⟩
    walk_at "kw"
    refine while_by (fun σ H' => H' = H ∧ ∃ x y : Int, 0 ≤ x ∧ 0 ≤ y ∧ Int.gcd x y = Int.gcd i j ∧ σ = [some (.int x), some (.int y)]) (fun σ _ => match σ with | [_, some (.int y)] => y.toNat | _ => 0)
      ⟨rfl, _, _, by omega, by omega, by show Nat.gcd _ _ = Nat.gcd _ _; congr 1 <;> split <;> omega, rfl⟩ (fun σ H1 hP => ?_) (fun σ H Q Q' h q => ?_)
    · obtain ⟨rfl, x, y, hx, hy, hg, rfl⟩ := hP
      walk_at "kw"
      refine ite2 (fun h => ?_) (fun h => ?_)
      · have hy0 : 0 < y := by
          have : y ≠ 0 := fun e => by subst e; exact absurd h (by decide)
          omega
        walk_at "kw"
        refine ⟨⟨rfl, y, x % y, by omega, Int.emod_nonneg _ (by omega), ?_, rfl⟩, ?_⟩
        · rw [← hg]; exact gcd_step hx hy
        · show (x % y).toNat < y.toNat
          have := Int.emod_lt_of_pos x hy0
          omega
      · have hy0 : y = 0 := by
          have : decide (V.int y = V.int 0) = true := by simpa using h
          exact V.int.inj (of_decide_eq_true this)
        subst hy0
        refine ⟨_, rfl, ?_⟩
        have e : x = ((Int.gcd i j : Nat) : Int) := by rw [← hg, Int.gcd_zero_right]; omega
        rw [e]
        exact q
    · obtain ⟨v, h1, e, v2, e2, q⟩ := q
      exact ⟨v, h1, e, v2, e2, h _ _ q⟩
theorem ok_wr {f : Addr} {fd : FuncData} (F : Fun K "whole_root" "whole_root" S_whole_root f fd) (T : Txt K mg) : FnOk P w K mg base CX0 1 f fd ["number"] sp_wr := by
  refine F.ok SC_whole_root (fun vs H Q E h => ?_) (fun cdv A outer s H vs Q E hr h => ?_)
  · obtain ⟨n, rfl, _⟩ := h
    rfl
  · obtain ⟨n, rfl, n0, bn, q⟩ := h
    refine ⟨_, (pss_cons (ps_if (pt_cmpR op_lt (pv 0) pe_int (nomark _)) (pss_one (ps_ret (pv 0))) pss_nil)
      (pss_cons (ps_set (i := 1) SC_whole_root.nd rfl (.inl rfl) (pv 0))
      (pss_cons (ps_set (i := 2) SC_whole_root.nd rfl (.inl rfl) (pe_op op_fdivW (pe_op op_add (pv 1) pe_int) pe_int))
      (pss_cons (ps_while PassesOwn.never (pt_cmpR op_lt (pv 2) (pv 1) (nomark _)) (pss_cons (ps_set (i := 1) SC_whole_root.nd rfl (.inl rfl) (pv 2))
      (pss_one (ps_set (i := 2) SC_whole_root.nd rfl (.inl rfl) (pe_op op_fdivW (pe_op op_add (pv 1) (pe_op op_fdivW (pv 0) (pv 1))) pe_int)))))
      (pss_one (ps_ret (pv 1))))))), ?_⟩
    walk_at "kw"
    refine ite2 (fun h => ?_) (fun h => ?_)
    · have h2 : n < 2 := of_decide_eq_true h
      refine ⟨_, rfl, ?_⟩
      have : n = 0 ∨ n = 1 := by omega
      rcases this with rfl | rfl
      · exact q 0 (by decide) (by decide) (by decide)
      · exact q 1 (by decide) (by decide) (by decide)
    have h2 : 2 ≤ n := by have : ¬ n < 2 := fun z => h (decide_eq_true z)
                          omega
    walk_at "kw"
    refine while_by (fun σ H' => H' = H ∧ ∃ x : Int, 1 ≤ x ∧ x ≤ n ∧ n < (x + 1) * (x + 1) ∧ σ = [some (.int n), some (.int x), some (.int ((x + n / x) / 2))]) (fun σ _ => match σ with | [_, some (.int x), _] => x.toNat | _ => 0)
      ⟨rfl, n, by omega, by omega, ?_, ?_⟩ (fun σ H1 hP => ?_) (fun σ H Q Q' h q => ?_)
    · have : n * 1 ≤ n * n := Int.mul_le_mul_of_nonneg_left (by omega) (by omega)
      have e : (n + 1) * (n + 1) = n * n + 2 * n + 1 := by grind
      omega
    · rw [Int.ediv_self (by omega)]; rfl
    · obtain ⟨rfl, x, x1, xn, hx, rfl⟩ := hP
      have bx : Bd 400 x := by unfold Bd at bn ⊢; generalize 2 ^ 400 = z at bn ⊢; omega
      walk_at "kw"
      refine ite2 (fun h => ?_) (fun h => ?_)
      · have hlt : (x + n / x) / 2 < x := of_decide_eq_true h
        have q0 : 0 ≤ n / x := Int.ediv_nonneg n0 (by omega)
        have hy1 : 1 ≤ (x + n / x) / 2 := by
          have : 1 ≤ n / x := (Int.le_ediv_iff_mul_le (by omega)).mpr (by omega)
          omega
        have by_ : Bd 400 ((x + n / x) / 2) := by unfold Bd at bx ⊢; generalize 2 ^ 400 = z at bx ⊢; omega
        have st := root_step (n := n) x1 rfl rfl n0
        walk_at "kw"
        refine ⟨⟨rfl, _, hy1, by omega, st, rfl⟩, ?_⟩
        show ((x + n / x) / 2).toNat < x.toNat
        omega
      · have hge : ¬ (x + n / x) / 2 < x := fun z => h (decide_eq_true z)
        walk_at "kw"
        refine q x (by omega) ?_ hx
        have : x ≤ n / x := by omega
        exact (Int.le_ediv_iff_mul_le (by omega)).mp this
    · obtain ⟨v, h1, v2, h2, i, j, e1, e2, k, e3, q⟩ := q
      exact ⟨v, h1, v2, h2, i, j, e1, e2, k, e3, h _ _ q⟩
theorem ok_swr {f : Addr} {fd : FuncData} (F : Fun K "sign_with_root" "sign_with_root" S_sign_with_root f fd) (T : Txt K mg) (C_sign : FnC P w K mg base CX0 1 "sign_of" ["number"] sp_sign) : FnOk P w K mg base CX0 2 f fd ["one", "times", "inner"] sp_swr := by
  refine F.ok SC_sign_with_root (fun vs H Q E h => ?_) (fun cdv A outer s H vs Q E hr h => ?_)
  · obtain ⟨a, b, c, rfl, _⟩ := h
    rfl
  · obtain ⟨a, b, c, rfl, ba, bb, bc, q⟩ := h
    refine ⟨_, (pss_cons (ps_par (i := 3) (j := 4) (by rfl) SC_sign_with_root.nd rfl rfl (by decide) rfl rfl (pa_cons (pe_callC C_sign (hr.mono (by decide)) rfl (pa_cons (pv 0) pa_nil)) (pa_cons (pe_op op_mulW (pe_callC C_sign (hr.mono (by decide)) rfl (pa_cons (pv 1) pa_nil)) (pe_callC C_sign (hr.mono (by decide)) rfl (pa_cons (pv 2) pa_nil))) pa_nil)) (by rfl))
      (pss_cons (ps_if (PW.pt (pw_or (pt_cmpR op_eq (pv 3) (pv 4) (nomark _)) (pw_or1 (pt_cmpR op_eq (pv 4) pe_int (nomark _))))) (pss_one (ps_ret (pv 3))) pss_nil)
      (pss_cons (ps_if (pt_cmpR op_eq (pv 3) pe_int (nomark _)) (pss_one (ps_ret (pv 4))) pss_nil)
      (pss_one (ps_ret (pe_op op_mulW (pv 3) (pe_callC C_sign (hr.mono (by decide)) rfl (pa_cons (pe_op op_sub (pe_op op_mulW (pv 0) (pv 0)) (pe_op op_mulW (pe_op op_mulW (pv 1) (pv 1)) (pv 2))) pa_nil)))))))), ?_⟩
    unfold swr at q
    walk_at "kw"
    refine ite2 (fun h => ?_) (fun h => ?_)
    · rw [if_pos (.inl (V.int.inj (of_decide_eq_true h)))] at q
      exact ⟨_, rfl, q⟩
    have n1 : ¬ sg a = sg b * sg c := fun e => h (decide_eq_true (congrArg V.int e))
    walk_at "kw"
    refine ite2 (fun h => ?_) (fun h => ?_)
    · rw [if_pos (.inr (V.int.inj (of_decide_eq_true h)))] at q
      exact ⟨_, rfl, q⟩
    have n2 : ¬ sg b * sg c = 0 := fun e => h (decide_eq_true (congrArg V.int e))
    rw [if_neg (fun z => z.elim n1 n2)] at q
    walk_at "kw"
    refine ite2 (fun h => ?_) (fun h => ?_)
    · rw [if_pos (V.int.inj (of_decide_eq_true h))] at q
      exact ⟨_, rfl, q⟩
    rw [if_neg (fun e => h (decide_eq_true (congrArg V.int e)))] at q
    walk_at "kw"
    exact q
theorem ok_low {f : Addr} {fd : FuncData} (F : Fun K "lowered" "lowered" S_lowered f fd) (T : Txt K mg) (C_com : FnC P w K mg base CX0 1 "common" ["one", "other"] sp_com) : FnOk P w K mg base CX0 2 f fd ["a", "b", "c", "side"] sp_low := by
  refine F.ok SC_lowered (fun vs H Q E h => ?_) (fun cdv A outer s H vs Q E hr h => ?_)
  · obtain ⟨a, b, c, s, rfl, _⟩ := h
    rfl
  · obtain ⟨a, b, c, s, rfl, a0, ba, bb, bc, q⟩ := h
    refine ⟨_, (pss_cons (ps_set (i := 4) SC_lowered.nd rfl (.inl rfl) (pe_callC C_com hr rfl (pa_cons (pe_callC C_com hr rfl (pa_cons (pv 0) (pa_cons (pv 1) pa_nil))) (pa_cons (pv 2) pa_nil))))
      (pss_mid (ps_if (pt_cmpR op_lt (pv 0) pe_int (nomark _)) (pss_one (ps_set (i := 4) SC_lowered.nd rfl (.inl rfl) (pe_op op_sub pe_int (pv 4)))) pss_nil)
      (pss_one (ps_ret (pe_tupN (pa_cons (pe_op op_fdivG (pv 0) (pv 4)) (pa_cons (pe_op op_fdivG (pv 1) (pv 4)) (pa_cons (pe_op op_fdivG (pv 2) (pv 4)) (pa_cons (pv 3) pa_nil))))))))), ?_⟩
    have f0 := lwf_ne (b := b) (c := c) a0
    have bf : Bd 801 (lwf a b c) := by
      have g := Bd.gcd (Bd.gcd ba bb) bc
      unfold lwf
      split
      · exact (Bd.sub (Bd.lit (i := 0) (by decide)) g).mono (by decide)
      · exact g.mono (by decide)


    walk_at "kw"
    refine ⟨fun σ' H' => H' = H ∧ σ' = [some (.int a), some (.int b), some (.int c), some (.int s), some (.int (lwf a b c))], ?_, fun σ1 H1 z => ?_⟩
    · walk_at "kw"
      refine ite2 (fun h => ?_) (fun h => ?_)
      · have h' : a < 0 := of_decide_eq_true h
        walk_at "kw"
        exact ⟨rfl, by unfold lwf; rw [if_pos h']; rfl⟩
      · have h' : ¬ a < 0 := fun e => h (decide_eq_true e)
        exact ⟨rfl, by unfold lwf; rw [if_neg h']; rfl⟩
    obtain ⟨rfl, rfl⟩ := z
    walk_at "kw"
    exact q
theorem ok_inner {f : Addr} {fd : FuncData} (F : Fun K "inner_of" "inner_of" S_inner_of f fd) (T : Txt K mg) : FnOk P w K mg base CX0 1 f fd ["root"] (sp_inner K) := by
  refine F.ok SC_inner_of (fun vs H Q E h => ?_) (fun cdv A outer s H vs Q E hr h => ?_)
  · obtain ⟨p, a, b, c, s, rfl, _⟩ := h
    rfl
  · obtain ⟨p, a, b, c, s, rfl, hp, ba, bb, bc, q⟩ := h
    have W := (Ho.start H).call (Same.refl H) hp
    refine ⟨_, (pss_one (ps_ret (pe_op op_sub (pe_op op_mulW (pe_ix ix_tup (pv 0) pe_int (fun _ _ => rfl)) (pe_ix ix_tup (pv 0) pe_int (fun _ _ => rfl))) (pe_op op_mulW (pe_op op_mulW pe_int (pe_ix ix_tup (pv 0) pe_int (fun _ _ => rfl))) (pe_ix ix_tup (pv 0) pe_int (fun _ _ => rfl)))))), ?_⟩
    walk_at "kw"
    exact q
end

/-! ## edges -/
namespace Ed
structure EdgT (K : PySem.W.Frag) (mg : Str → Option Value) (C : Addr) : Prop where
  ins : C8.InsC K C
  n1 : NoAttr K C "place"
  n2 : NoAttr K C "numbers"
  mgC : mg "Edge" = some (.ref C)
  nf : PySem.W.notFirst K C (.ref C) = true
  ne : PySem.W.findIn K (.ref C) "__ne__" = some (some (.builtin "object.__ne__"))
  so : PySem.W.subIn K (.ref C) (.type "object") = some true
theorem EdgT.cl {K : PySem.W.Frag} {mg : Str → Option Value} {C : Addr} (T : EdgT K mg C) : Cls K C := T.ins.cl
theorem EdgT.ty {K : PySem.W.Frag} {mg : Str → Option Value} {C : Addr} (T : EdgT K mg C) {H : Hp} {p dx : Addr} {fs : List (Str × V)} (h : H p = some (.ins C dx fs)) : TyX K H (.ref p) (.ref C) := .base (.ins h T.ins.cl T.ins.ha T.ins.hn T.ins.htk T.ins.hm)
theorem n_pn : ¬ (("place" : Str) = "numbers") := by decide +kernel
def ef (p n : V) : List (Str × V) := putF "numbers" n (putF "place" p [])
def ef' (p n : V) : List (Str × V) := putF "numbers" n (putF "numbers" .non (putF "place" p []))
theorem ef1 (p n : V) : (ef p n).lookup ("place" : Str) = some p := by unfold ef; rw [lookup_putF, if_neg n_pn, lookup_putF, if_pos rfl]
theorem ef2 (p n : V) : (ef p n).lookup ("numbers" : Str) = some n := by unfold ef; rw [lookup_putF, if_pos rfl]
theorem ef1' (p n : V) : (ef' p n).lookup ("place" : Str) = some p := by unfold ef'; rw [lookup_putF, if_neg n_pn, lookup_putF, if_neg n_pn, lookup_putF, if_pos rfl]
theorem ef2' (p n : V) : (ef' p n).lookup ("numbers" : Str) = some n := by unfold ef'; rw [lookup_putF, if_pos rfl]
/-- the numbers of a place with a root -/
def nmr (a b c s : Int) : List Int := [0 - b, s, b * b - 4 * a * c, 2 * a]
def EdgeAt (CE : Addr) (H : Hp) (e : Addr) : List Int → Prop
  | [a, b] => ∃ (dx t : Addr) (fs : List (Str × V)), H e = some (.ins CE dx fs) ∧ fs.lookup ("place" : Str) = some (.ref t) ∧ fs.lookup ("numbers" : Str) = some .non ∧ H t = some (.tup [.int a, .int b])
  | [a, b, c, s] => ∃ (dx t m : Addr) (fs : List (Str × V)), H e = some (.ins CE dx fs) ∧ fs.lookup ("place" : Str) = some (.ref t) ∧ fs.lookup ("numbers" : Str) = some (.ref m) ∧ H t = some (.tup [.int a, .int b, .int c, .int s]) ∧ H m = some (.tup ((nmr a b c s).map V.int))
  | _ => False
theorem EdgeAt.at {CE : Addr} {H : Hp} {e : Addr} {pl : List Int} (h : EdgeAt CE H e pl) : ∃ (dx t : Addr) (fs : List (Str × V)), H e = some (.ins CE dx fs) ∧ fs.lookup ("place" : Str) = some (.ref t) ∧ H t = some (.tup (pl.map V.int)) := by
  unfold EdgeAt at h
  split at h
  · obtain ⟨dx, t, fs, h1, h2, _, h3⟩ := h
    exact ⟨dx, t, fs, h1, h2, h3⟩
  · obtain ⟨dx, t, m, fs, h1, h2, _, h3, _⟩ := h
    exact ⟨dx, t, fs, h1, h2, h3⟩
  · exact h.elim
theorem EdgeAt.same {CE : Addr} {H H' : Hp} {e : Addr} {pl : List Int} (h : EdgeAt CE H e pl) (s : Same H H') : EdgeAt CE H' e pl := by
  unfold EdgeAt at h ⊢
  split at h
  · obtain ⟨dx, t, fs, h1, h2, h2', h3⟩ := h
    exact ⟨dx, t, fs, s _ _ h1, h2, h2', s _ _ h3⟩
  · obtain ⟨dx, t, m, fs, h1, h2, h2', h3, h4⟩ := h
    exact ⟨dx, t, m, fs, s _ _ h1, h2, h2', s _ _ h3, s _ _ h4⟩
  · exact h.elim
/-- what an edge needs to stand in another heap: its box is none of its objects -/
theorem EdgeAt.keep {CE B : Addr} {H H' : Hp} {e : Addr} {pl : List Int} (h : EdgeAt CE H e pl) (hb : BoxAt H B) (k : Keep B H H') : EdgeAt CE H' e pl := by
  obtain ⟨c, sd, n, hB, _⟩ := hb
  have ne1 : ∀ {a C dx : Addr} {fs : List (Str × V)}, H a = some (.ins C dx fs) → H' a = some (.ins C dx fs) := fun {a C dx fs} q => k a _ (fun e => by rw [e, hB] at q; cases q) q
  have ne2 : ∀ {a : Addr} {xs : List V}, H a = some (.tup xs) → H' a = some (.tup xs) := fun {a xs} q => k a _ (fun e => by rw [e, hB] at q; cases q) q
  unfold EdgeAt at h ⊢
  split at h
  · obtain ⟨dx, t, fs, h1, h2, h2', h3⟩ := h
    exact ⟨dx, t, fs, ne1 h1, h2, h2', ne2 h3⟩
  · obtain ⟨dx, t, m, fs, h1, h2, h2', h3, h4⟩ := h
    exact ⟨dx, t, m, fs, ne1 h1, h2, h2', ne2 h3, ne2 h4⟩
  · exact h.elim
def plOk (pl : List Int) : Prop := (∃ a b, pl = [a, b]) ∨ (∃ a b c s, pl = [a, b, c, s] ∧ Bd 800 a ∧ Bd 800 b ∧ Bd 800 c)
def sp_einit (CE : Addr) : Sp := fun vs H Q _ => ∃ (x dx t : Addr) (pl : List Int), vs = [.ref x, .ref t] ∧ H x = some (.ins CE dx []) ∧ H t = some (.tup (pl.map V.int)) ∧ plOk pl ∧ ∀ H', (∀ a o, a ≠ x → H a = some o → H' a = some o) → EdgeAt CE H' x pl → Q .non H'
def sp_ecm (CE : Addr) (pl : List Int) : Sp := fun vs H Q _ => vs = [.ref CE] ∧ ∀ r H', H r = none → Same H H' → EdgeAt CE H' r pl → Q (.ref r) H'
def sp_eof (C CE : Addr) : Sp := fun vs H Q _ => ∃ (p : Addr) (a b : Int), vs = [.ref CE, .ref p] ∧ RatAt C H p a b ∧ ∀ r H', H r = none → Same H H' → EdgeAt CE H' r [a, b] → Q (.ref r) H'
def sp_eratio (C CE : Addr) : Sp := fun vs H Q _ => ∃ (e : Addr) (pl : List Int), vs = [.ref e] ∧ EdgeAt CE H e pl ∧
  (∀ a b, pl = [a, b] → a ≠ 0 → b ≠ 0 → 1 ≤ a ∧ 1 ≤ b ∧ Bd 1000 a ∧ Bd 1000 b ∧ ∀ r H', H r = none → Same H H' → RatAt C H' r (a / (Int.gcd a b : Nat)) (b / (Int.gcd a b : Nat)) → Q (.ref r) H') ∧
  ((∀ a b, pl = [a, b] → a = 0 ∨ b = 0) → ∀ H', Same H H' → Q .non H')
def sp_eparts2 (CE : Addr) : Sp := fun vs H Q _ => ∃ (e : Addr) (a b : Int), vs = [.ref e] ∧ EdgeAt CE H e [a, b] ∧ Q .non H
def sp_eeq (CE : Addr) : Sp := fun vs H Q _ => ∃ (e g : Addr) (pl pl' : List Int), vs = [.ref e, .ref g] ∧ EdgeAt CE H e pl ∧ EdgeAt CE H g pl' ∧ Q (.bl (decide (pl = pl'))) H
theorem dpIs {K : PySem.W.Frag} {H : Hp} {p : Addr} {ns : List Int} (h : H p = some (.tup (ns.map V.int))) : Dp K H (.ref p) (.tuple (ns.map PyData.int)) := .tup (SqT.of h) (by
  clear h
  induction ns with
  | nil => exact .nil
  | cons n ns ih => exact .cons (.int n) ih)
theorem canIs : ∀ ns : List Int, PyData.canLayAll0 (ns.map PyData.int) = true
  | [] => rfl
  | n :: ns => by
    show ((PyData.int n).canLay0 && PyData.canLayAll0 (ns.map PyData.int)) = true
    rw [canIs ns]; rfl
theorem depIs : ∀ ns : List Int, PyData.depthAll (ns.map PyData.int) = 0
  | [] => rfl
  | n :: ns => by
    show max 0 (PyData.depthAll (ns.map PyData.int)) = 0
    rw [depIs ns]; rfl
theorem shIs (ns : List Int) : SeqAt.shaped (.tuple (ns.map PyData.int)) = true := by
  show (PyData.canLayAll0 (ns.map PyData.int) && decide (PyData.depthAll (ns.map PyData.int) + 1 ≤ 64)) = true
  rw [canIs, depIs]; rfl
theorem eqvIs : ∀ (xs ys : List Int), PyData.eqvAll (xs.map PyData.int) (ys.map PyData.int) = decide (xs = ys)
  | [], [] => rfl
  | [], _ :: _ => rfl
  | _ :: _, [] => rfl
  | x :: xs, y :: ys => by
    show (PyData.eqv (.int x) (.int y) && PyData.eqvAll (xs.map PyData.int) (ys.map PyData.int)) = _
    rw [eqvIs xs ys, Bool.eq_iff_iff]
    simp [PyData.eqv]
theorem eqvT (xs ys : List Int) : PyData.eqv (.tuple (xs.map PyData.int)) (.tuple (ys.map PyData.int)) = decide (xs = ys) := by
  rw [← eqvIs]; rfl
theorem mk_edge {H : Hp} {CE t : Addr} {pl : List Int} {R : Hp → Prop} {E : XK} (ht : H t = some (.tup (pl.map V.int))) (ok : plOk pl) {x dx : Addr} (hx : H x = none) (hdx : H dx = none) (hne : dx ≠ x) (k : ∀ H', Same H H' → EdgeAt CE H' x pl → R H') :
    sp_einit CE (.ref x :: [.ref t]) (upd (upd H dx (.own x)) x (.ins CE dx [])) (fun v H2 => v = .non ∧ R H2) E := by
  have sm : Same H (upd (upd H dx (.own x)) x (.ins CE dx [])) := (sm_new hdx).trans (sm_new (by rw [upd_ne (Ne.symm hne)]; exact hx))
  exact ⟨x, dx, t, pl, rfl, upd_same, sm _ _ ht, ok, fun H' k' h' => ⟨rfl, k H' (fun a o e => k' a o (ne_of_none e hx) (sm a o e)) h'⟩⟩
end Ed
open Ed
section
variable {P : Program} {w : World} {K : PySem.W.Frag} {mg : Str → Option Value} {base : Heap}
theorem ok_einit {f CE : Addr} {fd : FuncData} (F : Fun K "__init__" "Edge.__init__" S_Edge__init_ f fd) (T : Txt K mg) (Re : EdgT K mg CE) (C_inner : FnC P w K mg base CX0 1 "inner_of" ["root"] (sp_inner K)) : FnOk P w K mg base (L2.CX P w) 2 f fd ["self", "place"] (sp_einit CE) := by
  refine F.okX SC_Edge__init_ (fun vs H Q E h => ?_) (fun cdv A outer s H vs Q E hr h => ?_)
  · obtain ⟨x, dx, t, pl, rfl, _⟩ := h
    rfl
  · obtain ⟨x, dx, t, pl, rfl, hx, ht, ok, k⟩ := h
    refine ⟨_, (pss_cons (ps_fld (pv 0) (pv 1) rfl)
      (pss_cons (ps_fld (pv 0) pe_non rfl)
      (pss_one (ps_if (pt_cmpR op_eq (pe_callB call_len_seq (by rfl) T.b_len (by decide +kernel) (pa_cons (pv 1) pa_nil)) pe_int (nomark _)) (pss_one (ps_fld (pv 0) (pe_tupN (pa_cons (pe_op op_sub pe_int (pe_ix ix_tup (pv 1) pe_int (fun _ _ => rfl))) (pa_cons (pe_ix ix_tup (pv 1) pe_int (fun _ _ => rfl)) (pa_cons (pe_callC C_inner (hr.mono (by decide)) rfl (pa_cons (pv 1) pa_nil)) (pa_cons (pe_op op_mulW pe_int (pe_ix ix_tup (pv 1) pe_int (fun _ _ => rfl))) pa_nil))))) rfl)) pss_nil)))), ?_⟩
    have ne : t ≠ x := fun e => by rw [e, hx] at ht; cases ht
    walk_at "kb"
    refine ⟨x, CE, dx, _, rfl, hx, Re.ins.cl, Re.n1, by show 0 < 1000; decide, ?_⟩
    walk_at "kb"
    refine ⟨x, CE, dx, _, rfl, upd_same, Re.ins.cl, Re.n2, by show 1 < 1000; decide, ?_⟩
    have ht' : ∀ o1 o2, (upd (upd H x o1) x o2) t = some (.tup (pl.map V.int)) := fun o1 o2 => by rw [upd_ne ne, upd_ne ne]; exact ht
    have kpx : ∀ o1 o2 a o, a ≠ x → H a = some o → (upd (upd H x o1) x o2) a = some o := fun o1 o2 a o n e => by rw [upd_ne n, upd_ne n]; exact e
    refine ⟨_, rfl, t, pl.map V.int, rfl, .inr (SqT.of (ht' _ _)), ?_⟩
    walk_at "kb"
    rcases ok with ⟨a, b, rfl⟩ | ⟨a, b, c, sd, rfl, ba, bb, bc⟩
    · refine ifF rfl ?_
      exact k _ (kpx _ _) ⟨dx, t, _, upd_same, ef1 _ _, ef2 _ _, ht' _ _⟩
    · refine ifT rfl ?_
      have W := (Ho.start (upd (upd H x (.ins CE dx (putF "place" (.ref t) []))) x (.ins CE dx (putF "numbers" .non (putF "place" (.ref t) []))))).call (Same.refl _) (ht' _ _)
      have W2 := W.add (p := x) upd_same
      clear W
      walk_at "kw"
      refine ⟨t, a, b, c, sd, rfl, W2.get (o := .tup [.int a, .int b, .int c, .int sd]) (.tail _ (.head _)), ba, bb, bc, ?_⟩
      walk_at "kw"
      rename_i m H3 f3 W3
      refine ⟨x, CE, dx, _, rfl, W3.get (.tail _ (.head _)), Re.ins.cl, Re.n2, by show 2 < 1000; decide, ?_⟩
      have xm : x ≠ m := fun e => by
        have h1 := W3.get (.head _)
        have h2 := W3.get (.tail _ (.head _))
        rw [← e, h2] at h1
        cases h1
      refine k _ (fun a o n e => by rw [upd_ne n]; exact W3.sm _ _ (kpx _ _ a o n e)) ⟨dx, t, m, _, upd_same, ef1' _ _, ef2' _ _, ?_, ?_⟩
      · rw [upd_ne ne]
        exact W3.get (.tail _ (.tail _ (.head _)))
      · rw [upd_ne (Ne.symm xm)]
        exact W3.get (.head _)
theorem ok_eof {f C CE : Addr} {fd : FuncData} (F : Fun K "of" "Edge.of" S_Edge_of f fd) (T : Txt K mg) (R : RatT K mg C) (C_edgeX : MkC P w K mg base (L2.CX P w) 2 CE "Edge" ["self", "place"] (sp_einit CE)) : FnOk P w K mg base (L2.CX P w) 4 f fd ["cls", "ratio"] (sp_eof C CE) := by
  refine F.okX SC_Edge_of (fun vs H Q E h => ?_) (fun cdv A outer s H vs Q E hr h => ?_)
  · obtain ⟨p, a, b, rfl, _⟩ := h
    rfl
  · obtain ⟨p, a, b, rfl, ⟨dp, hp⟩, k⟩ := h
    refine ⟨_, (pss_one (ps_ret (pe_makeL (i := 0) C_edgeX (hr.mono (by decide)) (takes_of rfl rfl rfl rfl) rfl (.inl rfl) (pa_cons (pe_tupN (pa_cons (pe_fld (pv 1) rfl) (pa_cons (pe_fld (pv 1) rfl) pa_nil))) pa_nil)))), ?_⟩
    refine ⟨rfl, _, rfl, p, C, dp, _, _, rfl, hp, R.ins.cl, R.n1, rf1 _ _, _, rfl, p, C, dp, _, _, rfl, hp, R.ins.cl, R.n2, rf2 _ _, by show 2 ≤ 1000000; decide, fun t H1 ht s1 ht1 => ?_⟩
    exact fun x dx hx hdx hne => mk_edge (pl := [a, b]) ht1 (.inl ⟨_, _, rfl⟩) hx hdx hne fun H' s' h' => k x H' (s1.free hx) (s1.trans s') h'
theorem ok_zero {f CE : Addr} {fd : FuncData} (F : Fun K "zero" "Edge.zero" S_Edge_zero f fd) (T : Txt K mg) (C_edgeX : MkC P w K mg base (L2.CX P w) 2 CE "Edge" ["self", "place"] (sp_einit CE)) : FnOk P w K mg base (L2.CX P w) 4 f fd ["cls"] (sp_ecm CE [0, 1]) := by
  refine F.okX SC_Edge_zero (fun vs H Q E h => ?_) (fun cdv A outer s H vs Q E hr h => ?_)
  · obtain ⟨rfl, _⟩ := h
    rfl
  · obtain ⟨rfl, k⟩ := h
    refine ⟨_, (pss_one (ps_ret (pe_makeL (i := 0) C_edgeX (hr.mono (by decide)) (takes_of rfl rfl rfl rfl) rfl (.inl rfl) (pa_cons (pe_tupN (pa_cons pe_int (pa_cons pe_int pa_nil))) pa_nil)))), ?_⟩
    refine ⟨rfl, by show 2 ≤ 1000000; decide, fun t H1 ht s1 ht1 => ?_⟩
    exact fun x dx hx hdx hne => mk_edge (pl := [0, 1]) ht1 (.inl ⟨_, _, rfl⟩) hx hdx hne fun H' s' h' => k x H' (s1.free hx) (s1.trans s') h'
theorem ok_endless {f CE : Addr} {fd : FuncData} (F : Fun K "endless" "Edge.endless" S_Edge_endless f fd) (T : Txt K mg) (C_edgeX : MkC P w K mg base (L2.CX P w) 2 CE "Edge" ["self", "place"] (sp_einit CE)) : FnOk P w K mg base (L2.CX P w) 4 f fd ["cls"] (sp_ecm CE [1, 0]) := by
  refine F.okX SC_Edge_endless (fun vs H Q E h => ?_) (fun cdv A outer s H vs Q E hr h => ?_)
  · obtain ⟨rfl, _⟩ := h
    rfl
  · obtain ⟨rfl, k⟩ := h
    refine ⟨_, (pss_one (ps_ret (pe_makeL (i := 0) C_edgeX (hr.mono (by decide)) (takes_of rfl rfl rfl rfl) rfl (.inl rfl) (pa_cons (pe_tupN (pa_cons pe_int (pa_cons pe_int pa_nil))) pa_nil)))), ?_⟩
    refine ⟨rfl, by show 2 ≤ 1000000; decide, fun t H1 ht s1 ht1 => ?_⟩
    exact fun x dx hx hdx hne => mk_edge (pl := [1, 0]) ht1 (.inl ⟨_, _, rfl⟩) hx hdx hne fun H' s' h' => k x H' (s1.free hx) (s1.trans s') h'
end

local macro_rules | `(tactic| walk_at "flk") => `(tactic| first | assumption)
local macro_rules | `(tactic| walk_at "cls") => `(tactic| first | exact EdgT.cl (by assumption))
local macro_rules | `(tactic| walk_at "noat") => `(tactic| first | exact EdgT.n1 (by assumption) | exact EdgT.n2 (by assumption))

/-! ## the edge at a number with a root -/
namespace Ed
def isIi (v : V) : Bool := isI v && !isB v
theorem isIi_int {v : V} (h : isIi v = true) : ∃ i, v = .int i := by cases v <;> first | exact ⟨_, rfl⟩ | cases h
def nrm (r p : Int) : Int := if r < 0 then -p else p
def rootPl (p q d r s : Int) : List Int := if q = 0 ∨ s * s = d then [(p + q * s) / (Int.gcd (p + q * s) r : Nat), r / (Int.gcd (p + q * s) r : Nat)] else lwd (r * r) (-2 * p * r) (p * p - q * q * d) (if 0 < q then 1 else -1)
def sp_eroot (CE IE : Addr) (K : PySem.W.Frag) : Sp := fun vs H Q E => ∃ u1 u2 u3 u4 : V, vs = [.ref CE, u1, u2, u3, u4] ∧ (Kd K H u1 ∧ Kd K H u2 ∧ Kd K H u3 ∧ Kd K H u4) ∧
  (∀ p q d r, u1 = .int p → u2 = .int q → u3 = .int d → u4 = .int r → (Bd 100 p ∧ Bd 100 q ∧ Bd 100 d ∧ Bd 100 r) ∧ ((d < 0 ∨ r = 0 ∨ swr (nrm r p) (nrm r q) d ≤ 0) → ∀ H', Same H H' → E (.ref IE) none H') ∧
    (0 ≤ d → r ≠ 0 → 0 < swr (nrm r p) (nrm r q) d → ∀ s, 0 ≤ s → s * s ≤ d → d < (s + 1) * (s + 1) → ∀ e H', H e = none → Same H H' → EdgeAt CE H' e (rootPl (nrm r p) (nrm r q) d (nrm r r) s) → Q (.ref e) H')) ∧
  ((isIi u1 && isIi u2 && isIi u3 && isIi u4) = false → ∀ H', Same H H' → E (.ref IE) none H')
theorem Bd.nrm {n : Nat} {r p : Int} (h : Bd n p) : Bd n (nrm r p) := by
  unfold Ed.nrm
  split
  · exact h.neg
  · exact h
theorem sq_bd {s d : Int} (h0 : 0 ≤ s) (h : s * s ≤ d) (bd : Bd 100 d) : Bd 100 s := by
  have : s * 1 ≤ s * s ∨ s = 0 := by
    by_cases e : s = 0
    · exact .inr e
    · exact .inl (Int.mul_le_mul_of_nonneg_left (by omega) h0)
  unfold Bd at *
  generalize 2 ^ 100 = z at *
  rcases this with h1 | h1 <;> omega
end Ed
section
variable {P : Program} {w : World} {K : PySem.W.Frag} {mg : Str → Option Value} {base : Heap}
theorem ok_eroot {f CE IE : Addr} {fd : FuncData} (F : Fun K "root" "Edge.root" S_Edge_root f fd) (T : Txt K mg) (E_InvalidEdge : ErC P w K mg base "InvalidEdge" IE) (C_isint : FnC P w K mg base CX0 1 "is_integer" ["value"] (sp_isint K)) (C_swr : FnC P w K mg base CX0 2 "sign_with_root" ["one", "times", "inner"] sp_swr)
    (C_wr : FnC P w K mg base CX0 1 "whole_root" ["number"] sp_wr) (C_com : FnC P w K mg base CX0 1 "common" ["one", "other"] sp_com) (C_low : FnC P w K mg base CX0 2 "lowered" ["a", "b", "c", "side"] sp_low) (C_edgeX : MkC P w K mg base (L2.CX P w) 2 CE "Edge" ["self", "place"] (sp_einit CE)) :
    FnOk P w K mg base (L2.CX P w) 4 f fd ["cls", "p", "q", "d", "r"] (sp_eroot CE IE K) := by
  refine F.okX SC_Edge_root (fun vs H Q E h => ?_) (fun cdv A outer s H vs Q E hr h => ?_)
  · obtain ⟨u1, u2, u3, u4, rfl, _⟩ := h
    rfl
  · obtain ⟨u1, u2, u3, u4, rfl, ⟨k1, k2, k3, k4⟩, ok, bad⟩ := h
    refine ⟨_, (pss_cons (ps_if (PW.pt (pw_or (pt_not (pt_val (pe_callB (cr_all rfl) (by rfl) T.b_all (by decide +kernel) (pa_cons (pe_lc (own := [("value", 8)]) (g := gName 8) (by rfl) SC_Edge_root.nd (pi_tup (pe_tupN (pa_cons (pv 1) (pa_cons (pv 2) (pa_cons (pv 3) (pa_cons (pv 4) pa_nil)))))) (blkOk_by (own := [("value", 8)]) (N := N_Edge_root) (sc := defScope S_Edge_root) (by decide +kernel)) (fun _ _ _ _ _ => pg_name (i := 8) SC_Edge_root.nd rfl (Or.inl rfl)) (fun _ _ _ _ _ => pts_nil) (fun _ _ _ _ _ => (pe_callC C_isint (hr.mono (by decide)) rfl (pa_cons (pv 8) pa_nil)))) pa_nil)))) (pw_or (pt_cmpR op_lt (pv 3) pe_int (nomark _)) (pw_or1 (pt_cmpR op_eq (pv 4) pe_int (nomark _)))))) (pss_one (ps_raise0 E_InvalidEdge (hr.mono (by decide)) rfl (takes_of rfl rfl rfl rfl) rfl)) pss_nil)
      (pss_mid (ps_if (pt_cmpR op_lt (pv 4) pe_int (nomark _)) (pss_one (ps_par3 (i := 1) (j := 2) (l := 4) (by rfl) SC_Edge_root.nd rfl rfl rfl (by decide) (by decide) (by decide) rfl rfl rfl (pa_cons (pe_un un_neg (pv 1)) (pa_cons (pe_un un_neg (pv 2)) (pa_cons (pe_un un_neg (pv 4)) pa_nil))) (by rfl))) pss_nil)
      (pss_cons (ps_if (pt_cmpR op_le (pe_callC C_swr (hr.mono (by decide)) rfl (pa_cons (pv 1) (pa_cons (pv 2) (pa_cons (pv 3) pa_nil)))) pe_int (nomark _)) (pss_one (ps_raise0 E_InvalidEdge (hr.mono (by decide)) rfl (takes_of rfl rfl rfl rfl) rfl)) pss_nil)
      (pss_cons (ps_set (i := 5) SC_Edge_root.nd rfl (.inl rfl) (pe_callC C_wr (hr.mono (by decide)) rfl (pa_cons (pv 3) pa_nil)))
      (pss_cons (ps_if (PW.pt (pw_or (pt_cmpR op_eq (pv 2) pe_int (nomark _)) (pw_or1 (pt_cmpR op_eq (pe_op op_mulW (pv 5) (pv 5)) (pv 3) (nomark _))))) (pss_cons (ps_set (i := 6) SC_Edge_root.nd rfl (.inl rfl) (pe_op op_add (pv 1) (pe_op op_mulW (pv 2) (pv 5))))
      (pss_cons (ps_set (i := 7) SC_Edge_root.nd rfl (.inl rfl) (pe_callC C_com (hr.mono (by decide)) rfl (pa_cons (pv 6) (pa_cons (pv 4) pa_nil))))
      (pss_one (ps_ret (pe_makeL (i := 0) C_edgeX (hr.mono (by decide)) (takes_of rfl rfl rfl rfl) rfl (.inl rfl) (pa_cons (pe_tupN (pa_cons (pe_op op_fdivW (pv 6) (pv 7)) (pa_cons (pe_op op_fdivW (pv 4) (pv 7)) pa_nil))) pa_nil)))))) pss_nil)
      (pss_one (ps_ret (pe_makeL (i := 0) C_edgeX (hr.mono (by decide)) (takes_of rfl rfl rfl rfl) rfl (.inl rfl) (pa_cons (pe_callC C_low (hr.mono (by decide)) rfl (pa_cons (pe_op op_mulW (pv 4) (pv 4)) (pa_cons (pe_op op_mulW (pe_op op_mulW (pe_un un_neg pe_int) (pv 1)) (pv 4)) (pa_cons (pe_op op_sub (pe_op op_mulW (pv 1) (pv 1)) (pe_op op_mulW (pe_op op_mulW (pv 2) (pv 2)) (pv 3))) (pa_cons (pe_ifExp (pt_cmpR op_gt (pv 2) pe_int (nomark _)) pe_int (pe_un un_neg pe_int)) pa_nil))))) pa_nil))))))))), ?_⟩
    walk_at "kw"
    refine Ho.nw (Ho.start H) fun q1 H1 f1 W1 => ?_
    walk_at "kw"
    refine ⟨⟨_, SqT.of (W1.get (.head _))⟩, fun D hD => ?_⟩
    have qD : q1 ≠ D := ne_of_none (W1.get (.head _)) hD
    have each : ∀ (i : Nat) v, [u1, u2, u3, u4][i]? = some v → Kd K H1 v := fun i v h => by
      match i, h with
      | 0, h => cases h; exact k1.same W1.sm
      | 1, h => cases h; exact k2.same W1.sm
      | 2, h => cases h; exact k3.same W1.sm
      | 3, h => cases h; exact k4.same W1.sm
      | i + 4, h => simp at h
    refine lcR_tp (xs := [u1, u2, u3, u4]) (fun i H' => (∀ b o, b ≠ D → H1 b = some o → H' b = some o) ∧ H' D = some (.lst ((([u1, u2, u3, u4].take i).map isIi).map V.bl))) ⟨fun b o n e => by rw [upd_ne n]; exact e, upd_same⟩
      (fun i H' _ m => SqT.of (m.1 q1 _ qD (W1.get (.head _)))) (fun i v H2 hi m => ?_) (gName_mono _) (fun H2 m => ?_)
    · obtain ⟨kp, hH⟩ := m
      have kd1 : Kd K H2 v := (each i v hi).at fun a o e h => kp a o (ne_of_none h hD) h
      refine ⟨rfl, _, rfl, v, rfl, kd1, _, hH, ?_, fun b o n e => by rw [upd_ne n]; exact kp b o n e, ?_⟩
      · rw [List.length_map, List.length_map, List.length_take]
        exact szs (Nat.le_trans (Nat.min_le_right _ _) (by show 4 ≤ 1000000; decide))
      · rw [upd_same, List.take_succ, hi, List.map_append, List.map_append]; rfl
    · obtain ⟨kp, hH⟩ := m
      have W2 : Ho H H2 [] := ⟨(W1.inD hD kp).sm, fun _ h => nomatch h⟩
      have hH' : H2 D = some (.lst (([u1, u2, u3, u4].map isIi).map V.bl)) := hH
      clear hH
      refine ⟨_, _, rfl, SqL.of hH', ?_⟩
      refine ⟨_, rfl, ?_⟩
      show if (!(([u1, u2, u3, u4].map isIi).all id)) = true then _ else _
      have eall : ([u1, u2, u3, u4].map isIi).all id = (isIi u1 && isIi u2 && isIi u3 && isIi u4) := by
        show (isIi u1 && (isIi u2 && (isIi u3 && (isIi u4 && true)))) = _
        cases isIi u1 <;> cases isIi u2 <;> cases isIi u3 <;> cases isIi u4 <;> rfl
      rw [eall]
      by_cases g : (isIi u1 && isIi u2 && isIi u3 && isIi u4) = true
      · rw [g]
        refine ifF rfl ?_
        have gg := g
        simp only [Bool.and_eq_true] at gg
        obtain ⟨p, rfl⟩ := isIi_int gg.1.1.1
        obtain ⟨q, rfl⟩ := isIi_int gg.1.1.2
        obtain ⟨d, rfl⟩ := isIi_int gg.1.2
        obtain ⟨r, rfl⟩ := isIi_int gg.2
        obtain ⟨⟨bp, bq, bd, br⟩, bad', good⟩ := ok p q d r rfl rfl rfl rfl
        clear each k1 k2 k3 k4 g gg eall ok bad
        walk_at "kw"
        refine ite2 (fun h => ?_) (fun h => ?_)
        · exact bad' (.inl (of_decide_eq_true h)) _ W2.sm
        have d0 : 0 ≤ d := by have : ¬ d < 0 := fun e => h (decide_eq_true e)
                              omega
        clear h
        walk_at "kw"
        refine ite2 (fun h => ?_) (fun h => ?_)
        · exact bad' (.inr (.inl (V.int.inj (of_decide_eq_true h)))) _ W2.sm
        have r0 : r ≠ 0 := fun e => h (decide_eq_true (congrArg V.int e))
        clear h
        refine ⟨fun σ' H' => H' = H2 ∧ σ' = [some (.ref CE), some (.int (nrm r p)), some (.int (nrm r q)), some (.int d), some (.int (nrm r r)), none, none, none, none], ?_, fun σ1 H3 z => ?_⟩
        · walk_at "kw"
          unfold nrm
          refine ite2 (fun h => ?_) (fun h => ?_)
          · have h' : r < 0 := of_decide_eq_true h
            rw [if_pos h', if_pos h', if_pos h']
            walk_at "kw"
            exact ⟨_, _, _, rfl, rfl, rfl⟩
          · have h' : ¬ r < 0 := fun e => h (decide_eq_true e)
            rw [if_neg h', if_neg h', if_neg h']
            exact ⟨rfl, rfl⟩
        obtain ⟨rfl, rfl⟩ := z
        have r1 : 0 < nrm r r := by unfold nrm; split <;> omega
        have bp' := Bd.nrm (r := r) bp
        have bq' := Bd.nrm (r := r) bq
        have br' := Bd.nrm (r := r) br
        generalize nrm r p = p' at *
        generalize nrm r q = q' at *
        generalize nrm r r = r' at *
        walk_at "kw"
        refine ite2 (fun h => ?_) (fun h => ?_)
        · exact bad' (.inr (.inr (of_decide_eq_true h))) _ W2.sm
        have w0 : 0 < swr p' q' d := by have : ¬ swr p' q' d ≤ 0 := fun e => h (decide_eq_true e)
                                        omega
        clear h
        walk_at "kw"
        refine fun sq s0 s1 s2 => ?_
        have bs := sq_bd s0 s1 bd
        have fin := good d0 r0 w0 sq s0 s1 s2
        clear good
        unfold rootPl at fin
        walk_at "kw"
        have b1' : Bd 400 (r' * r') := (br'.mul br').mono (by decide)
        have b2' : Bd 400 (-2 * p' * r') := (((Bd.lit (i := -2) (by decide)).mul bp').mul br').mono (by decide)
        have b3' : Bd 400 (p' * p' - q' * q' * d) := ((bp'.mul bp').sub ((bq'.mul bq').mul bd)).mono (by decide)
        have b1 := b1'.mono (show 400 ≤ 800 by decide)
        have b2 := b2'.mono (show 400 ≤ 800 by decide)
        have b3 := b3'.mono (show 400 ≤ 800 by decide)
        refine ite2 (fun h => ?_) (fun h => ?_)
        · have hz' : q' = 0 ∨ sq * sq = d := .inl (V.int.inj (of_decide_eq_true h))
          rw [if_pos hz'] at fin
          have g0 : 0 < ((Int.gcd (p' + q' * sq) r' : Nat) : Int) := by
            have := Int.gcd_pos_of_ne_zero_right (p' + q' * sq) (show r' ≠ 0 by omega)
            omega
          walk_at "kw"
          rename_i t3 H3' f3 W3
          exact fun x dx hx hdx hne => mk_edge (W3.get (.head _)) (.inl ⟨_, _, rfl⟩) hx hdx hne fun H' s' h' => fin x H' (W3.sm.free hx) (W3.sm.trans s') h'
        have hq0 : q' ≠ 0 := fun e => h (decide_eq_true (congrArg V.int e))
        clear h
        walk_at "kw"
        refine ite2 (fun h => ?_) (fun h => ?_)
        · have hz' : q' = 0 ∨ sq * sq = d := .inr (V.int.inj (of_decide_eq_true h))
          rw [if_pos hz'] at fin
          have g0 : 0 < ((Int.gcd (p' + q' * sq) r' : Nat) : Int) := by
            have := Int.gcd_pos_of_ne_zero_right (p' + q' * sq) (show r' ≠ 0 by omega)
            omega
          walk_at "kw"
          rename_i t3 H3' f3 W3
          exact fun x dx hx hdx hne => mk_edge (W3.get (.head _)) (.inl ⟨_, _, rfl⟩) hx hdx hne fun H' s' h' => fin x H' (W3.sm.free hx) (W3.sm.trans s') h'
        have hs0 : sq * sq ≠ d := fun e => h (decide_eq_true (congrArg V.int e))
        clear h
        rw [if_neg (fun z => z.elim hq0 hs0)] at fin
        walk_at "kw"
        refine ite2 (fun h => ?_) (fun h => ?_)
        · rw [if_pos (of_decide_eq_true h)] at fin
          walk_at "kw"
          · skip
            refine ⟨_, _, _, _, rfl, Int.ne_of_gt (Int.mul_pos r1 r1), b1, b2, b3, ?_⟩
            refine Ho.nw W2 fun t3 H3' f3 W3 => ?_
            walk_at "kw"
            exact fun x dx hx hdx hne => mk_edge (pl := lwd _ _ _ _) (W3.get (.head _)) (.inr ⟨_, _, _, _, rfl, (Bd.fdiv _ b1').mono (by decide), (Bd.fdiv _ b2').mono (by decide), (Bd.fdiv _ b3').mono (by decide)⟩) hx hdx hne fun H' s' h' => fin x H' (W3.sm.free hx) (W3.sm.trans s') h'
        · rw [if_neg (fun e => h (decide_eq_true e))] at fin
          walk_at "kw"
          · skip
            refine ⟨_, _, _, _, rfl, Int.ne_of_gt (Int.mul_pos r1 r1), b1, b2, b3, ?_⟩
            refine Ho.nw W2 fun t3 H3' f3 W3 => ?_
            walk_at "kw"
            exact fun x dx hx hdx hne => mk_edge (pl := lwd _ _ _ _) (W3.get (.head _)) (.inr ⟨_, _, _, _, rfl, (Bd.fdiv _ b1').mono (by decide), (Bd.fdiv _ b2').mono (by decide), (Bd.fdiv _ b3').mono (by decide)⟩) hx hdx hne fun H' s' h' => fin x H' (W3.sm.free hx) (W3.sm.trans s') h'
      · rw [Bool.not_eq_true] at g
        rw [g]
        refine ifT rfl ?_
        exact bad g _ W2.sm
end

/-! ## the law's own numbers with roots -/
namespace Lr
def sp_lsr : Sp := fun vs H Q _ => ∃ a b c : Int, vs = [.int a, .int b, .int c] ∧ Bd 400 a ∧ Bd 400 b ∧ Bd 400 c ∧ 0 ≤ c ∧ Q (.int (swr a b c)) H
def isq (n : Int) : Prop := ∃ s : Int, 0 ≤ s ∧ s * s = n
def sp_lsq : Sp := fun vs H Q _ => ∃ n : Int, vs = [.int n] ∧ 0 ≤ n ∧ Bd 300 n ∧ (isq n → Q (.bl true) H) ∧ (¬ isq n → Q (.bl false) H)
def sp_lroot : Sp := fun vs H Q _ => ∃ (b : Addr) (m : Int), vs = [.ref b, .int m] ∧ BoxAt H b ∧ 0 < m ∧ m ≤ 1000 ∧ ∀ (t : Addr) (H' : Hp) (p q d r : Int), H t = none → t ≠ b → Keep b H H' → BoxAt H' b → H' t = some (.tup [.int p, .int q, .int d, .int r]) →
  -2000 ≤ p → p ≤ 2000 → -4 ≤ q → q ≤ 4 → 0 ≤ d → d ≤ 20 → 1 ≤ r → r ≤ 6 → 0 < swr p q d → Q (.ref t) H'
def sp_lfrac : Sp := fun vs H Q _ => ∃ (t : Addr) (p q d r : Int), vs = [.ref t] ∧ H t = some (.tup [.int p, .int q, .int d, .int r]) ∧ 0 ≤ d ∧ 0 < r ∧ (Bd 100 p ∧ Bd 100 q ∧ Bd 100 d ∧ Bd 100 r) ∧
  (q ≠ 0 → ¬ isq d → Q .non H) ∧ (∀ s, 0 ≤ s → s * s ≤ d → d < (s + 1) * (s + 1) → (q = 0 ∨ s * s = d) → New H (.tup [.int ((p + q * s) / (Int.gcd (p + q * s) r : Nat)), .int (r / (Int.gcd (p + q * s) r : Nat))]) Q)
def sp_lsame : Sp := fun vs H Q _ => ∃ (t t' : Addr) (p q d r a b c e : Int), vs = [.ref t, .ref t'] ∧ H t = some (.tup [.int p, .int q, .int d, .int r]) ∧ H t' = some (.tup [.int a, .int b, .int c, .int e]) ∧
  ((Bd 800 p ∧ Bd 800 q ∧ Bd 2000 d ∧ Bd 800 r) ∧ (Bd 800 a ∧ Bd 800 b ∧ Bd 800 c ∧ Bd 800 e)) ∧ p * e = a * r ∧ sg q * sg r = sg b * sg e ∧ q * q * d * e * e = b * b * c * r * r ∧ Q (.bl true) H
def lst (p q d r : Int) : Prop := (q = 1 ∨ q = -1) ∧ 2 ≤ r ∧ r % 2 = 0 ∧ 2 ≤ d ∧ ¬ isq d ∧ (p * p - d) % (2 * r) = 0 ∧ Int.gcd (Int.gcd (r / 2) p) ((p * p - d) / (2 * r)) = 1
def sp_lleast (K : PySem.W.Frag) : Sp := fun vs H Q _ => ∃ (t : Addr) (p q d r : Int), vs = [.ref t] ∧ H t = some (.tup [.int p, .int q, .int d, .int r]) ∧ (Bd 290 p ∧ Bd 290 d ∧ Bd 290 r) ∧ lst p q d r ∧ ∀ H', Same H H' → Q (.bl true) H'
theorem sq_un {s t n : Int} (s0 : 0 ≤ s) (s1 : s * s ≤ n) (s2 : n < (s + 1) * (s + 1)) (t0 : 0 ≤ t) (t1 : t * t = n) : s * s = n := by
  rcases Int.lt_trichotomy s t with h | h | h
  · have : (s + 1) * (s + 1) ≤ t * t := Int.mul_le_mul (by omega) (by omega) (by omega) (by omega)
    omega
  · rw [h, t1]
  · have : (t + 1) * (t + 1) ≤ s * s := Int.mul_le_mul (by omega) (by omega) (by omega) (by omega)
    have e : (t + 1) * (t + 1) = t * t + 2 * t + 1 := by grind
    omega
end Lr
open Lr
section
variable {P : Program} {w : World} {K : PySem.W.Frag} {mg : Str → Option Value} {base : Heap}
theorem ok_lsign {f : Addr} {fd : FuncData} (F : Fun K "_law_sign" "_law_sign" S__law_sign f fd) (T : Txt K mg) : FnOk P w K mg base CX0 1 f fd ["_law_number"] sp_sign := by
  refine F.ok SC__law_sign (fun vs H Q E h => ?_) (fun cdv A outer s H vs Q E hr h => ?_)
  · obtain ⟨i, rfl, _⟩ := h
    rfl
  · obtain ⟨i, rfl, q⟩ := h
    refine ⟨_, (pss_one (ps_ret (pe_op op_sub (pe_callTy call_intB (by rfl) T.b_int (by decide +kernel) (pa_cons (pe_cmpR op_gt (pv 0) pe_int (nomark _)) pa_nil)) (pe_callTy call_intB (by rfl) T.b_int (by decide +kernel) (pa_cons (pe_cmpR op_lt (pv 0) pe_int (nomark _)) pa_nil))))), ?_⟩
    walk_at "kw"
    exact q
theorem ok_lgcd {f : Addr} {fd : FuncData} (F : Fun K "_law_gcd" "_law_gcd" S__law_gcd f fd) (T : Txt K mg) : FnOk P w K mg base CX0 1 f fd ["_law_one", "_law_other"] sp_com := by
  refine F.ok SC__law_gcd (fun vs H Q E h => ?_) (fun cdv A outer s H vs Q E hr h => ?_)
  · obtain ⟨i, j, rfl, _⟩ := h
    rfl
  · obtain ⟨i, j, rfl, q⟩ := h
    refine ⟨_, (pss_cons (ps_par (i := 0) (j := 1) (by rfl) SC__law_gcd.nd rfl rfl (by decide) rfl rfl (pa_cons (pe_callB call_abs (by rfl) T.b_abs (by decide +kernel) (pa_cons (pv 0) pa_nil)) (pa_cons (pe_callB call_abs (by rfl) T.b_abs (by decide +kernel) (pa_cons (pv 1) pa_nil)) pa_nil)) (by rfl))
      (pss_cons (ps_while PassesOwn.never (pt_cmpR op_ne (pv 1) pe_int (nomark _)) (pss_one (ps_par (i := 0) (j := 1) (by rfl) SC__law_gcd.nd rfl rfl (by decide) rfl rfl (pa_cons (pv 1) (pa_cons (pe_op op_mod (pe_callTy call_intI (by rfl) T.b_int (by decide +kernel) (pa_cons (pv 0) pa_nil)) (pv 1)) pa_nil)) (by rfl))))
      (pss_one (ps_ret (pv 0))))), ?_⟩
    walk_at "kw"
    refine while_by (fun σ H' => H' = H ∧ ∃ x y : Int, 0 ≤ x ∧ 0 ≤ y ∧ Int.gcd x y = Int.gcd i j ∧ σ = [some (.int x), some (.int y)]) (fun σ _ => match σ with | [_, some (.int y)] => y.toNat | _ => 0)
      ⟨rfl, _, _, by omega, by omega, by show Nat.gcd _ _ = Nat.gcd _ _; congr 1 <;> split <;> omega, rfl⟩ (fun σ H1 hP => ?_) (fun σ H Q Q' h q => ?_)
    · obtain ⟨rfl, x, y, hx, hy, hg, rfl⟩ := hP
      walk_at "kw"
      refine ite2 (fun h => ?_) (fun h => ?_)
      · have hy0 : 0 < y := by
          have : y ≠ 0 := fun e => by subst e; exact absurd h (by decide)
          omega
        walk_at "kw"
        refine ⟨⟨rfl, y, x % y, by omega, Int.emod_nonneg _ (by omega), ?_, rfl⟩, ?_⟩
        · rw [← hg]; exact gcd_step hx hy
        · show (x % y).toNat < y.toNat
          have := Int.emod_lt_of_pos x hy0
          omega
      · have hy0 : y = 0 := by
          have : decide (V.int y = V.int 0) = true := by simpa using h
          exact V.int.inj (of_decide_eq_true this)
        subst hy0
        refine ⟨_, rfl, ?_⟩
        have e : x = ((Int.gcd i j : Nat) : Int) := by rw [← hg, Int.gcd_zero_right]; omega
        rw [e]
        exact q
    · obtain ⟨v, h1, e, v2, e2, q⟩ := q
      exact ⟨v, h1, e, v2, e2, h _ _ q⟩
theorem ok_lsr {f : Addr} {fd : FuncData} (F : Fun K "_law_sign_root" "_law_sign_root" S__law_sign_root f fd) (T : Txt K mg) (C_lsign : FnC P w K mg base CX0 1 "_law_sign" ["_law_number"] sp_sign) : FnOk P w K mg base CX0 2 f fd ["_law_one", "_law_times", "_law_inner"] sp_lsr := by
  refine F.ok SC__law_sign_root (fun vs H Q E h => ?_) (fun cdv A outer s H vs Q E hr h => ?_)
  · obtain ⟨a, b, c, rfl, _⟩ := h
    rfl
  · obtain ⟨a, b, c, rfl, ba, bb, bc, c0, q⟩ := h
    refine ⟨_, (pss_cons (ps_par (i := 3) (j := 4) (by rfl) SC__law_sign_root.nd rfl rfl (by decide) rfl rfl (pa_cons (pe_callC C_lsign (hr.mono (by decide)) rfl (pa_cons (pv 0) pa_nil)) (pa_cons (pe_op op_mulW (pe_callC C_lsign (hr.mono (by decide)) rfl (pa_cons (pv 1) pa_nil)) (pe_callTy call_intB (by rfl) T.b_int (by decide +kernel) (pa_cons (pe_cmpR op_gt (pv 2) pe_int (nomark _)) pa_nil))) pa_nil)) (by rfl))
      (pss_cons (ps_if (PW.pt (pw_or (pt_cmpR op_eq (pv 3) (pv 4) (nomark _)) (pw_or1 (pt_cmpR op_eq (pv 4) pe_int (nomark _))))) (pss_one (ps_ret (pv 3))) pss_nil)
      (pss_cons (ps_if (pt_cmpR op_eq (pv 3) pe_int (nomark _)) (pss_one (ps_ret (pv 4))) pss_nil)
      (pss_one (ps_ret (pe_op op_mulW (pv 3) (pe_callC C_lsign (hr.mono (by decide)) rfl (pa_cons (pe_op op_sub (pe_op op_mulW (pv 0) (pv 0)) (pe_op op_mulW (pe_op op_mulW (pv 1) (pv 1)) (pv 2))) pa_nil)))))))), ?_⟩
    have ec : sg c = (if decide (0 < c) = true then 1 else 0) := by
      rcases sg_c c with ⟨h1, h2⟩ | ⟨h1, h2⟩ | ⟨h1, h2⟩
      · rw [h2, decide_eq_true h1]; rfl
      · rw [h2, h1]; rfl
      · omega
    have b01 : Bd 64 (if decide (0 < c) = true then 1 else 0 : Int) := by split <;> exact Bd.lit (by decide)
    unfold swr at q
    rw [ec] at q
    walk_at "kw"
    refine ite2 (fun h => ?_) (fun h => ?_)
    · rw [if_pos (.inl (V.int.inj (of_decide_eq_true h)))] at q
      exact ⟨_, rfl, q⟩
    have n1 : ¬ sg a = sg b * (if decide (0 < c) = true then 1 else 0) := fun e => h (decide_eq_true (congrArg V.int e))
    walk_at "kw"
    refine ite2 (fun h => ?_) (fun h => ?_)
    · rw [if_pos (.inr (V.int.inj (of_decide_eq_true h)))] at q
      exact ⟨_, rfl, q⟩
    have n2 : ¬ sg b * (if decide (0 < c) = true then 1 else 0) = 0 := fun e => h (decide_eq_true (congrArg V.int e))
    rw [if_neg (fun z => z.elim n1 n2)] at q
    walk_at "kw"
    refine ite2 (fun h => ?_) (fun h => ?_)
    · rw [if_pos (V.int.inj (of_decide_eq_true h))] at q
      exact ⟨_, rfl, q⟩
    rw [if_neg (fun e => h (decide_eq_true (congrArg V.int e)))] at q
    walk_at "kw"
    exact q
theorem ok_lwr {f : Addr} {fd : FuncData} (F : Fun K "_law_whole_root" "_law_whole_root" S__law_whole_root f fd) (T : Txt K mg) : FnOk P w K mg base CX0 1 f fd ["_law_number"] sp_wr := by
  refine F.ok SC__law_whole_root (fun vs H Q E h => ?_) (fun cdv A outer s H vs Q E hr h => ?_)
  · obtain ⟨n, rfl, _⟩ := h
    rfl
  · obtain ⟨n, rfl, n0, bn, q⟩ := h
    refine ⟨_, (pss_cons (ps_par (i := 1) (j := 2) (by rfl) SC__law_whole_root.nd rfl rfl (by decide) rfl rfl (pa_cons pe_int (pa_cons (pe_op op_add (pv 0) pe_int) pa_nil)) (by rfl))
      (pss_cons (ps_while PassesOwn.never (pt_cmpR op_gt (pe_op op_sub (pv 2) (pv 1)) pe_int (nomark _)) (pss_cons (ps_set (i := 3) SC__law_whole_root.nd rfl (.inl rfl) (pe_op op_fdivW (pe_op op_add (pv 1) (pv 2)) pe_int))
      (pss_one (ps_if (pt_cmpR op_le (pe_op op_mulW (pv 3) (pv 3)) (pv 0) (nomark _)) (pss_one (ps_set (i := 1) SC__law_whole_root.nd rfl (.inl rfl) (pv 3))) (pss_one (ps_set (i := 2) SC__law_whole_root.nd rfl (.inl rfl) (pv 3)))))))
      (pss_one (ps_ret (pv 1))))), ?_⟩
    walk_at "kw"
    refine while_by (fun σ H' => H' = H ∧ ∃ (lo hi : Int) (x : Option V), 0 ≤ lo ∧ lo < hi ∧ hi ≤ n + 1 ∧ lo * lo ≤ n ∧ n < hi * hi ∧ σ = [some (.int n), some (.int lo), some (.int hi), x]) (fun σ _ => match σ with | [_, some (.int lo), some (.int hi), _] => (hi - lo).toNat | _ => 0)
      ⟨rfl, 0, n + 1, none, by omega, by omega, by omega, by omega, ?_, rfl⟩ (fun σ H1 hP => ?_) (fun σ H Q Q' h q => ?_)
    · have e : (n + 1) * (n + 1) = n * n + 2 * n + 1 := by grind
      have : 0 ≤ n * n := Int.mul_nonneg n0 n0
      omega
    · obtain ⟨rfl, lo, hi, x, l0, lh, hn, h1, h2, rfl⟩ := hP
      have bm : Bd 400 ((lo + hi) / 2) := by unfold Bd at bn ⊢; generalize 2 ^ 400 = z at bn ⊢; omega
      walk_at "kw"
      refine ite2 (fun h => ?_) (fun h => ?_)
      · have hg : 1 < hi - lo := of_decide_eq_true h
        walk_at "kw"
        refine ite2 (fun h => ?_) (fun h => ?_)
        · have hm := of_decide_eq_true h
          walk_at "kw"
          refine ⟨⟨rfl, _, _, _, by omega, by omega, hn, hm, h2, rfl⟩, ?_⟩
          show (hi - (lo + hi) / 2).toNat < (hi - lo).toNat
          omega
        · have hm : ¬ (lo + hi) / 2 * ((lo + hi) / 2) ≤ n := fun e => h (decide_eq_true e)
          walk_at "kw"
          refine ⟨⟨rfl, _, _, _, l0, by omega, by omega, h1, by omega, rfl⟩, ?_⟩
          show ((lo + hi) / 2 - lo).toNat < (hi - lo).toNat
          omega
      · have hg : ¬ 1 < hi - lo := fun e => h (decide_eq_true e)
        walk_at "kw"
        have e : hi = lo + 1 := by omega
        subst e
        exact q lo l0 h1 h2
    · obtain ⟨v, h1, v2, h2, i, j, e1, e2, i', j', e3, e4, k, e5, q⟩ := q
      exact ⟨v, h1, v2, h2, i, j, e1, e2, i', j', e3, e4, k, e5, h _ _ q⟩
theorem ok_lsq {f : Addr} {fd : FuncData} (F : Fun K "_law_is_square" "_law_is_square" S__law_is_square f fd) (T : Txt K mg) (C_lwr : FnC P w K mg base CX0 1 "_law_whole_root" ["_law_number"] sp_wr) : FnOk P w K mg base CX0 2 f fd ["_law_number"] sp_lsq := by
  refine F.ok SC__law_is_square (fun vs H Q E h => ?_) (fun cdv A outer s H vs Q E hr h => ?_)
  · obtain ⟨n, rfl, _⟩ := h
    rfl
  · obtain ⟨n, rfl, n0, bn, yes, no⟩ := h
    refine ⟨_, (pss_one (ps_ret (pe_cmpR op_eq (pe_op op_mulW (pe_callC C_lwr hr rfl (pa_cons (pv 0) pa_nil)) (pe_callC C_lwr hr rfl (pa_cons (pv 0) pa_nil))) (pv 0) (nomark _)))), ?_⟩
    have bn' := bn.mono (show 300 ≤ 400 by decide)
    have bs : ∀ s : Int, 0 ≤ s → s * s ≤ n → Bd 400 s := fun s s0 s1 => by
      have : s * 1 ≤ s * s ∨ s = 0 := by
        by_cases e : s = 0
        · exact .inr e
        · exact .inl (Int.mul_le_mul_of_nonneg_left (by omega) s0)
      unfold Bd at *
      generalize 2 ^ 400 = z at *
      rcases this with h1 | h1 <;> omega
    walk_at "kw"
    intro s s0 s1 s2
    walk_at "kw"
    intro t t0 t1 t2
    have b1 := bs s s0 s1
    have b2 := bs t t0 t1
    walk_at "kw"
    have e : s = t := by
      rcases Int.lt_trichotomy s t with h | h | h
      · have : (s + 1) * (s + 1) ≤ t * t := Int.mul_le_mul (by omega) (by omega) (by omega) (by omega)
        omega
      · exact h
      · have : (t + 1) * (t + 1) ≤ s * s := Int.mul_le_mul (by omega) (by omega) (by omega) (by omega)
        omega
    subst e
    by_cases c : s * s = n
    · rw [decide_eq_true (congrArg V.int c)]
      exact yes ⟨s, s0, c⟩
    · rw [decide_eq_false (fun e => c (V.int.inj e))]
      exact no fun ⟨t, t0, t1⟩ => c (sq_un s0 s1 s2 t0 t1)
end

namespace Lr
theorem ds14 {k : Int} (h0 : 0 ≤ k) (h : k < 14) : ∃ v : Int, atI [V.int 2, .int 3, .int 5, .int 6, .int 7, .int 8, .int 10, .int 12, .int 13, .int 20, .int 0, .int 1, .int 4, .int 9] k = some (.int v) ∧ 0 ≤ v ∧ v ≤ 20 := by
  have : k = 0 ∨ k = 1 ∨ k = 2 ∨ k = 3 ∨ k = 4 ∨ k = 5 ∨ k = 6 ∨ k = 7 ∨ k = 8 ∨ k = 9 ∨ k = 10 ∨ k = 11 ∨ k = 12 ∨ k = 13 := by omega
  rcases this with rfl | rfl | rfl | rfl | rfl | rfl | rfl | rfl | rfl | rfl | rfl | rfl | rfl | rfl <;> exact ⟨_, rfl, by decide, by decide⟩
theorem swr_pos {p q d : Int} (hp : 0 < p) (hq : 0 ≤ q) (hd : 0 ≤ d) : 0 < swr p q d := by
  unfold swr
  rw [sg_p hp]
  rcases sg_c q with ⟨h1, h2⟩ | ⟨h1, h2⟩ | ⟨h1, h2⟩
  · rcases sg_c d with ⟨g1, g2⟩ | ⟨g1, g2⟩ | ⟨g1, g2⟩
    · rw [h2, g2, if_pos (.inl rfl)]; decide
    · rw [h2, g2, if_pos (.inr rfl)]; decide
    · omega
  · rw [h2, Int.zero_mul, if_pos (.inr rfl)]; decide
  · omega
theorem bd_small {i : Int} (h0 : -100000 ≤ i) (h1 : i ≤ 100000) : Bd 60 i := by
  have : i.natAbs < 2 ^ 60 := Nat.lt_of_lt_of_le (show i.natAbs < 1000000 by omega) (by decide)
  exact this
end Lr
section
variable {P : Program} {w : World} {K : PySem.W.Frag} {mg : Str → Option Value} {base : Heap}
theorem ok_lroot {f : Addr} {fd : FuncData} (F : Fun K "_law_root" "_law_root" S__law_root f fd) (T : Txt K mg) (C_take : FnC P w K mg base CX0 1 "_law_take" ["_law_box_here", "_law_many"] sp_take) (C_lsr : FnC P w K mg base CX0 2 "_law_sign_root" ["_law_one", "_law_times", "_law_inner"] sp_lsr) : FnOk P w K mg base CX0 3 f fd ["_law_box_here", "_law_most"] sp_lroot := by
  refine F.ok SC__law_root (fun vs H Q E h => ?_) (fun cdv A outer s H vs Q E hr h => ?_)
  · obtain ⟨b, m, rfl, _⟩ := h
    rfl
  · obtain ⟨b, m, rfl, hb, m0, m1, k⟩ := h
    refine ⟨_, (pss_cons (ps_par (i := 2) (j := 3) (by rfl) SC__law_root.nd rfl rfl (by decide) rfl rfl (pa_cons (pe_op op_sub (pe_callC C_take (hr.mono (by decide)) rfl (pa_cons (pv 0) (pa_cons (pe_op op_add (pe_op op_mulW pe_int (pv 1)) pe_int) pa_nil))) (pv 1)) (pa_cons (pe_op op_sub (pe_callC C_take (hr.mono (by decide)) rfl (pa_cons (pv 0) (pa_cons pe_int pa_nil))) pe_int) pa_nil)) (by rfl))
      (pss_cons (ps_par (i := 4) (j := 5) (by rfl) SC__law_root.nd rfl rfl (by decide) rfl rfl (pa_cons (pe_ix ix_list (pe_lstN (pa_cons pe_int (pa_cons pe_int (pa_cons pe_int (pa_cons pe_int (pa_cons pe_int (pa_cons pe_int (pa_cons pe_int (pa_cons pe_int (pa_cons pe_int (pa_cons pe_int (pa_cons pe_int (pa_cons pe_int (pa_cons pe_int (pa_cons pe_int pa_nil))))))))))))))) (pe_callC C_take (hr.mono (by decide)) rfl (pa_cons (pv 0) (pa_cons pe_int pa_nil))) (fun _ _ => rfl)) (pa_cons (pe_op op_add pe_int (pe_callC C_take (hr.mono (by decide)) rfl (pa_cons (pv 0) (pa_cons pe_int pa_nil)))) pa_nil)) (by rfl))
      (pss_mid (ps_if (pt_cmpR op_le (pe_callC C_lsr (hr.mono (by decide)) rfl (pa_cons (pv 2) (pa_cons (pv 3) (pa_cons (pv 4) pa_nil)))) pe_int (nomark _)) (pss_one (ps_par (i := 2) (j := 3) (by rfl) SC__law_root.nd rfl rfl (by decide) rfl rfl (pa_cons (pe_op op_add (pe_callB call_abs (by rfl) T.b_abs (by decide +kernel) (pa_cons (pv 2) pa_nil)) pe_int) (pa_cons (pe_callB call_abs (by rfl) T.b_abs (by decide +kernel) (pa_cons (pv 3) pa_nil)) pa_nil)) (by rfl))) pss_nil)
      (pss_one (ps_ret (pe_tupN (pa_cons (pv 2) (pa_cons (pv 3) (pa_cons (pv 4) (pa_cons (pv 5) pa_nil)))))))))), ?_⟩
    have W0 := Wo.start hb
    have c2 : (-(2 ^ 64 : Int) < 2 ∧ (2 : Int) < 2 ^ 64) ∧ (-(2 ^ 64 : Int) < m ∧ m < 2 ^ 64) := by omega
    have bm : Bd 60 m := bd_small (by omega) (by omega)
    walk_at "kw"
    intro d1 H1 d10 d11 kp1 hb1
    have W1 := W0.keep kp1 hb1
    walk_at "kw"
    intro d2 H2 d20 d21 kp2 hb2
    have W2 := W1.keep kp2 hb2
    walk_at "kw"
    rename_i t3 H3 f3 W3
    refine ⟨W3.box, by decide, by decide, fun d4 H4 d40 d41 kp4 hb4 => ?_⟩
    have W4 := W3.keep kp4 hb4
    obtain ⟨d, hat, d0, d1'⟩ := ds14 d40 d41
    refine ⟨t3, _, d4, _, rfl, rfl, SqL.of (W4.get (.head _)), hat, ?_⟩
    walk_at "kw"
    intro d5 H5 d50 d51 kp5 hb5
    have W5 := W4.tl.keep kp5 hb5
    walk_at "kw"
    have bp : Bd 60 (d1 - m) := bd_small (by omega) (by omega)
    have bq : Bd 60 (d2 - 4) := bd_small (by omega) (by omega)
    have bd : Bd 60 d := bd_small (by omega) (by omega)
    refine ⟨fun σ' H' => H' = H5 ∧ ∃ p q : Int, (-2000 ≤ p ∧ p ≤ 2000) ∧ (-4 ≤ q ∧ q ≤ 4) ∧ 0 < swr p q d ∧ σ' = [some (.ref b), some (.int m), some (.int p), some (.int q), some (.int d), some (.int (1 + d5))], ?_, fun σ1 H6 z => ?_⟩
    · walk_at "kw"
      refine ite2 (fun h => ?_) (fun h => ?_)
      · walk_at "kw"
        refine ⟨_, _, ⟨?_, ?_⟩, ⟨?_, ?_⟩, ?_, rfl⟩
        · split <;> omega
        · split <;> omega
        · split <;> omega
        · split <;> omega
        · refine swr_pos ?_ ?_ d0
          · split <;> omega
          · split <;> omega
      · have h' : ¬ swr (d1 - m) (d2 - 4) d ≤ 0 := fun e => h (decide_eq_true e)
        walk_at "kw"
        exact ⟨rfl, _, _, ⟨by omega, by omega⟩, ⟨by omega, by omega⟩, by omega, rfl⟩
    obtain ⟨rfl, p, q, ⟨p0, p1⟩, ⟨q0, q1⟩, w0, rfl⟩ := z
    walk_at "kw"
    rename_i t7 H7 f7 W7
    exact k t7 H7 p q d (1 + d5) f7 (W7.ne (.head _)) W7.kp W7.box (W7.get (.head _)) p0 p1 q0 q1 d0 d1' (by omega) (by omega) w0
theorem ok_lfrac {f : Addr} {fd : FuncData} (F : Fun K "_law_fraction" "_law_fraction" S__law_fraction f fd) (T : Txt K mg) (C_lsq : FnC P w K mg base CX0 2 "_law_is_square" ["_law_number"] sp_lsq) (C_lwr : FnC P w K mg base CX0 1 "_law_whole_root" ["_law_number"] sp_wr) (C_lgcd : FnC P w K mg base CX0 1 "_law_gcd" ["_law_one", "_law_other"] sp_com) : FnOk P w K mg base CX0 3 f fd ["_law_given"] sp_lfrac := by
  refine F.ok SC__law_fraction (fun vs H Q E h => ?_) (fun cdv A outer s H vs Q E hr h => ?_)
  · obtain ⟨t, p, q, d, r, rfl, _⟩ := h
    rfl
  · obtain ⟨t, p, q, d, r, rfl, ht, d0, r0, ⟨bp, bq, bd, br⟩, no, yes⟩ := h
    refine ⟨_, (pss_cons (ps_asg (pv 0) (pg_tup rfl (pgs_cons (pg_name (i := 1) SC__law_fraction.nd rfl (.inl rfl)) (pgs_cons (pg_name (i := 2) SC__law_fraction.nd rfl (.inl rfl)) (pgs_cons (pg_name (i := 3) SC__law_fraction.nd rfl (.inl rfl)) (pgs_cons (pg_name (i := 4) SC__law_fraction.nd rfl (.inl rfl)) pgs_nil))))))
      (pss_cons (ps_if (PW.pt (pw_and (pt_cmpR op_ne (pv 2) pe_int (nomark _)) (pw_and1 (pt_not (pt_val (pe_callC C_lsq (hr.mono (by decide)) rfl (pa_cons (pv 3) pa_nil))))))) (pss_one (ps_ret pe_non)) pss_nil)
      (pss_cons (ps_set (i := 5) SC__law_fraction.nd rfl (.inl rfl) (pe_op op_add (pv 1) (pe_op op_mulW (pv 2) (pe_callC C_lwr (hr.mono (by decide)) rfl (pa_cons (pv 3) pa_nil)))))
      (pss_cons (ps_set (i := 6) SC__law_fraction.nd rfl (.inl rfl) (pe_callC C_lgcd (hr.mono (by decide)) rfl (pa_cons (pv 5) (pa_cons (pv 4) pa_nil))))
      (pss_one (ps_ret (pe_tupN (pa_cons (pe_op op_fdivW (pv 5) (pv 6)) (pa_cons (pe_op op_fdivW (pv 4) (pv 6)) pa_nil))))))))), ?_⟩
    have W0 := (Ho.start H).call (Same.refl H) ht
    have bd3 := bd.mono (show 100 ≤ 300 by decide)
    have fin : (q = 0 ∨ isq d) → True := fun _ => trivial
    walk_at "kw"
    refine ite2 (fun h => ?_) (fun h => ?_)
    · have q0 : q ≠ 0 := fun e => by subst e; exact absurd h (by decide)
      walk_at "kw"
      refine ⟨fun hi => ?_, fun hn => ?_⟩
      · walk_at "kw"
        refine ifF rfl ?_
        walk_at "kw"
        obtain ⟨t', t0, t1⟩ := hi
        intro s s0 s1 s2
        have bs := sq_bd s0 s1 bd
        have g0 : 0 < ((Int.gcd (p + q * s) r : Nat) : Int) := by
          have := Int.gcd_pos_of_ne_zero_right (p + q * s) (show r ≠ 0 by omega)
          omega
        walk_at "kw"
        rename_i t9 H9 f9 W9
        exact yes s s0 s1 s2 (.inr (sq_un s0 s1 s2 t0 t1)) t9 H9 f9 W9.sm (W9.get (.head _))
      · walk_at "kw"
        refine ifT rfl ?_
        exact no q0 hn
    · have q0 : q = 0 := by
        have : decide (V.int q = V.int 0) = true := by simpa using h
        exact V.int.inj (of_decide_eq_true this)
      walk_at "kw"
      intro s s0 s1 s2
      have bs := sq_bd s0 s1 bd
      have g0 : 0 < ((Int.gcd (p + q * s) r : Nat) : Int) := by
        have := Int.gcd_pos_of_ne_zero_right (p + q * s) (show r ≠ 0 by omega)
        omega
      walk_at "kw"
      rename_i t9 H9 f9 W9
      exact yes s s0 s1 s2 (.inl q0) t9 H9 f9 W9.sm (W9.get (.head _))
theorem ok_lsame {f : Addr} {fd : FuncData} (F : Fun K "_law_is_same" "_law_is_same" S__law_is_same f fd) (T : Txt K mg) (C_lsign : FnC P w K mg base CX0 1 "_law_sign" ["_law_number"] sp_sign) : FnOk P w K mg base CX0 2 f fd ["_law_one", "_law_other"] sp_lsame := by
  refine F.ok SC__law_is_same (fun vs H Q E h => ?_) (fun cdv A outer s H vs Q E hr h => ?_)
  · obtain ⟨t, t', p, q, d, r, a, b, c, e, rfl, _⟩ := h
    rfl
  · obtain ⟨t, t', p, q, d, r, a, b, c, e, rfl, ht, ht', ⟨⟨bp, bq, bd, br⟩, ba, bb, bc, be⟩, e1, e2, e3, k⟩ := h
    refine ⟨_, (pss_cons (ps_asg (pv 0) (pg_tup rfl (pgs_cons (pg_name (i := 2) SC__law_is_same.nd rfl (.inl rfl)) (pgs_cons (pg_name (i := 3) SC__law_is_same.nd rfl (.inl rfl)) (pgs_cons (pg_name (i := 4) SC__law_is_same.nd rfl (.inl rfl)) (pgs_cons (pg_name (i := 5) SC__law_is_same.nd rfl (.inl rfl)) pgs_nil))))))
      (pss_cons (ps_asg (pv 1) (pg_tup rfl (pgs_cons (pg_name (i := 6) SC__law_is_same.nd rfl (.inl rfl)) (pgs_cons (pg_name (i := 7) SC__law_is_same.nd rfl (.inl rfl)) (pgs_cons (pg_name (i := 8) SC__law_is_same.nd rfl (.inl rfl)) (pgs_cons (pg_name (i := 9) SC__law_is_same.nd rfl (.inl rfl)) pgs_nil))))))
      (pss_cons (ps_if (PW.pt (pw_or (pt_cmpR op_ne (pe_op op_mulW (pv 2) (pv 9)) (pe_op op_mulW (pv 6) (pv 5)) (nomark _)) (pw_or1 (pt_cmpR op_ne (pe_op op_mulW (pe_callC C_lsign (hr.mono (by decide)) rfl (pa_cons (pv 3) pa_nil)) (pe_callC C_lsign (hr.mono (by decide)) rfl (pa_cons (pv 5) pa_nil))) (pe_op op_mulW (pe_callC C_lsign (hr.mono (by decide)) rfl (pa_cons (pv 7) pa_nil)) (pe_callC C_lsign (hr.mono (by decide)) rfl (pa_cons (pv 9) pa_nil))) (nomark _))))) (pss_one (ps_ret pe_bl)) pss_nil)
      (pss_one (ps_ret (pe_cmpR op_eq (pe_op op_mulW (pe_op op_mulW (pe_op op_mulW (pe_op op_mulW (pv 3) (pv 3)) (pv 4)) (pv 9)) (pv 9)) (pe_op op_mulW (pe_op op_mulW (pe_op op_mulW (pe_op op_mulW (pv 7) (pv 7)) (pv 8)) (pv 5)) (pv 5)) (nomark _))))))), ?_⟩
    have W0 := ((Ho.start H).call (Same.refl H) ht).call (Same.refl H) ht'
    walk_at "kw"
    refine ifF (show (!decide (V.int (p * e) = V.int (a * r))) = false by rw [e1]; simp) ?_
    walk_at "kw"
    refine ifF (show (!decide (V.int (sg q * sg r) = V.int (sg b * sg e))) = false by rw [e2]; simp) ?_
    walk_at "kw"
    show Q (.bl (decide (V.int (q * q * d * e * e) = V.int (b * b * c * r * r)))) H
    rw [e3, decide_eq_true rfl]
    exact k
end

namespace Lr
theorem kit_tt {K : PySem.W.Frag} : PySem.W.kitOne K (.type "tuple") (.type "tuple") = some true := kit_ty (show kitB "tuple" "tuple" = some true by decide +kernel)
theorem kit_ii {K : PySem.W.Frag} : PySem.W.kitOne K (.type "int") (.type "int") = some true := kit_ty (show kitB "int" "int" = some true by decide +kernel)
theorem kit_ib {K : PySem.W.Frag} : PySem.W.kitOne K (.type "int") (.type "bool") = some false := kit_ty (show kitB "int" "bool" = some false by decide +kernel)
end Lr
section
variable {P : Program} {w : World} {K : PySem.W.Frag} {mg : Str → Option Value} {base : Heap}
theorem ok_lleast {f : Addr} {fd : FuncData} (F : Fun K "_law_is_least" "_law_is_least" S__law_is_least f fd) (T : Txt K mg) (C_lsq : FnC P w K mg base CX0 2 "_law_is_square" ["_law_number"] sp_lsq) (C_lgcd : FnC P w K mg base CX0 1 "_law_gcd" ["_law_one", "_law_other"] sp_com) : FnOk P w K mg base CX0 3 f fd ["_law_numbers"] (sp_lleast K) := by
  refine F.ok SC__law_is_least (fun vs H Q E h => ?_) (fun cdv A outer s H vs Q E hr h => ?_)
  · obtain ⟨t, p, q, d, r, rfl, _⟩ := h
    rfl
  · obtain ⟨t, p, q, d, r, rfl, ht, ⟨bp, bd, br⟩, ⟨lq, r2, re, d2, dn, t0, tg⟩, k⟩ := h
    refine ⟨_, (pss_cons (ps_if (PW.pt (pw_or (pt_not (pt_val (pe_callB call_isi (by rfl) T.b_isinstance (by decide +kernel) (pa_cons (pv 0) (pa_cons (pe_bltn (v := .ty "tuple") (by rfl) T.b_tuple boot_tuple rfl) pa_nil))))) (pw_or1 (pt_cmpR op_ne (pe_callB call_len_seq (by rfl) T.b_len (by decide +kernel) (pa_cons (pv 0) pa_nil)) pe_int (nomark _))))) (pss_one (ps_ret pe_bl)) pss_nil)
      (pss_cons (ps_if (pt_cmpR (op_neD hr.units) (pe_lc (own := [("_law_number", 6)]) (g := gName 6) (by rfl) SC__law_is_least.nd (pi_tup (pv 0)) (blkOk_by (own := [("_law_number", 6)]) (N := N__law_is_least) (sc := defScope S__law_is_least) (by decide +kernel)) (fun _ _ _ _ _ => pg_name (i := 6) SC__law_is_least.nd rfl (Or.inl rfl)) (fun _ _ _ _ _ => pts_one (PW.pt (pw_or (pt_not (pt_val (pe_callB (call_isiK' (K := K) rfl) (by rfl) T.b_isinstance (by decide +kernel) (pa_cons (pv 6) (pa_cons (pe_bltn (v := .ty "int") (by rfl) T.b_int boot_int rfl) pa_nil))))) (pw_or1 (pt_val (pe_callB (call_isiK' (K := K) rfl) (by rfl) T.b_isinstance (by decide +kernel) (pa_cons (pv 6) (pa_cons (pe_bltn (v := .ty "bool") (by rfl) T.b_bool boot_bool rfl) pa_nil)))))))) (fun _ _ _ _ _ => pe_int)) (pe_lstN pa_nil) (nomark _)) (pss_one (ps_ret pe_bl)) pss_nil)
      (pss_cons (ps_asg (pv 0) (pg_tup rfl (pgs_cons (pg_name (i := 1) SC__law_is_least.nd rfl (.inl rfl)) (pgs_cons (pg_name (i := 2) SC__law_is_least.nd rfl (.inl rfl)) (pgs_cons (pg_name (i := 3) SC__law_is_least.nd rfl (.inl rfl)) (pgs_cons (pg_name (i := 4) SC__law_is_least.nd rfl (.inl rfl)) pgs_nil))))))
      (pss_cons (ps_if (PW.pt (pw_or (pt_cmpR op_notIn_seq (pv 2) (pe_tupN (pa_cons pe_int (pa_cons (pe_un un_neg pe_int) pa_nil))) (by rfl)) (pw_or (pt_cmpR op_lt (pv 4) pe_int (nomark _)) (pw_or (pt_cmpR op_ne (pe_op op_mod (pe_callTy call_intI (by rfl) T.b_int (by decide +kernel) (pa_cons (pv 4) pa_nil)) pe_int) pe_int (nomark _)) (pw_or (pt_cmpR op_lt (pv 3) pe_int (nomark _)) (pw_or1 (pt_val (pe_callC C_lsq (hr.mono (by decide)) rfl (pa_cons (pv 3) pa_nil))))))))) (pss_one (ps_ret pe_bl)) pss_nil)
      (pss_cons (ps_set (i := 5) SC__law_is_least.nd rfl (.inl rfl) (pe_op op_sub (pe_op op_mulW (pv 1) (pv 1)) (pv 3)))
      (pss_cons (ps_if (pt_cmpR op_ne (pe_op op_mod (pe_callTy call_intI (by rfl) T.b_int (by decide +kernel) (pa_cons (pv 5) pa_nil)) (pe_op op_mulW pe_int (pv 4))) pe_int (nomark _)) (pss_one (ps_ret pe_bl)) pss_nil)
      (pss_one (ps_ret (pe_cmpR op_eq (pe_callC C_lgcd (hr.mono (by decide)) rfl (pa_cons (pe_callC C_lgcd (hr.mono (by decide)) rfl (pa_cons (pe_op op_fdivW (pv 4) pe_int) (pa_cons (pv 1) pa_nil))) (pa_cons (pe_op op_fdivW (pv 5) (pe_op op_mulW pe_int (pv 4))) pa_nil))) pe_int (nomark _)))))))))), ?_⟩
    have W0 := (Ho.start H).call (Same.refl H) ht
    have bd3 := bd.mono (show 290 ≤ 300 by decide)
    refine ⟨_, rfl, .ref t, _, _, _, _, rfl, .ty _, .base (.tup ht), kit_tt, true, rfl, ?_⟩
    refine ifF rfl ?_
    walk_at "kw"
    refine ifF rfl ?_
    walk_at "kw"
    refine ⟨⟨_, SqT.of ht⟩, fun D hD => ?_⟩
    refine lc_tup (xs := [V.int p, .int q, .int d, .int r]) (fun j H' => (∀ b o, b ≠ D → H b = some o → H' b = some o) ∧ H' D = some (.lst [])) ⟨fun b o n e => by rw [upd_ne n]; exact e, upd_same⟩
      (fun j H' _ mm => SqT.of (mm.1 t _ (ne_of_none ht hD) ht)) (fun j v H' hj mm => ?_) (fun H' mm => ?_)
    · obtain ⟨kp, hd⟩ := mm
      obtain ⟨n, rfl⟩ : ∃ n, v = .int n := by
        have hm := List.mem_of_getElem? hj
        simp only [List.mem_cons, List.not_mem_nil, or_false] at hm
        rcases hm with rfl | rfl | rfl | rfl <;> exact ⟨_, rfl⟩
      refine ⟨rfl, ?_⟩
      refine ⟨_, rfl, .int n, _, _, _, _, rfl, .ty _, .base (.int n), kit_ii, true, rfl, ?_⟩
      exact ifF rfl ⟨_, rfl, .int n, _, _, _, _, rfl, .ty _, .base (.int n), kit_ib, false, rfl, ifF rfl ⟨kp, hd⟩⟩
    · obtain ⟨kp, hd⟩ := mm
      have W2 := (W0.inD hD kp).add hd
      walk_at "kw"
      rename_i t3 H3 f3 W3
      refine ifF rfl ?_
      have W4 : Ho H H3 [(t, .tup [.int p, .int q, .int d, .int r])] := ⟨W3.sm, fun x hx => by cases List.mem_singleton.mp hx; exact W3.get (by walk_at "mem")⟩
      clear W2 W3 W0 hd kp
      walk_at "kw"
      rename_i t5 H5 f5 W5
      refine ⟨rfl, rfl, ?_⟩
      have hin : (!inV (V.int q) [V.int 1, V.int (-1)]) = false := by rcases lq with rfl | rfl <;> rfl
      refine ⟨_, rfl, ifF hin ?_⟩
      have bq : Bd 64 q := by rcases lq with rfl | rfl <;> exact Bd.lit (by decide)
      walk_at "kw"
      refine ifF (decide_eq_false (by omega)) ?_
      walk_at "kw"
      refine iteNS (congrArg V.int re) ?_
      walk_at "kw"
      refine ifF (decide_eq_false (by omega)) ?_
      walk_at "kw"
      refine ⟨fun hi => absurd hi dn, fun _ => ?_⟩
      walk_at "kw"
      refine ifF (show (!decide (V.int ((p * p - d) % (2 * r)) = V.int 0)) = false by rw [t0]; rfl) ?_
      walk_at "kw"
      rw [tg, decide_eq_true (show V.int ((1 : Nat) : Int) = V.int 1 from rfl)]
      exact k H5 W5.sm
end

/-! ## the one form of a number with a root -/
namespace K10
theorem isq_mul {m n : Int} (hm : m ≠ 0) (h : isq (m * m * n)) (hn : 0 ≤ n) : isq n := by
  obtain ⟨s, s0, hs⟩ := h
  have hd : m * m ∣ s * s := ⟨n, hs⟩
  have hd2 : m.natAbs * m.natAbs ∣ s.natAbs * s.natAbs := by
    have := Int.natAbs_dvd_natAbs.mpr hd
    rwa [Int.natAbs_mul, Int.natAbs_mul] at this
  have hd3 : m.natAbs ∣ s.natAbs := by
    have := (Nat.pow_dvd_pow_iff (a := m.natAbs) (b := s.natAbs) (n := 2) (by decide)).mp (by rw [Nat.pow_two, Nat.pow_two]; exact hd2)
    exact this
  obtain ⟨k, hk⟩ := hd3
  refine ⟨(k : Int), Int.natCast_nonneg _, ?_⟩
  have e1 : s * s = m * m * ((k : Int) * k) := by
    have h1 : ((s.natAbs : Int)) * s.natAbs = s * s := Int.natAbs_mul_self' s |>.trans rfl
    have h2 : ((m.natAbs : Int)) * m.natAbs = m * m := Int.natAbs_mul_self' m |>.trans rfl
    have h3 : (s.natAbs : Int) = m.natAbs * k := by rw [hk]; exact Int.natCast_mul _ _
    rw [← h1, ← h2, h3]
    grind
  have hm2 : m * m ≠ 0 := fun e => hm (by
    rcases Int.mul_eq_zero.mp e with h | h <;> exact h)
  exact Int.eq_of_mul_eq_mul_left hm2 (by rw [← e1, hs])
structure Red (A B C a b c : Int) (f : Int) : Prop where
  f0 : 0 < f
  ha : f * a = A
  hb : f * b = B
  hc : f * c = C
  g : Int.gcd (Int.gcd a b) c = 1
theorem red {A B C : Int} (hA : A ≠ 0) : ∃ f : Int, 0 < f ∧ (Int.gcd (Int.gcd A B) C : Int) = f ∧ Red A B C (A / f) (B / f) (C / f) f := by
  have g0 : Int.gcd A B ≠ 0 := fun e => hA (Int.gcd_eq_zero_iff.mp e).1
  have f0 : 0 < (Int.gcd (Int.gcd A B : Int) C : Int) := by
    have : Int.gcd (Int.gcd A B : Int) C ≠ 0 := fun e => by
      have := (Int.gcd_eq_zero_iff.mp e).1
      omega
    omega
  refine ⟨_, f0, rfl, f0, ?_, ?_, ?_, ?_⟩
  · exact Int.mul_ediv_cancel' (Int.dvd_trans (Int.gcd_dvd_left _ _) (Int.gcd_dvd_left _ _))
  · exact Int.mul_ediv_cancel' (Int.dvd_trans (Int.gcd_dvd_left _ _) (Int.gcd_dvd_right _ _))
  · exact Int.mul_ediv_cancel' (Int.gcd_dvd_right _ _)
  · have hd : (Int.gcd (Int.gcd A B : Int) C : Int) ∣ (Int.gcd A B : Int) := Int.gcd_dvd_left _ _
    have hc : (Int.gcd (Int.gcd A B : Int) C : Int) ∣ C := Int.gcd_dvd_right _ _
    have e1 := Int.gcd_ediv (Int.dvd_trans hd (Int.gcd_dvd_left A B)) (Int.dvd_trans hd (Int.gcd_dvd_right A B))
    rw [e1]
    rw [Int.natAbs_natCast, Int.natCast_ediv]
    have e2 := Int.gcd_ediv hd hc
    rw [e2, Int.natAbs_natCast]
    exact Nat.div_self (by omega)
theorem lwd_pos {A B C s : Int} (hA : 0 < A) : ∃ a b c f : Int, Red A B C a b c f ∧ ((∀ n, Bd n A → Bd n a) ∧ (∀ n, Bd n B → Bd n b) ∧ (∀ n, Bd n C → Bd n c)) ∧ lwd A B C s = [a, b, c, s] := by
  obtain ⟨f, f0, e, r⟩ := red (A := A) (B := B) (C := C) (by omega)
  refine ⟨_, _, _, f, r, ⟨fun n h => h.div f, fun n h => h.div f, fun n h => h.div f⟩, ?_⟩
  unfold lwd lwf
  rw [if_neg (by omega), e, Int.fdiv_eq_ediv_of_nonneg A (by omega), Int.fdiv_eq_ediv_of_nonneg B (by omega), Int.fdiv_eq_ediv_of_nonneg C (by omega)]
theorem mul_can {f x y : Int} (h : 0 < f) (e : f * x = f * y) : x = y := Int.eq_of_mul_eq_mul_left (by omega) e
/-- what a number with a root is brought to -/
theorem least {p q d r a b c f s : Int} (h : Red (r * r) (-2 * p * r) (p * p - q * q * d) a b c f) (r0 : 0 < r) (q0 : q ≠ 0) (d0 : 0 ≤ d) (dn : ¬ isq d) (hs : s = 1 ∨ s = -1) :
    lst (0 - b) s (b * b - 4 * a * c) (2 * a) := by
  have rr : 0 < r * r := Int.mul_pos r0 r0
  have a1 : 1 ≤ a := by
    have : 0 < a := Int.pos_of_mul_pos_right (by rw [h.ha]; exact rr) h.f0 |> fun h => h
    omega
  have eD : f * f * (b * b - 4 * a * c) = (2 * q * r) * (2 * q * r) * d := by
    have h1 := h.ha
    have h2 := h.hb
    have h3 := h.hc
    have : f * f * (b * b - 4 * a * c) = (f * b) * (f * b) - 4 * (f * a) * (f * c) := by grind
    rw [this, h1, h2, h3]
    grind
  have dpos : 0 < d := by
    rcases Int.lt_or_eq_of_le d0 with h | h
    · exact h
    · exact absurd ⟨0, by decide, by rw [← h]; rfl⟩ dn
  have hqr : 2 * q * r ≠ 0 := fun e => by
    rcases Int.mul_eq_zero.mp e with h | h <;> omega
  have sqp : 0 < (2 * q * r) * (2 * q * r) := by
    rcases Int.lt_trichotomy (2 * q * r) 0 with h | h | h
    · exact Int.mul_pos_of_neg_of_neg h h
    · exact absurd h hqr
    · exact Int.mul_pos h h
  have ff : 0 < f * f := Int.mul_pos h.f0 h.f0
  have Dp : 0 < b * b - 4 * a * c := by
    have : 0 < f * f * (b * b - 4 * a * c) := by rw [eD]; exact Int.mul_pos sqp dpos
    exact Int.pos_of_mul_pos_right this ff |> fun h => h
  have Dn : ¬ isq (b * b - 4 * a * c) := fun ⟨t, t0, ht⟩ => by
    refine dn (isq_mul hqr ⟨f * t, Int.mul_nonneg (Int.le_of_lt h.f0) t0, ?_⟩ d0)
    rw [← eD, ← ht]
    grind
  have e3 : (0 - b) * (0 - b) - (b * b - 4 * a * c) = 2 * (2 * a) * c := by grind
  refine ⟨hs, by omega, by omega, ?_, Dn, ?_, ?_⟩
  · rcases Int.lt_or_le (b * b - 4 * a * c) 2 with h | h
    · exact absurd ⟨1, by decide, by omega⟩ Dn
    · exact h
  · rw [e3]; exact Int.mul_emod_right _ _
  · rw [e3, Int.mul_ediv_cancel_left _ (show (2 : Int) ≠ 0 by decide), Int.mul_ediv_cancel_left _ (show 2 * (2 * a) ≠ 0 by omega)]
    have : Int.gcd a (0 - b) = Int.gcd a b := by rw [Int.zero_sub, Int.gcd_neg]
    rw [this]
    exact h.g
theorem same {p q d r a b c f : Int} (h : Red (r * r) (-2 * p * r) (p * p - q * q * d) a b c f) (r0 : 0 < r) (q0 : q ≠ 0) :
    (0 - b) * r = p * (2 * a) ∧ sg (if 0 < q then 1 else -1) * sg (2 * a) = sg q * sg r ∧ (if 0 < q then 1 else -1) * (if 0 < q then 1 else -1) * (b * b - 4 * a * c) * r * r = q * q * d * (2 * a) * (2 * a) := by
  have h1 := h.ha
  have h2 := h.hb
  have h3 := h.hc
  have rr : 0 < r * r := Int.mul_pos r0 r0
  have a1 : 0 < a := Int.pos_of_mul_pos_right (by rw [h.ha]; exact rr) h.f0 |> fun h => h
  refine ⟨mul_can h.f0 ?_, ?_, mul_can (Int.mul_pos h.f0 h.f0) ?_⟩
  · have e : f * ((0 - b) * r) = -((f * b) * r) := by grind
    have e2 : f * (p * (2 * a)) = 2 * p * (f * a) := by grind
    rw [e, e2, h1, h2]
    grind
  · rw [sg_p (show 0 < 2 * a by omega), sg_p r0]
    rcases Int.lt_trichotomy q 0 with hq | hq | hq
    · rw [if_neg (by omega), sg_n hq]; rfl
    · exact absurd hq q0
    · rw [if_pos hq, sg_p hq]; rfl
  · have es : (if 0 < q then (1 : Int) else -1) * (if 0 < q then 1 else -1) = 1 := by split <;> rfl
    rw [es]
    have e : f * f * (1 * (b * b - 4 * a * c) * r * r) = ((f * b) * (f * b) - 4 * (f * a) * (f * c)) * r * r := by grind
    have e2 : f * f * (q * q * d * (2 * a) * (2 * a)) = q * q * d * 4 * (f * a) * (f * a) := by grind
    rw [e, e2, h1, h2, h3]
    grind
/-- a number that is a fraction is above 0 -/
theorem swr_frac {p q d s : Int} (h : 0 < swr p q d) (hz : q = 0 ∨ s * s = d) (s0 : 0 ≤ s) : 0 < p + q * s := by
  unfold swr at h
  rcases hz with hz | hz
  · rw [hz, sg_z, Int.zero_mul, if_pos (.inr rfl)] at h
    rw [hz, Int.zero_mul]
    rcases sg_c p with ⟨h1, h2⟩ | ⟨h1, h2⟩ | ⟨h1, h2⟩
    · omega
    · rw [h2] at h; omega
    · rw [h2] at h; omega
  · rcases Int.lt_or_eq_of_le s0 with s0 | s0
    · have hd : sg d = 1 := sg_p (by rw [← hz]; exact Int.mul_pos s0 s0)
      rw [hd, Int.mul_one] at h
      have ef : p * p - q * q * d = (p - q * s) * (p + q * s) := by rw [← hz]; grind
      rcases sg_c p with ⟨h1, h2⟩ | ⟨h1, h2⟩ | ⟨h1, h2⟩ <;> rcases sg_c q with ⟨g1, g2⟩ | ⟨g1, g2⟩ | ⟨g1, g2⟩
      · have := Int.mul_pos g1 s0
        omega
      · rw [g1, Int.zero_mul]; omega
      · rw [h2, g2, if_neg (by decide), if_neg (by decide), Int.one_mul, ef] at h
        have hqs : q * s < 0 := Int.mul_neg_of_neg_of_pos g1 s0
        rcases sg_c ((p - q * s) * (p + q * s)) with ⟨k1, k2⟩ | ⟨k1, k2⟩ | ⟨k1, k2⟩
        · rcases Int.lt_or_le 0 (p + q * s) with z | z
          · exact z
          · have := Int.mul_nonpos_of_nonneg_of_nonpos (show 0 ≤ p - q * s by omega) z
            omega
        · rw [k2] at h; omega
        · rw [k2] at h; omega
      · have := Int.mul_pos g1 s0
        omega
      · rw [h2, g2, if_pos (.inl rfl)] at h; omega
      · rw [h2, g2, if_neg (by decide), if_pos rfl] at h; omega
      · rw [h2, g2, if_neg (by decide), if_neg (by decide), ef] at h
        have hqs : 0 < q * s := Int.mul_pos g1 s0
        rcases sg_c ((p - q * s) * (p + q * s)) with ⟨k1, k2⟩ | ⟨k1, k2⟩ | ⟨k1, k2⟩
        · rw [k2] at h; omega
        · rw [k2] at h; omega
        · rcases Int.lt_or_le 0 (p + q * s) with z | z
          · exact z
          · have := Int.mul_nonneg_of_nonpos_of_nonpos (show p - q * s ≤ 0 by omega) z
            omega
      · rw [h2, g2, if_pos (.inr rfl)] at h; omega
      · rw [h2, g2, if_pos (.inl rfl)] at h; omega
    · have hd : d = 0 := by rw [← hz, ← s0]; rfl
      rw [hd, sg_z, Int.mul_zero, if_pos (.inr rfl)] at h
      rw [← s0, Int.mul_zero]
      rcases sg_c p with ⟨h1, h2⟩ | ⟨h1, h2⟩ | ⟨h1, h2⟩
      · omega
      · rw [h2] at h; omega
      · rw [h2] at h; omega
theorem nrm_pos {r p : Int} (h : 0 < r) : nrm r p = p := by unfold nrm; rw [if_neg (by omega)]
/-- a fraction in lowest terms -/
theorem frac_low {x r : Int} (hx : 0 < x) (hr : 0 < r) : 1 ≤ x / (Int.gcd x r : Nat) ∧ 1 ≤ r / (Int.gcd x r : Nat) ∧ Int.gcd (x / (Int.gcd x r : Nat)) (r / (Int.gcd x r : Nat)) = 1 := by
  have g0 : 0 < Int.gcd x r := Int.gcd_pos_of_ne_zero_left r (by omega)
  have h1 := Int.mul_ediv_cancel' (a := ((Int.gcd x r : Nat) : Int)) (b := x) (Int.gcd_dvd_left _ _)
  have h2 := Int.mul_ediv_cancel' (a := ((Int.gcd x r : Nat) : Int)) (b := r) (Int.gcd_dvd_right _ _)
  refine ⟨?_, ?_, ?_⟩
  · have : 0 < x / (Int.gcd x r : Nat) := Int.pos_of_mul_pos_right (by rw [h1]; exact hx) (by omega) |> fun h => h
    omega
  · have : 0 < r / (Int.gcd x r : Nat) := Int.pos_of_mul_pos_right (by rw [h2]; exact hr) (by omega) |> fun h => h
    omega
  · rw [Int.gcd_ediv (Int.gcd_dvd_left _ _) (Int.gcd_dvd_right _ _), Int.natAbs_natCast]
    exact Nat.div_self g0
end K10
open K10
namespace K10
def sp_law (K : PySem.W.Frag) : Sp := fun vs H Q _ => ∃ (a : Addr) (ns : List Int), vs = [.ref a] ∧ SqL K H a (ns.map V.int) ∧ ns.length ≤ 63 ∧ ∀ H', Q (.bl true) H'
theorem bd40 {i : Int} (h0 : -10000000 ≤ i) (h1 : i ≤ 10000000) : Bd 40 i := by
  have : i.natAbs < 2 ^ 40 := Nat.lt_of_lt_of_le (show i.natAbs < 16777216 by omega) (by decide)
  exact this
theorem t3_39 {j : Int} (h0 : 0 ≤ j) (h : j < 3) : ∃ v : Int, atI [V.int 39, .int 999, .int 999] j = some (.int v) ∧ 0 < v ∧ v ≤ 999 := by
  have : j = 0 ∨ j = 1 ∨ j = 2 := by omega
  rcases this with rfl | rfl | rfl <;> exact ⟨_, rfl, by decide, by decide⟩
theorem t3_less {j x s : Int} (h0 : 0 ≤ j) (h : j < 3) (x0 : 0 ≤ x) (x1 : x < s) : ∃ v : Int, atI [V.int 0, .int 1, .int (1 + x)] j = some (.int v) ∧ 0 ≤ v ∧ v ≤ s := by
  have : j = 0 ∨ j = 1 ∨ j = 2 := by omega
  rcases this with rfl | rfl | rfl
  · exact ⟨0, rfl, by omega, by omega⟩
  · exact ⟨1, rfl, by omega, by omega⟩
  · exact ⟨1 + x, rfl, by omega, by omega⟩
theorem sq_bds {s : Int} (h0 : 2 ≤ s) (h1 : s ≤ 1001) : s ≤ s * s ∧ s * s ≤ 1002001 := by
  have a : s * 1 ≤ s * s := Int.mul_le_mul_of_nonneg_left (by omega) (by omega)
  have b : s * s ≤ 1001 * 1001 := Int.mul_le_mul h1 h1 (by omega) (by decide)
  omega
/-- Edge.root of four right numbers -/
theorem erootH {CE IE : Addr} {K : PySem.W.Frag} {H : Hp} {Q : VK} {E : XK} {p q d r : Int} (b : Bd 100 p ∧ Bd 100 q ∧ Bd 100 d ∧ Bd 100 r) (d0 : 0 ≤ d) (r0 : r ≠ 0) (w : 0 < swr (nrm r p) (nrm r q) d)
    (k : ∀ s, 0 ≤ s → s * s ≤ d → d < (s + 1) * (s + 1) → ∀ e H', H e = none → Same H H' → EdgeAt CE H' e (rootPl (nrm r p) (nrm r q) d (nrm r r) s) → Q (.ref e) H') : Kb.calm (sp_eroot CE IE K) [.ref CE, .int p, .int q, .int d, .int r] H Q E := by
  refine ⟨_, _, _, _, rfl, ⟨.int _, .int _, .int _, .int _⟩, fun p' q' d' r' h1 h2 h3 h4 => ?_, fun h => nomatch h⟩
  cases h1; cases h2; cases h3; cases h4
  exact ⟨b, fun hb => absurd hb (by omega), fun _ _ _ => k⟩
theorem root_un {s t d : Int} (s0 : 0 ≤ s) (s1 : s * s ≤ d) (s2 : d < (s + 1) * (s + 1)) (t0 : 0 ≤ t) (t1 : t * t ≤ d) (t2 : d < (t + 1) * (t + 1)) : s = t := by
  rcases Int.lt_trichotomy s t with z | z | z
  · have : (s + 1) * (s + 1) ≤ t * t := Int.mul_le_mul (by omega) (by omega) (by omega) (by omega)
    omega
  · exact z
  · have : (t + 1) * (t + 1) ≤ s * s := Int.mul_le_mul (by omega) (by omega) (by omega) (by omega)
    omega
theorem nrm_neg {r p : Int} (h : 0 < r) : nrm (-r) p = -p := by unfold nrm; rw [if_pos (by omega)]
end K10
/-! ## what a change makes of a number with a root -/
namespace K15
open K10
theorem lwd_any {A B C s : Int} (hA : A ≠ 0) : ∃ a b c g : Int, g ≠ 0 ∧ 0 < a ∧ (g * a = A ∧ g * b = B ∧ g * c = C) ∧ sg g = sg A ∧ Int.gcd (Int.gcd a b) c = 1 ∧ ((∀ n, Bd n A → Bd n a) ∧ (∀ n, Bd n B → Bd n b) ∧ (∀ n, Bd n C → Bd n c)) ∧ lwd A B C s = [a, b, c, s] := by
  obtain ⟨f, f0, e, r⟩ := red (A := A) (B := B) (C := C) hA
  have ha := r.ha
  have hb := r.hb
  have hc := r.hc
  have hg := r.g
  have bd : ∀ (X : Int) n, Bd n X → Bd n (X / f) := fun X n h => h.div f
  have bA := bd A
  have bB := bd B
  have bC := bd C
  generalize A / f = a at *
  generalize B / f = b at *
  generalize C / f = c at *
  by_cases h : A < 0
  · refine ⟨-a, -b, -c, -f, by omega, ?_, ⟨by rw [Int.neg_mul_neg]; exact ha, by rw [Int.neg_mul_neg]; exact hb, by rw [Int.neg_mul_neg]; exact hc⟩, ?_, ?_, ⟨fun n h => (bA n h).neg, fun n h => (bB n h).neg, fun n h => (bC n h).neg⟩, ?_⟩
    · rcases Int.lt_or_le a 0 with z | z
      · omega
      · have := Int.mul_nonneg (Int.le_of_lt f0) z
        omega
    · rw [sg_n h, sg_n (by omega)]
    · rw [Int.neg_gcd, Int.gcd_neg, Int.gcd_neg]
      exact hg
    · unfold lwd lwf
      rw [if_pos h, e, Int.zero_sub]
      have n0 : -f ≠ 0 := by omega
      rw [Int.fdiv_eq_of_eq_mul_right n0 (show A = -f * -a by rw [Int.neg_mul_neg]; exact ha.symm), Int.fdiv_eq_of_eq_mul_right n0 (show B = -f * -b by rw [Int.neg_mul_neg]; exact hb.symm), Int.fdiv_eq_of_eq_mul_right n0 (show C = -f * -c by rw [Int.neg_mul_neg]; exact hc.symm)]
  · have hp : 0 < A := by omega
    refine ⟨a, b, c, f, by omega, ?_, ⟨ha, hb, hc⟩, by rw [sg_p f0, sg_p hp], hg, ⟨bA, bB, bC⟩, ?_⟩
    · rcases Int.lt_or_le 0 a with z | z
      · exact z
      · have := Int.mul_nonpos_of_nonneg_of_nonpos (Int.le_of_lt f0) z
        omega
    · unfold lwd lwf
      rw [if_neg h, e]
      have n0 : f ≠ 0 := by omega
      rw [Int.fdiv_eq_of_eq_mul_right n0 ha.symm, Int.fdiv_eq_of_eq_mul_right n0 hb.symm, Int.fdiv_eq_of_eq_mul_right n0 hc.symm]
theorem sq_pos {x : Int} (h : x ≠ 0) : 0 < x * x := by
  rcases Int.lt_trichotomy x 0 with z | z | z
  · exact Int.mul_pos_of_neg_of_neg z z
  · exact absurd z h
  · exact Int.mul_pos z z
theorem mul_can' {f x y : Int} (h : f ≠ 0) (e : f * x = f * y) : x = y := Int.eq_of_mul_eq_mul_left h e
/-- four numbers of the same number -/
def same4 (p q d r a b c e : Int) : Prop := p * e = a * r ∧ sg q * sg r = sg b * sg e ∧ q * q * d * e * e = b * b * c * r * r
theorem leastG {P Q D R N F a b c s : Int} (hF : F ≠ 0) (h1 : F * a = R) (h2 : F * b = -2 * P) (h3 : F * c = N) (hid : P * P - N * R = Q * Q * D) (a0 : 0 < a) (g : Int.gcd (Int.gcd a b) c = 1) (Q0 : Q ≠ 0) (R0 : R ≠ 0) (d0 : 0 ≤ D) (dn : ¬ isq D) (hs : s = 1 ∨ s = -1) (hss : s = sg Q * sg R) :
    lst (0 - b) s (b * b - 4 * a * c) (2 * a) ∧ same4 (0 - b) s (b * b - 4 * a * c) (2 * a) P Q D R := by
  have eD : F * F * (b * b - 4 * a * c) = (2 * Q) * (2 * Q) * D := by
    have : F * F * (b * b - 4 * a * c) = (F * b) * (F * b) - 4 * (F * a) * (F * c) := by grind
    rw [this, h1, h2, h3]
    have : (2 * Q) * (2 * Q) * D = 4 * (Q * Q * D) := by grind
    rw [this, ← hid]
    grind
  have dpos : 0 < D := by
    rcases Int.lt_or_eq_of_le d0 with h | h
    · exact h
    · exact absurd ⟨0, by decide, by rw [← h]; rfl⟩ dn
  have q2 : 2 * Q ≠ 0 := by omega
  have ff := sq_pos hF
  have Dp : 0 < b * b - 4 * a * c := by
    have : 0 < F * F * (b * b - 4 * a * c) := by rw [eD]; exact Int.mul_pos (sq_pos q2) dpos
    exact Int.pos_of_mul_pos_right this ff |> fun h => h
  have Dn : ¬ isq (b * b - 4 * a * c) := fun ⟨t, t0, ht⟩ => by
    refine dn (isq_mul q2 ?_ d0)
    rw [← eD, ← ht]
    rcases Int.le_total 0 F with z | z
    · exact ⟨F * t, Int.mul_nonneg z t0, by grind⟩
    · exact ⟨-F * t, Int.mul_nonneg (by omega) t0, by grind⟩
  have e3 : (0 - b) * (0 - b) - (b * b - 4 * a * c) = 2 * (2 * a) * c := by grind
  refine ⟨⟨hs, by omega, by omega, ?_, Dn, ?_, ?_⟩, ?_, ?_, ?_⟩
  · rcases Int.lt_or_le (b * b - 4 * a * c) 2 with h | h
    · exact absurd ⟨1, by decide, by omega⟩ Dn
    · exact h
  · rw [e3]; exact Int.mul_emod_right _ _
  · rw [e3, Int.mul_ediv_cancel_left _ (show (2 : Int) ≠ 0 by decide), Int.mul_ediv_cancel_left _ (show 2 * (2 * a) ≠ 0 by omega)]
    have : Int.gcd a (0 - b) = Int.gcd a b := by rw [Int.zero_sub, Int.gcd_neg]
    rw [this]
    exact g
  · refine mul_can' hF ?_
    have e : F * ((0 - b) * R) = -((F * b) * R) := by grind
    have e2 : F * (P * (2 * a)) = 2 * P * (F * a) := by grind
    rw [e, e2, h1, h2]
    grind
  · have es : sg s = s := by rcases hs with h | h <;> rw [h] <;> rfl
    rw [sg_p (show 0 < 2 * a by omega), Int.mul_one, es, hss]
  · have es : s * s = 1 := by rcases hs with rfl | rfl <;> rfl
    refine mul_can' (show F * F ≠ 0 by omega) ?_
    rw [es]
    have e : F * F * (1 * (b * b - 4 * a * c) * R * R) = (F * F * (b * b - 4 * a * c)) * R * R := by grind
    have e2 : F * F * (Q * Q * D * (2 * a) * (2 * a)) = Q * Q * D * 4 * (F * a) * (F * a) := by grind
    rw [e, e2, eD, h1]
    grind
/-- what a change makes of four numbers -/
def bP (m n s t p q d r : Int) : Int := (m * p + n * r) * (s * p + t * r) - m * q * (s * q) * d
def bQ (m n s t p q _d r : Int) : Int := m * q * (s * p + t * r) - (m * p + n * r) * (s * q)
def bR (_m _n s t p q d r : Int) : Int := (s * p + t * r) * (s * p + t * r) - s * q * (s * q) * d
theorem sg_nz {x : Int} (h : x ≠ 0) : sg x = 1 ∨ sg x = -1 := by
  rcases sg_c x with ⟨_, e⟩ | ⟨z, _⟩ | ⟨_, e⟩
  · exact .inl e
  · exact absurd z h
  · exact .inr e
theorem one_mul' {x y : Int} (hx : x = 1 ∨ x = -1) (hy : y = 1 ∨ y = -1) : x * y = 1 ∨ x * y = -1 := by
  rcases hx with rfl | rfl <;> rcases hy with rfl | rfl <;> decide
theorem bR_nz {m n s t p q d r : Int} (r0 : 0 < r) (q0 : q ≠ 0) (d0 : 0 ≤ d) (dn : ¬ isq d) (hd : m * t - n * s ≠ 0) : bR m n s t p q d r ≠ 0 := fun e => by
  unfold bR at e
  by_cases hs : s = 0
  · subst hs
    have : t * r = 0 := by
      have : t * r * (t * r) = 0 := by
        have : (0 * p + t * r) * (0 * p + t * r) - 0 * q * (0 * q) * d = t * r * (t * r) := by grind
        omega
      rcases Int.mul_eq_zero.mp this with h | h <;> exact h
    rcases Int.mul_eq_zero.mp this with h | h
    · rw [h] at hd; simp at hd
    · omega
  · have hsq : s * q ≠ 0 := fun e => by
      rcases Int.mul_eq_zero.mp e with h | h
      · exact hs h
      · exact q0 h
    refine dn (isq_mul hsq ?_ d0)
    have e2 : s * q * (s * q) * d = (s * p + t * r) * (s * p + t * r) := by omega
    rw [e2]
    rcases Int.le_total 0 (s * p + t * r) with z | z
    · exact ⟨_, z, rfl⟩
    · exact ⟨-(s * p + t * r), by omega, by rw [Int.neg_mul_neg]⟩
end K15
open K15

/-! ## signs of numbers with roots, as of ordered rings -/
namespace Sg
 open Lean.Grind
class SgR (R : Type) [CommRing R] where
  s : R → Int
  tri : ∀ a, s a = 1 ∨ s a = 0 ∨ s a = -1
  neg : ∀ a, s (-a) = - s a
  mul : ∀ a b, s (a * b) = s a * s b
  one : s 1 = 1
  add : ∀ a b, s a = 1 → s b = 1 → s (a + b) = 1
  add0 : ∀ a b, s a = 0 → s (a + b) = s b
section
variable {R : Type} [CommRing R] [SgR R]
 open SgR
theorem s_zero : s (0 : R) = 0 := by
  have h := neg (0 : R)
  rw [show -(0 : R) = 0 by grind] at h
  omega
theorem s_two : s (2 : R) = 1 := by
  rw [show (2 : R) = 1 + 1 by grind]
  exact add _ _ one one
theorem s_addN (a b : R) (h1 : s a = -1) (h2 : s b = -1) : s (a + b) = -1 := by
  have := add (-a) (-b) (by rw [neg, h1]; rfl) (by rw [neg, h2]; rfl)
  rw [show -a + -b = -(a + b) by grind, neg] at this
  omega
theorem s_sub0 (a b : R) (h : s (a - b) = 0) : s a = s b := by
  have := add0 (a - b) b h
  rwa [show a - b + b = a by grind] at this
theorem s_addr0 (a b : R) (h : s b = 0) : s (a + b) = s a := by
  rw [show a + b = b + a by grind]; exact add0 _ _ h
theorem s_sq (a : R) : s (a * a) = s a * s a := mul a a
theorem s_add1 (a b : R) (h1 : s a = 1) (h2 : s b = 1 ∨ s b = 0) : s (a + b) = 1 := by
  rcases h2 with h | h
  · exact add _ _ h1 h
  · rw [s_addr0 _ _ h, h1]
theorem dom (u v : R) (h : s (u * u - v * v) = 1) : s (u + v) = s u ∧ (s u = 1 ∨ s u = -1) := by
  rw [show u * u - v * v = (u + v) * (u - v) by grind, mul] at h
  have e : (u + v) + (u - v) = 2 * u := by grind
  rcases tri (u + v) with h1 | h1 | h1
  · rcases tri (u - v) with h2 | h2 | h2
    · have := add _ _ h1 h2
      rw [e, mul, s_two] at this
      exact ⟨by omega, by omega⟩
    · rw [h1, h2] at h; omega
    · rw [h1, h2] at h; omega
  · rw [h1] at h; omega
  · rcases tri (u - v) with h2 | h2 | h2
    · rw [h1, h2] at h; omega
    · rw [h1, h2] at h; omega
    · have := s_addN _ _ h1 h2
      rw [e, mul, s_two] at this
      exact ⟨by omega, by omega⟩
end
/-- numbers a + b * root of c -/
structure Qx {R : Type} (c : R) where
  a : R
  b : R
namespace Qx
variable {R : Type} [CommRing R] {c : R}
@[ext] theorem ext' {x y : Qx c} (h1 : x.a = y.a) (h2 : x.b = y.b) : x = y := by cases x; cases y; simp_all
instance : Add (Qx c) := ⟨fun x y => ⟨x.a + y.a, x.b + y.b⟩⟩
instance : Mul (Qx c) := ⟨fun x y => ⟨x.a * y.a + x.b * y.b * c, x.a * y.b + x.b * y.a⟩⟩
instance : Neg (Qx c) := ⟨fun x => ⟨-x.a, -x.b⟩⟩
instance : Sub (Qx c) := ⟨fun x y => ⟨x.a - y.a, x.b - y.b⟩⟩
def of (r : R) : Qx c := ⟨r, 0⟩
def nc (R : Type) [CommRing R] (n : Nat) : R := (Semiring.natCast (α := R)).natCast n
def ic (R : Type) [CommRing R] (n : Int) : R := (Ring.intCast (α := R)).intCast n
def pw (x : Qx c) : Nat → Qx c
  | 0 => of 1
  | n + 1 => pw x n * x
def on (R : Type) [CommRing R] (n : Nat) : R := (Semiring.ofNat (α := R) n).ofNat
theorem on_succ (n : Nat) : on R (n + 1) = on R n + 1 := Semiring.ofNat_succ n
theorem on_nc (n : Nat) : on R n = nc R n := Semiring.ofNat_eq_natCast n
theorem on_0 : on R 0 = 0 := rfl
theorem mulc (x y : Qx c) : x * y = y * x := by
  apply ext'
  · show x.a * y.a + x.b * y.b * c = y.a * x.a + y.b * x.b * c
    grind
  · show x.a * y.b + x.b * y.a = y.a * x.b + y.b * x.a
    grind
theorem mul1 (x : Qx c) : x * of 1 = x := by
  apply ext'
  · show x.a * 1 + x.b * 0 * c = x.a
    grind
  · show x.a * 0 + x.b * 1 = x.b
    grind
theorem mul0 (x : Qx c) : x * of 0 = of 0 := by
  apply ext'
  · show x.a * 0 + x.b * 0 * c = 0
    grind
  · show x.a * 0 + x.b * 0 = 0
    grind
theorem dist (x y z : Qx c) : x * (y + z) = x * y + x * z := by
  apply ext'
  · show x.a * (y.a + z.a) + x.b * (y.b + z.b) * c = x.a * y.a + x.b * y.b * c + (x.a * z.a + x.b * z.b * c)
    grind
  · show x.a * (y.b + z.b) + x.b * (y.a + z.a) = x.a * y.b + x.b * y.a + (x.a * z.b + x.b * z.a)
    grind
instance ring : CommRing (Qx c) where
  natCast := ⟨fun n => of (nc R n)⟩
  ofNat n := ⟨of (on R n)⟩
  nsmul := ⟨fun n x => of (nc R n) * x⟩
  npow := ⟨pw⟩
  add_zero x := by apply ext' <;> (show _ + on R 0 = _; rw [on_0]; grind)
  add_comm x y := by apply ext' <;> (show _ + _ = _ + _; grind)
  add_assoc x y z := by apply ext' <;> (show _ + _ + _ = _ + (_ + _); grind)
  mul_assoc x y z := by
    apply ext'
    · show (x.a * y.a + x.b * y.b * c) * z.a + (x.a * y.b + x.b * y.a) * z.b * c = x.a * (y.a * z.a + y.b * z.b * c) + x.b * (y.a * z.b + y.b * z.a) * c
      grind
    · show (x.a * y.a + x.b * y.b * c) * z.b + (x.a * y.b + x.b * y.a) * z.a = x.a * (y.a * z.b + y.b * z.a) + x.b * (y.a * z.a + y.b * z.b * c)
      grind
  mul_comm := mulc
  mul_one := mul1
  one_mul x := (mulc _ _).trans (mul1 x)
  left_distrib := dist
  right_distrib x y z := by rw [mulc (x + y) z, dist, mulc z x, mulc z y]
  zero_mul x := (mulc _ _).trans (mul0 x)
  mul_zero := mul0
  pow_zero x := rfl
  pow_succ x n := rfl
  ofNat_succ n := by
    apply ext'
    · show on R (n + 1) = on R n + on R 1
      rw [on_succ]; rfl
    · show (0 : R) = 0 + 0
      grind
  ofNat_eq_natCast n := by
    apply ext'
    · show on R n = nc R n
      exact on_nc n
    · rfl
  nsmul_eq_natCast_mul n x := rfl
  intCast := ⟨fun n => of (ic R n)⟩
  zsmul := ⟨fun n x => of (ic R n) * x⟩
  neg_add_cancel x := by apply ext' <;> (show -_ + _ = on R 0; rw [on_0]; grind)
  sub_eq_add_neg x y := by apply ext' <;> (show _ - _ = _ + -_; grind)
  neg_zsmul i x := by
    have h : ic R (-i) = - ic R i := Ring.intCast_neg i
    apply ext'
    · show ic R (-i) * x.a + 0 * x.b * c = -(ic R i * x.a + 0 * x.b * c)
      rw [h]; grind
    · show ic R (-i) * x.b + 0 * x.a = -(ic R i * x.b + 0 * x.a)
      rw [h]; grind
  zsmul_natCast_eq_nsmul n x := by
    have h : ic R (n : Int) = nc R n := by
      have := Ring.intCast_ofNat (α := R) n
      exact this.trans (on_nc n)
    show of (ic R (n : Int)) * x = of (nc R n) * x
    rw [h]
  intCast_ofNat n := by
    apply ext'
    · show ic R (OfNat.ofNat n) = on R n
      exact Ring.intCast_ofNat n
    · rfl
  intCast_neg i := by
    apply ext'
    · show ic R (-i) = -(ic R i)
      exact Ring.intCast_neg i
    · show (0 : R) = -0
      grind
section
variable [SgR R]
 open SgR
def nm (x : Qx c) : R := x.a * x.a - x.b * x.b * c
/-- the sign of a + b * root of c -/
def sq (x : Qx c) : Int := if s c = 0 then s x.a else if s (nm x) = 1 then s x.a else if s (nm x) = -1 then s x.b else if s x.a = s x.b then s x.a else 0
theorem nm_mul (x y : Qx c) : nm (x * y) = nm x * nm y := by
  show (x.a * y.a + x.b * y.b * c) * (x.a * y.a + x.b * y.b * c) - (x.a * y.b + x.b * y.a) * (x.a * y.b + x.b * y.a) * c = _
  unfold nm
  grind
theorem nm_neg (x : Qx c) : nm (-x) = nm x := by
  show (-x.a) * (-x.a) - (-x.b) * (-x.b) * c = _
  unfold nm
  grind
theorem sq_neg (x : Qx c) : sq (-x) = - sq x := by
  unfold sq
  rw [nm_neg, show (-x).a = -x.a from rfl, show (-x).b = -x.b from rfl, neg, neg]
  repeat' split
  all_goals omega
theorem sq_tri (x : Qx c) : sq x = 1 ∨ sq x = 0 ∨ sq x = -1 := by
  unfold sq
  have h1 := tri x.a
  have h2 := tri x.b
  repeat' split
  all_goals first | assumption | exact .inr (.inl rfl)
theorem s_ca (hc : s c = 1) (a : R) : s (a * c) = s a := by rw [mul, hc, Int.mul_one]
/-- the sign of a sum whose first part has the greater square -/
theorem dom' (u v : R) {m : Int} (h : s (u * u - v * v) = m) (hm : m = 1) : s (u + v) = s u := by subst hm; exact (dom u v h).1
theorem nz_a (hc : s c = 1) (x : Qx c) (h : s (nm x) = 1) : s x.a = 1 ∨ s x.a = -1 := by
  rcases tri x.a with e | e | e
  · exact .inl e
  · exfalso
    unfold nm at h
    have z : s (x.a * x.a) = 0 := by rw [mul, e]; rfl
    rw [show x.a * x.a - x.b * x.b * c = x.a * x.a + -(x.b * x.b * c) by grind, add0 _ _ z, neg, mul, mul, hc] at h
    rcases tri x.b with e | e | e <;> rw [e] at h <;> omega
  · exact .inr e
theorem nz_b (hc : s c = 1) (x : Qx c) (h : s (nm x) = -1) : s x.b = 1 ∨ s x.b = -1 := by
  rcases tri x.b with e | e | e
  · exact .inl e
  · exfalso
    unfold nm at h
    have z : s (-(x.b * x.b * c)) = 0 := by rw [neg, mul, mul, e]; omega
    rw [show x.a * x.a - x.b * x.b * c = x.a * x.a + -(x.b * x.b * c) by grind, s_addr0 _ _ z, mul] at h
    rcases tri x.a with e | e | e <;> rw [e] at h <;> omega
  · exact .inr e
theorem eq_ab (hc : s c = 1) (x : Qx c) (h : s (nm x) = 0) : s x.a = s x.b ∨ s x.a = - s x.b := by
  have := s_sub0 _ _ (show s (x.a * x.a - x.b * x.b * c) = 0 from h)
  rw [mul, mul, mul, hc] at this
  rcases tri x.a with e | e | e <;> rcases tri x.b with g | g | g <;> rw [e, g] at this ⊢ <;> omega
theorem sgn_sq {a : R} (h : s a = 1 ∨ s a = -1) : s (a * a) = 1 := by rw [mul]; rcases h with h | h <;> rw [h] <;> rfl
theorem sgn_sq0 (a : R) : s (a * a) = 1 ∨ s (a * a) = 0 := by rw [mul]; rcases tri a with h | h | h <;> rw [h] <;> omega
theorem s_add1' (a b : R) (h1 : s a = 1 ∨ s a = 0) (h2 : s b = 1) : s (a + b) = 1 := by
  rw [show a + b = b + a by grind]; exact s_add1 _ _ h2 h1
section
variable (hc : s c = 1) (x y : Qx c)
include hc
theorem mul_pp (h1 : s (nm x) = 1) (h2 : s (nm y) = 1) : s (x.a * y.a + x.b * y.b * c) = s x.a * s y.a := by
  rw [← mul]
  refine dom' _ _ (m := 1) ?_ rfl
  rw [show (x.a * y.a) * (x.a * y.a) - (x.b * y.b * c) * (x.b * y.b * c) = x.a * x.a * nm y + y.b * y.b * c * nm x by unfold nm; grind]
  refine s_add1 _ _ ?_ ?_
  · rw [mul, sgn_sq (nz_a hc x h1), h2]; rfl
  · rw [mul, mul, hc, h1]
    rcases sgn_sq0 y.b with e | e <;> rw [e] <;> omega
theorem mul_pn (h1 : s (nm x) = 1) (h2 : s (nm y) = -1) : s (x.a * y.b + x.b * y.a) = s x.a * s y.b := by
  rw [← mul]
  refine dom' _ _ (m := 1) ?_ rfl
  rw [show (x.a * y.b) * (x.a * y.b) - (x.b * y.a) * (x.b * y.a) = y.b * y.b * nm x + x.b * x.b * -nm y by unfold nm; grind]
  refine s_add1 _ _ ?_ ?_
  · rw [mul, sgn_sq (nz_b hc y h2), h1]; rfl
  · rw [mul, neg, h2]
    rcases sgn_sq0 x.b with e | e <;> rw [e] <;> omega
theorem mul_nn (h1 : s (nm x) = -1) (h2 : s (nm y) = -1) : s (x.a * y.a + x.b * y.b * c) = s x.b * s y.b := by
  rw [← mul, ← s_ca hc (x.b * y.b), show x.a * y.a + x.b * y.b * c = x.b * y.b * c + x.a * y.a by grind]
  refine dom' _ _ (m := 1) ?_ rfl
  rw [show (x.b * y.b * c) * (x.b * y.b * c) - (x.a * y.a) * (x.a * y.a) = x.a * x.a * -nm y + y.b * y.b * c * -nm x by unfold nm; grind]
  refine s_add1' _ _ ?_ ?_
  · rw [mul, neg, h2]
    rcases sgn_sq0 x.a with e | e <;> rw [e] <;> omega
  · rw [mul, mul, hc, neg, h1, sgn_sq (nz_b hc y h2)]; rfl
theorem mul_01 (h1 : s (nm x) = 0) (a1 : s x.a = 1) (eb : s x.b = 1) : s (x.a * y.a + x.b * y.b * c) = sq y ∧ s (x.a * y.a + x.b * y.b * c) = s (x.a * y.b + x.b * y.a) := by
  have n0 : ¬ s c = 0 := by omega
  have r1 : s (x.a * y.b + x.b * y.a) * s x.a = s (x.a * y.a + x.b * y.b * c) * s x.b := by
    rw [← mul, ← mul]
    refine s_sub0 _ _ ?_
    rw [show (x.a * y.b + x.b * y.a) * x.a - (x.a * y.a + x.b * y.b * c) * x.b = y.b * nm x by unfold nm; grind, mul, h1]
    omega
  have i1 : (x.a * y.a) * (x.a * y.a) - (x.b * y.b * c) * (x.b * y.b * c) = x.a * x.a * nm y + y.b * y.b * c * nm x := by unfold nm; grind
  have z1 : s (y.b * y.b * c * nm x) = 0 := by rw [mul, h1]; omega
  have sv : s (x.b * y.b * c) = s x.b * s y.b := by rw [mul, mul, hc, Int.mul_one]
  refine ⟨?_, by rw [a1, eb] at r1; omega⟩
  unfold sq
  rw [if_neg n0]
  rcases tri (nm y) with m | m | m
  · rw [if_pos m]
    rw [dom' (x.a * y.a) (x.b * y.b * c) (m := 1) (by rw [i1, s_addr0 _ _ z1, mul, mul, a1, m]; rfl) rfl, mul, a1, Int.one_mul]
  · rw [if_neg (by omega), if_neg (by omega)]
    rcases eq_ab hc y m with g | g
    · rw [if_pos g]
      rcases tri y.a with k | k | k
      · rw [k, add _ _ (by rw [mul, a1, k]; rfl) (by rw [sv, eb, ← g, k]; rfl)]
      · rw [k, add0 _ _ (by rw [mul, a1, k]; rfl), sv, ← g, k]; omega
      · rw [k, s_addN _ _ (by rw [mul, a1, k]; rfl) (by rw [sv, eb, ← g, k]; rfl)]
    · by_cases k : s y.a = s y.b
      · have : s y.a = 0 := by omega
        rw [if_pos k, this, add0 _ _ (by rw [mul, this]; omega), sv, ← k, this]; omega
      · rw [if_neg k]
        have p : s (x.a * y.a + x.b * y.b * c) * s (x.a * y.a - x.b * y.b * c) = 0 := by
          rw [← mul, show (x.a * y.a + x.b * y.b * c) * (x.a * y.a - x.b * y.b * c) = x.a * x.a * nm y + y.b * y.b * c * nm x by rw [← i1]; grind, s_addr0 _ _ z1, mul, m]; omega
        have q : s (x.a * y.a - x.b * y.b * c) ≠ 0 := by
          rw [show x.a * y.a - x.b * y.b * c = x.a * y.a + -(x.b * y.b * c) by grind]
          rcases tri y.a with k | k | k
          · rw [add _ _ (by rw [mul, a1, k]; rfl) (by rw [neg, sv, eb]; omega)]; omega
          · exfalso; omega
          · rw [s_addN _ _ (by rw [mul, a1, k]; rfl) (by rw [neg, sv, eb]; omega)]; omega
        rcases Int.mul_eq_zero.mp p with p | p
        · exact p
        · exact absurd p q
  · rw [if_neg (by omega), if_pos m, show x.a * y.a + x.b * y.b * c = x.b * y.b * c + x.a * y.a by grind, dom' (x.b * y.b * c) (x.a * y.a) (m := 1) ?_ rfl, sv, eb, Int.one_mul]
    rw [show (x.b * y.b * c) * (x.b * y.b * c) - (x.a * y.a) * (x.a * y.a) = x.a * x.a * -nm y + -(y.b * y.b * c * nm x) by unfold nm; grind, s_addr0 _ _ (by rw [neg, z1]; rfl), mul, neg, mul, a1, m]; rfl
theorem mul_0 (h1 : s (nm x) = 0) : (if s (x.a * y.a + x.b * y.b * c) = s (x.a * y.b + x.b * y.a) then s (x.a * y.a + x.b * y.b * c) else 0) = (if s x.a = s x.b then s x.a else 0) * sq y := by
  have n0 : ¬ s c = 0 := by omega
  have r1 : s (x.a * y.b + x.b * y.a) * s x.a = s (x.a * y.a + x.b * y.b * c) * s x.b := by
    rw [← mul, ← mul]
    refine s_sub0 _ _ ?_
    rw [show (x.a * y.b + x.b * y.a) * x.a - (x.a * y.a + x.b * y.b * c) * x.b = y.b * nm x by unfold nm; grind, mul, h1]
    omega
  have sv : s (x.b * y.b * c) = s x.b * s y.b := by rw [mul, mul, hc, Int.mul_one]
  rcases eq_ab hc x h1 with e | e
  · rw [if_pos e]
    rcases tri x.a with a1 | a0 | a1
    · obtain ⟨p, q⟩ := mul_01 hc x y h1 a1 (by omega)
      rw [if_pos q, p, a1, Int.one_mul]
    · have b0 : s x.b = 0 := by omega
      have X0 : s (x.a * y.a + x.b * y.b * c) = 0 := by rw [add0 _ _ (by rw [mul, a0]; omega), sv, b0]; omega
      rw [X0, a0]
      split <;> omega
    · obtain ⟨p, q⟩ := mul_01 hc (-x) y (by rw [nm_neg]; exact h1) (by show s (-x.a) = 1; rw [neg, a1]; rfl) (by show s (-x.b) = 1; rw [neg, ← e, a1]; rfl)
      have p : s (-x.a * y.a + -x.b * y.b * c) = sq y := p
      have q : s (-x.a * y.a + -x.b * y.b * c) = s (-x.a * y.b + -x.b * y.a) := q
      rw [show -x.a * y.a + -x.b * y.b * c = -(x.a * y.a + x.b * y.b * c) by grind, neg] at p q
      rw [show -x.a * y.b + -x.b * y.a = -(x.a * y.b + x.b * y.a) by grind, neg] at q
      rw [if_pos (by omega), a1]
      omega
  · by_cases g : s x.a = s x.b
    · have a0 : s x.a = 0 := by omega
      have b0 : s x.b = 0 := by omega
      have X0 : s (x.a * y.a + x.b * y.b * c) = 0 := by rw [add0 _ _ (by rw [mul, a0]; omega), sv, b0]; omega
      rw [X0, a0]
      split <;> split <;> omega
    · rw [if_neg g, Int.zero_mul]
      split
      · rename_i w
        rw [← w] at r1
        rcases tri (x.a * y.a + x.b * y.b * c) with t | t | t
        · rw [t] at r1; omega
        · exact t
        · rw [t] at r1; omega
      · rfl
end
theorem sq_mul (hc : s c = 1 ∨ s c = 0) (x y : Qx c) : sq (x * y) = sq x * sq y := by
  rcases hc with hc | hc
  · have n0 : ¬ s c = 0 := by omega
    have eS : s (nm (x * y)) = s (nm x) * s (nm y) := by rw [nm_mul, mul]
    have ea : (x * y).a = x.a * y.a + x.b * y.b * c := rfl
    have eb : (x * y).b = x.a * y.b + x.b * y.a := rfl
    have go : ∀ x y : Qx c, s (nm x) = 0 → sq (x * y) = sq x * sq y := fun x y h => by
      have e2 : sq x = if s x.a = s x.b then s x.a else 0 := by unfold sq; rw [if_neg n0, if_neg (by omega), if_neg (by omega)]
      rw [e2, ← mul_0 hc x y h]
      have eS : s (nm (x * y)) = 0 := by rw [nm_mul, mul, h]; omega
      unfold sq
      rw [if_neg n0, if_neg (by omega), if_neg (by omega)]; rfl
    rcases tri (nm x) with h1 | h1 | h1
    · rcases tri (nm y) with h2 | h2 | h2
      · unfold sq
        rw [if_neg n0, if_neg n0, if_neg n0, eS, h1, h2, if_pos (by decide), if_pos rfl, if_pos rfl, ea]
        exact mul_pp hc x y h1 h2
      · rw [mulc, go y x h2, Int.mul_comm]
      · unfold sq
        rw [if_neg n0, if_neg n0, if_neg n0, eS, h1, h2, if_neg (by decide), if_pos (by decide), if_pos rfl, if_neg (by decide), if_pos rfl, eb]
        exact mul_pn hc x y h1 h2
    · exact go x y h1
    · rcases tri (nm y) with h2 | h2 | h2
      · unfold sq
        rw [if_neg n0, if_neg n0, if_neg n0, eS, h1, h2, if_neg (by decide), if_pos (by decide), if_pos rfl, if_neg (by decide), if_pos rfl, eb]
        rw [show x.a * y.b + x.b * y.a = y.a * x.b + y.b * x.a by grind, mul_pn hc y x h2 h1, Int.mul_comm]
      · rw [mulc, go y x h2, Int.mul_comm]
      · unfold sq
        rw [if_neg n0, if_neg n0, if_neg n0, eS, h1, h2, if_pos (by decide), if_neg (by decide), if_pos rfl, ea]
        exact mul_nn hc x y h1 h2
  · unfold sq
    rw [if_pos hc, if_pos hc, if_pos hc, ← mul]
    exact s_addr0 _ _ (by rw [mul, hc]; omega)
theorem sq_small (hc : s c = 1) (u v : R) (y : Qx c) (hu : s u = 0) (hv : s v = 0) : sq (⟨u, v⟩ + y) = sq y := by
  have ea : s (u + y.a) = s y.a := add0 _ _ hu
  have eb : s (v + y.b) = s y.b := add0 _ _ hv
  have en : s (nm ((⟨u, v⟩ : Qx c) + y)) = s (nm y) := by
    show s ((u + y.a) * (u + y.a) - (v + y.b) * (v + y.b) * c) = _
    unfold nm
    rw [show (u + y.a) * (u + y.a) - (v + y.b) * (v + y.b) * c = u * (u + 2 * y.a) + (-(v * ((v + 2 * y.b) * c)) + (y.a * y.a - y.b * y.b * c)) by grind, add0 _ _ (by rw [mul, hu]; omega), add0 _ _ (by rw [neg, mul, hv]; omega)]
  show (if s c = 0 then s (u + y.a) else if s (nm (⟨u, v⟩ + y)) = 1 then s (u + y.a) else if s (nm (⟨u, v⟩ + y)) = -1 then s (v + y.b) else if s (u + y.a) = s (v + y.b) then s (u + y.a) else 0) = _
  rw [ea, eb, en]
  rfl
theorem sq_null (hc : s c = 1) (z : Qx c) (h : sq z = 0) : s (nm z) = 0 ∧ s z.a = - s z.b := by
  unfold sq at h
  rw [if_neg (by omega)] at h
  rcases tri (nm z) with n | n | n
  · rw [if_pos n] at h
    have := nz_a hc z n
    omega
  · rw [if_neg (by omega), if_neg (by omega)] at h
    refine ⟨n, ?_⟩
    rcases eq_ab hc z n with e | e
    · rw [if_pos e] at h; omega
    · exact e
  · rw [if_neg (by omega), if_pos n] at h
    have := nz_b hc z n
    omega
theorem sq_add0 (hc : s c = 1 ∨ s c = 0) (z y : Qx c) (h : sq z = 0) : sq (z + y) = sq y := by
  rcases hc with hc | hc
  · obtain ⟨n, e⟩ := sq_null hc z h
    by_cases z0 : s z.b = 0
    · exact sq_small hc z.a z.b y (by omega) z0
    · have w1 : sq (⟨z.a, -z.b⟩ : Qx c) = s z.a := by
        have nn : s (nm (⟨z.a, -z.b⟩ : Qx c)) = 0 := by
          rw [← n]
          show s (z.a * z.a - (-z.b) * (-z.b) * c) = s (z.a * z.a - z.b * z.b * c)
          rw [show z.a * z.a - (-z.b) * (-z.b) * c = z.a * z.a - z.b * z.b * c by grind]
        unfold sq
        rw [if_neg (by omega), if_neg (by omega), if_neg (by omega), if_pos (show s z.a = s (-z.b) by rw [neg]; exact e)]
      have ez : (⟨z.a, -z.b⟩ : Qx c) * (z + y) = ⟨nm z, 0⟩ + (⟨z.a, -z.b⟩ : Qx c) * y := by
        apply ext'
        · show z.a * (z.a + y.a) + -z.b * (z.b + y.b) * c = (z.a * z.a - z.b * z.b * c) + (z.a * y.a + -z.b * y.b * c)
          grind
        · show z.a * (z.b + y.b) + -z.b * (z.a + y.a) = 0 + (z.a * y.b + -z.b * y.a)
          grind
      have := congrArg sq ez
      rw [sq_small hc _ _ _ n s_zero, sq_mul (.inl hc), sq_mul (.inl hc)] at this
      exact Int.eq_of_mul_eq_mul_left (by omega) this
  · unfold sq at h ⊢
    rw [if_pos hc] at h
    rw [if_pos hc, if_pos hc]
    exact add0 _ _ h
/-- above 0 -/
inductive Po (x : Qx c) : Prop
  | A (a : s x.a = 1) (n : s (nm x) = 1) : Po x
  | B (b : s x.b = 1) (n : s (nm x) = -1) : Po x
  | C (a : s x.a = 1) (b : s x.b = 1) (n : s (nm x) = 0) : Po x
theorem po_of (hc : s c = 1) (x : Qx c) (h : sq x = 1) : Po x := by
  unfold sq at h
  rw [if_neg (by omega)] at h
  rcases tri (nm x) with n | n | n
  · rw [if_pos n] at h; exact .A h n
  · rw [if_neg (by omega), if_neg (by omega)] at h
    by_cases e : s x.a = s x.b
    · rw [if_pos e] at h; exact .C h (by omega) n
    · rw [if_neg e] at h; omega
  · rw [if_neg (by omega), if_pos n] at h; exact .B h n
theorem po_sq (hc : s c = 1) (x : Qx c) (h : Po x) : sq x = 1 := by
  unfold sq
  rw [if_neg (by omega)]
  cases h with
  | A a n => rw [if_pos n]; exact a
  | B b n => rw [if_neg (by omega), if_pos n]; exact b
  | C a b n => rw [if_neg (by omega), if_neg (by omega), if_pos (by omega)]; exact a
theorem nm_add (x y : Qx c) : nm (x + y) = nm x + (nm y + 2 * (x.a * y.a + -(x.b * y.b * c))) := by
  show (x.a + y.a) * (x.a + y.a) - (x.b + y.b) * (x.b + y.b) * c = _
  unfold nm
  grind
theorem s_two_mul (u : R) : s (2 * u) = s u := by rw [mul, s_two]; omega
theorem po_AX (hc : s c = 1) {x y : Qx c} (a : s x.a = 1) (n : s (nm x) = 1) (a' : s y.a = 1) (n' : s (nm y) = 1 ∨ s (nm y) = 0) : s (x + y).a = 1 ∧ s (nm (x + y)) = 1 := by
  refine ⟨add _ _ a a', ?_⟩
  have d : s (x.a * y.a + -(x.b * y.b * c)) = 1 := by
    rw [dom' (x.a * y.a) (-(x.b * y.b * c)) (m := 1) ?_ rfl, mul, a, a']; rfl
    rw [show (x.a * y.a) * (x.a * y.a) - (-(x.b * y.b * c)) * (-(x.b * y.b * c)) = y.a * y.a * nm x + x.b * x.b * c * nm y by unfold nm; grind]
    refine s_add1 _ _ (by rw [mul, mul, a', n]; rfl) ?_
    rw [mul, mul, hc]
    rcases sgn_sq0 x.b with e | e <;> rcases n' with g | g <;> rw [e, g] <;> omega
  rw [nm_add]
  exact s_add1 _ _ n (.inl (s_add1' _ _ n' (by rw [s_two_mul]; exact d)))
theorem po_BX (hc : s c = 1) {x y : Qx c} (b : s x.b = 1) (n : s (nm x) = -1) (b' : s y.b = 1) (n' : s (nm y) = -1 ∨ s (nm y) = 0) : s (x + y).b = 1 ∧ s (nm (x + y)) = -1 := by
  refine ⟨add _ _ b b', ?_⟩
  have d : s (x.b * y.b * c + -(x.a * y.a)) = 1 := by
    rw [dom' (x.b * y.b * c) (-(x.a * y.a)) (m := 1) ?_ rfl, mul, mul, b, b', hc]; rfl
    rw [show (x.b * y.b * c) * (x.b * y.b * c) - (-(x.a * y.a)) * (-(x.a * y.a)) = y.b * y.b * c * -nm x + x.a * x.a * -nm y by unfold nm; grind]
    refine s_add1 _ _ (by rw [mul, mul, mul, b', hc, neg, n]; rfl) ?_
    rw [mul, neg]
    rcases sgn_sq0 x.a with e | e <;> rcases n' with g | g <;> rw [e, g] <;> omega
  have : s (-nm (x + y)) = 1 := by
    rw [show -nm (x + y) = -nm x + (-nm y + 2 * (x.b * y.b * c + -(x.a * y.a))) by rw [nm_add]; grind]
    exact s_add1 _ _ (by rw [neg, n]; rfl) (.inl (s_add1' _ _ (by rw [neg]; omega) (by rw [s_two_mul]; exact d)))
  rw [neg] at this
  omega
theorem po_CC (hc : s c = 1) {x y : Qx c} (a : s x.a = 1) (b : s x.b = 1) (n : s (nm x) = 0) (a' : s y.a = 1) (b' : s y.b = 1) (n' : s (nm y) = 0) : Po (x + y) := by
  refine .C (add _ _ a a') (add _ _ b b') ?_
  have d : s (x.a * y.a + -(x.b * y.b * c)) = 0 := by
    have p : s (x.a * y.a + x.b * y.b * c) * s (x.a * y.a + -(x.b * y.b * c)) = 0 := by
      rw [← mul, show (x.a * y.a + x.b * y.b * c) * (x.a * y.a + -(x.b * y.b * c)) = y.a * y.a * nm x + x.b * x.b * c * nm y by unfold nm; grind, add0 _ _ (by rw [mul, n]; omega), mul, n']; omega
    rw [add _ _ (by rw [mul, a, a']; rfl) (by rw [mul, mul, b, b', hc]; rfl)] at p
    omega
  rw [nm_add, add0 _ _ n, add0 _ _ n', s_two_mul]
  exact d
theorem addc (x y : Qx c) : x + y = y + x := by grind
theorem sq_add (hc : s c = 1 ∨ s c = 0) (x y : Qx c) (hx : sq x = 1) (hy : sq y = 1) : sq (x + y) = 1 := by
  rcases hc with hc | hc
  · have go : ∀ x y : Qx c, s x.a = 1 → s (nm x) = 1 → s y.b = 1 → s (nm y) = -1 → sq x = 1 → sq y = 1 → sq (x + y) = 1 := fun x y a n b m hx hy => by
      rcases sq_tri (x + y) with h | h | h
      · exact h
      · exfalso
        have h' : sq (-(x + y)) = 0 := by rw [sq_neg, h]; rfl
        have := sq_add0 (.inl hc) _ x h'
        rw [show -(x + y) + x = -y by grind, sq_neg] at this
        omega
      · exfalso
        have h' : sq (-(x + y)) = 1 := by rw [sq_neg, h]; rfl
        have e1 : -(x + y) + x = -y := by grind
        have e2 : -(x + y) + y = -x := by grind
        cases po_of hc _ h' with
        | A a' n' =>
          have := (po_AX hc a' n' a (.inl n)).2
          rw [e1, nm_neg] at this; omega
        | B b' n' =>
          have := (po_BX hc b' n' b (.inl m)).2
          rw [e2, nm_neg] at this; omega
        | C a' b' n' =>
          have := (po_AX hc a n a' (.inr n')).2
          rw [addc, e1, nm_neg] at this; omega
    cases po_of hc x hx with
    | A a n =>
      cases po_of hc y hy with
      | A a' n' => obtain ⟨p, q⟩ := po_AX hc a n a' (.inl n'); exact po_sq hc _ (.A p q)
      | B b' n' => exact go x y a n b' n' hx hy
      | C a' b' n' => obtain ⟨p, q⟩ := po_AX hc a n a' (.inr n'); exact po_sq hc _ (.A p q)
    | B b n =>
      cases po_of hc y hy with
      | A a' n' => rw [addc]; exact go y x a' n' b n hy hx
      | B b' n' => obtain ⟨p, q⟩ := po_BX hc b n b' (.inl n'); exact po_sq hc _ (.B p q)
      | C a' b' n' => obtain ⟨p, q⟩ := po_BX hc b n b' (.inr n'); exact po_sq hc _ (.B p q)
    | C a b n =>
      rw [addc]
      cases po_of hc y hy with
      | A a' n' => obtain ⟨p, q⟩ := po_AX hc a' n' a (.inr n); exact po_sq hc _ (.A p q)
      | B b' n' => obtain ⟨p, q⟩ := po_BX hc b' n' b (.inr n); exact po_sq hc _ (.B p q)
      | C a' b' n' => exact po_sq hc _ (po_CC hc a' b' n' a b n)
  · unfold sq at hx hy ⊢
    rw [if_pos hc] at hx hy ⊢
    exact add _ _ hx hy
theorem sq_one : sq (1 : Qx c) = 1 := by
  have e1 : (1 : Qx c).a = 1 := rfl
  have e2 : (1 : Qx c).b = 0 := rfl
  unfold sq
  rw [e1, e2, show nm (1 : Qx c) = 1 by unfold nm; rw [e1, e2]; grind, one]
  repeat' split
  all_goals first | rfl | omega
def sg (hc : s c = 1 ∨ s c = 0) : SgR (Qx c) := ⟨sq, sq_tri, sq_neg, sq_mul hc, sq_one, sq_add hc, sq_add0 hc⟩
end
end Qx
end Sg

/-! ## numbers with roots in order -/
namespace Or
 open Sg Sg.SgR Sg.Qx
instance sgI : SgR Int where
  s := sg
  tri a := by rcases sg_c a with ⟨_, h⟩ | ⟨_, h⟩ | ⟨_, h⟩ <;> omega
  neg a := by rcases sg_c a with ⟨z, h⟩ | ⟨z, h⟩ | ⟨z, h⟩ <;> rcases sg_c (-a) with ⟨w, g⟩ | ⟨w, g⟩ | ⟨w, g⟩ <;> omega
  mul a b := sg_mul a b
  one := rfl
  add a b ha hb := by
    rcases sg_c a with ⟨z, h⟩ | ⟨z, h⟩ | ⟨z, h⟩ <;> rcases sg_c b with ⟨w, g⟩ | ⟨w, g⟩ | ⟨w, g⟩ <;> first | exact sg_p (by omega) | omega
  add0 a b ha := by
    rcases sg_c a with ⟨z, h⟩ | ⟨z, h⟩ | ⟨z, h⟩
    · omega
    · rw [z, Int.zero_add]
    · omega
theorem sI (a : Int) : s a = sg a := rfl
/-- the sign of one + times * root of inner + again * root of other, as programs tell it -/
def swrs (x y d z c : Int) : Int := if swr x y d = sg z * sg c ∨ sg z * sg c = 0 then swr x y d else if swr x y d = 0 then sg z * sg c else swr x y d * swr (x * x + y * y * d - z * z * c) (2 * x * y) d
theorem Bd.swrs (x y d z c : Int) : Bd 8 (swrs x y d z c) := by
  unfold Or.swrs
  split
  · exact (Bd.swr _ _ _).mono (by decide)
  · split
    · exact ((Bd.sg z).mul (Bd.sg c)).mono (by decide)
    · exact ((Bd.swr _ _ _).mul (Bd.swr _ _ _)).mono (by decide)
section
variable {R : Type} [Lean.Grind.CommRing R] [SgR R]
/-- the sign of a sum by the signs of its parts and of the difference of their squares -/
theorem s_sum (u v : R) : s (u + v) = if s u = s v ∨ s v = 0 then s u else if s u = 0 then s v else s u * s (u * u - v * v) := by
  split
  · rename_i h
    rcases h with h | h
    · rcases tri u with e | e | e
      · rw [e, add _ _ e (by omega)]
      · rw [e, add0 _ _ e]; omega
      · rw [e, s_addN _ _ e (by omega)]
    · exact s_addr0 _ _ h
  · rename_i h
    split
    · rename_i e
      exact add0 _ _ e
    · rename_i e
      have hv : s (-v) = s u := by
        rw [neg]
        rcases tri u with a | a | a <;> rcases tri v with b | b | b <;> omega
      have h2 : s (u - v) = s u := by
        rw [show u - v = u + -v by grind]
        rcases tri u with a | a | a
        · rw [a, add _ _ a (by omega)]
        · omega
        · rw [a, s_addN _ _ a (by omega)]
      rw [show u * u - v * v = (u + v) * (u - v) by grind, mul, h2]
      rcases tri u with a | a | a <;> rw [a] <;> omega
end
theorem d_ok {d : Int} (h : 0 ≤ d) : s d = 1 ∨ s d = 0 := by
  rcases sg_c d with ⟨z, e⟩ | ⟨z, e⟩ | ⟨z, e⟩
  · exact .inl e
  · exact .inr e
  · omega
/-- the ring with both roots -/
abbrev R1 (d : Int) := Qx d
abbrev up {d : Int} (c : Int) : R1 d := ⟨c, 0⟩
abbrev T (d c : Int) := Qx (up c : R1 d)
theorem nm_up {d : Int} (c : Int) : nm (up c : R1 d) = c * c := by show c * c - 0 * 0 * d = c * c; grind
theorem sq_up {d : Int} (c : Int) : sq (up c : R1 d) = sg c := by
  unfold sq
  rw [nm_up]
  rcases sg_c c with ⟨z, e⟩ | ⟨z, e⟩ | ⟨z, e⟩
  all_goals simp only [sI, sg_mul, e, sg_z]
  all_goals repeat' split
  all_goals omega
section
variable {d c : Int}
def I1 (hd : 0 ≤ d) : SgR (R1 d) := Qx.sg (d_ok hd)
theorem c_ok (hd : 0 ≤ d) (hc : 0 ≤ c) : (I1 hd).s (up c : R1 d) = 1 ∨ (I1 hd).s (up c : R1 d) = 0 := by
  show sq (up c : R1 d) = 1 ∨ sq (up c : R1 d) = 0
  rw [sq_up]; exact d_ok hc
def I2 (hd : 0 ≤ d) (hc : 0 ≤ c) : SgR (T d c) := @Qx.sg _ _ (up c) (I1 hd) (c_ok hd hc)
/-- an integer, the roots -/
def ii (x : Int) : T d c := ⟨⟨x, 0⟩, ⟨0, 0⟩⟩
def rd : T d c := ⟨⟨0, 1⟩, ⟨0, 0⟩⟩
def rc : T d c := ⟨⟨0, 0⟩, ⟨1, 0⟩⟩
theorem x2 {x y : T d c} (h1 : x.a.a = y.a.a) (h2 : x.a.b = y.a.b) (h3 : x.b.a = y.b.a) (h4 : x.b.b = y.b.b) : x = y := ext' (ext' h1 h2) (ext' h3 h4)
theorem add_p (x y : T d c) : (x + y).a.a = x.a.a + y.a.a ∧ (x + y).a.b = x.a.b + y.a.b ∧ (x + y).b.a = x.b.a + y.b.a ∧ (x + y).b.b = x.b.b + y.b.b := ⟨rfl, rfl, rfl, rfl⟩
theorem mul_p (x y : T d c) : (x * y).a.a = x.a.a * y.a.a + x.a.b * y.a.b * d + ((x.b.a * y.b.a + x.b.b * y.b.b * d) * c + (x.b.a * y.b.b + x.b.b * y.b.a) * 0 * d) ∧ (x * y).a.b = x.a.a * y.a.b + x.a.b * y.a.a + ((x.b.a * y.b.a + x.b.b * y.b.b * d) * 0 + (x.b.a * y.b.b + x.b.b * y.b.a) * c) ∧
    (x * y).b.a = x.a.a * y.b.a + x.a.b * y.b.b * d + (x.b.a * y.a.a + x.b.b * y.a.b * d) ∧ (x * y).b.b = x.a.a * y.b.b + x.a.b * y.b.a + (x.b.a * y.a.b + x.b.b * y.a.a) := ⟨rfl, rfl, rfl, rfl⟩
theorem ii_add (x y : Int) : (ii (x + y) : T d c) = ii x + ii y := by apply x2 <;> simp only [add_p, ii] <;> omega
theorem ii_mul (x y : Int) : (ii (x * y) : T d c) = ii x * ii y := by apply x2 <;> (simp only [mul_p, ii]; grind)
theorem ii_neg (x : Int) : (ii (-x) : T d c) = -ii x := by
  apply x2
  · rfl
  · show (0 : Int) = -0; rfl
  · show (0 : Int) = -0; rfl
  · show (0 : Int) = -0; rfl
theorem ii_sub (x y : Int) : (ii (x - y) : T d c) = ii x - ii y := by
  rw [show x - y = x + -y by omega, ii_add, ii_neg]; grind
theorem rd2 : (rd * rd : T d c) = ii d := by apply x2 <;> (simp only [mul_p, rd, ii]; grind)
theorem rc2 : (rc * rc : T d c) = ii c := by apply x2 <;> (simp only [mul_p, rc, ii]; grind)
end
theorem sq_base {R : Type} [Lean.Grind.CommRing R] [SgR R] {c : R} (r : R) : sq (⟨r, 0⟩ : Qx c) = s r := by
  unfold sq
  rw [show nm (⟨r, 0⟩ : Qx c) = r * r by show r * r - 0 * 0 * c = r * r; grind, mul, s_zero]
  rcases tri r with e | e | e <;> simp only [e] <;> repeat' split
  all_goals omega
section
variable {d c : Int} (hd : 0 ≤ d) (hc : 0 ≤ c)
theorem s_ii (x : Int) : (I2 hd hc).s (ii x : T d c) = sg x := (@sq_base _ _ (I1 hd) (up c) ⟨x, 0⟩).trans (sq_base (c := d) x)
theorem s_rd : (I2 hd hc).s (rd : T d c) = sg d := by
  refine (@sq_base _ _ (I1 hd) (up c) ⟨0, 1⟩).trans ?_
  show sq (⟨0, 1⟩ : Qx d) = sg d
  unfold sq
  have e : nm (⟨0, 1⟩ : Qx d) = -d := by show 0 * 0 - 1 * 1 * d = -d; omega
  rw [e]
  rcases sg_c d with ⟨z, h⟩ | ⟨z, h⟩ | ⟨z, h⟩
  · rw [sI, h, show s (-d) = -1 from sg_n (by omega)]; rfl
  · rw [sI, h, if_pos rfl]; rfl
  · omega
theorem s_rc : (I2 hd hc).s (rc : T d c) = sg c := by
  letI := I1 hd
  show sq (⟨⟨0, 0⟩, ⟨1, 0⟩⟩ : T d c) = sg c
  have e : nm (⟨⟨0, 0⟩, ⟨1, 0⟩⟩ : T d c) = -(up c) := by
    show (⟨0, 0⟩ : R1 d) * ⟨0, 0⟩ - (⟨1, 0⟩ : R1 d) * ⟨1, 0⟩ * ⟨c, 0⟩ = -⟨c, 0⟩
    apply ext'
    · show 0 * 0 + 0 * 0 * d - ((1 * 1 + 0 * 0 * d) * c + (1 * 0 + 0 * 1) * 0 * d) = -c
      grind
    · show 0 * 0 + 0 * 0 - ((1 * 1 + 0 * 0 * d) * 0 + (1 * 0 + 0 * 1) * c) = -0
      grind
  have h0 : s (up c : R1 d) = sg c := sq_up c
  have h1 : s (⟨1, 0⟩ : R1 d) = 1 := sq_base (c := d) (1 : Int)
  have h2 : s (⟨0, 0⟩ : R1 d) = 0 := sq_base (c := d) (0 : Int)
  unfold sq
  rw [e, neg, h0]
  show (if sg c = 0 then s (⟨0, 0⟩ : R1 d) else if -sg c = 1 then s (⟨0, 0⟩ : R1 d) else if -sg c = -1 then s (⟨1, 0⟩ : R1 d) else if s (⟨0, 0⟩ : R1 d) = s (⟨1, 0⟩ : R1 d) then s (⟨0, 0⟩ : R1 d) else 0) = sg c
  rw [h1, h2]
  rcases sg_c c with ⟨z, h⟩ | ⟨z, h⟩ | ⟨z, h⟩
  · rw [h]; rfl
  · rw [h]; rfl
  · omega
theorem s_d (x y : Int) : (I2 hd hc).s (ii x + ii y * rd : T d c) = swr x y d := by
  letI := I2 hd hc
  have e : (ii x : T d c) * ii x - ii y * rd * (ii y * rd) = ii (x * x - y * y * d) := by
    rw [ii_sub, ii_mul, ii_mul, ii_mul, ← rd2]; grind
  have := s_sum (ii x : T d c) (ii y * rd)
  rw [e, mul, show s (ii x : T d c) = sg x from s_ii hd hc x, show s (ii y : T d c) = sg y from s_ii hd hc y, show s (rd : T d c) = sg d from s_rd hd hc, show s (ii (x * x - y * y * d) : T d c) = _ from s_ii hd hc _] at this
  exact this
theorem s_c (x z : Int) : (I2 hd hc).s (ii x + ii z * rc : T d c) = swr x z c := by
  letI := I2 hd hc
  have e : (ii x : T d c) * ii x - ii z * rc * (ii z * rc) = ii (x * x - z * z * c) := by
    rw [ii_sub, ii_mul, ii_mul, ii_mul, ← rc2]; grind
  have := s_sum (ii x : T d c) (ii z * rc)
  rw [e, mul, show s (ii x : T d c) = sg x from s_ii hd hc x, show s (ii z : T d c) = sg z from s_ii hd hc z, show s (rc : T d c) = sg c from s_rc hd hc, show s (ii (x * x - z * z * c) : T d c) = _ from s_ii hd hc _] at this
  exact this
theorem s_dc (x y z : Int) : (I2 hd hc).s (ii x + ii y * rd + ii z * rc : T d c) = swrs x y d z c := by
  letI := I2 hd hc
  have e : (ii x + ii y * rd : T d c) * (ii x + ii y * rd) - ii z * rc * (ii z * rc) = ii (x * x + y * y * d - z * z * c) + ii (2 * x * y) * rd := by
    rw [ii_sub, ii_add, ii_mul, ii_mul, ii_mul, ii_mul, ii_mul, ii_mul, ii_mul, ← rc2, ← rd2, show (ii 2 : T d c) = 2 from rfl]; grind
  have := s_sum (ii x + ii y * rd : T d c) (ii z * rc)
  rw [e, mul, show s (ii x + ii y * rd : T d c) = swr x y d from s_d hd hc x y, show s (ii z : T d c) = sg z from s_ii hd hc z, show s (rc : T d c) = sg c from s_rc hd hc, show s (ii (x * x + y * y * d - z * z * c) + ii (2 * x * y) * rd : T d c) = _ from s_d hd hc _ _] at this
  exact this
theorem s_cd (x y z : Int) : (I2 hd hc).s (ii x + ii y * rd + ii z * rc : T d c) = swrs x z c y d := by
  letI := I2 hd hc
  have e : (ii x + ii z * rc : T d c) * (ii x + ii z * rc) - ii y * rd * (ii y * rd) = ii (x * x + z * z * c - y * y * d) + ii (2 * x * z) * rc := by
    rw [ii_sub, ii_add, ii_mul, ii_mul, ii_mul, ii_mul, ii_mul, ii_mul, ii_mul, ← rc2, ← rd2, show (ii 2 : T d c) = 2 from rfl]; grind
  have := s_sum (ii x + ii z * rc : T d c) (ii y * rd)
  rw [e, mul, show s (ii x + ii z * rc : T d c) = swr x z c from s_c hd hc x z, show s (ii y : T d c) = sg y from s_ii hd hc y, show s (rd : T d c) = sg d from s_rd hd hc, show s (ii (x * x + z * z * c - y * y * d) + ii (2 * x * z) * rc : T d c) = _ from s_c hd hc _ _] at this
  rw [show (ii x + ii y * rd + ii z * rc : T d c) = ii x + ii z * rc + ii y * rd by grind]
  exact this
theorem null_d {t : Int} (t0 : 0 ≤ t) (ht : t * t = d) : (I2 hd hc).s (rd - ii t : T d c) = 0 := by
  letI := I2 hd hc
  have p : s ((rd + ii t) * (rd - ii t) : T d c) = 0 := by
    rw [show (rd + ii t) * (rd - ii t) = (ii (d - t * t) : T d c) by rw [ii_sub, ii_mul, ← rd2]; grind, show s (ii (d - t * t) : T d c) = _ from s_ii hd hc _, show d - t * t = 0 by omega]; rfl
  rw [mul] at p
  by_cases h : t = 0
  · rw [h] at ht ⊢
    rw [show (rd - ii 0 : T d c) = rd by apply x2 <;> rfl]
    rw [show s (rd : T d c) = _ from s_rd hd hc, ← ht]; rfl
  · have h1 : s (rd + ii t : T d c) = 1 := add _ _ (by rw [show s (rd : T d c) = _ from s_rd hd hc]; exact sg_p (by have := Int.mul_pos (show 0 < t by omega) (show 0 < t by omega); omega)) (by rw [show s (ii t : T d c) = _ from s_ii hd hc t]; exact sg_p (by omega))
    rw [h1] at p
    omega
theorem null_c {t : Int} (t0 : 0 ≤ t) (ht : t * t = c) : (I2 hd hc).s (rc - ii t : T d c) = 0 := by
  letI := I2 hd hc
  have p : s ((rc + ii t) * (rc - ii t) : T d c) = 0 := by
    rw [show (rc + ii t) * (rc - ii t) = (ii (c - t * t) : T d c) by rw [ii_sub, ii_mul, ← rc2]; grind, show s (ii (c - t * t) : T d c) = _ from s_ii hd hc _, show c - t * t = 0 by omega]; rfl
  rw [mul] at p
  by_cases h : t = 0
  · rw [h] at ht ⊢
    rw [show (rc - ii 0 : T d c) = rc by apply x2 <;> rfl]
    rw [show s (rc : T d c) = _ from s_rc hd hc, ← ht]; rfl
  · have h1 : s (rc + ii t : T d c) = 1 := add _ _ (by rw [show s (rc : T d c) = _ from s_rc hd hc]; exact sg_p (by have := Int.mul_pos (show 0 < t by omega) (show 0 < t by omega); omega)) (by rw [show s (ii t : T d c) = _ from s_ii hd hc t]; exact sg_p (by omega))
    rw [h1] at p
    omega
/-- a root that is an integer -/
theorem repl_d {t : Int} (t0 : 0 ≤ t) (ht : t * t = d) (x y : T d c) : (I2 hd hc).s (x + y * rd) = (I2 hd hc).s (x + y * ii t) := by
  letI := I2 hd hc
  rw [show x + y * rd = y * (rd - ii t) + (x + y * ii t) by grind]
  exact add0 _ _ (by rw [mul, show s (rd - ii t : T d c) = _ from null_d hd hc t0 ht, Int.mul_zero])
theorem repl_c {t : Int} (t0 : 0 ≤ t) (ht : t * t = c) (x y : T d c) : (I2 hd hc).s (x + y * rc) = (I2 hd hc).s (x + y * ii t) := by
  letI := I2 hd hc
  rw [show x + y * rc = y * (rc - ii t) + (x + y * ii t) by grind]
  exact add0 _ _ (by rw [mul, show s (rc - ii t : T d c) = _ from null_c hd hc t0 ht, Int.mul_zero])
include hd hc in
theorem swrs_symm (x y z : Int) : swrs x y d z c = swrs x z c y d := (s_dc hd hc x y z).symm.trans (s_cd hd hc x y z)
include hd hc in
theorem swrs_sqc {t : Int} (t0 : 0 ≤ t) (ht : t * t = c) (x y z : Int) : swrs x y d z c = swr (x + z * t) y d := by
  rw [← s_dc hd hc, repl_c hd hc t0 ht, ← ii_mul, show (ii x + ii y * rd + ii (z * t) : T d c) = ii (x + z * t) + ii y * rd by rw [ii_add]; grind]
  exact s_d hd hc _ _
include hd hc in
theorem swrs_sqd {t : Int} (t0 : 0 ≤ t) (ht : t * t = d) (x y z : Int) : swrs x y d z c = swr (x + y * t) z c := by
  rw [swrs_symm hd hc, swrs_sqc hc hd t0 ht]
include hd in
theorem swr_sq {t : Int} (t0 : 0 ≤ t) (ht : t * t = d) (x y : Int) : swr x y d = sg (x + y * t) := by
  have h := swrs_sqc (d := 0) (c := d) (by decide) hd t0 ht x 0 y
  have h2 := swrs_symm (d := 0) (c := d) (by decide) hd x 0 y
  have e1 : swrs x y d 0 0 = swr x y d := by unfold swrs; rw [if_pos (.inr (by rw [sg_z]; rfl))]
  have e2 : swr (x + y * t) 0 0 = sg (x + y * t) := by unfold swr; rw [if_pos (.inr (by rw [sg_z]; rfl))]
  rw [← e1, ← h2, h, e2]
end
theorem swr_0 (x d : Int) : swr x 0 d = sg x := by unfold swr; rw [if_pos (.inr (by rw [sg_z, Int.zero_mul]))]
theorem swrs_0 (x y d c : Int) : swrs x y d 0 c = swr x y d := by unfold swrs; rw [if_pos (.inr (by rw [sg_z, Int.zero_mul]))]
/-- a common factor changes no sign -/
theorem sg_fac {F G x x' : Int} (hF : 0 < F) (hG : 0 < G) (h : F * x = G * x') : sg x = sg x' := by
  have := congrArg sg h
  rwa [sg_mul, sg_mul, sg_p hF, sg_p hG, Int.one_mul, Int.one_mul] at this
theorem swr_fac {F G x y d x' y' d' : Int} (hF : 0 < F) (hG : 0 < G) (h1 : F * x = G * x') (h2 : F * F * (y * y * d) = G * G * (y' * y' * d')) (h3 : sg y * sg d = sg y' * sg d') : swr x y d = swr x' y' d' := by
  have e := sg_fac hF hG h1
  have e2 : sg (x * x - y * y * d) = sg (x' * x' - y' * y' * d') := sg_fac (Int.mul_pos hF hF) (Int.mul_pos hG hG) (by
    have : F * F * (x * x - y * y * d) = (F * x) * (F * x) - F * F * (y * y * d) := by grind
    rw [this, h1, h2]; grind)
  unfold swr
  rw [e, h3, e2]
theorem swrs_fac {F G x y d z c x' y' d' z' c' : Int} (hF : 0 < F) (hG : 0 < G) (h1 : F * x = G * x') (h2 : F * F * (y * y * d) = G * G * (y' * y' * d')) (h3 : sg y * sg d = sg y' * sg d') (h4 : F * F * (z * z * c) = G * G * (z' * z' * c')) (h5 : sg z * sg c = sg z' * sg c') : swrs x y d z c = swrs x' y' d' z' c' := by
  have e := swr_fac hF hG h1 h2 h3
  have sx := sg_fac hF hG h1
  have e2 : swr (x * x + y * y * d - z * z * c) (2 * x * y) d = swr (x' * x' + y' * y' * d' - z' * z' * c') (2 * x' * y') d' := by
    refine swr_fac (Int.mul_pos hF hF) (Int.mul_pos hG hG) ?_ ?_ ?_
    · have : F * F * (x * x + y * y * d - z * z * c) = (F * x) * (F * x) + F * F * (y * y * d) - F * F * (z * z * c) := by grind
      rw [this, h1, h2, h4]; grind
    · have : F * F * (F * F) * (2 * x * y * (2 * x * y) * d) = 4 * ((F * x) * (F * x)) * (F * F * (y * y * d)) := by grind
      rw [this, h1, h2]; grind
    · rw [sg_mul, sg_mul, sg_mul, sg_mul, sx, Int.mul_assoc, h3, ← Int.mul_assoc]
  unfold swrs
  rw [e, h5, e2]
end Or
open Or

/-! ## places in order -/
namespace Or
 open K10
/-- the sign of the difference of two places -/
def cmp4 (A B C s : Int) : List Int → Int
  | [u, v] => swr ((0 - B) * v - u * (2 * A)) (s * v) (B * B - 4 * A * C)
  | [a, b, c, t] => swrs ((0 - B) * (2 * a) - (0 - b) * (2 * A)) (s * (2 * a)) (B * B - 4 * A * C) (0 - t * (2 * A)) (b * b - 4 * a * c)
  | _ => 0
def cmpPl : List Int → List Int → Int
  | [x, y], [u, v] => sg (x * v - u * y)
  | [A, B, C, s], pl => cmp4 A B C s pl
  | [x, y], [a, b, c, t] => 0 - cmp4 a b c t [x, y]
  | _, _ => 0
/-- four numbers (p + q * root of d) / r -/
structure G4 where
  p : Int
  q : Int
  d : Int
  r : Int
def gap (g h : G4) : Int := swrs (g.p * h.r - h.p * g.r) (g.q * h.r) g.d (0 - h.q * g.r) h.d
/-- a place is the one of four numbers -/
inductive Rep (g : G4) : List Int → Prop
  | two {x y t : Int} (d0 : 0 ≤ g.d) (r0 : 0 < g.r) (t0 : 0 ≤ t) (ht : g.q = 0 ∨ t * t = g.d) (y0 : 0 ≤ y) (x0 : 0 ≤ x) (y1 : 0 < y) (e : (g.p + g.q * t) * y = x * g.r) (co : Int.gcd x y = 1) : Rep g [x, y]
  | four {A B C f s : Int} (d0 : 0 ≤ g.d) (r0 : 0 < g.r) (q0 : g.q ≠ 0) (dn : ¬ isq g.d) (h : Red (g.r * g.r) (-2 * g.p * g.r) (g.p * g.p - g.q * g.q * g.d) A B C f) (hs : s = sg g.q) : Rep g [A, B, C, s]
theorem red_A {g : G4} {A B C f : Int} (r0 : 0 < g.r) (h : Red (g.r * g.r) (-2 * g.p * g.r) (g.p * g.p - g.q * g.q * g.d) A B C f) : 0 < A := by
  have rr : 0 < g.r * g.r := Int.mul_pos r0 r0
  exact Int.pos_of_mul_pos_right (by rw [h.ha]; exact rr) h.f0 |> fun h => h
theorem red_D {g : G4} {A B C f : Int} (h : Red (g.r * g.r) (-2 * g.p * g.r) (g.p * g.p - g.q * g.q * g.d) A B C f) : f * f * (B * B - 4 * A * C) = 4 * (g.q * g.q) * (g.r * g.r) * g.d := by
  have : f * f * (B * B - 4 * A * C) = (f * B) * (f * B) - 4 * (f * A) * (f * C) := by grind
  rw [this, h.ha, h.hb, h.hc]; grind
theorem nsq_pos {d : Int} (d0 : 0 ≤ d) (dn : ¬ isq d) : 0 < d := by
  rcases Int.lt_or_eq_of_le d0 with h | h
  · exact h
  · exact absurd ⟨0, by decide, by rw [← h]; rfl⟩ dn
theorem red_Dp {g : G4} {A B C f : Int} (r0 : 0 < g.r) (d0 : 0 ≤ g.d) (q0 : g.q ≠ 0) (dn : ¬ isq g.d) (h : Red (g.r * g.r) (-2 * g.p * g.r) (g.p * g.p - g.q * g.q * g.d) A B C f) : 0 < B * B - 4 * A * C := by
  have ff : 0 < f * f := Int.mul_pos h.f0 h.f0
  have e := red_D h
  have : 0 < f * f * (B * B - 4 * A * C) := by
    rw [e]
    have h1 := K15.sq_pos q0
    have h2 := Int.mul_pos r0 r0
    exact Int.mul_pos (Int.mul_pos (by omega) h2) (nsq_pos d0 dn)
  exact Int.pos_of_mul_pos_right this ff |> fun h => h
theorem sg_s {q : Int} (q0 : q ≠ 0) : sg (sg q) = sg q := by
  rcases sg_c q with ⟨_, e⟩ | ⟨z, _⟩ | ⟨_, e⟩
  · rw [e]; rfl
  · exact absurd z q0
  · rw [e]; rfl
theorem sgsg {q : Int} (q0 : q ≠ 0) : sg q * sg q = 1 := by
  rcases sg_c q with ⟨_, e⟩ | ⟨z, _⟩ | ⟨_, e⟩
  · rw [e]; rfl
  · exact absurd z q0
  · rw [e]; rfl
/-- the gap to a fraction -/
theorem gap_sqc {g h : G4} {t : Int} (d0 : 0 ≤ g.d) (c0 : 0 ≤ h.d) (t0 : 0 ≤ t) (ht : h.q = 0 ∨ t * t = h.d) : gap g h = swr (g.p * h.r - (h.p + h.q * t) * g.r) (g.q * h.r) g.d := by
  unfold gap
  rcases ht with ht | ht
  · rw [ht, Int.zero_mul, Int.zero_mul, Int.add_zero, Int.sub_zero, swrs_0]
  · rw [swrs_sqc d0 c0 t0 ht]
    congr 1
    grind
theorem gap_anti {g h : G4} (d0 : 0 ≤ g.d) (c0 : 0 ≤ h.d) : gap h g = 0 - gap g h := by
  unfold gap
  have e := swrs_symm (d := h.d) (c := g.d) c0 d0 (h.p * g.r - g.p * h.r) (h.q * g.r) (0 - g.q * h.r)
  rw [e]
  have n : ∀ (d c x y z : Int) (d0 : 0 ≤ d) (c0 : 0 ≤ c), swrs (-x) (-y) d (-z) c = - swrs x y d z c := fun d c x y z d0 c0 => by
    rw [← s_dc d0 c0, ← s_dc d0 c0]
    letI := I2 d0 c0
    show Sg.SgR.s _ = - Sg.SgR.s _
    rw [← Sg.SgR.neg]
    congr 1
    rw [ii_neg, ii_neg, ii_neg]; grind
  have := n g.d h.d (g.p * h.r - h.p * g.r) (g.q * h.r) (0 - h.q * g.r) d0 c0
  have e2 : swrs (h.p * g.r - g.p * h.r) (0 - g.q * h.r) g.d (h.q * g.r) h.d = swrs (-(g.p * h.r - h.p * g.r)) (-(g.q * h.r)) g.d (-(0 - h.q * g.r)) h.d := by
    congr 1 <;> omega
  rw [e2, this]
  omega
theorem cmp_42 {g h : G4} {A B C s u v : Int} (hg : Rep g [A, B, C, s]) (hh : Rep h [u, v]) : cmp4 A B C s [u, v] = gap g h := by
  cases hg with
  | four d0 r0 q0 dn red hs =>
    cases hh with
    | two c0 e0 t0 ht v0 u0 v1 e co =>
      rename_i f t
      rw [gap_sqc d0 c0 t0 ht]
      show swr ((0 - B) * v - u * (2 * A)) (s * v) (B * B - 4 * A * C) = _
      refine swr_fac (F := f * h.r) (G := 2 * g.r * v) (Int.mul_pos red.f0 e0) (Int.mul_pos (by omega) v1) ?_ ?_ ?_
      · have e1 : f * h.r * ((0 - B) * v - u * (2 * A)) = -(f * B) * h.r * v - 2 * (f * A) * (u * h.r) := by grind
        rw [e1, red.ha, red.hb, ← e]; grind
      · have e1 : f * h.r * (f * h.r) * (s * v * (s * v) * (B * B - 4 * A * C)) = h.r * h.r * (v * v) * (s * s) * (f * f * (B * B - 4 * A * C)) := by grind
        rw [e1, red_D red, hs, sgsg q0]; grind
      · rw [sg_mul, sg_mul, sg_p v1, sg_p e0, hs, sg_s q0, sg_p (red_Dp r0 d0 q0 dn red), sg_p (nsq_pos d0 dn)]
theorem cmp_44 {g h : G4} {A B C s a b c t : Int} (hg : Rep g [A, B, C, s]) (hh : Rep h [a, b, c, t]) : cmp4 A B C s [a, b, c, t] = gap g h := by
  cases hg with
  | four d0 r0 q0 dn red hs =>
    cases hh with
    | four c0 e0 q1 cn red' ht =>
      rename_i f f'
      have a0 := red_A r0 red
      have a1 := red_A e0 red'
      show swrs ((0 - B) * (2 * a) - (0 - b) * (2 * A)) (s * (2 * a)) (B * B - 4 * A * C) (0 - t * (2 * A)) (b * b - 4 * a * c) = _
      unfold gap
      refine swrs_fac (F := f * f') (G := 4 * g.r * h.r) (Int.mul_pos red.f0 red'.f0) (Int.mul_pos (by omega) e0) ?_ ?_ ?_ ?_ ?_
      · have e1 : f * f' * ((0 - B) * (2 * a) - (0 - b) * (2 * A)) = -2 * (f * B) * (f' * a) + 2 * (f' * b) * (f * A) := by grind
        rw [e1, red.ha, red.hb, red'.ha, red'.hb]; grind
      · have e1 : f * f' * (f * f') * (s * (2 * a) * (s * (2 * a)) * (B * B - 4 * A * C)) = 4 * ((f' * a) * (f' * a)) * (s * s) * (f * f * (B * B - 4 * A * C)) := by grind
        rw [e1, red_D red, red'.ha, hs, sgsg q0]; grind
      · rw [sg_mul s, sg_mul g.q, sg_p (show 0 < 2 * a by omega), sg_p e0, hs, sg_s q0, sg_p (red_Dp r0 d0 q0 dn red), sg_p (nsq_pos d0 dn)]
      · have e1 : f * f' * (f * f') * ((0 - t * (2 * A)) * (0 - t * (2 * A)) * (b * b - 4 * a * c)) = 4 * ((f * A) * (f * A)) * (t * t) * (f' * f' * (b * b - 4 * a * c)) := by grind
        rw [e1, red_D red', red.ha, ht, sgsg q1]; grind
      · rw [show 0 - t * (2 * A) = (-1) * (t * (2 * A)) by omega, show 0 - h.q * g.r = (-1) * (h.q * g.r) by omega, sg_mul (-1) (t * (2 * A)), sg_mul (-1) (h.q * g.r), sg_mul t, sg_mul h.q, sg_p (show 0 < 2 * A by omega), sg_p r0, ht, sg_s q1, sg_p (red_Dp e0 c0 q1 cn red'), sg_p (nsq_pos c0 cn)]
theorem cmp_22 {g h : G4} {x y u v : Int} (hg : Rep g [x, y]) (hh : Rep h [u, v]) : cmpPl [x, y] [u, v] = gap g h := by
  cases hg with
  | two d0 r0 t0 ht y0 x0 y1 e co =>
    cases hh with
    | two c0 e0 t0' ht' v0 u0 v1 e' co' =>
      rename_i t t'
      rw [gap_sqc d0 c0 t0' ht']
      have e2 : swr (g.p * h.r - (h.p + h.q * t') * g.r) (g.q * h.r) g.d = sg (g.p * h.r - (h.p + h.q * t') * g.r + g.q * h.r * t) := by
        rcases ht with ht | ht
        · rw [ht, Int.zero_mul, Int.zero_mul, Int.add_zero, swr_0]
        · exact swr_sq d0 t0 ht _ _
      rw [e2]
      show sg (x * v - u * y) = _
      refine sg_fac (F := g.r * h.r) (G := y * v) (Int.mul_pos r0 e0) (Int.mul_pos y1 v1) ?_
      have e3 : g.r * h.r * (x * v - u * y) = (x * g.r) * h.r * v - (u * h.r) * g.r * y := by grind
      rw [e3, ← e, ← e']; grind
/-- places lie as their numbers -/
theorem cmp_ok {g h : G4} {pl pl' : List Int} (hg : Rep g pl) (hh : Rep h pl') : cmpPl pl pl' = gap g h := by
  have d0 : 0 ≤ g.d := by cases hg <;> assumption
  have c0 : 0 ≤ h.d := by cases hh <;> assumption
  cases hg with
  | two d0' r0 t0 ht y0 x0 y1 e co =>
    cases hh with
    | two c0' e0 t0' ht' v0 u0 v1 e' co' => exact cmp_22 (.two d0' r0 t0 ht y0 x0 y1 e co) (.two c0' e0 t0' ht' v0 u0 v1 e' co')
    | four c0' e0 q1 cn red' ht' =>
      rename_i x y t a b c f s
      show 0 - cmp4 a b c s [x, y] = _
      rw [cmp_42 (.four c0' e0 q1 cn red' ht') (.two d0' r0 t0 ht y0 x0 y1 e co), gap_anti d0 c0]
      omega
  | four d0' r0 q0 dn red hs =>
    cases hh with
    | two c0' e0 t0' ht' v0 u0 v1 e' co' => exact cmp_42 (.four d0' r0 q0 dn red hs) (.two c0' e0 t0' ht' v0 u0 v1 e' co')
    | four c0' e0 q1 cn red' ht' => exact cmp_44 (.four d0' r0 q0 dn red hs) (.four c0' e0 q1 cn red' ht')
theorem swr_nz {x y d : Int} (d0 : 0 ≤ d) (dn : ¬ isq d) (y0 : y ≠ 0) : swr x y d ≠ 0 := fun e => by
  have dp := sg_p (nsq_pos d0 dn)
  have sy : sg y = 1 ∨ sg y = -1 := K15.sg_nz y0
  have sn : sg (x * x - y * y * d) ≠ 0 := fun z => by
    rcases sg_c (x * x - y * y * d) with ⟨_, h⟩ | ⟨h, _⟩ | ⟨_, h⟩
    · omega
    · refine dn (isq_mul y0 ?_ d0)
      rw [show y * y * d = x * x by omega]
      rcases Int.le_total 0 x with k | k
      · exact ⟨x, k, rfl⟩
      · exact ⟨-x, by omega, by rw [Int.neg_mul_neg]⟩
    · omega
  unfold swr at e
  rw [dp, Int.mul_one] at e
  split at e
  · rename_i h
    rcases h with h | h <;> omega
  · split at e
    · omega
    · rename_i h
      rcases Int.mul_eq_zero.mp e with z | z
      · exact h z
      · exact sn z
theorem prim_un {m n A B C a b c : Int} (m0 : 0 < m) (n0 : 0 < n) (h1 : m * A = n * a) (h2 : m * B = n * b) (h3 : m * C = n * c) (g : Int.gcd (Int.gcd A B) C = 1) (g' : Int.gcd (Int.gcd a b) c = 1) : A = a ∧ B = b ∧ C = c := by
  have e1 : Int.gcd (Int.gcd (m * A) (m * B)) (m * C) = m.natAbs := by
    rw [Int.gcd_mul_left, Int.natCast_mul, show ((m.natAbs : Nat) : Int) = m by omega, Int.gcd_mul_left, g, Nat.mul_one]
  have e2 : Int.gcd (Int.gcd (n * a) (n * b)) (n * c) = n.natAbs := by
    rw [Int.gcd_mul_left, Int.natCast_mul, show ((n.natAbs : Nat) : Int) = n by omega, Int.gcd_mul_left, g', Nat.mul_one]
  have e : m = n := by
    rw [h1, h2, h3, e2] at e1
    omega
  subst e
  exact ⟨K15.mul_can' (by omega) h1, K15.mul_can' (by omega) h2, K15.mul_can' (by omega) h3⟩
theorem frac_un {x y u v : Int} (y0 : 0 < y) (v0 : 0 < v) (g : Int.gcd x y = 1) (g' : Int.gcd u v = 1) (e : x * v = u * y) : x = u ∧ y = v := by
  have dv : ∀ x y v : Int, Int.gcd x y = 1 → y ∣ x * v → y ∣ v := fun x y v g h => by
    have h1 := Int.natAbs_dvd_natAbs.mpr h
    rw [Int.natAbs_mul] at h1
    exact Int.natAbs_dvd_natAbs.mp (Nat.Coprime.dvd_of_dvd_mul_left (show Nat.Coprime y.natAbs x.natAbs by rw [Nat.coprime_comm]; exact g) h1)
  have d1 : y ∣ v := dv x y v g (by rw [e]; exact Int.dvd_mul_left _ _)
  have d2 : v ∣ y := dv u v y g' (by rw [← e]; exact Int.dvd_mul_left _ _)
  have e1 : y = v := Int.dvd_antisymm (by omega) (by omega) d1 d2
  subst e1
  exact ⟨Int.eq_of_mul_eq_mul_right (by omega) e, rfl⟩
theorem gap_self {g : G4} (d0 : 0 ≤ g.d) : gap g g = 0 := by
  have := gap_anti (g := g) (h := g) d0 d0
  omega
/-- places are alike just where the numbers are -/
theorem eq_ok {g h : G4} {pl pl' : List Int} (hg : Rep g pl) (hh : Rep h pl') : gap g h = 0 ↔ pl = pl' := by
  have d0 : 0 ≤ g.d := by cases hg <;> assumption
  have c0 : 0 ≤ h.d := by cases hh <;> assumption
  constructor
  · intro z
    cases hg with
    | two d0' r0 t0 ht y0 x0 y1 e co =>
      cases hh with
      | two c0' e0 t0' ht' v0 u0 v1 e' co' =>
        rename_i x y t u v t'
        have c := cmp_22 (.two d0' r0 t0 ht y0 x0 y1 e co) (.two c0' e0 t0' ht' v0 u0 v1 e' co')
        rw [z] at c
        have c : sg (x * v - u * y) = 0 := c
        have : x * v = u * y := by
          rcases sg_c (x * v - u * y) with ⟨_, k⟩ | ⟨k, _⟩ | ⟨_, k⟩ <;> omega
        obtain ⟨rfl, rfl⟩ := frac_un y1 v1 co co' this
        rfl
      | four c0' e0 q1 cn red' ht' =>
        exfalso
        rw [← Int.neg_eq_zero, show -gap g h = gap h g by rw [gap_anti d0 c0]; omega, gap_sqc c0 d0 t0 ht] at z
        exact swr_nz c0 cn (fun k => by rcases Int.mul_eq_zero.mp k with k | k <;> omega) z
    | four d0' r0 q0 dn red hs =>
      cases hh with
      | two c0' e0 t0' ht' v0 u0 v1 e' co' =>
        exfalso
        rw [gap_sqc d0 c0 t0' ht'] at z
        exact swr_nz d0 dn (fun k => by rcases Int.mul_eq_zero.mp k with k | k <;> omega) z
      | four c0' e0 q1 cn red' ht' =>
        rename_i A B C f s a b c f' s'
        have Y0 : g.q * h.r ≠ 0 := fun k => by rcases Int.mul_eq_zero.mp k with k | k <;> omega
        have Z0 : 0 - h.q * g.r ≠ 0 := fun k => by
          have : h.q * g.r = 0 := by omega
          rcases Int.mul_eq_zero.mp this with k | k <;> omega
        have l0 := swr_nz (x := g.p * h.r - h.p * g.r) d0 dn Y0
        have sz := K15.sg_nz Z0
        have cp := sg_p (nsq_pos c0 cn)
        have dp := sg_p (nsq_pos d0 dn)
        unfold gap swrs at z
        rw [cp, Int.mul_one] at z
        have w0 : swr ((g.p * h.r - h.p * g.r) * (g.p * h.r - h.p * g.r) + g.q * h.r * (g.q * h.r) * g.d - (0 - h.q * g.r) * (0 - h.q * g.r) * h.d) (2 * (g.p * h.r - h.p * g.r) * (g.q * h.r)) g.d = 0 ∧ swr (g.p * h.r - h.p * g.r) (g.q * h.r) g.d ≠ sg (0 - h.q * g.r) := by
          split at z
          · rename_i k
            exact absurd z l0
          · rename_i k
            (try rw [if_neg l0] at z)
            rcases Int.mul_eq_zero.mp z with k2 | k2
            · exact absurd k2 l0
            · exact ⟨k2, fun e => k (.inl e)⟩
        have X0 : g.p * h.r - h.p * g.r = 0 := by
          rcases Int.lt_trichotomy (g.p * h.r - h.p * g.r) 0 with k | k | k
          · exact absurd w0.1 (swr_nz d0 dn fun e => by
              rcases Int.mul_eq_zero.mp e with e | e <;> omega)
          · exact k
          · exact absurd w0.1 (swr_nz d0 dn fun e => by
              rcases Int.mul_eq_zero.mp e with e | e <;> omega)
        rw [X0, show (2 : Int) * 0 * (g.q * h.r) = 0 by omega, swr_0] at w0
        have eY : g.q * h.r * (g.q * h.r) * g.d = (0 - h.q * g.r) * (0 - h.q * g.r) * h.d := by
          have w := w0.1
          rcases sg_c (0 * 0 + g.q * h.r * (g.q * h.r) * g.d - (0 - h.q * g.r) * (0 - h.q * g.r) * h.d) with ⟨_, k⟩ | ⟨k, _⟩ | ⟨_, k⟩ <;> omega
        have eS : sg g.q = sg h.q := by
          have w := w0.2
          have : swr 0 (g.q * h.r) g.d = sg g.q := by
            unfold swr
            rw [dp, Int.mul_one, sg_mul, sg_p e0, Int.mul_one, sg_z]
            have := K15.sg_nz q0
            rw [if_neg (by omega), if_pos rfl]
          rw [this, show 0 - h.q * g.r = (-1) * (h.q * g.r) by omega, sg_mul, sg_mul, sg_p r0, show sg (-1) = -1 from rfl] at w
          have := K15.sg_nz q0
          have := K15.sg_nz q1
          omega
        have m0 : 0 < f * (h.r * h.r) := Int.mul_pos red.f0 (Int.mul_pos e0 e0)
        have n0 : 0 < f' * (g.r * g.r) := Int.mul_pos red'.f0 (Int.mul_pos r0 r0)
        have pe : g.p * h.r = h.p * g.r := by omega
        obtain ⟨rfl, rfl, rfl⟩ := prim_un m0 n0 (show f * (h.r * h.r) * A = f' * (g.r * g.r) * a by
            have e1 : f * (h.r * h.r) * A = (f * A) * (h.r * h.r) := by grind
            have e2 : f' * (g.r * g.r) * a = (f' * a) * (g.r * g.r) := by grind
            rw [e1, e2, red.ha, red'.ha]; grind) (show f * (h.r * h.r) * B = f' * (g.r * g.r) * b by
            have e1 : f * (h.r * h.r) * B = (f * B) * (h.r * h.r) := by grind
            have e2 : f' * (g.r * g.r) * b = (f' * b) * (g.r * g.r) := by grind
            rw [e1, e2, red.hb, red'.hb]
            have e3 : -2 * g.p * g.r * (h.r * h.r) = -2 * (g.p * h.r) * (g.r * h.r) := by grind
            rw [e3, pe]; grind) (show f * (h.r * h.r) * C = f' * (g.r * g.r) * c by
            have e1 : f * (h.r * h.r) * C = (f * C) * (h.r * h.r) := by grind
            have e2 : f' * (g.r * g.r) * c = (f' * c) * (g.r * g.r) := by grind
            rw [e1, e2, red.hc, red'.hc]
            have e3 : (g.p * g.p - g.q * g.q * g.d) * (h.r * h.r) = (g.p * h.r) * (g.p * h.r) - g.q * h.r * (g.q * h.r) * g.d := by grind
            rw [e3, pe, eY]; grind) red.g red'.g
        rw [hs, ht', eS]
  · intro e
    subst e
    rw [← cmp_ok hg hh, cmp_ok hg hg, gap_self d0]
end Or

/-! ## edges in order -/
namespace Eo
open Or
def sp_swrs : Sp := fun vs H Q _ => ∃ x y d z c : Int, vs = [.int x, .int y, .int d, .int z, .int c] ∧ (Bd 190 x ∧ Bd 100 y ∧ Bd 190 d ∧ Bd 100 z ∧ Bd 190 c) ∧ Q (.int (swrs x y d z c)) H
inductive PlO : List Int → Prop
  | two {x y : Int} (bx : Bd 90 x) (b_y : Bd 90 y) : PlO [x, y]
  | four {A B C s : Int} (ba : Bd 90 A) (bb : Bd 90 B) (bc : Bd 90 C) (bs : Bd 4 s) : PlO [A, B, C, s]
def sp_cmp4 (K : PySem.W.Frag) : Sp := fun vs H Q _ => ∃ (p q : Addr) (A B C s : Int) (pl : List Int), vs = [.ref p, .ref q] ∧ H p = some (.tup [.int A, .int B, .int C, .int s]) ∧ H q = some (.tup (pl.map V.int)) ∧ PlO [A, B, C, s] ∧ PlO pl ∧ ∀ H', Same H H' → Q (.int (cmp4 A B C s pl)) H'
def sp_cmp (K : PySem.W.Frag) : Sp := fun vs H Q _ => ∃ (p q : Addr) (pl pl' : List Int), vs = [.ref p, .ref q] ∧ H p = some (.tup (pl.map V.int)) ∧ H q = some (.tup (pl'.map V.int)) ∧ PlO pl ∧ PlO pl' ∧ ∀ H', Same H H' → Q (.int (cmpPl pl pl')) H'
def sp_ecmp (CE : Addr) (r : Int → Bool) : Sp := fun vs H Q _ => ∃ (e g : Addr) (pl pl' : List Int), vs = [.ref e, .ref g] ∧ EdgeAt CE H e pl ∧ EdgeAt CE H g pl' ∧ PlO pl ∧ PlO pl' ∧ ∀ H', Same H H' → Q (.bl (r (cmpPl pl pl'))) H'
def sp_eeq2 (CE : Addr) (K : PySem.W.Frag) : Sp := fun vs H Q _ => ∃ (e : Addr) (y : V) (pl : List Int), vs = [.ref e, y] ∧ EdgeAt CE H e pl ∧
  ((∃ (g : Addr) (pl' : List Int), y = .ref g ∧ EdgeAt CE H g pl' ∧ Q (.bl (decide (pl = pl'))) H) ∨ (∃ t, TyX K H y t ∧ PySem.W.kitOne K t (.ref CE) = some false ∧ Q (.bl false) H))
theorem D_bd {A B C : Int} (ba : Bd 90 A) (bb : Bd 90 B) (bc : Bd 90 C) : Bd 190 (B * B - 4 * A * C) := ((bb.mul bb).sub (((show Bd 3 4 from (show Int.natAbs 4 < 2 ^ 3 by decide)).mul ba).mul bc)).mono (by decide)
theorem two_bd {A : Int} {n : Nat} (ba : Bd n A) : Bd (n + 2) (2 * A) := ((show Bd 2 2 from (show Int.natAbs 2 < 2 ^ 2 by decide)).mul ba).mono (by omega)
theorem neg_bd {A : Int} {n : Nat} (ba : Bd n A) : Bd n (0 - A) := by unfold Bd at *; omega
end Eo
open Or Eo
section
variable {P : Program} {w : World} {K : PySem.W.Frag} {mg : Str → Option Value} {base : Heap}
theorem ok_swrs {f : Addr} {fd : FuncData} (F : Fun K "sign_with_roots" "sign_with_roots" S_sign_with_roots f fd) (T : Txt K mg) (C_sign : FnC P w K mg base CX0 1 "sign_of" ["number"] sp_sign) (C_swr : FnC P w K mg base CX0 2 "sign_with_root" ["one", "times", "inner"] sp_swr) : FnOk P w K mg base CX0 3 f fd ["one", "times", "inner", "again", "other"] sp_swrs := by
  refine F.ok SC_sign_with_roots (fun vs H Q E h => ?_) (fun cdv A outer s H vs Q E hr h => ?_)
  · obtain ⟨x, y, d, z, c, rfl, _⟩ := h
    rfl
  · obtain ⟨x, y, d, z, c, rfl, ⟨bx, b_y, bd, bz, bc⟩, q⟩ := h
    refine ⟨_, (pss_cons (ps_par (i := 5) (j := 6) (by rfl) SC_sign_with_roots.nd rfl rfl (by decide) rfl rfl (pa_cons (pe_callC C_swr (hr.mono (by decide)) rfl (pa_cons (pv 0) (pa_cons (pv 1) (pa_cons (pv 2) pa_nil)))) (pa_cons (pe_op op_mulW (pe_callC C_sign (hr.mono (by decide)) rfl (pa_cons (pv 3) pa_nil)) (pe_callC C_sign (hr.mono (by decide)) rfl (pa_cons (pv 4) pa_nil))) pa_nil)) (by rfl))
      (pss_cons (ps_if (PW.pt (pw_or (pt_cmpR op_eq (pv 5) (pv 6) (nomark _)) (pw_or1 (pt_cmpR op_eq (pv 6) pe_int (nomark _))))) (pss_one (ps_ret (pv 5))) pss_nil)
      (pss_cons (ps_if (pt_cmpR op_eq (pv 5) pe_int (nomark _)) (pss_one (ps_ret (pv 6))) pss_nil)
      (pss_cons (ps_set (i := 7) SC_sign_with_roots.nd rfl (.inl rfl) (pe_op op_sub (pe_op op_add (pe_op op_mulW (pv 0) (pv 0)) (pe_op op_mulW (pe_op op_mulW (pv 1) (pv 1)) (pv 2))) (pe_op op_mulW (pe_op op_mulW (pv 3) (pv 3)) (pv 4))))
      (pss_nrm (pss_one (ps_ret (pe_op op_mulW (pv 5) (pe_callC C_swr (hr.mono (by decide)) rfl (pa_cons (pv 7) (pa_cons (pe_op op_mulW (pe_op op_mulW pe_int (pv 0)) (pv 1)) (pa_cons (pv 2) pa_nil)))))))))))), ?_⟩
    unfold swrs at q
    walk_at "kw"
    refine ite2 (fun h => ?_) (fun h => ?_)
    · rw [if_pos (.inl (V.int.inj (of_decide_eq_true h)))] at q
      exact ⟨_, rfl, q⟩
    have n1 : ¬ swr x y d = sg z * sg c := fun e => h (decide_eq_true (congrArg V.int e))
    walk_at "kw"
    refine ite2 (fun h => ?_) (fun h => ?_)
    · rw [if_pos (.inr (V.int.inj (of_decide_eq_true h)))] at q
      exact ⟨_, rfl, q⟩
    have n2 : ¬ sg z * sg c = 0 := fun e => h (decide_eq_true (congrArg V.int e))
    rw [if_neg (fun z => z.elim n1 n2)] at q
    walk_at "kw"
    refine ite2 (fun h => ?_) (fun h => ?_)
    · rw [if_pos (V.int.inj (of_decide_eq_true h))] at q
      exact ⟨_, rfl, q⟩
    rw [if_neg (fun e => h (decide_eq_true (congrArg V.int e)))] at q
    have k1 : Bd 400 (x * x + y * y * d - z * z * c) := (((bx.mul bx).add ((b_y.mul b_y).mul bd)).sub ((bz.mul bz).mul bc)).mono (by decide)
    have k2 : Bd 400 (2 * x * y) := ((two_bd bx).mul b_y).mono (by decide)
    have k3 : Bd 400 d := bd.mono (by decide)
    walk_at "kw"
    exact q
theorem ok_cmp4 {f : Addr} {fd : FuncData} (F : Fun K "compared" "compared" S_compared f fd) (T : Txt K mg) (C_sign : FnC P w K mg base CX0 1 "sign_of" ["number"] sp_sign) (C_swr : FnC P w K mg base CX0 2 "sign_with_root" ["one", "times", "inner"] sp_swr) (C_swrs : FnC P w K mg base CX0 3 "sign_with_roots" ["one", "times", "inner", "again", "other"] sp_swrs) (C_inner : FnC P w K mg base CX0 1 "inner_of" ["root"] (sp_inner K)) : FnOk P w K mg base CX0 4 f fd ["one", "other"] (sp_cmp4 K) := by
  refine F.ok SC_compared (fun vs H Q E h => ?_) (fun cdv A outer s H vs Q E hr h => ?_)
  · obtain ⟨p, q, A, B, C, s, pl, rfl, _⟩ := h
    rfl
  · obtain ⟨p, q, A, B, C, sd, pl, rfl, hp, hq, ho, ho', k⟩ := h
    refine ⟨_, (pss_cons (ps_if (PW.pt (pw_and (pt_cmpR op_eq (pe_callB call_len_seq (by rfl) T.b_len (by decide +kernel) (pa_cons (pv 0) pa_nil)) pe_int (nomark _)) (pw_and1 (pt_cmpR op_eq (pe_callB call_len_seq (by rfl) T.b_len (by decide +kernel) (pa_cons (pv 1) pa_nil)) pe_int (nomark _))))) (pss_one (ps_ret (pe_callC C_sign (hr.mono (by decide)) rfl (pa_cons (pe_op op_sub (pe_op op_mulW (pe_ix ix_tup (pv 0) pe_int (fun _ _ => rfl)) (pe_ix ix_tup (pv 1) pe_int (fun _ _ => rfl))) (pe_op op_mulW (pe_ix ix_tup (pv 1) pe_int (fun _ _ => rfl)) (pe_ix ix_tup (pv 0) pe_int (fun _ _ => rfl)))) pa_nil)))) pss_nil)
      (pss_cons (ps_if (pt_cmpR op_eq (pe_callB call_len_seq (by rfl) T.b_len (by decide +kernel) (pa_cons (pv 0) pa_nil)) pe_int (nomark _)) (pss_one (ps_ret (pe_op op_sub pe_int pe_never))) pss_nil)
      (pss_cons (ps_par (i := 2) (j := 3) (by rfl) SC_compared.nd rfl rfl (by decide) rfl rfl (pa_cons (pe_op op_sub pe_int (pe_ix ix_tup (pv 0) pe_int (fun _ _ => rfl))) (pa_cons (pe_op op_mulW pe_int (pe_ix ix_tup (pv 0) pe_int (fun _ _ => rfl))) pa_nil)) (by rfl))
      (pss_cons (ps_if (pt_cmpR op_eq (pe_callB call_len_seq (by rfl) T.b_len (by decide +kernel) (pa_cons (pv 1) pa_nil)) pe_int (nomark _)) (pss_one (ps_ret (pe_callC C_swr (hr.mono (by decide)) rfl (pa_cons (pe_op op_sub (pe_op op_mulW (pv 2) (pe_ix ix_tup (pv 1) pe_int (fun _ _ => rfl))) (pe_op op_mulW (pe_ix ix_tup (pv 1) pe_int (fun _ _ => rfl)) (pv 3))) (pa_cons (pe_op op_mulW (pe_ix ix_tup (pv 0) pe_int (fun _ _ => rfl)) (pe_ix ix_tup (pv 1) pe_int (fun _ _ => rfl))) (pa_cons (pe_callC C_inner (hr.mono (by decide)) rfl (pa_cons (pv 0) pa_nil)) pa_nil)))))) pss_nil)
      (pss_cons (ps_par (i := 4) (j := 5) (by rfl) SC_compared.nd rfl rfl (by decide) rfl rfl (pa_cons (pe_op op_sub pe_int (pe_ix ix_tup (pv 1) pe_int (fun _ _ => rfl))) (pa_cons (pe_op op_mulW pe_int (pe_ix ix_tup (pv 1) pe_int (fun _ _ => rfl))) pa_nil)) (by rfl))
      (pss_nrm (pss_cons (ps_set (i := 6) SC_compared.nd rfl (.inl rfl) (pe_op op_sub (pe_op op_mulW (pv 2) (pv 5)) (pe_op op_mulW (pv 4) (pv 3))))
      (pss_one (ps_ret (pe_callC C_swrs (hr.mono (by decide)) rfl (pa_cons (pv 6) (pa_cons (pe_op op_mulW (pe_ix ix_tup (pv 0) pe_int (fun _ _ => rfl)) (pv 5)) (pa_cons (pe_callC C_inner (hr.mono (by decide)) rfl (pa_cons (pv 0) pa_nil)) (pa_cons (pe_op op_sub pe_int (pe_op op_mulW (pe_ix ix_tup (pv 1) pe_int (fun _ _ => rfl)) (pv 3))) (pa_cons (pe_callC C_inner (hr.mono (by decide)) rfl (pa_cons (pv 1) pa_nil)) pa_nil))))))))))))))), ?_⟩
    cases ho with
    | four ba bb bc bs =>
      have bD := D_bd ba bb bc
      have i1 : Bd 800 A := ba.mono (by decide)
      have i2 : Bd 800 B := bb.mono (by decide)
      have i3 : Bd 800 C := bc.mono (by decide)
      cases ho' with
      | two bu bv =>
        rename_i u v
        have W := ((Ho.start H).call (Same.refl H) hp).call (o := .tup [.int u, .int v]) (Same.refl H) hq
        have e1 : Bd 400 ((0 - B) * v - u * (2 * A)) := (((neg_bd bb).mul bv).sub (bu.mul (two_bd ba))).mono (by decide)
        have e2 : Bd 400 (sd * v) := (bs.mul bv).mono (by decide)
        have e3 := bD.mono (show 190 ≤ 400 by decide)
        walk_at "kw"
        refine ifF rfl (ifF rfl ?_)
        walk_at "kw"
        refine ifF rfl ?_
        walk_at "kw"
        refine ifT rfl ?_
        walk_at "kw"
        exact k H W.sm
      | four ca cb cc cs =>
        rename_i a b c t
        have W := ((Ho.start H).call (Same.refl H) hp).call (o := .tup [.int a, .int b, .int c, .int t]) (Same.refl H) hq
        have cD := D_bd ca cb cc
        have j1 : Bd 800 a := ca.mono (by decide)
        have j2 : Bd 800 b := cb.mono (by decide)
        have j3 : Bd 800 c := cc.mono (by decide)
        have e1 : Bd 190 ((0 - B) * (2 * a) - (0 - b) * (2 * A)) := (((neg_bd bb).mul (two_bd ca)).sub ((neg_bd cb).mul (two_bd ba))).mono (by decide)
        have e2 : Bd 100 (sd * (2 * a)) := (bs.mul (two_bd ca)).mono (by decide)
        have e3 : Bd 100 (0 - t * (2 * A)) := neg_bd ((cs.mul (two_bd ba)).mono (by decide))
        walk_at "kw"
        refine ifF rfl (ifF rfl ?_)
        walk_at "kw"
        refine ifF rfl ?_
        walk_at "kw"
        refine ifF rfl ?_
        walk_at "kw"
        exact ⟨_, _, _, _, _, rfl, ⟨e1, e2, bD, e3, cD⟩, k H W.sm⟩
theorem ok_cmp {f : Addr} {fd : FuncData} (F : Fun K "compared" "compared" S_compared f fd) (T : Txt K mg) (C_sign : FnC P w K mg base CX0 1 "sign_of" ["number"] sp_sign) (C_swr : FnC P w K mg base CX0 2 "sign_with_root" ["one", "times", "inner"] sp_swr) (C_swrs : FnC P w K mg base CX0 3 "sign_with_roots" ["one", "times", "inner", "again", "other"] sp_swrs) (C_inner : FnC P w K mg base CX0 1 "inner_of" ["root"] (sp_inner K)) (C_cmp4 : FnC P w K mg base CX0 4 "compared" ["one", "other"] (sp_cmp4 K)) : FnOk P w K mg base CX0 6 f fd ["one", "other"] (sp_cmp K) := by
  refine F.ok SC_compared (fun vs H Q E h => ?_) (fun cdv A outer s H vs Q E hr h => ?_)
  · obtain ⟨p, q, pl, pl', rfl, _⟩ := h
    rfl
  · obtain ⟨p, q, pl, pl', rfl, hp, hq, ho, ho', k⟩ := h
    refine ⟨_, (pss_cons (ps_if (PW.pt (pw_and (pt_cmpR op_eq (pe_callB call_len_seq (by rfl) T.b_len (by decide +kernel) (pa_cons (pv 0) pa_nil)) pe_int (nomark _)) (pw_and1 (pt_cmpR op_eq (pe_callB call_len_seq (by rfl) T.b_len (by decide +kernel) (pa_cons (pv 1) pa_nil)) pe_int (nomark _))))) (pss_one (ps_ret (pe_callC C_sign (hr.mono (by decide)) rfl (pa_cons (pe_op op_sub (pe_op op_mulW (pe_ix ix_tup (pv 0) pe_int (fun _ _ => rfl)) (pe_ix ix_tup (pv 1) pe_int (fun _ _ => rfl))) (pe_op op_mulW (pe_ix ix_tup (pv 1) pe_int (fun _ _ => rfl)) (pe_ix ix_tup (pv 0) pe_int (fun _ _ => rfl)))) pa_nil)))) pss_nil)
      (pss_cons (ps_if (pt_cmpR op_eq (pe_callB call_len_seq (by rfl) T.b_len (by decide +kernel) (pa_cons (pv 0) pa_nil)) pe_int (nomark _)) (pss_one (ps_ret (pe_op op_sub pe_int (pe_callC C_cmp4 (hr.mono (by decide)) rfl (pa_cons (pv 1) (pa_cons (pv 0) pa_nil)))))) pss_nil)
      (pss_cons (ps_par (i := 2) (j := 3) (by rfl) SC_compared.nd rfl rfl (by decide) rfl rfl (pa_cons (pe_op op_sub pe_int (pe_ix ix_tup (pv 0) pe_int (fun _ _ => rfl))) (pa_cons (pe_op op_mulW pe_int (pe_ix ix_tup (pv 0) pe_int (fun _ _ => rfl))) pa_nil)) (by rfl))
      (pss_cons (ps_if (pt_cmpR op_eq (pe_callB call_len_seq (by rfl) T.b_len (by decide +kernel) (pa_cons (pv 1) pa_nil)) pe_int (nomark _)) (pss_one (ps_ret (pe_callC C_swr (hr.mono (by decide)) rfl (pa_cons (pe_op op_sub (pe_op op_mulW (pv 2) (pe_ix ix_tup (pv 1) pe_int (fun _ _ => rfl))) (pe_op op_mulW (pe_ix ix_tup (pv 1) pe_int (fun _ _ => rfl)) (pv 3))) (pa_cons (pe_op op_mulW (pe_ix ix_tup (pv 0) pe_int (fun _ _ => rfl)) (pe_ix ix_tup (pv 1) pe_int (fun _ _ => rfl))) (pa_cons (pe_callC C_inner (hr.mono (by decide)) rfl (pa_cons (pv 0) pa_nil)) pa_nil)))))) pss_nil)
      (pss_cons (ps_par (i := 4) (j := 5) (by rfl) SC_compared.nd rfl rfl (by decide) rfl rfl (pa_cons (pe_op op_sub pe_int (pe_ix ix_tup (pv 1) pe_int (fun _ _ => rfl))) (pa_cons (pe_op op_mulW pe_int (pe_ix ix_tup (pv 1) pe_int (fun _ _ => rfl))) pa_nil)) (by rfl))
      (pss_nrm (pss_cons (ps_set (i := 6) SC_compared.nd rfl (.inl rfl) (pe_op op_sub (pe_op op_mulW (pv 2) (pv 5)) (pe_op op_mulW (pv 4) (pv 3))))
      (pss_one (ps_ret (pe_callC C_swrs (hr.mono (by decide)) rfl (pa_cons (pv 6) (pa_cons (pe_op op_mulW (pe_ix ix_tup (pv 0) pe_int (fun _ _ => rfl)) (pv 5)) (pa_cons (pe_callC C_inner (hr.mono (by decide)) rfl (pa_cons (pv 0) pa_nil)) (pa_cons (pe_op op_sub pe_int (pe_op op_mulW (pe_ix ix_tup (pv 1) pe_int (fun _ _ => rfl)) (pv 3))) (pa_cons (pe_callC C_inner (hr.mono (by decide)) rfl (pa_cons (pv 1) pa_nil)) pa_nil))))))))))))))), ?_⟩
    have h4 : ∀ {A B C s : Int} {pl : List Int}, H p = some (.tup [.int A, .int B, .int C, .int s]) → PlO [A, B, C, s] → H q = some (.tup (pl.map V.int)) → PlO pl → (∀ H', Same H H' → Q (.int (cmp4 A B C s pl)) H') → True := fun _ _ _ _ _ => trivial
    cases ho with
    | two bx b_y =>
      rename_i x y
      cases ho' with
      | two bu bv =>
        rename_i u v
        have W := ((Ho.start H).call (o := .tup [.int x, .int y]) (Same.refl H) hp).call (o := .tup [.int u, .int v]) (Same.refl H) hq
        walk_at "kw"
        refine ifT rfl ?_
        walk_at "kw"
        refine ifT rfl ?_
        walk_at "kw"
        exact k H W.sm
      | four ca cb cc cs =>
        rename_i a b c t
        have W := ((Ho.start H).call (o := .tup [.int x, .int y]) (Same.refl H) hp).call (o := .tup [.int a, .int b, .int c, .int t]) (Same.refl H) hq
        walk_at "kw"
        refine ifT rfl ?_
        walk_at "kw"
        refine ifF rfl ?_
        walk_at "kw"
        refine ifT rfl ?_
        walk_at "kw"
        refine ⟨q, p, a, b, c, t, [x, y], rfl, W.get (.head _), W.get (.tail _ (.head _)), .four ca cb cc cs, .two bx b_y, fun H1 s1 => ?_⟩
        walk_at "kw"
        exact k H1 s1
    | four ba bb bc bs =>
      rename_i A B C sd
      have bD := D_bd ba bb bc
      have i1 : Bd 800 A := ba.mono (by decide)
      have i2 : Bd 800 B := bb.mono (by decide)
      have i3 : Bd 800 C := bc.mono (by decide)
      cases ho' with
      | two bu bv =>
        rename_i u v
        have W := ((Ho.start H).call (o := .tup [.int A, .int B, .int C, .int sd]) (Same.refl H) hp).call (o := .tup [.int u, .int v]) (Same.refl H) hq
        have e1 : Bd 400 ((0 - B) * v - u * (2 * A)) := (((neg_bd bb).mul bv).sub (bu.mul (two_bd ba))).mono (by decide)
        have e2 : Bd 400 (sd * v) := (bs.mul bv).mono (by decide)
        have e3 := bD.mono (show 190 ≤ 400 by decide)
        walk_at "kw"
        refine ifF rfl (ifF rfl ?_)
        walk_at "kw"
        refine ifF rfl ?_
        walk_at "kw"
        refine ifT rfl ?_
        walk_at "kw"
        exact k H W.sm
      | four ca cb cc cs =>
        rename_i a b c t
        have W := ((Ho.start H).call (o := .tup [.int A, .int B, .int C, .int sd]) (Same.refl H) hp).call (o := .tup [.int a, .int b, .int c, .int t]) (Same.refl H) hq
        have cD := D_bd ca cb cc
        have j1 : Bd 800 a := ca.mono (by decide)
        have j2 : Bd 800 b := cb.mono (by decide)
        have j3 : Bd 800 c := cc.mono (by decide)
        have e1 : Bd 190 ((0 - B) * (2 * a) - (0 - b) * (2 * A)) := (((neg_bd bb).mul (two_bd ca)).sub ((neg_bd cb).mul (two_bd ba))).mono (by decide)
        have e2 : Bd 100 (sd * (2 * a)) := (bs.mul (two_bd ca)).mono (by decide)
        have e3 : Bd 100 (0 - t * (2 * A)) := neg_bd ((cs.mul (two_bd ba)).mono (by decide))
        walk_at "kw"
        refine ifF rfl (ifF rfl ?_)
        walk_at "kw"
        refine ifF rfl ?_
        walk_at "kw"
        refine ifF rfl ?_
        walk_at "kw"
        exact ⟨_, _, _, _, _, rfl, ⟨e1, e2, bD, e3, cD⟩, k H W.sm⟩
theorem ok_elt {f CE : Addr} {fd : FuncData} (F : Fun K "__lt__" "Edge.__lt__" S_Edge__lt_ f fd) (T : Txt K mg) (Re : EdgT K mg CE) (C_cmp : FnC P w K mg base CX0 6 "compared" ["one", "other"] (sp_cmp K)) : FnOk P w K mg base CX0 7 f fd ["self", "other"] (sp_ecmp CE fun i => decide (i < 0)) := by
  refine F.ok SC_Edge__lt_ (fun vs H Q E h => ?_) (fun cdv A outer s H vs Q E hr h => ?_)
  · obtain ⟨e, g, pl, pl', rfl, _⟩ := h
    rfl
  · obtain ⟨e, g, pl, pl', rfl, he, hg, ho, ho', k⟩ := h
    obtain ⟨dx, t, fs, h1, h2, h3⟩ := he.at
    obtain ⟨dy, t', fs', g1, g2, g3⟩ := hg.at
    refine ⟨_, (pss_one (ps_ret (pe_cmpR op_lt (pe_callC C_cmp (hr.mono (by decide)) rfl (pa_cons (pe_fld (pv 0) rfl) (pa_cons (pe_fld (pv 1) rfl) pa_nil))) pe_int (nomark _)))), ?_⟩
    refine ⟨_, rfl, e, CE, dx, _, _, rfl, h1, Re.ins.cl, Re.n1, h2, _, rfl, g, CE, dy, _, _, rfl, g1, Re.ins.cl, Re.n1, g2, ?_⟩
    refine ⟨t, t', pl, pl', rfl, h3, g3, ho, ho', fun H1 s1 => ?_⟩
    walk_at "kw"
    exact k H1 s1
theorem ok_ele {f CE : Addr} {fd : FuncData} (F : Fun K "__le__" "Edge.__le__" S_Edge__le_ f fd) (T : Txt K mg) (Re : EdgT K mg CE) (C_cmp : FnC P w K mg base CX0 6 "compared" ["one", "other"] (sp_cmp K)) : FnOk P w K mg base CX0 7 f fd ["self", "other"] (sp_ecmp CE fun i => decide (i ≤ 0)) := by
  refine F.ok SC_Edge__le_ (fun vs H Q E h => ?_) (fun cdv A outer s H vs Q E hr h => ?_)
  · obtain ⟨e, g, pl, pl', rfl, _⟩ := h
    rfl
  · obtain ⟨e, g, pl, pl', rfl, he, hg, ho, ho', k⟩ := h
    obtain ⟨dx, t, fs, h1, h2, h3⟩ := he.at
    obtain ⟨dy, t', fs', g1, g2, g3⟩ := hg.at
    refine ⟨_, (pss_one (ps_ret (pe_cmpR op_le (pe_callC C_cmp (hr.mono (by decide)) rfl (pa_cons (pe_fld (pv 0) rfl) (pa_cons (pe_fld (pv 1) rfl) pa_nil))) pe_int (nomark _)))), ?_⟩
    refine ⟨_, rfl, e, CE, dx, _, _, rfl, h1, Re.ins.cl, Re.n1, h2, _, rfl, g, CE, dy, _, _, rfl, g1, Re.ins.cl, Re.n1, g2, ?_⟩
    refine ⟨t, t', pl, pl', rfl, h3, g3, ho, ho', fun H1 s1 => ?_⟩
    walk_at "kw"
    exact k H1 s1
theorem ok_egt {f CE : Addr} {fd : FuncData} (F : Fun K "__gt__" "Edge.__gt__" S_Edge__gt_ f fd) (T : Txt K mg) (Re : EdgT K mg CE) (C_cmp : FnC P w K mg base CX0 6 "compared" ["one", "other"] (sp_cmp K)) : FnOk P w K mg base CX0 7 f fd ["self", "other"] (sp_ecmp CE fun i => decide (i > 0)) := by
  refine F.ok SC_Edge__gt_ (fun vs H Q E h => ?_) (fun cdv A outer s H vs Q E hr h => ?_)
  · obtain ⟨e, g, pl, pl', rfl, _⟩ := h
    rfl
  · obtain ⟨e, g, pl, pl', rfl, he, hg, ho, ho', k⟩ := h
    obtain ⟨dx, t, fs, h1, h2, h3⟩ := he.at
    obtain ⟨dy, t', fs', g1, g2, g3⟩ := hg.at
    refine ⟨_, (pss_one (ps_ret (pe_cmpR op_gt (pe_callC C_cmp (hr.mono (by decide)) rfl (pa_cons (pe_fld (pv 0) rfl) (pa_cons (pe_fld (pv 1) rfl) pa_nil))) pe_int (nomark _)))), ?_⟩
    refine ⟨_, rfl, e, CE, dx, _, _, rfl, h1, Re.ins.cl, Re.n1, h2, _, rfl, g, CE, dy, _, _, rfl, g1, Re.ins.cl, Re.n1, g2, ?_⟩
    refine ⟨t, t', pl, pl', rfl, h3, g3, ho, ho', fun H1 s1 => ?_⟩
    walk_at "kw"
    exact k H1 s1
theorem ok_ege {f CE : Addr} {fd : FuncData} (F : Fun K "__ge__" "Edge.__ge__" S_Edge__ge_ f fd) (T : Txt K mg) (Re : EdgT K mg CE) (C_cmp : FnC P w K mg base CX0 6 "compared" ["one", "other"] (sp_cmp K)) : FnOk P w K mg base CX0 7 f fd ["self", "other"] (sp_ecmp CE fun i => decide (i ≥ 0)) := by
  refine F.ok SC_Edge__ge_ (fun vs H Q E h => ?_) (fun cdv A outer s H vs Q E hr h => ?_)
  · obtain ⟨e, g, pl, pl', rfl, _⟩ := h
    rfl
  · obtain ⟨e, g, pl, pl', rfl, he, hg, ho, ho', k⟩ := h
    obtain ⟨dx, t, fs, h1, h2, h3⟩ := he.at
    obtain ⟨dy, t', fs', g1, g2, g3⟩ := hg.at
    refine ⟨_, (pss_one (ps_ret (pe_cmpR op_ge (pe_callC C_cmp (hr.mono (by decide)) rfl (pa_cons (pe_fld (pv 0) rfl) (pa_cons (pe_fld (pv 1) rfl) pa_nil))) pe_int (nomark _)))), ?_⟩
    refine ⟨_, rfl, e, CE, dx, _, _, rfl, h1, Re.ins.cl, Re.n1, h2, _, rfl, g, CE, dy, _, _, rfl, g1, Re.ins.cl, Re.n1, g2, ?_⟩
    refine ⟨t, t', pl, pl', rfl, h3, g3, ho, ho', fun H1 s1 => ?_⟩
    walk_at "kw"
    exact k H1 s1
theorem ok_eeq2 {f CE : Addr} {fd : FuncData} (F : Fun K "__eq__" "Edge.__eq__" S_Edge__eq_ f fd) (T : Txt K mg) (Re : EdgT K mg CE) : FnOk P w K mg base CX0 1 f fd ["self", "other"] (sp_eeq2 CE K) := by
  refine F.ok SC_Edge__eq_ (fun vs H Q E h => ?_) (fun cdv A outer s H vs Q E hr h => ?_)
  · obtain ⟨e, y, pl, rfl, _⟩ := h
    rfl
  · obtain ⟨e, y, pl, rfl, he, k⟩ := h
    obtain ⟨dx, t, fs, h1, h2, h3⟩ := he.at
    refine ⟨_, (pss_one (ps_ret (pe_and (pe_callB call_isi (by rfl) T.b_isinstance (by decide +kernel) (pa_cons (pv 1) (pa_cons (pe_glob (v := .ref CE) (by rfl) Re.mgC rfl) pa_nil))) (pe_one (pe_cmpR (op_eqD hr.units) (pe_fld (pv 0) rfl) (pe_fld (pv 1) rfl) (nomark _)))))), ?_⟩
    rcases k with ⟨g, pl', rfl, hg, k⟩ | ⟨t', ty, kt, k⟩
    · obtain ⟨dy, t', fs', g1, g2, g3⟩ := hg.at
      refine ⟨_, rfl, .ref g, _, .ref CE, _, true, rfl, .own CE, Re.ty g1, Re.ins.me, _, rfl, ifT rfl ?_⟩
      refine ⟨_, rfl, e, CE, dx, _, _, rfl, h1, Re.ins.cl, Re.n1, h2, _, rfl, g, CE, dy, _, _, rfl, g1, Re.ins.cl, Re.n1, g2, ?_⟩
      refine ⟨_, _, dpIs h3, dpIs g3, shIs _, shIs _, ?_⟩
      rw [eqvT]
      exact k
    · exact ⟨_, rfl, y, _, t', _, false, rfl, .own CE, ty, kt, _, rfl, ifF rfl k⟩
end

/-! ## the law's own places -/
namespace K11
open Or Eo
inductive Lk where
  | zero | endless | num (g : G4)
def G4.tl (g : G4) : List V := [.int g.p, .int g.q, .int g.d, .int g.r]
def LPat (H : Hp) (v : V) : Lk → Prop
  | .zero => v = .str ("0" : Str)
  | .endless => v = .str ("endless" : Str)
  | .num g => ∃ t, v = .ref t ∧ H t = some (.tup (G4.tl g))
theorem LPat.same {H H' : Hp} {v : V} {a : Lk} (h : LPat H v a) (s : Same H H') : LPat H' v a := by
  cases a with
  | zero => exact h
  | endless => exact h
  | num g => obtain ⟨t, e, q⟩ := h; exact ⟨t, e, s _ _ q⟩
theorem LPat.at {H H' : Hp} {v : V} {a : Lk} (h : LPat H v a) (s : ∀ t xs, H t = some (.tup xs) → H' t = some (.tup xs)) : LPat H' v a := by
  cases a with
  | zero => exact h
  | endless => exact h
  | num g => obtain ⟨t, e, q⟩ := h; exact ⟨t, e, s _ _ q⟩
/-- four numbers, perhaps none above 0 -/
def Gq (g : G4) : Prop := 0 ≤ g.d ∧ 1 ≤ g.r ∧ ((g.q = 0 ∧ Bd 60 g.p ∧ Bd 60 g.r ∧ g.d = 0) ∨ (Bd 42 g.p ∧ Bd 34 g.q ∧ Bd 10 g.d ∧ Bd 34 g.r))
def Lq : Lk → Prop
  | .num g => Gq g
  | _ => True
def Lok : Lk → Prop
  | .num g => Gq g ∧ 0 < swr g.p g.q g.d
  | _ => True
theorem Gq.bd {g : G4} (h : Gq g) : Bd 60 g.p ∧ Bd 34 g.q ∧ Bd 10 g.d ∧ Bd 60 g.r := by
  rcases h.2.2 with ⟨e1, b1, b2, e2⟩ | ⟨b1, b2, b3, b4⟩
  · rw [e1, e2]
    exact ⟨b1, show Int.natAbs 0 < 2 ^ 34 by decide, show Int.natAbs 0 < 2 ^ 10 by decide, b2⟩
  · exact ⟨b1.mono (by decide), b2, b3, b4.mono (by decide)⟩
def hL : Lk → Int
  | .zero => 0
  | .num _ => 1
  | .endless => 2
def gapL : Lk → Lk → Int
  | .num g, .num h => gap g h
  | a, b => sg (hL a - hL b)
inductive RepL : Lk → List Int → Prop
  | zero : RepL .zero [0, 1]
  | endless : RepL .endless [1, 0]
  | num {g : G4} {pl : List Int} (h : Rep g pl) (w : 0 < swr g.p g.q g.d) : RepL (.num g) pl
theorem swr_tri {x y d : Int} (d0 : 0 ≤ d) : swr x y d = 1 ∨ swr x y d = 0 ∨ swr x y d = -1 := by
  rw [← s_d (d := d) (c := d) d0 d0]
  exact (I2 d0 d0).tri _
theorem pos_two {g : G4} {x y : Int} (h : Rep g [x, y]) (w : 0 < swr g.p g.q g.d) : 0 < x ∧ 0 < y := by
  cases h with
  | two d0 r0 t0 ht y0 x0 y1 e co =>
    rename_i t
    have e2 : swr g.p g.q g.d = sg (g.p + g.q * t) := by
      rcases ht with ht | ht
      · rw [ht, Int.zero_mul, Int.add_zero, swr_0]
      · exact swr_sq d0 t0 ht _ _
    rw [e2] at w
    have : 0 < g.p + g.q * t := by
      rcases sg_c (g.p + g.q * t) with ⟨k, _⟩ | ⟨_, k⟩ | ⟨_, k⟩ <;> omega
    have : 0 < x * g.r := by rw [← e]; exact Int.mul_pos this y1
    refine ⟨?_, y1⟩
    rcases Int.lt_or_le 0 x with k | k
    · exact k
    · have := Int.mul_nonpos_of_nonpos_of_nonneg k (Int.le_of_lt r0)
      omega
theorem pos_four {g : G4} {A B C s : Int} (h : Rep g [A, B, C, s]) (w : 0 < swr g.p g.q g.d) : cmp4 A B C s [0, 1] = 1 ∧ cmp4 A B C s [1, 0] = -1 := by
  cases h with
  | four d0 r0 q0 dn red hs =>
    rename_i f
    have a0 := red_A r0 red
    constructor
    · show swr ((0 - B) * 1 - 0 * (2 * A)) (s * 1) (B * B - 4 * A * C) = 1
      have : swr ((0 - B) * 1 - 0 * (2 * A)) (s * 1) (B * B - 4 * A * C) = swr g.p g.q g.d := by
        refine swr_fac (F := f) (G := 2 * g.r) red.f0 (by omega) ?_ ?_ ?_
        · have e1 : f * ((0 - B) * 1 - 0 * (2 * A)) = -(f * B) := by grind
          rw [e1, red.hb]; grind
        · have e1 : f * f * (s * 1 * (s * 1) * (B * B - 4 * A * C)) = s * s * (f * f * (B * B - 4 * A * C)) := by grind
          rw [e1, red_D red, hs, sgsg q0]; grind
        · rw [Int.mul_one, hs, sg_s q0, sg_p (red_Dp r0 d0 q0 dn red), sg_p (nsq_pos d0 dn)]
      rw [this]
      rcases swr_tri (x := g.p) (y := g.q) d0 with k | k | k <;> omega
    · show swr ((0 - B) * 0 - 1 * (2 * A)) (s * 0) (B * B - 4 * A * C) = -1
      rw [Int.mul_zero s, swr_0]
      exact sg_n (by omega)
theorem cmpL {a b : Lk} {pl pl' : List Int} (ha : RepL a pl) (hb : RepL b pl') : cmpPl pl pl' = gapL a b ∧ (gapL a b = 0 ↔ pl = pl') := by
  cases ha with
  | zero =>
    cases hb with
    | zero => exact ⟨rfl, ⟨fun _ => rfl, fun _ => rfl⟩⟩
    | endless => exact ⟨by decide, ⟨fun h => absurd h (by decide), fun h => absurd h (by decide)⟩⟩
    | num h w =>
      cases h with
      | two d0 r0 t0 ht y0 x0 y1 e co =>
        rename_i g x y t
        obtain ⟨px, py⟩ := pos_two (.two d0 r0 t0 ht y0 x0 y1 e co) w
        refine ⟨?_, ⟨fun h => absurd h (by show ¬ sg (0 - 1) = 0; decide), fun h => ?_⟩⟩
        · show sg (0 * y - x * 1) = sg (0 - 1)
          rw [sg_n (by omega)]; rfl
        · have := (List.cons.inj h).1; omega
      | four d0 r0 q0 dn red hs =>
        obtain ⟨h1, h2⟩ := pos_four (.four d0 r0 q0 dn red hs) w
        refine ⟨?_, ⟨fun h => absurd h (by show ¬ sg (0 - 1) = 0; decide), fun h => by cases h⟩⟩
        show 0 - cmp4 _ _ _ _ [0, 1] = sg (0 - 1)
        rw [h1]; rfl
  | endless =>
    cases hb with
    | zero => exact ⟨by decide, ⟨fun h => absurd h (by decide), fun h => absurd h (by decide)⟩⟩
    | endless => exact ⟨rfl, ⟨fun _ => rfl, fun _ => rfl⟩⟩
    | num h w =>
      cases h with
      | two d0 r0 t0 ht y0 x0 y1 e co =>
        rename_i g x y t
        obtain ⟨px, py⟩ := pos_two (.two d0 r0 t0 ht y0 x0 y1 e co) w
        refine ⟨?_, ⟨fun h => absurd h (by show ¬ sg (2 - 1) = 0; decide), fun h => ?_⟩⟩
        · show sg (1 * y - x * 0) = sg (2 - 1)
          rw [sg_p (by omega)]; rfl
        · have := (List.cons.inj (List.cons.inj h).2).1; omega
      | four d0 r0 q0 dn red hs =>
        obtain ⟨h1, h2⟩ := pos_four (.four d0 r0 q0 dn red hs) w
        refine ⟨?_, ⟨fun h => absurd h (by show ¬ sg (2 - 1) = 0; decide), fun h => by cases h⟩⟩
        show 0 - cmp4 _ _ _ _ [1, 0] = sg (2 - 1)
        rw [h2]; rfl
  | num h w =>
    cases hb with
    | num h' w' => exact ⟨cmp_ok h h', eq_ok h h'⟩
    | zero =>
      cases h with
      | two d0 r0 t0 ht y0 x0 y1 e co =>
        rename_i g x y t
        obtain ⟨px, py⟩ := pos_two (.two d0 r0 t0 ht y0 x0 y1 e co) w
        refine ⟨?_, ⟨fun h => absurd h (by show ¬ sg (1 - 0) = 0; decide), fun h => ?_⟩⟩
        · show sg (x * 1 - 0 * y) = sg (1 - 0)
          rw [sg_p (by omega)]; rfl
        · have := (List.cons.inj h).1; omega
      | four d0 r0 q0 dn red hs =>
        obtain ⟨h1, h2⟩ := pos_four (.four d0 r0 q0 dn red hs) w
        refine ⟨?_, ⟨fun h => absurd h (by show ¬ sg (1 - 0) = 0; decide), fun h => by cases h⟩⟩
        show cmp4 _ _ _ _ [0, 1] = sg (1 - 0)
        rw [h1]; rfl
    | endless =>
      cases h with
      | two d0 r0 t0 ht y0 x0 y1 e co =>
        rename_i g x y t
        obtain ⟨px, py⟩ := pos_two (.two d0 r0 t0 ht y0 x0 y1 e co) w
        refine ⟨?_, ⟨fun h => absurd h (by show ¬ sg (1 - 2) = 0; decide), fun h => ?_⟩⟩
        · show sg (x * 0 - 1 * y) = sg (1 - 2)
          rw [sg_n (by omega)]; rfl
        · have := (List.cons.inj (List.cons.inj h).2).1; omega
      | four d0 r0 q0 dn red hs =>
        obtain ⟨h1, h2⟩ := pos_four (.four d0 r0 q0 dn red hs) w
        refine ⟨?_, ⟨fun h => absurd h (by show ¬ sg (1 - 2) = 0; decide), fun h => by cases h⟩⟩
        show cmp4 _ _ _ _ [1, 0] = sg (1 - 2)
        rw [h2]; rfl
def sp_lsrs : Sp := fun vs H Q _ => ∃ x y d z c : Int, vs = [.int x, .int y, .int d, .int z, .int c] ∧ (Bd 190 x ∧ Bd 100 y ∧ Bd 190 d ∧ Bd 100 z ∧ Bd 190 c) ∧ 0 ≤ d ∧ 0 ≤ c ∧ Q (.int (swrs x y d z c)) H
def sp_lgap (K : PySem.W.Frag) : Sp := fun vs H Q _ => ∃ (u v : V) (a b : Lk), vs = [u, v] ∧ LPat H u a ∧ LPat H v b ∧ Lq a ∧ Lq b ∧ ∀ H', Same H H' → Q (.int (gapL a b)) H'
def sp_ledge (CE : Addr) (K : PySem.W.Frag) : Sp := fun vs H Q _ => ∃ (v : V) (a : Lk), vs = [v] ∧ LPat H v a ∧ Lok a ∧ ∀ e H' pl, H e = none → Same H H' → EdgeAt CE H' e pl → RepL a pl → PlO pl → Q (.ref e) H'
def sp_lnear : Sp := fun vs H Q _ => ∃ (t : Addr) (g : G4) (n : Int), vs = [.ref t, .int n] ∧ H t = some (.tup (G4.tl g)) ∧ Gq g ∧ 0 ≤ n ∧ n ≤ 58 ∧ ∀ t' H' P R, H t' = none → Same H H' → H' t' = some (.tup [.int P, .int 0, .int 0, .int R]) → 1 ≤ P → Bd 60 P → 1 ≤ R → Bd 60 R → Q (.ref t') H'
theorem isq_no {d s : Int} (s0 : 0 ≤ s) (s1 : s * s ≤ d) (s2 : d < (s + 1) * (s + 1)) (h : s * s ≠ d) : ¬ isq d := fun ⟨t, t0, ht⟩ => h (sq_un s0 s1 s2 t0 ht)
/-- the place that Edge.root makes -/
theorem root_rep {g : G4} {s : Int} (h : Gq g) (q0 : g.q ≠ 0) (w : 0 < swr g.p g.q g.d) (s0 : 0 ≤ s) (s1 : s * s ≤ g.d) (s2 : g.d < (s + 1) * (s + 1)) : RepL (.num g) (rootPl g.p g.q g.d g.r s) ∧ PlO (rootPl g.p g.q g.d g.r s) := by
  obtain ⟨d0, r0, hb⟩ := h
  obtain ⟨bp, bq, bd, br⟩ : Bd 42 g.p ∧ Bd 34 g.q ∧ Bd 10 g.d ∧ Bd 34 g.r := by
    rcases hb with hb | hb
    · exact absurd hb.1 q0
    · exact hb
  have f1 : 0 < g.r := by omega
  have rr : 0 < g.r * g.r := Int.mul_pos f1 f1
  unfold rootPl
  by_cases hz : s * s = g.d
  · rw [if_pos (.inr hz)]
    have x0 := K10.swr_frac w (.inr hz) s0
    obtain ⟨a1, b1, g1⟩ := K10.frac_low x0 f1
    have bs := sq_bd s0 s1 (bd.mono (show 10 ≤ 100 by decide))
    have bs2 : Bd 40 s := by
      have : s * 1 ≤ s * s ∨ s = 0 := by
        by_cases e : s = 0
        · exact .inr e
        · exact .inl (Int.mul_le_mul_of_nonneg_left (by omega) s0)
      unfold Bd at *
      omega
    have h1 := Int.mul_ediv_cancel' (a := ((Int.gcd (g.p + g.q * s) g.r : Nat) : Int)) (b := g.p + g.q * s) (Int.gcd_dvd_left _ _)
    have h2 := Int.mul_ediv_cancel' (a := ((Int.gcd (g.p + g.q * s) g.r : Nat) : Int)) (b := g.r) (Int.gcd_dvd_right _ _)
    have g0 : 0 < Int.gcd (g.p + g.q * s) g.r := Int.gcd_pos_of_ne_zero_left _ (by omega)
    refine ⟨.num (.two d0 f1 s0 (.inr hz) (by omega) (by omega) (by omega) ?_ g1) w, .two ((Bd.div _ (bp.add (bq.mul bs2))).mono (by decide)) ((Bd.div _ br).mono (by decide))⟩
    generalize ((Int.gcd (g.p + g.q * s) g.r : Nat) : Int) = k at *
    generalize (g.p + g.q * s) / k = x at *
    generalize g.r / k = y at *
    rw [← h1, ← h2]; grind
  · have dn := isq_no s0 s1 s2 hz
    rw [if_neg (fun z => z.elim q0 hz)]
    obtain ⟨a, b, c, f, red, ⟨qa, qb, qc⟩, e4⟩ := K10.lwd_pos (A := g.r * g.r) (B := -2 * g.p * g.r) (C := g.p * g.p - g.q * g.q * g.d) (s := if 0 < g.q then 1 else -1) rr
    rw [e4]
    have sd : (if 0 < g.q then (1 : Int) else -1) = sg g.q := by
      rcases Int.lt_trichotomy g.q 0 with z | z | z
      · rw [if_neg (by omega), sg_n z]
      · exact absurd z q0
      · rw [if_pos z, sg_p z]
    rw [sd]
    refine ⟨.num (.four d0 f1 q0 dn red rfl) w, .four ((qa 68 (br.mul br)).mono (by decide)) ((qb 78 ((((show Bd 2 (-2) from (show Int.natAbs (-2) < 2 ^ 2 by decide)).mul bp).mul br).mono (by decide))).mono (by decide)) ((qc 85 (((bp.mul bp).sub ((bq.mul bq).mul bd)).mono (by decide))).mono (by decide)) ((Bd.sg _).mono (by decide))⟩
/-- the place of a fraction -/
theorem frac_rep {g : G4} (h : Gq g) (q0 : g.q = 0) (w : 0 < swr g.p g.q g.d) : 0 < g.p ∧ RepL (.num g) [g.p / (Int.gcd g.p g.r : Nat), g.r / (Int.gcd g.p g.r : Nat)] ∧ PlO [g.p / (Int.gcd g.p g.r : Nat), g.r / (Int.gcd g.p g.r : Nat)] := by
  have hb := h.bd
  obtain ⟨d0, r0, _⟩ := h
  have f1 : 0 < g.r := by omega
  have p0 : 0 < g.p := by
    have := w
    rw [q0, swr_0] at this
    rcases sg_c g.p with ⟨k, _⟩ | ⟨_, k⟩ | ⟨_, k⟩ <;> omega
  obtain ⟨a1, b1, g1⟩ := K10.frac_low p0 f1
  have h1 := Int.mul_ediv_cancel' (a := ((Int.gcd g.p g.r : Nat) : Int)) (b := g.p) (Int.gcd_dvd_left _ _)
  have h2 := Int.mul_ediv_cancel' (a := ((Int.gcd g.p g.r : Nat) : Int)) (b := g.r) (Int.gcd_dvd_right _ _)
  refine ⟨p0, .num (.two d0 f1 (t := 0) (by omega) (.inl q0) (by omega) (by omega) (by omega) ?_ g1) w, .two ((Bd.div _ hb.1).mono (by decide)) ((Bd.div _ hb.2.2.2).mono (by decide))⟩
  rw [Int.mul_zero, Int.add_zero]
  generalize ((Int.gcd g.p g.r : Nat) : Int) = k at *
  generalize g.p / k = x at *
  generalize g.r / k = y at *
  rw [← h1, ← h2]; grind
end K11
open K11
namespace K11
theorem kit_ss {K : PySem.W.Frag} : PySem.W.kitOne K (.type "str") (.type "str") = some true := kit_ty (show kitB "str" "str" = some true by decide +kernel)
theorem kit_ts {K : PySem.W.Frag} : PySem.W.kitOne K (.type "tuple") (.type "str") = some false := kit_ty (show kitB "tuple" "str" = some false by decide +kernel)
end K11
namespace K11
def strL : Lk → Bool
  | .num _ => false
  | _ => true
theorem LPat.ty {K : PySem.W.Frag} {H : Hp} {v : V} {a : Lk} (h : LPat H v a) : ∃ t, TyX K H v t ∧ PySem.W.kitOne K t (.type "str") = some (strL a) := by
  cases a with
  | zero => cases (show v = .str ("0" : Str) from h); exact ⟨_, .base (.str _), kit_ss⟩
  | endless => cases (show v = .str ("endless" : Str) from h); exact ⟨_, .base (.str _), kit_ss⟩
  | num g => obtain ⟨t, rfl, ht⟩ := h; exact ⟨_, .base (.tup ht), kit_ts⟩
theorem ab (a b : Lk) : (∃ g h, a = .num g ∧ b = .num h) ∨ strL a = true ∨ (strL a = false ∧ strL b = true) := by
  cases a with
  | num g =>
    cases b with
    | num h => exact .inl ⟨g, h, rfl, rfl⟩
    | zero => exact .inr (.inr ⟨rfl, rfl⟩)
    | endless => exact .inr (.inr ⟨rfl, rfl⟩)
  | zero => exact .inr (.inl rfl)
  | endless => exact .inr (.inl rfl)
theorem gapL_str {a b : Lk} (h : strL a = true ∨ strL b = true) : gapL a b = sg (hL a - hL b) := by
  cases a <;> cases b <;> first | rfl | (rcases h with h | h <;> cases h)
end K11
namespace K11
theorem pw_le {i j : Nat} (h : i ≤ j) : (2 : Int) ^ i ≤ 2 ^ j := by
  have : 2 ^ i ≤ 2 ^ j := Nat.pow_le_pow_right (show 0 < 2 by decide) h
  exact_mod_cast this
def AllP (H : Hp) (xs : List V) : Prop := ∀ v ∈ xs, ∃ a, LPat H v a ∧ Lq a
theorem AllP.at {H H' : Hp} {xs : List V} (h : AllP H xs) (s : ∀ t xs, H t = some (.tup xs) → H' t = some (.tup xs)) : AllP H' xs := fun v hv => let ⟨a, p, q⟩ := h v hv; ⟨a, p.at s, q⟩
theorem AllP.app {H : Hp} {xs ys : List V} (h : AllP H xs) (g : AllP H ys) : AllP H (xs ++ ys) := fun v hv => (List.mem_append.mp hv).elim (h v) (g v)
theorem AllP.two {H : Hp} {t t' : Addr} {g h : G4} (e : H t = some (.tup (G4.tl g))) (e' : H t' = some (.tup (G4.tl h))) (q : Gq g) (q' : Gq h) : AllP H [.ref t, .ref t'] := fun v hv => by
  rcases List.mem_cons.mp hv with rfl | hv
  · exact ⟨.num g, ⟨t, rfl, e⟩, q⟩
  · cases List.mem_singleton.mp hv
    exact ⟨.num h, ⟨t', rfl, e'⟩, q'⟩
theorem sm_bd {n : Nat} {i : Int} {m : Int} (h0 : -m ≤ i) (h1 : i ≤ m) (hm : m < 2 ^ n) : Bd n i := by
  have : ((i.natAbs : Nat) : Int) < 2 ^ n := by omega
  exact_mod_cast this
end K11

section
variable {P : Program} {w : World} {K : PySem.W.Frag} {mg : Str → Option Value} {base : Heap}
theorem ok_lsrs {f : Addr} {fd : FuncData} (F : Fun K "_law_sign_roots" "_law_sign_roots" S__law_sign_roots f fd) (T : Txt K mg) (C_lsign : FnC P w K mg base CX0 1 "_law_sign" ["_law_number"] sp_sign) (C_lsr : FnC P w K mg base CX0 2 "_law_sign_root" ["_law_one", "_law_times", "_law_inner"] sp_lsr) : FnOk P w K mg base CX0 3 f fd ["_law_one", "_law_times", "_law_inner", "_law_again", "_law_other"] sp_lsrs := by
  refine F.ok SC__law_sign_roots (fun vs H Q E h => ?_) (fun cdv A outer s H vs Q E hr h => ?_)
  · obtain ⟨x, y, d, z, c, rfl, _⟩ := h
    rfl
  · obtain ⟨x, y, d, z, c, rfl, ⟨bx, b_y, bd, bz, bc⟩, d0, c0, q⟩ := h
    refine ⟨_, (pss_cons (ps_par (i := 5) (j := 6) (by rfl) SC__law_sign_roots.nd rfl rfl (by decide) rfl rfl (pa_cons (pe_callC C_lsr (hr.mono (by decide)) rfl (pa_cons (pv 0) (pa_cons (pv 1) (pa_cons (pv 2) pa_nil)))) (pa_cons (pe_op op_mulW (pe_callC C_lsign (hr.mono (by decide)) rfl (pa_cons (pv 3) pa_nil)) (pe_callTy call_intB (by rfl) T.b_int (by decide +kernel) (pa_cons (pe_cmpR op_gt (pv 4) pe_int (nomark _)) pa_nil))) pa_nil)) (by rfl))
      (pss_cons (ps_if (PW.pt (pw_or (pt_cmpR op_eq (pv 5) (pv 6) (nomark _)) (pw_or1 (pt_cmpR op_eq (pv 6) pe_int (nomark _))))) (pss_one (ps_ret (pv 5))) pss_nil)
      (pss_cons (ps_if (pt_cmpR op_eq (pv 5) pe_int (nomark _)) (pss_one (ps_ret (pv 6))) pss_nil)
      (pss_cons (ps_set (i := 7) SC__law_sign_roots.nd rfl (.inl rfl) (pe_op op_sub (pe_op op_add (pe_op op_mulW (pv 0) (pv 0)) (pe_op op_mulW (pe_op op_mulW (pv 1) (pv 1)) (pv 2))) (pe_op op_mulW (pe_op op_mulW (pv 3) (pv 3)) (pv 4))))
      (pss_nrm (pss_one (ps_ret (pe_op op_mulW (pv 5) (pe_callC C_lsr (hr.mono (by decide)) rfl (pa_cons (pv 7) (pa_cons (pe_op op_mulW (pe_op op_mulW pe_int (pv 0)) (pv 1)) (pa_cons (pv 2) pa_nil)))))))))))), ?_⟩
    have ec : sg c = (if decide (0 < c) = true then 1 else 0) := by
      rcases sg_c c with ⟨h1, h2⟩ | ⟨h1, h2⟩ | ⟨h1, h2⟩
      · rw [h2, decide_eq_true h1]; rfl
      · rw [h2, h1]; rfl
      · omega
    have b01 : Bd 64 (if decide (0 < c) = true then 1 else 0 : Int) := by split <;> exact Bd.lit (by decide)
    unfold swrs at q
    rw [ec] at q
    have m1 : Bd 400 x := bx.mono (by decide)
    have m2 : Bd 400 y := b_y.mono (by decide)
    have m3 : Bd 400 d := bd.mono (by decide)
    walk_at "kw"
    refine ite2 (fun h => ?_) (fun h => ?_)
    · rw [if_pos (.inl (V.int.inj (of_decide_eq_true h)))] at q
      exact ⟨_, rfl, q⟩
    have n1 : ¬ swr x y d = sg z * (if decide (0 < c) = true then 1 else 0) := fun e => h (decide_eq_true (congrArg V.int e))
    walk_at "kw"
    refine ite2 (fun h => ?_) (fun h => ?_)
    · rw [if_pos (.inr (V.int.inj (of_decide_eq_true h)))] at q
      exact ⟨_, rfl, q⟩
    have n2 : ¬ sg z * (if decide (0 < c) = true then 1 else 0) = 0 := fun e => h (decide_eq_true (congrArg V.int e))
    rw [if_neg (fun z => z.elim n1 n2)] at q
    walk_at "kw"
    refine ite2 (fun h => ?_) (fun h => ?_)
    · rw [if_pos (V.int.inj (of_decide_eq_true h))] at q
      exact ⟨_, rfl, q⟩
    rw [if_neg (fun e => h (decide_eq_true (congrArg V.int e)))] at q
    have k1 : Bd 400 (x * x + y * y * d - z * z * c) := (((bx.mul bx).add ((b_y.mul b_y).mul bd)).sub ((bz.mul bz).mul bc)).mono (by decide)
    have k2 : Bd 400 (2 * x * y) := ((two_bd bx).mul b_y).mono (by decide)
    walk_at "kw"
    exact q
theorem ok_lgap {f : Addr} {fd : FuncData} (F : Fun K "_law_gap" "_law_gap" S__law_gap f fd) (T : Txt K mg) (C_lsign : FnC P w K mg base CX0 1 "_law_sign" ["_law_number"] sp_sign) (C_lsrs : FnC P w K mg base CX0 3 "_law_sign_roots" ["_law_one", "_law_times", "_law_inner", "_law_again", "_law_other"] sp_lsrs) : FnOk P w K mg base CX0 4 f fd ["_law_one", "_law_other"] (sp_lgap K) := by
  refine F.ok SC__law_gap (fun vs H Q E h => ?_) (fun cdv A outer s H vs Q E hr h => ?_)
  · obtain ⟨u, v, a, b, rfl, _⟩ := h
    rfl
  · obtain ⟨u, v, a, b, rfl, ha, hb, la, lb, k⟩ := h
    refine ⟨_, (pss_cons (ps_if (PW.pt (pw_or (pt_val (pe_callB call_isi (by rfl) T.b_isinstance (by decide +kernel) (pa_cons (pv 0) (pa_cons (pe_bltn (v := .ty "str") (by rfl) T.b_str boot_str rfl) pa_nil)))) (pw_or1 (pt_val (pe_callB call_isi (by rfl) T.b_isinstance (by decide +kernel) (pa_cons (pv 1) (pa_cons (pe_bltn (v := .ty "str") (by rfl) T.b_str boot_str rfl) pa_nil))))))) (pss_cons (ps_setLc (i := 2) (own := [("_law_place", 11)]) (g := gName 11) (by rfl) SC__law_gap.nd rfl rfl (sw_true rfl rfl rfl (by decide +kernel)) (pi_tup (pe_tupN (pa_cons (pv 0) (pa_cons (pv 1) pa_nil)))) (blkOk_by (own := [("_law_place", 11)]) (N := N__law_gap) (sc := defScope S__law_gap) (by decide +kernel)) (fun _ _ _ _ _ => pg_name (i := 11) SC__law_gap.nd rfl (Or.inl rfl)) (fun _ _ _ _ _ => pts_nil) (fun _ _ _ _ _ => (pe_ifExp (pt_val (pe_callB (call_isiK' (K := K) rfl) (by rfl) T.b_isinstance (by decide +kernel) (pa_cons (pv 11) (pa_cons (pe_bltn (v := .ty "str") (by rfl) T.b_str boot_str rfl) pa_nil)))) (pe_dget (hu_of hr) (pe_disp (pps_cons pe_str pe_int (pps_cons pe_str pe_int pps_nil)) rfl rfl (fun h => nomatch h) (by decide)) (pv 11) (fun _ _ => rfl)) pe_int)))
      (pss_one (ps_ret (pe_callC C_lsign (hr.mono (by decide)) rfl (pa_cons (pe_op op_sub (pe_ix ix_list (pv 2) pe_int (fun _ _ => rfl)) (pe_ix ix_list (pv 2) pe_int (fun _ _ => rfl))) pa_nil))))) pss_nil)
      (pss_cons (ps_asg (pv 0) (pg_tup rfl (pgs_cons (pg_name (i := 3) SC__law_gap.nd rfl (.inl rfl)) (pgs_cons (pg_name (i := 4) SC__law_gap.nd rfl (.inl rfl)) (pgs_cons (pg_name (i := 5) SC__law_gap.nd rfl (.inl rfl)) (pgs_cons (pg_name (i := 6) SC__law_gap.nd rfl (.inl rfl)) pgs_nil))))))
      (pss_nrm (pss_cons (ps_asg (pv 1) (pg_tup rfl (pgs_cons (pg_name (i := 7) SC__law_gap.nd rfl (.inl rfl)) (pgs_cons (pg_name (i := 8) SC__law_gap.nd rfl (.inl rfl)) (pgs_cons (pg_name (i := 9) SC__law_gap.nd rfl (.inl rfl)) (pgs_cons (pg_name (i := 10) SC__law_gap.nd rfl (.inl rfl)) pgs_nil))))))
      (pss_nrm (pss_one (ps_ret (pe_callC C_lsrs (hr.mono (by decide)) rfl (pa_cons (pe_op op_sub (pe_op op_mulW (pv 3) (pv 10)) (pe_op op_mulW (pv 7) (pv 6))) (pa_cons (pe_op op_mulW (pv 4) (pv 10)) (pa_cons (pv 5) (pa_cons (pe_op op_sub pe_int (pe_op op_mulW (pv 8) (pv 6))) (pa_cons (pv 9) pa_nil))))))))))))), ?_⟩
    obtain ⟨t1, ty1, kt1⟩ := ha.ty (K := K)
    obtain ⟨t2, ty2, kt2⟩ := hb.ty (K := K)
    refine ⟨_, rfl, u, _, t1, _, _, rfl, .ty _, ty1, kt1, _, rfl, ?_⟩
    rcases ab a b with ⟨g, h, rfl, rfl⟩ | hs | ⟨hs, hs'⟩
    · refine ifF rfl ⟨_, rfl, v, _, t2, _, _, rfl, .ty _, ty2, kt2, _, rfl, ifF rfl ?_⟩
      obtain ⟨t, rfl, ht⟩ := ha
      obtain ⟨t', rfl, ht'⟩ := hb
      obtain ⟨b1, b2, b3, b4⟩ := la.bd
      obtain ⟨c1, c2, c3, c4⟩ := lb.bd
      have W := ((Ho.start H).call (o := .tup [.int g.p, .int g.q, .int g.d, .int g.r]) (Same.refl H) ht).call (o := .tup [.int h.p, .int h.q, .int h.d, .int h.r]) (Same.refl H) ht'
      walk_at "kw"
      exact ⟨_, _, _, _, _, rfl, ⟨((b1.mul c4).sub (c1.mul b4)).mono (by decide), (b2.mul c4).mono (by decide), b3.mono (by decide), neg_bd ((c2.mul b4).mono (by decide)), c3.mono (by decide)⟩, la.1, lb.1, k H W.sm⟩
    · rw [hs]
      have key : gapL a b = sg (hL a - hL b) := gapL_str (.inl hs)
      refine ifT rfl ?_
      refine ifT rfl ?_
      have W0 := Ho.start H
      walk_at "kw"
      rename_i p H1 hp W1
      have h1 := W1.get (.head _)
      have s1 := W1.sm
      refine ⟨⟨_, SqT.of h1⟩, fun D hD => ?_⟩
      have pD : p ≠ D := ne_of_none h1 hD
      refine lcR_tp (xs := [u, v]) (fun i H' => (∀ b o, b ≠ D → H1 b = some o → H' b = some o) ∧ H' D = some (.lst (([hL a, hL b].take i).map V.int))) ⟨fun b o n e => by rw [upd_ne n]; exact e, upd_same⟩
        (fun i H' _ m => SqT.of (m.1 p _ pD h1)) (fun i x H2 hi m => ?_) (gName_mono _) (fun H2 m => ?_)
      · obtain ⟨kp, hH⟩ := m
        obtain ⟨c, hc, lc, tx, tyx, ktx⟩ : ∃ c, [hL a, hL b][i]? = some (hL c) ∧ LPat H x c ∧ ∃ tx, TyX K H x tx ∧ PySem.W.kitOne K tx (.type "str") = some (strL c) := by
          match i, hi with
          | 0, hi => cases hi; exact ⟨a, rfl, ha, t1, ty1, kt1⟩
          | 1, hi => cases hi; exact ⟨b, rfl, hb, t2, ty2, kt2⟩
          | i + 2, hi => simp at hi
        refine ⟨rfl, ?_⟩
        have tyx2 : TyX K H2 x tx := tyX_at tyx fun a o _ h => kp a o (ne_of_none (s1 a o h) hD) (s1 a o h)
        refine ⟨_, rfl, x, _, tx, _, _, rfl, .ty _, tyx2, ktx, _, rfl, ?_⟩
        have fin : ∀ H4 : Hp, (∀ b o, H2 b = some o → H4 b = some o) → ∃ acc, H4 D = some (.lst acc) ∧ acc.length < sizeLine ∧ ((∀ b o, b ≠ D → H1 b = some o → (upd H4 D (.lst (acc ++ [.int (hL c)]))) b = some o) ∧ (upd H4 D (.lst (acc ++ [.int (hL c)]))) D = some (.lst (([hL a, hL b].take (i + 1)).map V.int))) := fun H4 k4 => by
          refine ⟨_, k4 _ _ hH, ?_, fun b o n e => by rw [upd_ne n]; exact k4 _ _ (kp b o n e), ?_⟩
          · rw [List.length_map, List.length_take]
            exact szs (Nat.le_trans (Nat.min_le_right _ _) (by show 2 ≤ 1000000; decide))
          · rw [upd_same, List.take_succ, hc, List.map_append]; rfl
        cases c with
        | num g => exact ifF rfl (fin _ fun _ _ e => e)
        | zero =>
          cases (show x = .str ("0" : Str) from lc)
          refine ifT rfl fun q hq => ⟨upd_same, [(.inr ("0" : Str), .int 0), (.inr ("endless" : Str), .int 2)], rfl, by decide, _, rfl, q, .int (hL .zero), rfl, .inl ⟨_, .inr ("0" : Str), .inl upd_same, rfl, by decide +kernel⟩, fin _ fun b o e => by rw [upd_ne (ne_of_none e hq), upd_ne (ne_of_none e hq)]; exact e⟩
        | endless =>
          cases (show x = .str ("endless" : Str) from lc)
          refine ifT rfl fun q hq => ⟨upd_same, [(.inr ("0" : Str), .int 0), (.inr ("endless" : Str), .int 2)], rfl, by decide, _, rfl, q, .int (hL .endless), rfl, .inl ⟨_, .inr ("endless" : Str), .inl upd_same, rfl, by decide +kernel⟩, fin _ fun b o e => by rw [upd_ne (ne_of_none e hq), upd_ne (ne_of_none e hq)]; exact e⟩
      · obtain ⟨kp, hH⟩ := m
        have W2 : Ho H H2 [(D, .lst [.int (hL a), .int (hL b)])] := by
          refine ⟨(W1.inD hD kp).sm, fun y hy => ?_⟩
          cases List.mem_singleton.mp hy
          exact hH
        clear W0 W1 hH kp
        walk_at "kw"
        have e := k H2 W2.sm
        rw [key] at e
        exact e
    · rw [hs]
      have key : gapL a b = sg (hL a - hL b) := gapL_str (.inr hs')
      refine ifF rfl ⟨_, rfl, v, _, t2, _, _, rfl, .ty _, ty2, kt2, _, rfl, ?_⟩
      rw [hs']
      refine ifT rfl ?_
      have W0 := Ho.start H
      walk_at "kw"
      rename_i p H1 hp W1
      have h1 := W1.get (.head _)
      have s1 := W1.sm
      refine ⟨⟨_, SqT.of h1⟩, fun D hD => ?_⟩
      have pD : p ≠ D := ne_of_none h1 hD
      refine lcR_tp (xs := [u, v]) (fun i H' => (∀ b o, b ≠ D → H1 b = some o → H' b = some o) ∧ H' D = some (.lst (([hL a, hL b].take i).map V.int))) ⟨fun b o n e => by rw [upd_ne n]; exact e, upd_same⟩
        (fun i H' _ m => SqT.of (m.1 p _ pD h1)) (fun i x H2 hi m => ?_) (gName_mono _) (fun H2 m => ?_)
      · obtain ⟨kp, hH⟩ := m
        obtain ⟨c, hc, lc, tx, tyx, ktx⟩ : ∃ c, [hL a, hL b][i]? = some (hL c) ∧ LPat H x c ∧ ∃ tx, TyX K H x tx ∧ PySem.W.kitOne K tx (.type "str") = some (strL c) := by
          match i, hi with
          | 0, hi => cases hi; exact ⟨a, rfl, ha, t1, ty1, kt1⟩
          | 1, hi => cases hi; exact ⟨b, rfl, hb, t2, ty2, kt2⟩
          | i + 2, hi => simp at hi
        refine ⟨rfl, ?_⟩
        have tyx2 : TyX K H2 x tx := tyX_at tyx fun a o _ h => kp a o (ne_of_none (s1 a o h) hD) (s1 a o h)
        refine ⟨_, rfl, x, _, tx, _, _, rfl, .ty _, tyx2, ktx, _, rfl, ?_⟩
        have fin : ∀ H4 : Hp, (∀ b o, H2 b = some o → H4 b = some o) → ∃ acc, H4 D = some (.lst acc) ∧ acc.length < sizeLine ∧ ((∀ b o, b ≠ D → H1 b = some o → (upd H4 D (.lst (acc ++ [.int (hL c)]))) b = some o) ∧ (upd H4 D (.lst (acc ++ [.int (hL c)]))) D = some (.lst (([hL a, hL b].take (i + 1)).map V.int))) := fun H4 k4 => by
          refine ⟨_, k4 _ _ hH, ?_, fun b o n e => by rw [upd_ne n]; exact k4 _ _ (kp b o n e), ?_⟩
          · rw [List.length_map, List.length_take]
            exact szs (Nat.le_trans (Nat.min_le_right _ _) (by show 2 ≤ 1000000; decide))
          · rw [upd_same, List.take_succ, hc, List.map_append]; rfl
        cases c with
        | num g => exact ifF rfl (fin _ fun _ _ e => e)
        | zero =>
          cases (show x = .str ("0" : Str) from lc)
          refine ifT rfl fun q hq => ⟨upd_same, [(.inr ("0" : Str), .int 0), (.inr ("endless" : Str), .int 2)], rfl, by decide, _, rfl, q, .int (hL .zero), rfl, .inl ⟨_, .inr ("0" : Str), .inl upd_same, rfl, by decide +kernel⟩, fin _ fun b o e => by rw [upd_ne (ne_of_none e hq), upd_ne (ne_of_none e hq)]; exact e⟩
        | endless =>
          cases (show x = .str ("endless" : Str) from lc)
          refine ifT rfl fun q hq => ⟨upd_same, [(.inr ("0" : Str), .int 0), (.inr ("endless" : Str), .int 2)], rfl, by decide, _, rfl, q, .int (hL .endless), rfl, .inl ⟨_, .inr ("endless" : Str), .inl upd_same, rfl, by decide +kernel⟩, fin _ fun b o e => by rw [upd_ne (ne_of_none e hq), upd_ne (ne_of_none e hq)]; exact e⟩
      · obtain ⟨kp, hH⟩ := m
        have W2 : Ho H H2 [(D, .lst [.int (hL a), .int (hL b)])] := by
          refine ⟨(W1.inD hD kp).sm, fun y hy => ?_⟩
          cases List.mem_singleton.mp hy
          exact hH
        clear W0 W1 hH kp
        walk_at "kw"
        have e := k H2 W2.sm
        rw [key] at e
        exact e
theorem ok_ledge {f C CE IR IE : Addr} {fd : FuncData} (F : Fun K "_law_edge" "_law_edge" S__law_edge f fd) (T : Txt K mg) (R : RatT K mg C) (C_ratio : MkC P w K mg base CX0 4 C "Ratio" ["self", "first", "second"] (Kb.calm (sp_init C IR K))) (M_eroot : CmC P w K mg base CX0 4 CE "Edge" "root" ["cls", "p", "q", "d", "r"] (Kb.calm (sp_eroot CE IE K))) (M_eof : CmC P w K mg base CX0 4 CE "Edge" "of" ["cls", "ratio"] (Kb.calm (sp_eof C CE)))
    (M_ezero : CmC P w K mg base CX0 4 CE "Edge" "zero" ["cls"] (Kb.calm (sp_ecm CE [0, 1]))) (M_eendless : CmC P w K mg base CX0 4 CE "Edge" "endless" ["cls"] (Kb.calm (sp_ecm CE [1, 0]))) : FnOk P w K mg base CX0 8 f fd ["_law_place"] (sp_ledge CE K) := by
  refine F.ok SC__law_edge (fun vs H Q E h => ?_) (fun cdv A outer s H vs Q E hr h => ?_)
  · obtain ⟨v, a, rfl, _⟩ := h
    rfl
  · obtain ⟨v, a, rfl, ha, la, k⟩ := h
    refine ⟨_, (pss_cons (ps_if (pt_val (pe_callB call_isi (by rfl) T.b_isinstance (by decide +kernel) (pa_cons (pv 0) (pa_cons (pe_bltn (v := .ty "str") (by rfl) T.b_str boot_str rfl) pa_nil)))) (pss_one (ps_ret (pe_ifExp (pt_cmpR op_eq (pv 0) pe_str (nomark _)) (pe_cm0C M_ezero (hr.mono (by decide)) rfl) (pe_cm0C M_eendless (hr.mono (by decide)) rfl)))) pss_nil)
      (pss_cons (ps_if (pt_cmpR op_eq (pe_ix ix_tup (pv 0) pe_int (fun _ _ => rfl)) pe_int (nomark _)) (pss_one (ps_ret (pe_cmC M_eof (hr.mono (by decide)) rfl (pa_cons (pe_makeC C_ratio (hr.mono (by decide)) rfl (pa_cons (pe_ix ix_tup (pv 0) pe_int (fun _ _ => rfl)) (pa_cons (pe_ix ix_tup (pv 0) pe_int (fun _ _ => rfl)) pa_nil))) pa_nil)))) pss_nil)
      (pss_one (ps_ret (pe_cmC M_eroot (hr.mono (by decide)) rfl (pa_cons (pe_ix ix_tup (pv 0) pe_int (fun _ _ => rfl)) (pa_cons (pe_ix ix_tup (pv 0) pe_int (fun _ _ => rfl)) (pa_cons (pe_ix ix_tup (pv 0) pe_int (fun _ _ => rfl)) (pa_cons (pe_ix ix_tup (pv 0) pe_int (fun _ _ => rfl)) pa_nil))))))))), ?_⟩
    have po0 : PlO [0, 1] := .two (show Int.natAbs 0 < 2 ^ 90 by decide) (show Int.natAbs 1 < 2 ^ 90 by decide)
    have po1 : PlO [1, 0] := .two (show Int.natAbs 1 < 2 ^ 90 by decide) (show Int.natAbs 0 < 2 ^ 90 by decide)
    cases a with
    | zero =>
      cases (show v = .str ("0" : Str) from ha)
      refine ⟨_, rfl, .str _, _, _, _, true, rfl, .ty _, .base (.str _), kit_ss, _, rfl, ifT rfl ?_⟩
      walk_at "kw"
      refine ifT (by decide) ?_
      exact ⟨rfl, fun e H' hn' s' he => k e H' _ hn' s' he .zero po0⟩
    | endless =>
      cases (show v = .str ("endless" : Str) from ha)
      refine ⟨_, rfl, .str _, _, _, _, true, rfl, .ty _, .base (.str _), kit_ss, _, rfl, ifT rfl ?_⟩
      walk_at "kw"
      refine ifF (by decide) ?_
      exact ⟨rfl, fun e H' hn' s' he => k e H' _ hn' s' he .endless po1⟩
    | num g =>
      obtain ⟨t, rfl, ht⟩ := ha
      obtain ⟨lg, w0⟩ := la
      obtain ⟨b1, b2, b3, b4⟩ := lg.bd
      have W := (Ho.start H).call (o := .tup [.int g.p, .int g.q, .int g.d, .int g.r]) (Same.refl H) ht
      refine ⟨_, rfl, .ref t, _, _, _, false, rfl, .ty _, .base (.tup ht), kit_ts, _, rfl, ifF rfl ?_⟩
      walk_at "kw"
      refine ite2 (fun h => ?_) (fun h => ?_)
      · have q0 : g.q = 0 := V.int.inj (of_decide_eq_true h)
        obtain ⟨p0, rp, po⟩ := frac_rep lg q0 w0
        have r0 := lg.2.1
        walk_at "kw"
        refine fun x dx hx hdx hne => mk_ratH' (show 1 ≤ g.p by omega) r0 (b1.sh (by decide)) (b4.sh (by decide)) hx hdx hne fun H6 s6 c6 => ?_
        exact ⟨x, _, _, rfl, c6, fun e7 H7 hn7 s7 he7 => k e7 H7 _ (by
          cases e : H e7 with
          | none => rfl
          | some o => rw [s6 _ _ e] at hn7; cases hn7) (s6.trans s7) he7 rp po⟩
      · have q0 : g.q ≠ 0 := fun e => h (decide_eq_true (congrArg V.int e))
        have r0 := lg.2.1
        walk_at "kw"
        refine erootH (E := E0) (p := g.p) (q := g.q) (d := g.d) (r := g.r) ⟨b1.mono (by decide), b2.mono (by decide), b3.mono (by decide), b4.mono (by decide)⟩ lg.1 (by omega) (by rw [nrm_pos (by omega), nrm_pos (by omega)]; exact w0) fun s' s0 s1 s2 e2 H2 hn2 s2' he2 => ?_
        rw [nrm_pos (by omega), nrm_pos (by omega), nrm_pos (by omega)] at he2
        obtain ⟨rp, po⟩ := root_rep lg q0 w0 s0 s1 s2
        exact k e2 H2 _ hn2 s2' he2 rp po
end

section
variable {P : Program} {w : World} {K : PySem.W.Frag} {mg : Str → Option Value} {base : Heap}
theorem ok_lnear {f : Addr} {fd : FuncData} (F : Fun K "_law_near" "_law_near" S__law_near f fd) (T : Txt K mg) (C_lsr : FnC P w K mg base CX0 2 "_law_sign_root" ["_law_one", "_law_times", "_law_inner"] sp_lsr) : FnOk P w K mg base CX0 4 f fd ["_law_given", "_law_count"] sp_lnear := by
  refine F.ok SC__law_near (fun vs H Q E h => ?_) (fun cdv A outer s H vs Q E hr h => ?_)
  · obtain ⟨t, g, n, rfl, _⟩ := h
    rfl
  · obtain ⟨t, g, n, rfl, ht, lg, n0, n1, k⟩ := h
    refine ⟨_, (pss_cons (ps_asg (pe_tupN (pa_cons (pe_tupN (pa_cons pe_int (pa_cons pe_int pa_nil))) (pa_cons (pe_tupN (pa_cons pe_int (pa_cons pe_int pa_nil))) pa_nil))) (pg_tup rfl (pgs_cons (pg_name (i := 2) SC__law_near.nd rfl (.inl rfl)) (pgs_cons (pg_name (i := 3) SC__law_near.nd rfl (.inl rfl)) pgs_nil))))
      (pss_cons (ps_asg (pv 0) (pg_tup rfl (pgs_cons (pg_name (i := 4) SC__law_near.nd rfl (.inl rfl)) (pgs_cons (pg_name (i := 5) SC__law_near.nd rfl (.inl rfl)) (pgs_cons (pg_name (i := 6) SC__law_near.nd rfl (.inl rfl)) (pgs_cons (pg_name (i := 7) SC__law_near.nd rfl (.inl rfl)) pgs_nil))))))
      (pss_nrm (pss_mid (ps_for PassesOwn.never rfl (pi_range1 (by rfl) T.b_range (pa_cons (pv 1) pa_nil)) (pg_name (i := 8) SC__law_near.nd rfl (.inl rfl)) (pss_cons (ps_set (i := 9) SC__law_near.nd rfl (.inl rfl) (pe_tupN (pa_cons (pe_op op_add (pe_ix ix_tup (pv 2) pe_int (fun _ _ => rfl)) (pe_ix ix_tup (pv 3) pe_int (fun _ _ => rfl))) (pa_cons (pe_op op_add (pe_ix ix_tup (pv 2) pe_int (fun _ _ => rfl)) (pe_ix ix_tup (pv 3) pe_int (fun _ _ => rfl))) pa_nil))))
      (pss_one (ps_if (pt_cmpR op_lt (pe_callC C_lsr (hr.mono (by decide)) rfl (pa_cons (pe_op op_sub (pe_op op_mulW (pv 4) (pe_ix ix_tup (pv 9) pe_int (fun _ _ => rfl))) (pe_op op_mulW (pe_ix ix_tup (pv 9) pe_int (fun _ _ => rfl)) (pv 7))) (pa_cons (pe_op op_mulW (pv 5) (pe_ix ix_tup (pv 9) pe_int (fun _ _ => rfl))) (pa_cons (pv 6) pa_nil)))) pe_int (nomark _)) (pss_one (ps_set (i := 3) SC__law_near.nd rfl (.inl rfl) (pv 9))) (pss_one (ps_set (i := 2) SC__law_near.nd rfl (.inl rfl) (pv 9)))))))
      (pss_one (ps_ret (pe_tupN (pa_cons (pe_op op_add (pe_ix ix_tup (pv 2) pe_int (fun _ _ => rfl)) (pe_ix ix_tup (pv 3) pe_int (fun _ _ => rfl))) (pa_cons pe_int (pa_cons pe_int (pa_cons (pe_op op_add (pe_ix ix_tup (pv 2) pe_int (fun _ _ => rfl)) (pe_ix ix_tup (pv 3) pe_int (fun _ _ => rfl))) pa_nil))))))))))), ?_⟩
    obtain ⟨b1, b2, b3, b4⟩ := lg.bd
    have W := (Ho.start H).call (o := .tup [.int g.p, .int g.q, .int g.d, .int g.r]) (Same.refl H) ht
    walk_at "kw"
    rename_i lo H1 f1 W1 hi H2 f2 W2 tt H3 f3 W3
    have W3 : Ho H H3 [(hi, .tup [.int 1, .int 0]), (lo, .tup [.int 0, .int 1]), (t, .tup [.int g.p, .int g.q, .int g.d, .int g.r])] := W3.tl
    clear W W1 W2
    have n2 : n.toNat ≤ 58 := by omega
    refine ⟨fun σ' H' => ∃ (lo hi : Addr) (a b c e : Int) (y8 y9 : Option V), Ho H H' [(hi, .tup [.int c, .int e]), (lo, .tup [.int a, .int b]), (t, .tup [.int g.p, .int g.q, .int g.d, .int g.r])] ∧ (0 ≤ a ∧ 0 ≤ b ∧ 0 ≤ c ∧ 0 ≤ e) ∧ (1 ≤ a + c ∧ 1 ≤ b + e) ∧ (a < 2 ^ 59 ∧ b < 2 ^ 59 ∧ c < 2 ^ 59 ∧ e < 2 ^ 59) ∧ σ' = [some (.ref t), some (.int n), some (.ref lo), some (.ref hi), some (.int g.p), some (.int g.q), some (.int g.d), some (.int g.r), y8, y9], ?_, fun σ1 H4 z => ?_⟩
    · walk_at "kw"
      refine for_range (lo := 0) (fun i σ H' => ∃ (lo hi : Addr) (a b c e : Int) (y8 y9 : Option V), Ho H H' [(hi, .tup [.int c, .int e]), (lo, .tup [.int a, .int b]), (t, .tup [.int g.p, .int g.q, .int g.d, .int g.r])] ∧ (0 ≤ a ∧ 0 ≤ b ∧ 0 ≤ c ∧ 0 ≤ e) ∧ (1 ≤ a + c ∧ 1 ≤ b + e) ∧ (a ≤ 2 ^ i ∧ b ≤ 2 ^ i ∧ c ≤ 2 ^ i ∧ e ≤ 2 ^ i) ∧ σ = [some (.ref t), some (.int n), some (.ref lo), some (.ref hi), some (.int g.p), some (.int g.q), some (.int g.d), some (.int g.r), y8, y9])
        ⟨lo, hi, 0, 1, 1, 0, none, none, W3, by decide, by decide, by decide, rfl⟩ (fun i σ H4 hi' hP => ?_) (fun σ H4 hP => ?_)
      · obtain ⟨lo, hi, a, b, c, e, y8, y9, W4, ⟨a0, b0, c0, e0⟩, ⟨s1, s2⟩, ⟨a1, b1', c1, e1⟩, rfl⟩ := hP
        have pw : (2 : Int) ^ (i + 1) = 2 ^ i * 2 := Int.pow_succ ..
        have p1 : (1 : Int) ≤ 2 ^ i := by
          have := Int.pow_pos (n := 2) (m := i) (by decide)
          omega
        have p58 : (2 : Int) ^ i ≤ 2 ^ 58 := pw_le (by omega)
        have m1 : Bd 60 (a + c) := by show (a + c).natAbs < 2 ^ 60; omega
        have m2 : Bd 60 (b + e) := by show (b + e).natAbs < 2 ^ 60; omega
        walk_at "kw"
        rename_i md H5 f5 W5
        have q1 : Bd 400 (g.p * (b + e) - (a + c) * g.r) := ((b1.mul m2).sub (m1.mul b4)).mono (by decide)
        have q2 : Bd 400 (g.q * (b + e)) := (b2.mul m2).mono (by decide)
        have q3 : Bd 400 g.d := b3.mono (by decide)
        have d0 := lg.1
        walk_at "kw"
        refine ite2 (fun h => ?_) (fun h => ?_)
        · walk_at "kw"
          refine ⟨lo, md, a, b, a + c, b + e, _, _, ?_, ⟨a0, b0, by omega, by omega⟩, ⟨by omega, by omega⟩, ⟨by omega, by omega, by omega, by omega⟩, rfl⟩
          exact W5.drop2
        · walk_at "kw"
          refine ⟨md, hi, a + c, b + e, c, e, _, _, ?_, ⟨by omega, by omega, c0, e0⟩, ⟨by omega, by omega⟩, ⟨by omega, by omega, by omega, by omega⟩, rfl⟩
          exact ⟨W5.sm, fun y hy => by
            rcases List.mem_cons.mp hy with rfl | hy
            · exact W5.get (.tail _ (.head _))
            · rcases List.mem_cons.mp hy with rfl | hy
              · exact W5.get (.head _)
              · cases List.mem_singleton.mp hy
                exact W5.get (.tail _ (.tail _ (.tail _ (.head _))))⟩
      · obtain ⟨lo, hi, a, b, c, e, y8, y9, W4, h0, h1, ⟨a1, b1', c1, e1⟩, rfl⟩ := hP
        have p58 : ∀ x : Int, x ≤ 2 ^ n.toNat → x < 2 ^ 59 := fun x h => by
          have : (2 : Int) ^ n.toNat ≤ 2 ^ 58 := pw_le n2
          omega
        exact ⟨lo, hi, a, b, c, e, y8, y9, W4, h0, h1, ⟨p58 _ a1, p58 _ b1', p58 _ c1, p58 _ e1⟩, rfl⟩
    obtain ⟨lo, hi, a, b, c, e, y8, y9, W4, ⟨a0, b0, c0, e0⟩, ⟨s1, s2⟩, ⟨a1, b1', c1, e1⟩, rfl⟩ := z
    walk_at "kw"
    rename_i tz H5 f5 W5
    exact k tz H5 (a + c) (b + e) f5 W5.sm (W5.get (.head _)) s1 (by show (a + c).natAbs < 2 ^ 60; omega) s2 (by show (b + e).natAbs < 2 ^ 60; omega)
end

namespace K11
def sp_lplaces : Sp := fun vs H Q _ => ∃ b : Addr, vs = [.ref b] ∧ BoxAt H b ∧ ∀ (p : Addr) (H' : Hp) (xs : List V), H p = none → p ≠ b → Keep b H H' → BoxAt H' b → H' p = some (.lst xs) → xs.length ≤ 20 → (∀ v ∈ xs, ∃ a, LPat H' v a ∧ Lok a) → Q (.ref p) H'
theorem G4.eta (g : G4) : G4.tl g = [.int g.p, .int g.q, .int g.d, .int g.r] := rfl
/-- what stands in the heap of some places -/
def LE (Lx : List (Addr × HO)) (v : V) : Lk → Prop
  | .zero => v = .str ("0" : Str)
  | .endless => v = .str ("endless" : Str)
  | .num g => ∃ t, v = .ref t ∧ (t, HO.tup (G4.tl g)) ∈ Lx
def AllE (Lx : List (Addr × HO)) (xs : List V) : Prop := ∀ v ∈ xs, ∃ a, LE Lx v a ∧ Lq a
theorem LE.mono {L1 L2 : List (Addr × HO)} {v : V} {a : Lk} (h : LE L1 v a) (s : ∀ x ∈ L1, x ∈ L2) : LE L2 v a := by
  cases a with
  | zero => exact h
  | endless => exact h
  | num g => obtain ⟨t, e, q⟩ := h; exact ⟨t, e, s _ q⟩
theorem LE.at {Lx : List (Addr × HO)} {H : Hp} {v : V} {a : Lk} (h : LE Lx v a) (s : ∀ x ∈ Lx, H x.1 = some x.2) : LPat H v a := by
  cases a with
  | zero => exact h
  | endless => exact h
  | num g => obtain ⟨t, e, q⟩ := h; exact ⟨t, e, s _ q⟩
theorem AllE.mono {L1 L2 : List (Addr × HO)} {xs : List V} (h : AllE L1 xs) (s : ∀ x ∈ L1, x ∈ L2) : AllE L2 xs := fun v hv => let ⟨a, p, q⟩ := h v hv; ⟨a, p.mono s, q⟩
theorem AllE.app {Lx : List (Addr × HO)} {xs ys : List V} (h : AllE Lx xs) (g : AllE Lx ys) : AllE Lx (xs ++ ys) := fun v hv => (List.mem_append.mp hv).elim (h v) (g v)
theorem AllE.one {Lx : List (Addr × HO)} {t : Addr} {g : G4} (e : (t, HO.tup (G4.tl g)) ∈ Lx) (q : Gq g) : AllE Lx [.ref t] := fun v hv => by
  cases List.mem_singleton.mp hv
  exact ⟨.num g, ⟨t, rfl, e⟩, q⟩
def NoL (Lx : List (Addr × HO)) : Prop := ∀ x ∈ Lx, isLst x.2 = false
theorem NoL.cons {Lx : List (Addr × HO)} {t : Addr} {xs : List V} (h : NoL Lx) : NoL ((t, .tup xs) :: Lx) := fun x hx => by
  rcases List.mem_cons.mp hx with rfl | hx
  · rfl
  · exact h x hx
/-- a list of one's own beside another one is changed -/
theorem Wo.set3 {B l m : Addr} {H0 H : Hp} {xs ys : List V} {L : List (Addr × HO)} (w : Wo B H0 H ((l, .lst xs) :: (m, .lst ys) :: L)) (hn : NoL L) (hf : H0 l = none) (ne : xs ≠ ys) (zs : List V) : Wo B H0 (upd H l (.lst zs)) ((l, .lst zs) :: (m, .lst ys) :: L) := by
  have h1 := w.get (.head _)
  have h2 := w.get (.tail _ (.head _))
  have nm : m ≠ l := fun e => by
    rw [e, h1] at h2
    cases h2
    exact ne rfl
  have w2 := (w.drop2).set2 rfl hn hf (.lst zs)
  have w3 := w2.add (p := m) (o := .lst ys) (by rw [upd_ne nm]; exact h2) (w.ne (.tail _ (.head _)))
  exact w3.sub fun x hx => by
    rcases List.mem_cons.mp hx with rfl | hx
    · exact .tail _ (.head _)
    · rcases List.mem_cons.mp hx with rfl | hx
      · exact .head _
      · exact .tail _ (.tail _ hx)
/-- the kin of a number -/
theorem kin_q {p q d r m : Int} (p0 : -2000 ≤ p) (p1 : p ≤ 2000) (q0 : -4 ≤ q) (q1 : q ≤ 4) (d0 : 0 ≤ d) (d1 : d ≤ 20) (r0 : 1 ≤ r) (r1 : r ≤ 6) (m0 : 1 ≤ m) (m1 : m ≤ 3) :
    Gq ⟨p, q, d, r⟩ ∧ Gq ⟨p * m, q, d * m * m, r * m⟩ ∧ Gq ⟨p + 1, q, d, r⟩ ∧ Gq ⟨p, q, d + 1, r⟩ ∧ Gq ⟨p * 7, q * 7, d, r * 7 + 1⟩ ∧ Gq ⟨p * 1000000000 + 1, q * 1000000000, d, r * 1000000000⟩ ∧ Gq ⟨p + 2, q, d, r⟩ := by
  have hp : p * m ≤ 6000 ∧ -6000 ≤ p * m := by
    have : m = 1 ∨ m = 2 ∨ m = 3 := by omega
    rcases this with rfl | rfl | rfl <;> omega
  have hd : 0 ≤ d * m * m ∧ d * m * m ≤ 180 := by
    have : m = 1 ∨ m = 2 ∨ m = 3 := by omega
    rcases this with rfl | rfl | rfl <;> omega
  have hr : 1 ≤ r * m ∧ r * m ≤ 18 := by
    have : m = 1 ∨ m = 2 ∨ m = 3 := by omega
    rcases this with rfl | rfl | rfl <;> omega
  have go : ∀ p q d r : Int, -4000000000000 ≤ p → p ≤ 4000000000000 → -8000000000 ≤ q → q ≤ 8000000000 → 0 ≤ d → d ≤ 1000 → 1 ≤ r → r ≤ 8000000000 → Gq ⟨p, q, d, r⟩ := fun p q d r a1 a2 a3 a4 a5 a6 a7 a8 =>
    ⟨a5, a7, .inr ⟨by show p.natAbs < 2 ^ 42; omega, by show q.natAbs < 2 ^ 34; omega, by show d.natAbs < 2 ^ 10; omega, by show r.natAbs < 2 ^ 34; omega⟩⟩
  refine ⟨go _ _ _ _ ?_ ?_ ?_ ?_ ?_ ?_ ?_ ?_, go _ _ _ _ ?_ ?_ ?_ ?_ ?_ ?_ ?_ ?_, go _ _ _ _ ?_ ?_ ?_ ?_ ?_ ?_ ?_ ?_, go _ _ _ _ ?_ ?_ ?_ ?_ ?_ ?_ ?_ ?_, go _ _ _ _ ?_ ?_ ?_ ?_ ?_ ?_ ?_ ?_, go _ _ _ _ ?_ ?_ ?_ ?_ ?_ ?_ ?_ ?_, go _ _ _ _ ?_ ?_ ?_ ?_ ?_ ?_ ?_ ?_⟩
  all_goals omega
end K11
section
variable {P : Program} {w : World} {K : PySem.W.Frag} {mg : Str → Option Value} {base : Heap}
theorem ok_lplaces {f : Addr} {fd : FuncData} (F : Fun K "_law_places" "_law_places" S__law_places f fd) (T : Txt K mg) (C_take : FnC P w K mg base CX0 1 "_law_take" ["_law_box_here", "_law_many"] sp_take) (C_lroot : FnC P w K mg base CX0 3 "_law_root" ["_law_box_here", "_law_most"] sp_lroot) (C_lfrac : FnC P w K mg base CX0 3 "_law_fraction" ["_law_given"] sp_lfrac) (C_lnear : FnC P w K mg base CX0 4 "_law_near" ["_law_given", "_law_count"] sp_lnear) (C_lsr : FnC P w K mg base CX0 2 "_law_sign_root" ["_law_one", "_law_times", "_law_inner"] sp_lsr) : FnOk P w K mg base CX0 6 f fd ["_law_box_here"] sp_lplaces := by
  refine F.ok SC__law_places (fun vs H Q E h => ?_) (fun cdv A outer s H vs Q E hr h => ?_)
  · obtain ⟨b, rfl, _⟩ := h
    rfl
  · obtain ⟨b, rfl, hb, k⟩ := h
    refine ⟨_, (pss_cons (ps_set (i := 1) SC__law_places.nd rfl (.inl rfl) (pe_lstN (pa_cons pe_str (pa_cons pe_str pa_nil))))
      (pss_mid (ps_for PassesOwn.never rfl (pi_range1 (by rfl) T.b_range (pa_cons pe_int pa_nil)) (pg_name (i := 2) SC__law_places.nd rfl (.inl rfl)) (pss_cons (ps_asg (pe_callC C_lroot (hr.mono (by decide)) rfl (pa_cons (pv 0) (pa_cons pe_int pa_nil))) (pg_tup rfl (pgs_cons (pg_name (i := 3) SC__law_places.nd rfl (.inl rfl)) (pgs_cons (pg_name (i := 4) SC__law_places.nd rfl (.inl rfl)) (pgs_cons (pg_name (i := 5) SC__law_places.nd rfl (.inl rfl)) (pgs_cons (pg_name (i := 6) SC__law_places.nd rfl (.inl rfl)) pgs_nil))))))
      (pss_nrm (pss_cons (ps_set (i := 7) SC__law_places.nd rfl (.inl rfl) (pe_op op_add pe_int (pe_callC C_take (hr.mono (by decide)) rfl (pa_cons (pv 0) (pa_cons pe_int pa_nil)))))
      (pss_cons (ps_set (i := 8) SC__law_places.nd rfl (.inl rfl) (pe_lstN (pa_cons (pe_tupN (pa_cons (pe_op op_mulW (pv 3) (pv 7)) (pa_cons (pv 4) (pa_cons (pe_op op_mulW (pe_op op_mulW (pv 5) (pv 7)) (pv 7)) (pa_cons (pe_op op_mulW (pv 6) (pv 7)) pa_nil))))) (pa_cons (pe_tupN (pa_cons (pe_op op_add (pv 3) pe_int) (pa_cons (pv 4) (pa_cons (pv 5) (pa_cons (pv 6) pa_nil))))) (pa_cons (pe_tupN (pa_cons (pv 3) (pa_cons (pv 4) (pa_cons (pe_op op_add (pv 5) pe_int) (pa_cons (pv 6) pa_nil))))) pa_nil)))))
      (pss_mid (ps_expr (pe_bm PySem.F.plainAttrs_list PySem.F.slot_list_append PySem.F.type_list_append mt_append (pv 8) (pa_cons (pe_tupN (pa_cons (pe_op op_mulW (pv 3) pe_int) (pa_cons (pe_op op_mulW (pv 4) pe_int) (pa_cons (pv 5) (pa_cons (pe_op op_add (pe_op op_mulW (pv 6) pe_int) pe_int) pa_nil))))) pa_nil)))
      (pss_mid (ps_set (i := 9) SC__law_places.nd rfl (.inl rfl) (pe_cmpR op_isN (pe_callC C_lfrac (hr.mono (by decide)) rfl (pa_cons (pe_tupN (pa_cons (pv 3) (pa_cons (pv 4) (pa_cons (pv 5) (pa_cons (pv 6) pa_nil))))) pa_nil)) pe_non (nomark _)))
      (pss_mid (ps_expr (pe_bm PySem.F.plainAttrs_list PySem.F.slot_list_append PySem.F.type_list_append mt_append (pv 8) (pa_cons (pe_ifExp (pt_val (pv 9)) (pe_tupN (pa_cons (pe_op op_add (pe_op op_mulW (pv 3) (pe_op op_pow pe_int pe_int)) pe_int) (pa_cons (pe_op op_mulW (pv 4) (pe_op op_pow pe_int pe_int)) (pa_cons (pv 5) (pa_cons (pe_op op_mulW (pv 6) (pe_op op_pow pe_int pe_int)) pa_nil))))) (pe_tupN (pa_cons (pe_op op_add (pv 3) pe_int) (pa_cons (pv 4) (pa_cons (pv 5) (pa_cons (pv 6) pa_nil)))))) pa_nil)))
      (pss_mid (ps_expr (pe_bm PySem.F.plainAttrs_list PySem.F.slot_list_extend PySem.F.type_list_extend mt_extend (pv 1) (pa_cons (pe_lstN (pa_cons (pe_tupN (pa_cons (pv 3) (pa_cons (pv 4) (pa_cons (pv 5) (pa_cons (pv 6) pa_nil))))) (pa_cons (pe_ix ix_list (pv 8) (pe_callC C_take (hr.mono (by decide)) rfl (pa_cons (pv 0) (pa_cons pe_int pa_nil))) (fun _ _ => rfl)) pa_nil))) pa_nil)))
      (pss_one (ps_if (pt_val (pv 9)) (pss_cons (ps_set (i := 10) SC__law_places.nd rfl (.inl rfl) (pe_op op_add pe_int (pe_callC C_take (hr.mono (by decide)) rfl (pa_cons (pv 0) (pa_cons pe_int pa_nil)))))
      (pss_one (ps_expr (pe_bm PySem.F.plainAttrs_list PySem.F.slot_list_extend PySem.F.type_list_extend mt_extend (pv 1) (pa_cons (pe_lstN (pa_cons (pe_callC C_lnear (hr.mono (by decide)) rfl (pa_cons (pe_tupN (pa_cons (pv 3) (pa_cons (pv 4) (pa_cons (pv 5) (pa_cons (pv 6) pa_nil))))) (pa_cons (pv 10) pa_nil))) (pa_cons (pe_callC C_lnear (hr.mono (by decide)) rfl (pa_cons (pe_tupN (pa_cons (pv 3) (pa_cons (pv 4) (pa_cons (pv 5) (pa_cons (pv 6) pa_nil))))) (pa_cons (pe_op op_add (pv 10) pe_int) pa_nil))) pa_nil))) pa_nil))))) pss_nil)))))))))))
      (pss_one (ps_ret (pe_lc (own := [("_law_place", 11)]) (g := gName 11) (by rfl) SC__law_places.nd (pi_list (pv 1)) (blkOk_by (own := [("_law_place", 11)]) (N := N__law_places) (sc := defScope S__law_places) (by decide +kernel)) (fun _ _ _ _ _ => pg_name (i := 11) SC__law_places.nd rfl (Or.inl rfl)) (fun _ _ _ _ _ => pts_one (PW.pt (pw_or (pt_val (pe_callB (call_isiK' (K := K) rfl) (by rfl) T.b_isinstance (by decide +kernel) (pa_cons (pv 11) (pa_cons (pe_bltn (v := .ty "str") (by rfl) T.b_str boot_str rfl) pa_nil)))) (pw_or1 (pt_cmpR op_gt (pe_callC C_lsr (hr.mono (by decide)) rfl (pa_cons (pe_ix (ix_tupK (K := K) rfl) (pv 11) pe_int (fun _ _ => rfl)) (pa_cons (pe_ix (ix_tupK (K := K) rfl) (pv 11) pe_int (fun _ _ => rfl)) (pa_cons (pe_ix (ix_tupK (K := K) rfl) (pv 11) pe_int (fun _ _ => rfl)) pa_nil)))) pe_int (nomark _)))))) (fun _ _ _ _ _ => (pv 11))))))), ?_⟩
    have W0 := Wo.start hb
    walk_at "kw"
    rename_i L H1 f1 W1
    have nL := W1.ne (.head _)
    refine ⟨fun σ' H' => ∃ (ys : List V) (Lx : List (Addr × HO)), Wo b H H' ((L, .lst (.str ("0" : Str) :: ys)) :: Lx) ∧ NoL Lx ∧ AllE Lx (.str ("0" : Str) :: ys) ∧ ys.length ≤ 19 ∧ ∃ y2 y3 y4 y5 y6 y7 y8 y9 y10 y11 : Option V, σ' = [some (.ref b), some (.ref L), y2, y3, y4, y5, y6, y7, y8, y9, y10, y11], ?_, fun σ1 H4 z => ?_⟩
    · walk_at "kw"
      refine for_range (lo := 0) (fun i σ H' => ∃ (ys : List V) (Lx : List (Addr × HO)), Wo b H H' ((L, .lst (.str ("0" : Str) :: ys)) :: Lx) ∧ NoL Lx ∧ AllE Lx (.str ("0" : Str) :: ys) ∧ ys.length ≤ 1 + 4 * i ∧ ∃ y2 y3 y4 y5 y6 y7 y8 y9 y10 y11 : Option V, σ = [some (.ref b), some (.ref L), y2, y3, y4, y5, y6, y7, y8, y9, y10, y11])
        ⟨[.str ("endless" : Str)], [], W1, (fun _ h => nomatch h), (fun v hv => by
          rcases List.mem_cons.mp hv with rfl | hv
          · exact ⟨.zero, rfl, trivial⟩
          · cases List.mem_singleton.mp hv
            exact ⟨.endless, rfl, trivial⟩), by decide, _, _, _, _, _, _, _, _, _, _, rfl⟩ (fun i σ H2 hi hP => ?_) (fun σ H2 hP => ?_)
      · obtain ⟨ys, Lx, W2, nl, ax, ly, y2, y3, y4, y5, y6, y7, y8, y9, y10, y11, rfl⟩ := hP
        have hi3 : i < 3 := hi
        walk_at "kw"
        refine ⟨W2.box, by decide, by decide, fun t3 H3 p q d r hn3 ne3 kp3 hb3 h3 p0 p1 q0 q1 d0 d1 r0 r1 w0 => ?_⟩
        have W3 := (W2.keep kp3 hb3).add h3 ne3
        walk_at "kw"
        intro m0 H4 m00 m01 kp4 hb4
        have W4 := W3.tl.keep kp4 hb4
        clear W3 kp3 h3 kp4
        have mm : 1 ≤ 1 + m0 ∧ 1 + m0 ≤ 3 := by omega
        obtain ⟨g0, g1, g2, g3, g4, g5, g6⟩ := kin_q (m := 1 + m0) p0 p1 q0 q1 d0 d1 r0 r1 mm.1 mm.2
        have bm : Bd 60 (1 + m0) := bd_small (by omega) (by omega)
        have bp : Bd 60 p := bd_small (by omega) (by omega)
        have bq : Bd 60 q := bd_small (by omega) (by omega)
        have bd : Bd 60 d := bd_small (by omega) (by omega)
        have br : Bd 60 r := bd_small (by omega) (by omega)
        walk_at "kw"
        rename_i ka Ha fa Wa kb Hb fb Wb kc Hc fc Wc kl Hl fl Wk
        clear Wa Wb Wc W4
        have WK : Wo b H Hl ((kl, .lst [.ref ka, .ref kb, .ref kc]) :: (L, .lst (.str ("0" : Str) :: ys)) :: (kc, .tup (G4.tl ⟨p, q, d + 1, r⟩)) :: (kb, .tup (G4.tl ⟨p + 1, q, d, r⟩)) :: (ka, .tup (G4.tl ⟨p * (1 + m0), q, d * (1 + m0) * (1 + m0), r * (1 + m0)⟩)) :: Lx) := Wk.sub fun x hx => by
          rcases List.mem_cons.mp hx with rfl | hx
          · exact .head _
          · rcases List.mem_cons.mp hx with rfl | hx
            · exact .tail _ (.tail _ (.tail _ (.tail _ (.head _))))
            · rcases List.mem_cons.mp hx with rfl | hx
              · exact .tail _ (.head _)
              · rcases List.mem_cons.mp hx with rfl | hx
                · exact .tail _ (.tail _ (.head _))
                · rcases List.mem_cons.mp hx with rfl | hx
                  · exact .tail _ (.tail _ (.tail _ (.head _)))
                  · exact .tail _ (.tail _ (.tail _ (.tail _ (.tail _ hx))))
        have N1 : NoL ((kc, HO.tup (G4.tl ⟨p, q, d + 1, r⟩)) :: (kb, .tup (G4.tl ⟨p + 1, q, d, r⟩)) :: (ka, .tup (G4.tl ⟨p * (1 + m0), q, d * (1 + m0) * (1 + m0), r * (1 + m0)⟩)) :: Lx) := NoL.cons (NoL.cons (NoL.cons nl))
        have A1 : AllE ((kc, HO.tup (G4.tl ⟨p, q, d + 1, r⟩)) :: (kb, .tup (G4.tl ⟨p + 1, q, d, r⟩)) :: (ka, .tup (G4.tl ⟨p * (1 + m0), q, d * (1 + m0) * (1 + m0), r * (1 + m0)⟩)) :: Lx) [.ref ka, .ref kb, .ref kc] :=
          (AllE.one (.tail _ (.tail _ (.head _))) g1).app ((AllE.one (.tail _ (.head _)) g2).app (AllE.one (.head _) g3))
        have A2 := ax.mono (L2 := (kc, HO.tup (G4.tl ⟨p, q, d + 1, r⟩)) :: (kb, .tup (G4.tl ⟨p + 1, q, d, r⟩)) :: (ka, .tup (G4.tl ⟨p * (1 + m0), q, d * (1 + m0) * (1 + m0), r * (1 + m0)⟩)) :: Lx) fun x hx => .tail _ (.tail _ (.tail _ hx))
        clear Wk
        generalize (kc, HO.tup (G4.tl ⟨p, q, d + 1, r⟩)) :: (kb, HO.tup (G4.tl ⟨p + 1, q, d, r⟩)) :: (ka, HO.tup (G4.tl ⟨p * (1 + m0), q, d * (1 + m0) * (1 + m0), r * (1 + m0)⟩)) :: Lx = Ly at WK N1 A1 A2
        refine ⟨fun σ' H' => ∃ (Lz : List (Addr × HO)) (kd : Addr), Wo b H H' ((kl, .lst [.ref ka, .ref kb, .ref kc, .ref kd]) :: (L, .lst (.str ("0" : Str) :: ys)) :: Lz) ∧ NoL Lz ∧ AllE Lz (.str ("0" : Str) :: ys) ∧ AllE Lz [.ref ka, .ref kb, .ref kc, .ref kd] ∧ σ' = [some (.ref b), some (.ref L), some (.int (0 + (i : Int))), some (.int p), some (.int q), some (.int d), some (.int r), some (.int (1 + m0)), some (.ref kl), y9, y10, y11], ?_, fun σ1 H5 z => ?_⟩
        · walk_at "kw"
          refine ⟨.inl ⟨rfl, _, SqL.of (WK.get (.head _))⟩, ?_⟩
          walk_at "kw"
          rename_i kd H6 f6 W6
          refine ⟨kl, _, _, rfl, rfl, W6.get (.tail _ (.head _)), szs (by show 3 ≤ 1000000; decide), ?_⟩
          have W7 : Wo b H H6 ((kl, .lst [.ref ka, .ref kb, .ref kc]) :: (L, .lst (.str ("0" : Str) :: ys)) :: (kd, .tup (G4.tl ⟨p * 7, q * 7, d, r * 7 + 1⟩)) :: Ly) := W6.sub fun x hx => by
            rcases List.mem_cons.mp hx with rfl | hx
            · exact .tail _ (.head _)
            · rcases List.mem_cons.mp hx with rfl | hx
              · exact .tail _ (.tail _ (.head _))
              · rcases List.mem_cons.mp hx with rfl | hx
                · exact .head _
                · exact .tail _ (.tail _ (.tail _ hx))
          have W8 := K11.Wo.set3 W7 N1.cons fl (by simp) [.ref ka, .ref kb, .ref kc, .ref kd]
          exact ⟨_, kd, W8, N1.cons, A2.mono fun x hx => .tail _ hx, (A1.mono fun x hx => .tail _ hx).app (AllE.one (.head _) g4), rfl⟩
        obtain ⟨Lz, kd, W5, N2, A3, A4, rfl⟩ := z
        clear WK N1 A1 A2 Ly
        refine ⟨fun σ' H' => ∃ (Lz : List (Addr × HO)) (bb : Bool), Wo b H H' ((kl, .lst [.ref ka, .ref kb, .ref kc, .ref kd]) :: (L, .lst (.str ("0" : Str) :: ys)) :: Lz) ∧ NoL Lz ∧ AllE Lz (.str ("0" : Str) :: ys) ∧ AllE Lz [.ref ka, .ref kb, .ref kc, .ref kd] ∧ σ' = [some (.ref b), some (.ref L), some (.int (0 + (i : Int))), some (.int p), some (.int q), some (.int d), some (.int r), some (.int (1 + m0)), some (.ref kl), some (.bl bb), y10, y11], ?_, fun σ1 H6 z => ?_⟩
        · walk_at "kw"
          rename_i tz H6 f6 W6
          have W7 : Wo b H H6 ((kl, .lst [.ref ka, .ref kb, .ref kc, .ref kd]) :: (L, .lst (.str ("0" : Str) :: ys)) :: Lz) := W6.tl
          refine ⟨tz, p, q, d, r, rfl, W6.get (.head _), d0, by omega, ⟨bp.mono (by decide), bq.mono (by decide), bd.mono (by decide), br.mono (by decide)⟩, fun _ _ => ?_, fun s t0 t1 t2 hz => ?_⟩
          · walk_at "kw"
            exact ⟨Lz, _, W7, N2, A3, A4, rfl⟩
          · intro tf H7 f7 s7 h7
            walk_at "kw"
            exact ⟨Lz, _, W7.same s7, N2, A3, A4, rfl⟩
        clear W5 N2 A3 A4 Lz
        obtain ⟨Lz, bb, W6, N2, A3, A4, rfl⟩ := z
        refine ⟨fun σ' H' => ∃ (Lz : List (Addr × HO)) (ke : Addr), Wo b H H' ((kl, .lst [.ref ka, .ref kb, .ref kc, .ref kd, .ref ke]) :: (L, .lst (.str ("0" : Str) :: ys)) :: Lz) ∧ NoL Lz ∧ AllE Lz (.str ("0" : Str) :: ys) ∧ AllE Lz [.ref ka, .ref kb, .ref kc, .ref kd, .ref ke] ∧ σ' = [some (.ref b), some (.ref L), some (.int (0 + (i : Int))), some (.int p), some (.int q), some (.int d), some (.int r), some (.int (1 + m0)), some (.ref kl), some (.bl bb), y10, y11], ?_, fun σ1 H7 z => ?_⟩
        · walk_at "kw"
          refine ⟨.inl ⟨rfl, _, SqL.of (W6.get (.head _))⟩, ?_⟩
          walk_at "kw"
          have fin : ∀ (ke : Addr) (g : G4) (H8 : Hp), Gq g → Wo b H H8 ((ke, .tup (G4.tl g)) :: (kl, .lst [.ref ka, .ref kb, .ref kc, .ref kd]) :: (L, .lst (.str ("0" : Str) :: ys)) :: Lz) → ∃ (Lz : List (Addr × HO)) (ke' : Addr), Wo b H (upd H8 kl (.lst [.ref ka, .ref kb, .ref kc, .ref kd, .ref ke])) ((kl, .lst [.ref ka, .ref kb, .ref kc, .ref kd, .ref ke']) :: (L, .lst (.str ("0" : Str) :: ys)) :: Lz) ∧ NoL Lz ∧ AllE Lz (.str ("0" : Str) :: ys) ∧ AllE Lz [.ref ka, .ref kb, .ref kc, .ref kd, .ref ke'] ∧ [some (.ref b), some (.ref L), some (.int (0 + (i : Int))), some (.int p), some (.int q), some (.int d), some (.int r), some (.int (1 + m0)), some (.ref kl), some (.bl bb), y10, y11] = [some (.ref b), some (.ref L), some (.int (0 + (i : Int))), some (.int p), some (.int q), some (.int d), some (.int r), some (.int (1 + m0)), some (.ref kl), some (V.bl bb), y10, y11] := fun ke g H8 hg W8 => by
            have W9 : Wo b H H8 ((kl, .lst [.ref ka, .ref kb, .ref kc, .ref kd]) :: (L, .lst (.str ("0" : Str) :: ys)) :: (ke, .tup (G4.tl g)) :: Lz) := W8.sub fun x hx => by
              rcases List.mem_cons.mp hx with rfl | hx
              · exact .tail _ (.head _)
              · rcases List.mem_cons.mp hx with rfl | hx
                · exact .tail _ (.tail _ (.head _))
                · rcases List.mem_cons.mp hx with rfl | hx
                  · exact .head _
                  · exact .tail _ (.tail _ (.tail _ hx))
            exact ⟨_, ke, K11.Wo.set3 W9 N2.cons fl (by simp) _, N2.cons, A3.mono fun x hx => .tail _ hx, (A4.mono fun x hx => .tail _ hx).app (AllE.one (.head _) hg), rfl⟩
          cases bb with
          | true =>
            refine ifT rfl ?_
            walk_at "kw"
            rename_i ke H8 f8 W8
            refine ⟨kl, _, _, rfl, rfl, W8.get (.tail _ (.head _)), szs (by show 4 ≤ 1000000; decide), ?_⟩
            exact fin ke ⟨_, _, _, _⟩ H8 g5 W8
          | false =>
            refine ifF rfl ?_
            walk_at "kw"
            rename_i ke H8 f8 W8
            refine ⟨kl, _, _, rfl, rfl, W8.get (.tail _ (.head _)), szs (by show 4 ≤ 1000000; decide), ?_⟩
            exact fin ke ⟨_, _, _, _⟩ H8 g6 W8
        clear W6 N2 A3 A4 Lz
        obtain ⟨Lz, ke, W7, N2, A3, A4, rfl⟩ := z
        refine ⟨fun σ' H' => ∃ (Lz : List (Addr × HO)) (ys' : List V), Wo b H H' ((L, .lst (.str ("0" : Str) :: ys')) :: Lz) ∧ NoL Lz ∧ AllE Lz (.str ("0" : Str) :: ys') ∧ ys'.length ≤ ys.length + 2 ∧ σ' = [some (.ref b), some (.ref L), some (.int (0 + (i : Int))), some (.int p), some (.int q), some (.int d), some (.int r), some (.int (1 + m0)), some (.ref kl), some (.bl bb), y10, y11], ?_, fun σ1 H8 z => ?_⟩
        · walk_at "kw"
          refine ⟨.inl ⟨rfl, _, SqL.of (W7.get (.tail _ (.head _)))⟩, ?_⟩
          walk_at "kw"
          rename_i tq H8 f8 W8
          refine ⟨W8.box, by decide, by decide, fun dd H9 dd0 dd1 kp9 hb9 => ?_⟩
          have W9 := W8.keep kp9 hb9
          obtain ⟨kx, hat, hk⟩ : ∃ kx, atI [V.ref ka, .ref kb, .ref kc, .ref kd, .ref ke] dd = some (.ref kx) ∧ V.ref kx ∈ [V.ref ka, .ref kb, .ref kc, .ref kd, .ref ke] := by
            have : dd = 0 ∨ dd = 1 ∨ dd = 2 ∨ dd = 3 ∨ dd = 4 := by omega
            rcases this with rfl | rfl | rfl | rfl | rfl <;> exact ⟨_, rfl, by simp⟩
          refine ⟨kl, _, _, _, rfl, rfl, SqL.of (W9.get (.tail _ (.head _))), hat, ?_⟩
          walk_at "kw"
          rename_i le H10 f10 W10
          refine ⟨L, le, _, _, rfl, rfl, W10.get (.tail _ (.tail _ (.tail _ (.head _)))), W10.get (.head _), szl (by show (ys.length + 1) + 2 ≤ 1000000; omega), ?_⟩
          have W11 : Wo b H H10 ((L, .lst (.str ("0" : Str) :: ys)) :: (kl, .lst [.ref ka, .ref kb, .ref kc, .ref kd, .ref ke]) :: (tq, .tup (G4.tl ⟨p, q, d, r⟩)) :: Lz) := W10.sub fun x hx => by
            rcases List.mem_cons.mp hx with rfl | hx
            · exact .tail _ (.tail _ (.tail _ (.head _)))
            · rcases List.mem_cons.mp hx with rfl | hx
              · exact .tail _ (.tail _ (.head _))
              · rcases List.mem_cons.mp hx with rfl | hx
                · exact .tail _ (.head _)
                · exact .tail _ (.tail _ (.tail _ (.tail _ hx)))
          have W12 := K11.Wo.set3 W11 N2.cons f1 (by simp) (.str ("0" : Str) :: (ys ++ [.ref tq, .ref kx]))
          refine ⟨(tq, .tup (G4.tl ⟨p, q, d, r⟩)) :: Lz, ys ++ [V.ref tq, V.ref kx], W12.drop2, N2.cons, ?_, by simp, rfl⟩
          refine AllE.app (xs := .str ("0" : Str) :: ys) (A3.mono fun x hx => .tail _ hx) (AllE.app (xs := [.ref tq]) (AllE.one (.head _) g0) fun v hv => ?_)
          cases List.mem_singleton.mp hv
          obtain ⟨a, h1, h2⟩ := A4 _ hk
          exact ⟨a, h1.mono fun x hx => .tail _ hx, h2⟩
        clear W7 N2 A3 A4 Lz
        obtain ⟨Lz, ys', W8, N2, A3, ly', rfl⟩ := z
        cases bb with
        | false =>
          refine ⟨_, rfl, _, rfl, ifF rfl ?_⟩
          exact ⟨ys', Lz, W8, N2, A3, by omega, _, _, _, _, _, _, _, _, _, _, rfl⟩
        | true =>
          refine ⟨_, rfl, _, rfl, ifT rfl ?_⟩
          walk_at "kw"
          refine ⟨W8.box, by decide, by decide, fun m2 H9 m20 m21 kp9 hb9 => ?_⟩
          have W9 := W8.keep kp9 hb9
          walk_at "kw"
          refine ⟨.inl ⟨rfl, _, SqL.of (W9.get (.head _))⟩, ?_⟩
          walk_at "kw"
          rename_i ta H10 f10 W10
          refine ⟨ta, ⟨p, q, d, r⟩, _, rfl, W10.get (.head _), g0, by omega, by omega, fun n1 H11 P1 R1 hn11 s11 h11 P10 bP1 R10 bR1 => ?_⟩
          have W11 := W10.call hn11 s11 h11
          walk_at "kw"
          rename_i tb H12 f12 W12
          refine ⟨tb, ⟨p, q, d, r⟩, _, rfl, W12.get (.head _), g0, by omega, by omega, fun n2 H13 P2 R2 hn13 s13 h13 P20 bP2 R20 bR2 => ?_⟩
          have W13 := W12.call hn13 s13 h13
          walk_at "kw"
          rename_i le H14 f14 W14
          refine ⟨L, le, _, _, rfl, rfl, W14.get (.tail _ (.tail _ (.tail _ (.tail _ (.tail _ (.head _)))))), W14.get (.head _), szl (by show (ys'.length + 1) + 2 ≤ 1000000; omega), ?_⟩
          have W15 : Wo b H H14 ((L, .lst (.str ("0" : Str) :: ys')) :: (n2, .tup (G4.tl ⟨P2, 0, 0, R2⟩)) :: (n1, .tup (G4.tl ⟨P1, 0, 0, R1⟩)) :: Lz) := W14.sub fun x hx => by
            rcases List.mem_cons.mp hx with rfl | hx
            · exact .tail _ (.tail _ (.tail _ (.tail _ (.tail _ (.head _)))))
            · rcases List.mem_cons.mp hx with rfl | hx
              · exact .tail _ (.head _)
              · rcases List.mem_cons.mp hx with rfl | hx
                · exact .tail _ (.tail _ (.tail _ (.head _)))
                · exact .tail _ (.tail _ (.tail _ (.tail _ (.tail _ (.tail _ hx)))))
          have W16 := W15.set2 rfl N2.cons.cons f1 (.lst (.str ("0" : Str) :: (ys' ++ [V.ref n1, V.ref n2])))
          have q1 : Gq ⟨P1, 0, 0, R1⟩ := ⟨show (0 : Int) ≤ 0 by decide, R10, .inl ⟨rfl, bP1, bR1, rfl⟩⟩
          have q2 : Gq ⟨P2, 0, 0, R2⟩ := ⟨show (0 : Int) ≤ 0 by decide, R20, .inl ⟨rfl, bP2, bR2, rfl⟩⟩
          refine ⟨ys' ++ [V.ref n1, V.ref n2], _, W16, N2.cons.cons, ?_, by simp; omega, _, _, _, _, _, _, _, _, _, _, rfl⟩
          exact AllE.app (xs := .str ("0" : Str) :: ys') (A3.mono fun x hx => .tail _ (.tail _ hx)) (AllE.app (xs := [V.ref n1]) (AllE.one (.tail _ (.head _)) q1) (AllE.one (.head _) q2))
      · obtain ⟨ys, Lx, W2, nl, ax, ly, yy⟩ := hP
        exact ⟨ys, Lx, W2, nl, ax, by have : 1 + 4 * (3 : Int).toNat = 13 := rfl; omega, yy⟩
    · obtain ⟨ys, Lx, W4, nl, ax, ly, y2, y3, y4, y5, y6, y7, y8, y9, y10, y11, rfl⟩ := z
      have hL := W4.get (.head _)
      walk_at "kw"
      refine ⟨⟨_, SqL.of hL⟩, fun D hD => ?_⟩
      have LD : L ≠ D := ne_of_none hL hD
      have at4 : ∀ x ∈ Lx, H4 x.1 = some x.2 := fun x hx => W4.get (.tail _ hx)
      refine lc_list (xs := .str ("0" : Str) :: ys) (fun i H' => (∀ b o, b ≠ D → H4 b = some o → H' b = some o) ∧ ∃ zs : List V, H' D = some (.lst zs) ∧ zs.length ≤ i ∧ ∀ v ∈ zs, ∃ a, LE Lx v a ∧ Lok a) ⟨fun b o n e => by rw [upd_ne n]; exact e, [], upd_same, Nat.le_refl _, fun _ h => nomatch h⟩
        (fun i H' _ m => SqL.of (m.1 L _ LD hL)) (fun i x H5 hi m => ?_) (fun H5 m => ?_)
      · obtain ⟨kp, zs, hz, lz, az⟩ := m
        have hil : i < ys.length + 1 := (List.getElem?_eq_some_iff.mp hi).1
        obtain ⟨a, la, lq⟩ := ax x (List.mem_of_getElem? hi)
        have at5 : ∀ y ∈ Lx, H5 y.1 = some y.2 := fun y hy => kp _ _ (ne_of_none (at4 y hy) hD) (at4 y hy)
        have lp := la.at at5
        obtain ⟨tx, tyx, ktx⟩ := lp.ty (K := K)
        have fin : Lok a → ∃ acc, H5 D = some (.lst acc) ∧ acc.length < sizeLine ∧ ((∀ b o, b ≠ D → H4 b = some o → (upd H5 D (.lst (acc ++ [x]))) b = some o) ∧ ∃ zs : List V, (upd H5 D (.lst (acc ++ [x]))) D = some (.lst zs) ∧ zs.length ≤ i + 1 ∧ ∀ v ∈ zs, ∃ a, LE Lx v a ∧ Lok a) := fun lk => by
          refine ⟨zs, hz, szs (by omega), fun b o n e => by rw [upd_ne n]; exact kp b o n e, zs ++ [x], upd_same, by simp; omega, fun v hv => ?_⟩
          rcases List.mem_append.mp hv with h | h
          · exact az v h
          · cases List.mem_singleton.mp h
            exact ⟨a, la, lk⟩
        refine ⟨rfl, ?_⟩
        refine ⟨_, rfl, x, _, tx, _, _, rfl, .ty _, tyx, ktx, _, rfl, ?_⟩
        cases a with
        | zero => exact ifT rfl (ifT rfl ⟨_, rfl, fin trivial⟩)
        | endless => exact ifT rfl (ifT rfl ⟨_, rfl, fin trivial⟩)
        | num g =>
          refine ifF rfl ?_
          obtain ⟨tg, rfl, htg⟩ := lp
          have lq : Gq g := lq
          obtain ⟨b1, b2, b3, b4⟩ := lq.bd
          have d0 := lq.1
          have e1 : Bd 400 g.p := b1.mono (by decide)
          have e2 : Bd 400 g.q := b2.mono (by decide)
          have e3 : Bd 400 g.d := b3.mono (by decide)
          refine ⟨_, rfl, tg, G4.tl g, 0, _, rfl, rfl, SqT.of htg, rfl, ?_⟩
          refine ⟨_, rfl, tg, G4.tl g, 1, _, rfl, rfl, SqT.of htg, rfl, ?_⟩
          refine ⟨_, rfl, tg, G4.tl g, 2, _, rfl, rfl, SqT.of htg, rfl, ?_⟩
          refine ⟨g.p, g.q, g.d, rfl, e1, e2, e3, d0, ?_⟩
          refine ⟨_, _, rfl, rfl, _, rfl, ?_⟩
          by_cases w0 : 0 < swr g.p g.q g.d
          · rw [decide_eq_true w0]
            exact ifT rfl ⟨_, rfl, fin ⟨lq, w0⟩⟩
          · rw [decide_eq_false w0]
            exact ifF rfl ⟨kp, zs, hz, by omega, az⟩
      · obtain ⟨kp, zs, hz, lz, az⟩ := m
        have W5 := (W4.inD hD kp).add hz (W4.fresh hD)
        exact k D H5 zs (W4.free hD) (W4.fresh hD) W5.kp W5.box hz (by have : (V.str ("0" : Str) :: ys).length = ys.length + 1 := rfl; omega) fun v hv => by
          obtain ⟨a, h1, h2⟩ := az v hv
          exact ⟨a, h1.at fun y hy => W5.get (.tail _ (.tail _ hy)), h2⟩
end

namespace K11
open Or Eo
section
variable {K : PySem.W.Frag} {mg : Str → Option Value} {CE e g : Addr} {pl pl' : List Int} {H : Hp} {Q : VK}
theorem eqE2 (Re : EdgT K mg CE) (he : EdgeAt CE H e pl) (hg : EdgeAt CE H g pl') (k : Q (.bl (decide (pl = pl'))) H) : rOwnI K CE (sp_eeq2 CE K) E0 (.ref e) (.ref g) H Q := by
  obtain ⟨dx, t, fs, h1, h2, h3⟩ := he.at
  obtain ⟨dy, u, gs, g1, g2, g3⟩ := hg.at
  exact ⟨e, dx, fs, .ref CE, rfl, h1, Re.ty g1, Re.nf, e, _, _, rfl, he, .inl ⟨g, _, rfl, hg, k⟩⟩
theorem neE2 (Re : EdgT K mg CE) (he : EdgeAt CE H e pl) (hg : EdgeAt CE H g pl') (k : Q (.bl (!decide (pl = pl'))) H) : rOwnNe K CE (sp_eeq2 CE K) (.ref e) (.ref g) H Q := by
  obtain ⟨dx, t, fs, h1, h2, h3⟩ := he.at
  obtain ⟨dy, u, gs, g1, g2, g3⟩ := hg.at
  exact ⟨e, dx, fs, .ref CE, rfl, h1, Re.ty g1, Re.nf, e, _, _, rfl, he, .inl ⟨g, _, rfl, hg, _, rfl, k⟩⟩
theorem cmE (Re : EdgT K mg CE) {r : Int → Bool} (he : EdgeAt CE H e pl) (hg : EdgeAt CE H g pl') (o : PlO pl) (o' : PlO pl') (k : ∀ H', Same H H' → Q (.bl (r (cmpPl pl pl'))) H') : rOwnI K CE (sp_ecmp CE r) E0 (.ref e) (.ref g) H Q := by
  obtain ⟨dx, t, fs, h1, h2, h3⟩ := he.at
  obtain ⟨dy, u, gs, g1, g2, g3⟩ := hg.at
  exact ⟨e, dx, fs, .ref CE, rfl, h1, Re.ty g1, Re.nf, e, g, _, _, rfl, he, hg, o, o', k⟩
/-- what is no edge -/
def Oth (K : PySem.W.Frag) (C : Addr) (H : Hp) (y : V) : Prop := ∃ t, TyX K H y t ∧ PySem.W.notFirst K C t = true ∧ PySem.W.kitOne K t (.ref C) = some false
theorem Oth.same {C : Addr} {H H' : Hp} {y : V} (h : Oth K C H y) (s : Same H H') : Oth K C H' y := let ⟨t, ty, r⟩ := h; ⟨t, tyX_at ty fun a o _ => s a o, r⟩
theorem eqO {y : V} (he : EdgeAt CE H e pl) (h : Oth K CE H y) (k : Q (.bl false) H) : rOwnI K CE (sp_eeq2 CE K) E0 (.ref e) y H Q := by
  obtain ⟨dx, t, fs, h1, h2, h3⟩ := he.at
  obtain ⟨ty, a, b, c⟩ := h
  exact ⟨e, dx, fs, ty, rfl, h1, a, b, e, _, _, rfl, he, .inr ⟨ty, a, c, k⟩⟩
theorem neO {y : V} (he : EdgeAt CE H e pl) (h : Oth K CE H y) (k : Q (.bl true) H) : rOwnNe K CE (sp_eeq2 CE K) (.ref e) y H Q := by
  obtain ⟨dx, t, fs, h1, h2, h3⟩ := he.at
  obtain ⟨ty, a, b, c⟩ := h
  exact ⟨e, dx, fs, ty, rfl, h1, a, b, e, _, _, rfl, he, .inr ⟨ty, a, c, _, rfl, k⟩⟩
end
theorem Lok.q {a : Lk} (h : Lok a) : Lq a := by
  cases a with
  | num g => exact h.1
  | zero => exact trivial
  | endless => exact trivial
end K11
section
variable {P : Program} {w : World} {K : PySem.W.Frag} {mg : Str → Option Value} {base : Heap}
theorem ok_law {f C CE IR : Addr} {fd : FuncData} (F : Fun K "law" "law" S_law f fd) (T : Txt K mg) (R : RatT K mg C) (Re : EdgT K mg CE) (C_box : FnC P w K mg base CX0 1 "_law_box" ["_law_script", "_law_k"] (sp_box2 K)) (C_lplaces : FnC P w K mg base CX0 6 "_law_places" ["_law_box_here"] sp_lplaces) (C_ledge : FnC P w K mg base CX0 8 "_law_edge" ["_law_place"] (sp_ledge CE K)) (C_lgap : FnC P w K mg base CX0 4 "_law_gap" ["_law_one", "_law_other"] (sp_lgap K))
    (C_ratio : MkC P w K mg base CX0 4 C "Ratio" ["self", "first", "second"] (Kb.calm (sp_init C IR K))) (M_eeq2 : MtC P w K mg base CX0 1 CE "__eq__" ["self", "other"] (sp_eeq2 CE K)) (M_elt : MtC P w K mg base CX0 7 CE "__lt__" ["self", "other"] (sp_ecmp CE fun i => decide (i < 0))) (M_ele : MtC P w K mg base CX0 7 CE "__le__" ["self", "other"] (sp_ecmp CE fun i => decide (i ≤ 0)))
    (M_egt : MtC P w K mg base CX0 7 CE "__gt__" ["self", "other"] (sp_ecmp CE fun i => decide (i > 0))) (M_ege : MtC P w K mg base CX0 7 CE "__ge__" ["self", "other"] (sp_ecmp CE fun i => decide (i ≥ 0)))
    (kt : PySem.W.kitOne K (.type "tuple") (.ref CE) = some false) (ks : PySem.W.kitOne K (.type "str") (.ref CE) = some false) (kn : PySem.W.kitOne K (.type "NoneType") (.ref CE) = some false) (ki : PySem.W.kitOne K (.type "int") (.ref CE) = some false) (kr : PySem.W.kitOne K (.ref C) (.ref CE) = some false)
    (nt : PySem.W.notFirst K CE (.type "tuple") = true) (ns' : PySem.W.notFirst K CE (.type "str") = true) (nn : PySem.W.notFirst K CE (.type "NoneType") = true) (ni : PySem.W.notFirst K CE (.type "int") = true) (nr : PySem.W.notFirst K CE (.ref C) = true) : FnOkG P w K mg base CX0 11 f fd ["_law_script"] (K10.sp_law K) := by
  refine okG F SC_law (fun vs H Q E h => ?_) (fun cdv A outer s H vs Q E hgd hr h => ?_)
  · obtain ⟨a, ns, rfl, _⟩ := h
    rfl
  · obtain ⟨a, ns, rfl, hS, hlen, q⟩ := h
    refine ⟨_, PSs.nox ((pss_cons (ps_for PassesOwn.never rfl (pi_range1 (by rfl) T.b_range (pa_cons (pe_callB (call_max2 rfl) (by rfl) T.b_max (by decide +kernel) (pa_cons pe_int (pa_cons (pe_callB (call_min2 rfl) (by rfl) T.b_min (by decide +kernel) (pa_cons (pe_callB call_len_seq (by rfl) T.b_len (by decide +kernel) (pa_cons (pv 0) pa_nil)) (pa_cons pe_int pa_nil))) pa_nil))) pa_nil)) (pg_name (i := 1) SC_law.nd rfl (.inl rfl)) (pss_cons (ps_set (i := 2) SC_law.nd rfl (.inl rfl) (pe_callC C_lplaces (hr.mono (by decide)) rfl (pa_cons (pe_callC C_box (hr.mono (by decide)) rfl (pa_cons (pv 0) (pa_cons (pv 1) pa_nil))) pa_nil)))
      (pss_one (ps_for PassesOwn.never rfl (pi_list (pv 2)) (pg_name (i := 3) SC_law.nd rfl (.inl rfl)) (pss_mid (ps_for PassesOwn.never rfl (pi_list (pv 2)) (pg_name (i := 4) SC_law.nd rfl (.inl rfl)) (pss_cons (ps_par3 (i := 5) (j := 6) (l := 7) (by rfl) SC_law.nd rfl rfl rfl (by decide) (by decide) (by decide) rfl rfl rfl (pa_cons (pe_callC C_ledge (hr.mono (by decide)) rfl (pa_cons (pv 3) pa_nil)) (pa_cons (pe_callC C_ledge (hr.mono (by decide)) rfl (pa_cons (pv 4) pa_nil)) (pa_cons (pe_callC C_lgap (hr.mono (by decide)) rfl (pa_cons (pv 3) (pa_cons (pv 4) pa_nil))) pa_nil))) (by rfl))
      (pss_nrm (pss_mid (ps_if (pt_cmpR op_ne (pe_callB (call_reprW hgd hr) (by rfl) T.b_repr (by decide +kernel) (pa_cons (pe_lstN (pa_cons (pe_cmpR (op_ownI (op := .Eq) (fun _ _ => rfl) M_eeq2 (hr.mono (by decide))) (pv 5) (pv 6) (nomark _)) (pa_cons (pe_cmpR (op_neI M_eeq2 Re.ne Re.so (hr.mono (by decide))) (pv 5) (pv 6) (nomark _)) pa_nil))) pa_nil)) (pe_callB (call_reprW hgd hr) (by rfl) T.b_repr (by decide +kernel) (pa_cons (pe_lstN (pa_cons (pe_cmpR op_eq (pv 7) pe_int (nomark _)) (pa_cons (pe_cmpR op_ne (pv 7) pe_int (nomark _)) pa_nil))) pa_nil)) (nomark _)) (pss_one (ps_ret pe_bl)) pss_nil)
      (pss_one (ps_if (pt_cmpR op_ne (pe_callB (call_reprW hgd hr) (by rfl) T.b_repr (by decide +kernel) (pa_cons (pe_lstN (pa_cons (pe_cmpR (op_ownI (op := .Lt) (fun _ _ => rfl) M_elt (hr.mono (by decide))) (pv 5) (pv 6) (nomark _)) (pa_cons (pe_cmpR (op_ownI (op := .LtE) (fun _ _ => rfl) M_ele (hr.mono (by decide))) (pv 5) (pv 6) (nomark _)) (pa_cons (pe_cmpR (op_ownI (op := .Gt) (fun _ _ => rfl) M_egt (hr.mono (by decide))) (pv 5) (pv 6) (nomark _)) (pa_cons (pe_cmpR (op_ownI (op := .GtE) (fun _ _ => rfl) M_ege (hr.mono (by decide))) (pv 5) (pv 6) (nomark _)) pa_nil))))) pa_nil)) (pe_callB (call_reprW hgd hr) (by rfl) T.b_repr (by decide +kernel) (pa_cons (pe_lstN (pa_cons (pe_cmpR op_lt (pv 7) pe_int (nomark _)) (pa_cons (pe_cmpR op_le (pv 7) pe_int (nomark _)) (pa_cons (pe_cmpR op_gt (pv 7) pe_int (nomark _)) (pa_cons (pe_cmpR op_ge (pv 7) pe_int (nomark _)) pa_nil))))) pa_nil)) (nomark _)) (pss_one (ps_ret pe_bl)) pss_nil))))))
      (pss_one (ps_for PassesOwn.never rfl (pi_tup (pe_tupN (pa_cons pe_non (pa_cons pe_int (pa_cons pe_str (pa_cons pe_str (pa_cons (pv 3) (pa_cons (pe_makeC C_ratio (hr.mono (by decide)) rfl (pa_cons pe_int (pa_cons pe_int pa_nil))) (pa_cons (pe_tupN (pa_cons pe_int (pa_cons pe_int pa_nil))) pa_nil))))))))) (pg_name (i := 8) SC_law.nd rfl (.inl rfl)) (pss_one (ps_if (PW.pt (pw_or (pt_cmpR (op_ownI (op := .Eq) (fun _ _ => rfl) M_eeq2 (hr.mono (by decide))) (pe_callC C_ledge (hr.mono (by decide)) rfl (pa_cons (pv 3) pa_nil)) (pv 8) (nomark _)) (pw_or1 (pt_not (pt_cmpR (op_neI M_eeq2 Re.ne Re.so (hr.mono (by decide))) (pe_callC C_ledge (hr.mono (by decide)) rfl (pa_cons (pv 3) pa_nil)) (pv 8) (nomark _)))))) (pss_one (ps_ret pe_bl)) pss_nil)))))))))
      (pss_one (ps_ret pe_bl)))), ?_⟩
    walk_at "kb"
    refine for_range (lo := 0) (fun i σ H' => Same H H' ∧ ∃ y1 y2 y3 y4 y5 y6 y7 y8 : Option V, σ = [some (.ref a), y1, y2, y3, y4, y5, y6, y7, y8])
      ⟨Same.refl H, none, none, none, none, none, none, none, none, rfl⟩ (fun i σ H1 hi hP => ?_) (fun σ H1 hP => ?_)
    · obtain ⟨sm, y1, y2, y3, y4, y5, y6, y7, y8, rfl⟩ := hP
      walk_at "kb"
      refine ⟨a, ns, _, rfl, sm.seq hS, hlen, by omega, fun B H2 hB sm2 hb2 => ?_⟩
      have W2 := Wo.start hb2
      walk_at "kw"
      refine fun p H3 xs hp np kp3 hb3 h3 lx ax => ?_
      have pl3 : ∀ (j : Nat) v, xs[j]? = some v → ∃ a, LPat H3 v a ∧ Lok a := fun j v hv => ax v (List.mem_of_getElem? hv)
      clear W2 ax
      walk_at "kw"
      refine ⟨⟨_, SqL.of h3⟩, ?_⟩
      have keepH : ∀ H', Same H3 H' → Same H H' := fun H' s5 b o e => s5 _ _ (kp3 b o (ne_of_none (sm _ _ e) hB) (sm2 _ _ (sm _ _ e)))
      refine for_list (xs := xs) (fun j σ H' => Same H3 H' ∧ ∃ y3 y4 y5 y6 y7 y8 : Option V, σ = [some (.ref a), some (.int (0 + (i : Int))), some (.ref p), y3, y4, y5, y6, y7, y8]) ⟨Same.refl _, _, _, _, _, _, _, rfl⟩ (fun j σ H' _ m => SqL.of (m.1 _ _ h3)) (fun j v σ H4 hj mm => ?_) (fun σ H4 mm => ?_)
      · obtain ⟨sm4, y3, y4, y5, y6, y7, y8, rfl⟩ := mm
        obtain ⟨ka, la, lo⟩ := pl3 j v hj
        walk_at "kw"
        refine ⟨fun σ' H' => Same H3 H' ∧ ∃ y4 y5 y6 y7 y8 : Option V, σ' = [some (.ref a), some (.int (0 + (i : Int))), some (.ref p), some v, y4, y5, y6, y7, y8], ?_, fun σ1 H5 z => ?_⟩
        · walk_at "kw"
          refine ⟨⟨_, SqL.of (sm4 _ _ h3)⟩, ?_⟩
          refine for_list (xs := xs) (fun j σ H' => Same H3 H' ∧ ∃ y4 y5 y6 y7 y8 : Option V, σ = [some (.ref a), some (.int (0 + (i : Int))), some (.ref p), some v, y4, y5, y6, y7, y8]) ⟨sm4, _, _, _, _, _, rfl⟩ (fun j σ H' _ m => SqL.of (m.1 _ _ h3)) (fun j' v' σ H5 hj' mm => ?_) (fun σ H5 mm => mm)
          obtain ⟨sm5, y4, y5, y6, y7, y8, rfl⟩ := mm
          obtain ⟨kb, lb, lo'⟩ := pl3 j' v' hj'
          walk_at "kw"
          refine ⟨v, ka, rfl, la.same sm5, lo, fun e6 H6 pl hn6 s6 he6 r6 o6 => ?_⟩
          walk_at "kw"
          refine ⟨v', kb, rfl, (lb.same sm5).same s6, lo', fun e7 H7 pl' hn7 s7 he7 r7 o7 => ?_⟩
          have he6 := he6.same s7
          walk_at "kw"
          refine ⟨v, v', ka, kb, rfl, ((la.same sm5).same s6).same s7, ((lb.same sm5).same s6).same s7, lo.q, lo'.q, fun H8 s8 => ?_⟩
          have he6 := he6.same s8
          have he7 := he7.same s8
          obtain ⟨ecmp, eeq⟩ := cmpL r6 r7
          have eeq' : decide (pl = pl') = decide (V.int (gapL ka kb) = V.int 0) := by
            rw [Bool.eq_iff_iff, decide_eq_true_eq, decide_eq_true_eq]
            exact ⟨fun h => congrArg V.int (eeq.mpr h), fun h => eeq.mp (V.int.inj h)⟩
          have W8 : Ho H3 H8 [] := ⟨((sm5.trans s6).trans s7).trans s8, fun _ h => nomatch h⟩
          generalize gapL ka kb = gp at *
          refine ⟨_, _, _, rfl, ?_⟩
          walk_at "kw"
          refine ⟨fun σ' H' => Same H8 H' ∧ σ' = [some (.ref a), some (.int (0 + (i : Int))), some (.ref p), some v, some v', some (.ref e6), some (.ref e7), some (.int gp), y8], ?_, fun σ1 H9 z => ?_⟩
          · have W8 := Ho.start H8
            walk_at "kw"
            refine eqE2 Re he6 he7 ?_
            rw [eeq']
            walk_at "kw"
            refine neE2 Re he6 he7 ?_
            rw [eeq']
            walk_at "kw"
            rename_i t9 H9 f9 W9 t10 H10 f10 W10
            exact ⟨W10.sm, rfl⟩
          obtain ⟨s9, rfl⟩ := z
          have he6 := he6.same s9
          have he7 := he7.same s9
          have W9 := W8.same s9
          walk_at "kw"
          refine cmE Re he6 he7 o6 o7 fun H10 s10 => ?_
          rw [ecmp]
          walk_at "kw"
          refine cmE Re (he6.same s10) (he7.same s10) o6 o7 fun H11 s11 => ?_
          rw [ecmp]
          walk_at "kw"
          refine cmE Re ((he6.same s10).same s11) ((he7.same s10).same s11) o6 o7 fun H12 s12 => ?_
          rw [ecmp]
          walk_at "kw"
          refine cmE Re (((he6.same s10).same s11).same s12) (((he7.same s10).same s11).same s12) o6 o7 fun H13 s13 => ?_
          rw [ecmp]
          have W13 := (((W9.same s10).same s11).same s12).same s13
          walk_at "kw"
          rename_i t14 H14 f14 W14 t15 H15 f15 W15
          exact ⟨W15.sm, _, _, _, _, _, rfl⟩
        · obtain ⟨sm5, y4, y5, y6, y7, y8, rfl⟩ := z
          have la5 := la.same sm5
          have W5 := Ho.start H5
          walk_at "kw"
          refine fun x dx hx hdx hne => mk_ratH' (by decide) (by decide) (Nat.lt_of_lt_of_le (show (1 : Int).natAbs < 2 ^ 1 by decide) (Nat.pow_le_pow_right (by decide) (by decide))) (Nat.lt_of_lt_of_le (show (1 : Int).natAbs < 2 ^ 1 by decide) (Nat.pow_le_pow_right (by decide) (by decide))) hx hdx hne fun H6 s6 c6 => ?_
          obtain ⟨dr, c6⟩ := c6
          have W6 := W5.call s6 c6
          walk_at "kw"
          rename_i tt H7 f7 W7 th H8 f8 W8
          have la8 := la5.same W8.sm
          have ov : Oth K CE H8 v := by
            cases ka with
            | zero => cases (show v = .str ("0" : Str) from la8); exact ⟨_, .base (.str _), ns', ks⟩
            | endless => cases (show v = .str ("endless" : Str) from la8); exact ⟨_, .base (.str _), ns', ks⟩
            | num g => obtain ⟨t, rfl, ht⟩ := la8; exact ⟨_, .base (.tup ht), nt, kt⟩
          have oth : ∀ (j : Nat) y, [V.non, .int 0, .str ("0" : Str), .str ("endless" : Str), v, .ref x, .ref tt][j]? = some y → Oth K CE H8 y := fun j y hy => by
            match j, hy with
            | 0, hy => cases hy; exact ⟨_, .base .non, nn, kn⟩
            | 1, hy => cases hy; exact ⟨_, .base (.int _), ni, ki⟩
            | 2, hy => cases hy; exact ⟨_, .base (.str _), ns', ks⟩
            | 3, hy => cases hy; exact ⟨_, .base (.str _), ns', ks⟩
            | 4, hy => cases hy; exact ov
            | 5, hy => cases hy; exact ⟨_, R.ty (W8.get (.tail _ (.tail _ (.head _)))), nr, kr⟩
            | 6, hy => cases hy; exact ⟨_, .base (.tup (W8.get (.tail _ (.head _)))), nt, kt⟩
            | j + 7, hy => simp at hy
          have hth := W8.get (.head _)
          refine ⟨⟨_, SqT.of hth⟩, ?_⟩
          refine for_tup (xs := [V.non, .int 0, .str ("0" : Str), .str ("endless" : Str), v, .ref x, .ref tt]) (fun j σ H' => Same H8 H' ∧ ∃ y8' : Option V, σ = [some (.ref a), some (.int (0 + (i : Int))), some (.ref p), some v, y4, y5, y6, y7, y8']) ⟨Same.refl _, _, rfl⟩ (fun j σ H' _ m => SqT.of (m.1 _ _ hth)) (fun j' y σ H9 hj' mm => ?_) (fun σ H9 mm => ?_)
          · obtain ⟨s9, y8', rfl⟩ := mm
            have ho := (oth j' y hj').same s9
            walk_at "kw"
            refine ⟨v, ka, rfl, la8.same s9, lo, fun e10 H10 pl hn10 s10 he10 r10 o10 => ?_⟩
            walk_at "kw"
            refine eqO he10 (ho.same s10) ?_
            refine ⟨_, rfl, ifF rfl ?_⟩
            walk_at "kw"
            refine ⟨v, ka, rfl, (la8.same s9).same s10, lo, fun e11 H11 pl' hn11 s11 he11 r11 o11 => ?_⟩
            walk_at "kw"
            refine neO he11 ((ho.same s10).same s11) ?_
            refine ⟨_, rfl, ifF rfl ?_⟩
            exact ⟨(s9.trans s10).trans s11, _, rfl⟩
          · obtain ⟨s9, y8', rfl⟩ := mm
            exact ⟨(sm5.trans W8.sm).trans s9, _, _, _, _, _, _, rfl⟩
      · obtain ⟨sm4, y3, y4, y5, y6, y7, y8, rfl⟩ := mm
        exact ⟨keepH _ sm4, _, _, _, _, _, _, _, _, rfl⟩
    · walk_at "kw"
      exact q H1
end

theorem all_mk {l : PySem.W.OpenLaw} {w : World} {K : PySem.W.Frag} {h : Heap} {mg : Str → Option Value} {fa : Addr} {cUnmarkedError : Addr} {cInvalidRatio NInvalidRatio : Addr} {nmInvalidRatio qInvalidRatio : Str} {bsInvalidRatio : List Value} {snInvalidRatio : List Str} {subInvalidRatio : List Value} {abInvalidRatio : Bool} {colInvalidRatio : Option Bool} {ddInvalidRatio : Option Addr} {m0InvalidRatio m1InvalidRatio m2InvalidRatio m3InvalidRatio m5InvalidRatio : Option Value} {cInvalidEdge NInvalidEdge : Addr} {nmInvalidEdge qInvalidEdge : Str} {bsInvalidEdge : List Value} {snInvalidEdge : List Str} {subInvalidEdge : List Value} {abInvalidEdge : Bool} {colInvalidEdge : Option Bool} {ddInvalidEdge : Option Addr} {m0InvalidEdge m1InvalidEdge m2InvalidEdge m3InvalidEdge m5InvalidEdge : Option Value} {C : Addr} {CE : Addr} {f1 : Addr} {od1 an1 : Option Addr} {sl1 : Array (Option Value)} {oc1 kV1 dc1 pm1 cd1 ct1 : Value} {f2 : Addr} {od2 an2 : Option Addr} {sl2 : Array (Option Value)} {oc2 kV2 dc2 pm2 cd2 ct2 : Value} {f3 : Addr} {od3 an3 : Option Addr} {sl3 : Array (Option Value)} {oc3 kV3 dc3 pm3 cd3 ct3 : Value} {f4 : Addr} {od4 an4 : Option Addr} {sl4 : Array (Option Value)} {oc4 kV4 dc4 pm4 cd4 ct4 : Value} {f5 : Addr} {od5 an5 : Option Addr} {sl5 : Array (Option Value)} {oc5 kV5 dc5 pm5 cd5 ct5 : Value} {f6 : Addr} {od6 an6 : Option Addr} {sl6 : Array (Option Value)} {oc6 kV6 dc6 pm6 cd6 ct6 : Value} {f7 : Addr} {od7 an7 : Option Addr} {sl7 : Array (Option Value)} {oc7 kV7 dc7 pm7 cd7 ct7 : Value} {f8 : Addr} {od8 an8 : Option Addr} {sl8 : Array (Option Value)} {oc8 kV8 dc8 pm8 cd8 ct8 : Value} {f9 : Addr} {od9 an9 : Option Addr} {sl9 : Array (Option Value)} {oc9 kV9 dc9 pm9 cd9 ct9 : Value} {f10 : Addr} {od10 an10 : Option Addr} {sl10 : Array (Option Value)} {oc10 kV10 dc10 pm10 cd10 ct10 : Value} {f11 : Addr} {od11 an11 : Option Addr} {sl11 : Array (Option Value)} {oc11 kV11 dc11 pm11 cd11 ct11 : Value} {f12 : Addr} {od12 an12 : Option Addr} {sl12 : Array (Option Value)} {oc12 kV12 dc12 pm12 cd12 ct12 : Value} {f13 : Addr} {od13 an13 : Option Addr} {sl13 : Array (Option Value)} {oc13 kV13 dc13 pm13 cd13 ct13 : Value} {f14 : Addr} {od14 an14 : Option Addr} {sl14 : Array (Option Value)} {oc14 kV14 dc14 pm14 cd14 ct14 : Value} {f15 : Addr} {od15 an15 : Option Addr} {sl15 : Array (Option Value)} {oc15 kV15 dc15 pm15 cd15 ct15 : Value} {f16 : Addr} {od16 an16 : Option Addr} {sl16 : Array (Option Value)} {oc16 kV16 dc16 pm16 cd16 ct16 : Value} {p16 : Addr} {rc16 : List Value} {f17 : Addr} {od17 an17 : Option Addr} {sl17 : Array (Option Value)} {oc17 kV17 dc17 pm17 cd17 ct17 : Value} {p17 : Addr} {rc17 : List Value} {f18 : Addr} {od18 an18 : Option Addr} {sl18 : Array (Option Value)} {oc18 kV18 dc18 pm18 cd18 ct18 : Value} {p18 : Addr} {rc18 : List Value} {f19 : Addr} {od19 an19 : Option Addr} {sl19 : Array (Option Value)} {oc19 kV19 dc19 pm19 cd19 ct19 : Value} {f20 : Addr} {od20 an20 : Option Addr} {sl20 : Array (Option Value)} {oc20 kV20 dc20 pm20 cd20 ct20 : Value} {p20 : Addr} {rc20 : List Value} {f21 : Addr} {od21 an21 : Option Addr} {sl21 : Array (Option Value)} {oc21 kV21 dc21 pm21 cd21 ct21 : Value} {f22 : Addr} {od22 an22 : Option Addr} {sl22 : Array (Option Value)} {oc22 kV22 dc22 pm22 cd22 ct22 : Value} {f23 : Addr} {od23 an23 : Option Addr} {sl23 : Array (Option Value)} {oc23 kV23 dc23 pm23 cd23 ct23 : Value} {f24 : Addr} {od24 an24 : Option Addr} {sl24 : Array (Option Value)} {oc24 kV24 dc24 pm24 cd24 ct24 : Value} {f25 : Addr} {od25 an25 : Option Addr} {sl25 : Array (Option Value)} {oc25 kV25 dc25 pm25 cd25 ct25 : Value} {f26 : Addr} {od26 an26 : Option Addr} {sl26 : Array (Option Value)} {oc26 kV26 dc26 pm26 cd26 ct26 : Value} {f27 : Addr} {od27 an27 : Option Addr} {sl27 : Array (Option Value)} {oc27 kV27 dc27 pm27 cd27 ct27 : Value} {f28 : Addr} {od28 an28 : Option Addr} {sl28 : Array (Option Value)} {oc28 kV28 dc28 pm28 cd28 ct28 : Value} {f29 : Addr} {od29 an29 : Option Addr} {sl29 : Array (Option Value)} {oc29 kV29 dc29 pm29 cd29 ct29 : Value} {f30 : Addr} {od30 an30 : Option Addr} {sl30 : Array (Option Value)} {oc30 kV30 dc30 pm30 cd30 ct30 : Value} {f31 : Addr} {od31 an31 : Option Addr} {sl31 : Array (Option Value)} {oc31 kV31 dc31 pm31 cd31 ct31 : Value} {f32 : Addr} {od32 an32 : Option Addr} {sl32 : Array (Option Value)} {oc32 kV32 dc32 pm32 cd32 ct32 : Value} {f33 : Addr} {od33 an33 : Option Addr} {sl33 : Array (Option Value)} {oc33 kV33 dc33 pm33 cd33 ct33 : Value} {f34 : Addr} {od34 an34 : Option Addr} {sl34 : Array (Option Value)} {oc34 kV34 dc34 pm34 cd34 ct34 : Value} {f35 : Addr} {od35 an35 : Option Addr} {sl35 : Array (Option Value)} {oc35 kV35 dc35 pm35 cd35 ct35 : Value} {f36 : Addr} {od36 an36 : Option Addr} {sl36 : Array (Option Value)} {oc36 kV36 dc36 pm36 cd36 ct36 : Value} {f37 : Addr} {od37 an37 : Option Addr} {sl37 : Array (Option Value)} {oc37 kV37 dc37 pm37 cd37 ct37 : Value} {f38 : Addr} {od38 an38 : Option Addr} {sl38 : Array (Option Value)} {oc38 kV38 dc38 pm38 cd38 ct38 : Value} {f39 : Addr} {od39 an39 : Option Addr} {sl39 : Array (Option Value)} {oc39 kV39 dc39 pm39 cd39 ct39 : Value} (X : K.In h) (G : h.Ns mainGlobals mg) (hfa : mg "law" = some (.ref fa))
    (aU : PySem.W.nsIn K mainGlobals "UnmarkedError" = some (some (.ref cUnmarkedError)))
    (rdU : PySem.W.readsIn K cUnmarkedError (.type "type") = true)
    (gaU : PySem.W.specialIn K (.ref cUnmarkedError) "__getattribute__" = some (some (.builtin "type.__getattribute__")))
    (inU : PySem.W.findCls K (.ref cUnmarkedError) (.type "type") "__init__" = some (.val (.builtin "ValueError.__init__")))
    (aInvalidRatio : PySem.W.nsIn K mainGlobals "InvalidRatio" = some (some (.ref cInvalidRatio)))
    (xInvalidRatio : K.lookup cInvalidRatio = some (excClassObj nmInvalidRatio qInvalidRatio cInvalidRatio NInvalidRatio bsInvalidRatio [.ref cUnmarkedError, .type "ValueError", .type "Exception", .type "BaseException", .type "object"] true snInvalidRatio subInvalidRatio abInvalidRatio colInvalidRatio ddInvalidRatio m0InvalidRatio m1InvalidRatio m2InvalidRatio m3InvalidRatio m5InvalidRatio "ValueError.__new__"))
    (sInvalidRatio : PySem.W.findIn K (.ref cInvalidRatio) "__setattr__" = some (some (.builtin "object.__setattr__")))
    (bInvalidRatio : PySem.W.subIn K (.ref cInvalidRatio) (.type "BaseException") = some true)
    (tInvalidRatio : PySem.W.typeIn K (.ref cInvalidRatio) = some (.type "type"))
    (kInvalidRatio : PySem.W.keepIn K (.ref cInvalidRatio) = true)
    (aInvalidEdge : PySem.W.nsIn K mainGlobals "InvalidEdge" = some (some (.ref cInvalidEdge)))
    (xInvalidEdge : K.lookup cInvalidEdge = some (excClassObj nmInvalidEdge qInvalidEdge cInvalidEdge NInvalidEdge bsInvalidEdge [.ref cUnmarkedError, .type "ValueError", .type "Exception", .type "BaseException", .type "object"] true snInvalidEdge subInvalidEdge abInvalidEdge colInvalidEdge ddInvalidEdge m0InvalidEdge m1InvalidEdge m2InvalidEdge m3InvalidEdge m5InvalidEdge "ValueError.__new__"))
    (sInvalidEdge : PySem.W.findIn K (.ref cInvalidEdge) "__setattr__" = some (some (.builtin "object.__setattr__")))
    (bInvalidEdge : PySem.W.subIn K (.ref cInvalidEdge) (.type "BaseException") = some true)
    (tInvalidEdge : PySem.W.typeIn K (.ref cInvalidEdge) = some (.type "type"))
    (kInvalidEdge : PySem.W.keepIn K (.ref cInvalidEdge) = true)
    (hdUnmarkedError : PySem.W.hasDictIn K cUnmarkedError = true)
    (bUnmarkedError : PySem.W.subIn K (.ref cUnmarkedError) (.type "BaseException") = some true)
    (tUnmarkedError : PySem.W.typeIn K (.ref cUnmarkedError) = some (.type "type"))
    (hdInvalidRatio : PySem.W.hasDictIn K cInvalidRatio = true)
    (hdInvalidEdge : PySem.W.hasDictIn K cInvalidEdge = true)
    (aC : PySem.W.nsIn K mainGlobals "Ratio" = some (some (.ref C)))
    (pgC : PySem.W.plainGet K C Str.empty = true)
    (hdC : PySem.W.hasDictIn K C = true)
    (poC : PySem.W.plainOver K C = true)
    (saC : PySem.W.findIn K (.ref C) "__setattr__" = some (some (.builtin "object.__setattr__")))
    (mkC : PySem.W.makesIn K C = true)
    (kcC : PySem.W.keepIn K (.ref C) = true)
    (haC : PySem.W.findIn K (.ref C) "__class__" = some (some (.builtin "object.__class__")))
    (hnC : PySem.W.specialIn K (.builtin "object.__class__") "__get__" = some (some (.builtin "getset_descriptor.__get__")))
    (htC : PySem.W.takesIn K (.builtin "object.__class__") = some true)
    (hmC : PySem.W.mroIn K C (.type "object") = some true)
    (n1 : PySem.W.findIn K (.ref C) "first" = some none)
    (n2 : PySem.W.findIn K (.ref C) "second" = some none)
    (nf : PySem.W.notFirst K C (.ref C) = true)
    (ne : PySem.W.findIn K (.ref C) "__ne__" = some (some (.builtin "object.__ne__")))
    (so : PySem.W.subIn K (.ref C) (.type "object") = some true)
    (aCE : PySem.W.nsIn K mainGlobals "Edge" = some (some (.ref CE)))
    (pgCE : PySem.W.plainGet K CE Str.empty = true)
    (hdCE : PySem.W.hasDictIn K CE = true)
    (poCE : PySem.W.plainOver K CE = true)
    (saCE : PySem.W.findIn K (.ref CE) "__setattr__" = some (some (.builtin "object.__setattr__")))
    (mkCE : PySem.W.makesIn K CE = true)
    (kcCE : PySem.W.keepIn K (.ref CE) = true)
    (haCE : PySem.W.findIn K (.ref CE) "__class__" = some (some (.builtin "object.__class__")))
    (hnCE : PySem.W.specialIn K (.builtin "object.__class__") "__get__" = some (some (.builtin "getset_descriptor.__get__")))
    (htCE : PySem.W.takesIn K (.builtin "object.__class__") = some true)
    (hmCE : PySem.W.mroIn K CE (.type "object") = some true)
    (rdcCE : PySem.W.readsIn K CE (.type "type") = true)
    (gacCE : PySem.W.specialIn K (.ref CE) "__getattribute__" = some (some (.builtin "type.__getattribute__")))
    (en1 : PySem.W.findIn K (.ref CE) "place" = some none)
    (en2 : PySem.W.findIn K (.ref CE) "numbers" = some none)
    (enf : PySem.W.notFirst K CE (.ref CE) = true)
    (ene : PySem.W.findIn K (.ref CE) "__ne__" = some (some (.builtin "object.__ne__")))
    (eso : PySem.W.subIn K (.ref CE) (.type "object") = some true)
    (a1 : PySem.W.nsIn K mainGlobals "_law_take" = some (some (.ref f1)))
    (l1 : K.lookup f1 = some ⟨oc1, od1, .func (PySem.W.fnOf "_law_take" "_law_take" (defArgs S__law_take) (defBody S__law_take) (defScope S__law_take) .none kV1 dc1 pm1 an1 cd1 ct1), sl1⟩)
    (c1 : PySem.W.codeIn K cd1 "_law_take" = true)
    (k1 : PySem.W.keepIn K (.ref f1) = true)
    (a2 : PySem.W.nsIn K mainGlobals "_law_box" = some (some (.ref f2)))
    (l2 : K.lookup f2 = some ⟨oc2, od2, .func (PySem.W.fnOf "_law_box" "_law_box" (defArgs S__law_box) (defBody S__law_box) (defScope S__law_box) .none kV2 dc2 pm2 an2 cd2 ct2), sl2⟩)
    (c2 : PySem.W.codeIn K cd2 "_law_box" = true)
    (k2 : PySem.W.keepIn K (.ref f2) = true)
    (a3 : PySem.W.nsIn K mainGlobals "is_integer" = some (some (.ref f3)))
    (l3 : K.lookup f3 = some ⟨oc3, od3, .func (PySem.W.fnOf "is_integer" "is_integer" (defArgs S_is_integer) (defBody S_is_integer) (defScope S_is_integer) .none kV3 dc3 pm3 an3 cd3 ct3), sl3⟩)
    (c3 : PySem.W.codeIn K cd3 "is_integer" = true)
    (k3 : PySem.W.keepIn K (.ref f3) = true)
    (a4 : PySem.W.nsIn K mainGlobals "is_length" = some (some (.ref f4)))
    (l4 : K.lookup f4 = some ⟨oc4, od4, .func (PySem.W.fnOf "is_length" "is_length" (defArgs S_is_length) (defBody S_is_length) (defScope S_is_length) .none kV4 dc4 pm4 an4 cd4 ct4), sl4⟩)
    (c4 : PySem.W.codeIn K cd4 "is_length" = true)
    (k4 : PySem.W.keepIn K (.ref f4) = true)
    (a5 : PySem.W.nsIn K mainGlobals "common_length" = some (some (.ref f5)))
    (l5 : K.lookup f5 = some ⟨oc5, od5, .func (PySem.W.fnOf "common_length" "common_length" (defArgs S_common_length) (defBody S_common_length) (defScope S_common_length) .none kV5 dc5 pm5 an5 cd5 ct5), sl5⟩)
    (c5 : PySem.W.codeIn K cd5 "common_length" = true)
    (k5 : PySem.W.keepIn K (.ref f5) = true)
    (a6 : PySem.W.findIn K (.ref cInvalidRatio) "__init__" = some (some (.ref f6)))
    (i6 : PySem.W.typeIn K (.ref f6) = some (.type "function"))
    (l6 : K.lookup f6 = some ⟨oc6, od6, .func (PySem.W.fnOf "__init__" "InvalidRatio.__init__" (defArgs S_InvalidRatio__init_) (defBody S_InvalidRatio__init_) (defScope S_InvalidRatio__init_) .none kV6 dc6 pm6 an6 cd6 ct6), sl6⟩)
    (c6 : PySem.W.codeIn K cd6 "InvalidRatio.__init__" = true)
    (k6 : PySem.W.keepIn K (.ref f6) = true)
    (a7 : PySem.W.findIn K (.ref cInvalidEdge) "__init__" = some (some (.ref f7)))
    (i7 : PySem.W.typeIn K (.ref f7) = some (.type "function"))
    (l7 : K.lookup f7 = some ⟨oc7, od7, .func (PySem.W.fnOf "__init__" "InvalidEdge.__init__" (defArgs S_InvalidEdge__init_) (defBody S_InvalidEdge__init_) (defScope S_InvalidEdge__init_) .none kV7 dc7 pm7 an7 cd7 ct7), sl7⟩)
    (c7 : PySem.W.codeIn K cd7 "InvalidEdge.__init__" = true)
    (k7 : PySem.W.keepIn K (.ref f7) = true)
    (a8 : PySem.W.findIn K (.ref C) "__init__" = some (some (.ref f8)))
    (i8 : PySem.W.isFn K (.ref f8) = true)
    (l8 : K.lookup f8 = some ⟨oc8, od8, .func (PySem.W.fnOf "__init__" "Ratio.__init__" (defArgs S_Ratio__init_) (defBody S_Ratio__init_) (defScope S_Ratio__init_) .none kV8 dc8 pm8 an8 cd8 ct8), sl8⟩)
    (c8 : PySem.W.codeIn K cd8 "Ratio.__init__" = true)
    (k8 : PySem.W.keepIn K (.ref f8) = true)
    (a9 : PySem.W.nsIn K mainGlobals "common" = some (some (.ref f9)))
    (l9 : K.lookup f9 = some ⟨oc9, od9, .func (PySem.W.fnOf "common" "common" (defArgs S_common) (defBody S_common) (defScope S_common) .none kV9 dc9 pm9 an9 cd9 ct9), sl9⟩)
    (c9 : PySem.W.codeIn K cd9 "common" = true)
    (k9 : PySem.W.keepIn K (.ref f9) = true)
    (a10 : PySem.W.nsIn K mainGlobals "sign_of" = some (some (.ref f10)))
    (l10 : K.lookup f10 = some ⟨oc10, od10, .func (PySem.W.fnOf "sign_of" "sign_of" (defArgs S_sign_of) (defBody S_sign_of) (defScope S_sign_of) .none kV10 dc10 pm10 an10 cd10 ct10), sl10⟩)
    (c10 : PySem.W.codeIn K cd10 "sign_of" = true)
    (k10 : PySem.W.keepIn K (.ref f10) = true)
    (a11 : PySem.W.nsIn K mainGlobals "whole_root" = some (some (.ref f11)))
    (l11 : K.lookup f11 = some ⟨oc11, od11, .func (PySem.W.fnOf "whole_root" "whole_root" (defArgs S_whole_root) (defBody S_whole_root) (defScope S_whole_root) .none kV11 dc11 pm11 an11 cd11 ct11), sl11⟩)
    (c11 : PySem.W.codeIn K cd11 "whole_root" = true)
    (k11 : PySem.W.keepIn K (.ref f11) = true)
    (a12 : PySem.W.nsIn K mainGlobals "sign_with_root" = some (some (.ref f12)))
    (l12 : K.lookup f12 = some ⟨oc12, od12, .func (PySem.W.fnOf "sign_with_root" "sign_with_root" (defArgs S_sign_with_root) (defBody S_sign_with_root) (defScope S_sign_with_root) .none kV12 dc12 pm12 an12 cd12 ct12), sl12⟩)
    (c12 : PySem.W.codeIn K cd12 "sign_with_root" = true)
    (k12 : PySem.W.keepIn K (.ref f12) = true)
    (a13 : PySem.W.nsIn K mainGlobals "lowered" = some (some (.ref f13)))
    (l13 : K.lookup f13 = some ⟨oc13, od13, .func (PySem.W.fnOf "lowered" "lowered" (defArgs S_lowered) (defBody S_lowered) (defScope S_lowered) .none kV13 dc13 pm13 an13 cd13 ct13), sl13⟩)
    (c13 : PySem.W.codeIn K cd13 "lowered" = true)
    (k13 : PySem.W.keepIn K (.ref f13) = true)
    (a14 : PySem.W.nsIn K mainGlobals "inner_of" = some (some (.ref f14)))
    (l14 : K.lookup f14 = some ⟨oc14, od14, .func (PySem.W.fnOf "inner_of" "inner_of" (defArgs S_inner_of) (defBody S_inner_of) (defScope S_inner_of) .none kV14 dc14 pm14 an14 cd14 ct14), sl14⟩)
    (c14 : PySem.W.codeIn K cd14 "inner_of" = true)
    (k14 : PySem.W.keepIn K (.ref f14) = true)
    (a15 : PySem.W.findIn K (.ref CE) "__init__" = some (some (.ref f15)))
    (i15 : PySem.W.isFn K (.ref f15) = true)
    (l15 : K.lookup f15 = some ⟨oc15, od15, .func (PySem.W.fnOf "__init__" "Edge.__init__" (defArgs S_Edge__init_) (defBody S_Edge__init_) (defScope S_Edge__init_) .none kV15 dc15 pm15 an15 cd15 ct15), sl15⟩)
    (c15 : PySem.W.codeIn K cd15 "Edge.__init__" = true)
    (k15 : PySem.W.keepIn K (.ref f15) = true)
    (a16 : PySem.W.findCls K (.ref CE) (.type "type") "of" = some (.get (.builtin "classmethod.__get__") (.ref p16) .none (.ref CE)))
    (r16 : PySem.W.recIn K p16 "classmethod" = some (.ref f16 :: rc16))
    (i16 : PySem.W.fnIn K f16 = true)
    (l16 : K.lookup f16 = some ⟨oc16, od16, .func (PySem.W.fnOf "of" "Edge.of" (defArgs S_Edge_of) (defBody S_Edge_of) (defScope S_Edge_of) .none kV16 dc16 pm16 an16 cd16 ct16), sl16⟩)
    (c16 : PySem.W.codeIn K cd16 "Edge.of" = true)
    (k16 : PySem.W.keepIn K (.ref f16) = true)
    (a17 : PySem.W.findCls K (.ref CE) (.type "type") "zero" = some (.get (.builtin "classmethod.__get__") (.ref p17) .none (.ref CE)))
    (r17 : PySem.W.recIn K p17 "classmethod" = some (.ref f17 :: rc17))
    (i17 : PySem.W.fnIn K f17 = true)
    (l17 : K.lookup f17 = some ⟨oc17, od17, .func (PySem.W.fnOf "zero" "Edge.zero" (defArgs S_Edge_zero) (defBody S_Edge_zero) (defScope S_Edge_zero) .none kV17 dc17 pm17 an17 cd17 ct17), sl17⟩)
    (c17 : PySem.W.codeIn K cd17 "Edge.zero" = true)
    (k17 : PySem.W.keepIn K (.ref f17) = true)
    (a18 : PySem.W.findCls K (.ref CE) (.type "type") "endless" = some (.get (.builtin "classmethod.__get__") (.ref p18) .none (.ref CE)))
    (r18 : PySem.W.recIn K p18 "classmethod" = some (.ref f18 :: rc18))
    (i18 : PySem.W.fnIn K f18 = true)
    (l18 : K.lookup f18 = some ⟨oc18, od18, .func (PySem.W.fnOf "endless" "Edge.endless" (defArgs S_Edge_endless) (defBody S_Edge_endless) (defScope S_Edge_endless) .none kV18 dc18 pm18 an18 cd18 ct18), sl18⟩)
    (c18 : PySem.W.codeIn K cd18 "Edge.endless" = true)
    (k18 : PySem.W.keepIn K (.ref f18) = true)
    (a19 : PySem.W.findIn K (.ref CE) "__eq__" = some (some (.ref f19)))
    (i19 : PySem.W.isFn K (.ref f19) = true)
    (l19 : K.lookup f19 = some ⟨oc19, od19, .func (PySem.W.fnOf "__eq__" "Edge.__eq__" (defArgs S_Edge__eq_) (defBody S_Edge__eq_) (defScope S_Edge__eq_) .none kV19 dc19 pm19 an19 cd19 ct19), sl19⟩)
    (c19 : PySem.W.codeIn K cd19 "Edge.__eq__" = true)
    (k19 : PySem.W.keepIn K (.ref f19) = true)
    (a20 : PySem.W.findCls K (.ref CE) (.type "type") "root" = some (.get (.builtin "classmethod.__get__") (.ref p20) .none (.ref CE)))
    (r20 : PySem.W.recIn K p20 "classmethod" = some (.ref f20 :: rc20))
    (i20 : PySem.W.fnIn K f20 = true)
    (l20 : K.lookup f20 = some ⟨oc20, od20, .func (PySem.W.fnOf "root" "Edge.root" (defArgs S_Edge_root) (defBody S_Edge_root) (defScope S_Edge_root) .none kV20 dc20 pm20 an20 cd20 ct20), sl20⟩)
    (c20 : PySem.W.codeIn K cd20 "Edge.root" = true)
    (k20 : PySem.W.keepIn K (.ref f20) = true)
    (a21 : PySem.W.nsIn K mainGlobals "sign_with_roots" = some (some (.ref f21)))
    (l21 : K.lookup f21 = some ⟨oc21, od21, .func (PySem.W.fnOf "sign_with_roots" "sign_with_roots" (defArgs S_sign_with_roots) (defBody S_sign_with_roots) (defScope S_sign_with_roots) .none kV21 dc21 pm21 an21 cd21 ct21), sl21⟩)
    (c21 : PySem.W.codeIn K cd21 "sign_with_roots" = true)
    (k21 : PySem.W.keepIn K (.ref f21) = true)
    (a22 : PySem.W.nsIn K mainGlobals "compared" = some (some (.ref f22)))
    (l22 : K.lookup f22 = some ⟨oc22, od22, .func (PySem.W.fnOf "compared" "compared" (defArgs S_compared) (defBody S_compared) (defScope S_compared) .none kV22 dc22 pm22 an22 cd22 ct22), sl22⟩)
    (c22 : PySem.W.codeIn K cd22 "compared" = true)
    (k22 : PySem.W.keepIn K (.ref f22) = true)
    (a23 : PySem.W.findIn K (.ref CE) "__lt__" = some (some (.ref f23)))
    (i23 : PySem.W.isFn K (.ref f23) = true)
    (l23 : K.lookup f23 = some ⟨oc23, od23, .func (PySem.W.fnOf "__lt__" "Edge.__lt__" (defArgs S_Edge__lt_) (defBody S_Edge__lt_) (defScope S_Edge__lt_) .none kV23 dc23 pm23 an23 cd23 ct23), sl23⟩)
    (c23 : PySem.W.codeIn K cd23 "Edge.__lt__" = true)
    (k23 : PySem.W.keepIn K (.ref f23) = true)
    (a24 : PySem.W.findIn K (.ref CE) "__le__" = some (some (.ref f24)))
    (i24 : PySem.W.isFn K (.ref f24) = true)
    (l24 : K.lookup f24 = some ⟨oc24, od24, .func (PySem.W.fnOf "__le__" "Edge.__le__" (defArgs S_Edge__le_) (defBody S_Edge__le_) (defScope S_Edge__le_) .none kV24 dc24 pm24 an24 cd24 ct24), sl24⟩)
    (c24 : PySem.W.codeIn K cd24 "Edge.__le__" = true)
    (k24 : PySem.W.keepIn K (.ref f24) = true)
    (a25 : PySem.W.findIn K (.ref CE) "__gt__" = some (some (.ref f25)))
    (i25 : PySem.W.isFn K (.ref f25) = true)
    (l25 : K.lookup f25 = some ⟨oc25, od25, .func (PySem.W.fnOf "__gt__" "Edge.__gt__" (defArgs S_Edge__gt_) (defBody S_Edge__gt_) (defScope S_Edge__gt_) .none kV25 dc25 pm25 an25 cd25 ct25), sl25⟩)
    (c25 : PySem.W.codeIn K cd25 "Edge.__gt__" = true)
    (k25 : PySem.W.keepIn K (.ref f25) = true)
    (a26 : PySem.W.findIn K (.ref CE) "__ge__" = some (some (.ref f26)))
    (i26 : PySem.W.isFn K (.ref f26) = true)
    (l26 : K.lookup f26 = some ⟨oc26, od26, .func (PySem.W.fnOf "__ge__" "Edge.__ge__" (defArgs S_Edge__ge_) (defBody S_Edge__ge_) (defScope S_Edge__ge_) .none kV26 dc26 pm26 an26 cd26 ct26), sl26⟩)
    (c26 : PySem.W.codeIn K cd26 "Edge.__ge__" = true)
    (k26 : PySem.W.keepIn K (.ref f26) = true)
    (a27 : PySem.W.nsIn K mainGlobals "_law_sign" = some (some (.ref f27)))
    (l27 : K.lookup f27 = some ⟨oc27, od27, .func (PySem.W.fnOf "_law_sign" "_law_sign" (defArgs S__law_sign) (defBody S__law_sign) (defScope S__law_sign) .none kV27 dc27 pm27 an27 cd27 ct27), sl27⟩)
    (c27 : PySem.W.codeIn K cd27 "_law_sign" = true)
    (k27 : PySem.W.keepIn K (.ref f27) = true)
    (a28 : PySem.W.nsIn K mainGlobals "_law_gcd" = some (some (.ref f28)))
    (l28 : K.lookup f28 = some ⟨oc28, od28, .func (PySem.W.fnOf "_law_gcd" "_law_gcd" (defArgs S__law_gcd) (defBody S__law_gcd) (defScope S__law_gcd) .none kV28 dc28 pm28 an28 cd28 ct28), sl28⟩)
    (c28 : PySem.W.codeIn K cd28 "_law_gcd" = true)
    (k28 : PySem.W.keepIn K (.ref f28) = true)
    (a29 : PySem.W.nsIn K mainGlobals "_law_sign_root" = some (some (.ref f29)))
    (l29 : K.lookup f29 = some ⟨oc29, od29, .func (PySem.W.fnOf "_law_sign_root" "_law_sign_root" (defArgs S__law_sign_root) (defBody S__law_sign_root) (defScope S__law_sign_root) .none kV29 dc29 pm29 an29 cd29 ct29), sl29⟩)
    (c29 : PySem.W.codeIn K cd29 "_law_sign_root" = true)
    (k29 : PySem.W.keepIn K (.ref f29) = true)
    (a30 : PySem.W.nsIn K mainGlobals "_law_whole_root" = some (some (.ref f30)))
    (l30 : K.lookup f30 = some ⟨oc30, od30, .func (PySem.W.fnOf "_law_whole_root" "_law_whole_root" (defArgs S__law_whole_root) (defBody S__law_whole_root) (defScope S__law_whole_root) .none kV30 dc30 pm30 an30 cd30 ct30), sl30⟩)
    (c30 : PySem.W.codeIn K cd30 "_law_whole_root" = true)
    (k30 : PySem.W.keepIn K (.ref f30) = true)
    (a31 : PySem.W.nsIn K mainGlobals "_law_is_square" = some (some (.ref f31)))
    (l31 : K.lookup f31 = some ⟨oc31, od31, .func (PySem.W.fnOf "_law_is_square" "_law_is_square" (defArgs S__law_is_square) (defBody S__law_is_square) (defScope S__law_is_square) .none kV31 dc31 pm31 an31 cd31 ct31), sl31⟩)
    (c31 : PySem.W.codeIn K cd31 "_law_is_square" = true)
    (k31 : PySem.W.keepIn K (.ref f31) = true)
    (a32 : PySem.W.nsIn K mainGlobals "_law_root" = some (some (.ref f32)))
    (l32 : K.lookup f32 = some ⟨oc32, od32, .func (PySem.W.fnOf "_law_root" "_law_root" (defArgs S__law_root) (defBody S__law_root) (defScope S__law_root) .none kV32 dc32 pm32 an32 cd32 ct32), sl32⟩)
    (c32 : PySem.W.codeIn K cd32 "_law_root" = true)
    (k32 : PySem.W.keepIn K (.ref f32) = true)
    (a33 : PySem.W.nsIn K mainGlobals "_law_fraction" = some (some (.ref f33)))
    (l33 : K.lookup f33 = some ⟨oc33, od33, .func (PySem.W.fnOf "_law_fraction" "_law_fraction" (defArgs S__law_fraction) (defBody S__law_fraction) (defScope S__law_fraction) .none kV33 dc33 pm33 an33 cd33 ct33), sl33⟩)
    (c33 : PySem.W.codeIn K cd33 "_law_fraction" = true)
    (k33 : PySem.W.keepIn K (.ref f33) = true)
    (a34 : PySem.W.nsIn K mainGlobals "_law_sign_roots" = some (some (.ref f34)))
    (l34 : K.lookup f34 = some ⟨oc34, od34, .func (PySem.W.fnOf "_law_sign_roots" "_law_sign_roots" (defArgs S__law_sign_roots) (defBody S__law_sign_roots) (defScope S__law_sign_roots) .none kV34 dc34 pm34 an34 cd34 ct34), sl34⟩)
    (c34 : PySem.W.codeIn K cd34 "_law_sign_roots" = true)
    (k34 : PySem.W.keepIn K (.ref f34) = true)
    (a35 : PySem.W.nsIn K mainGlobals "_law_gap" = some (some (.ref f35)))
    (l35 : K.lookup f35 = some ⟨oc35, od35, .func (PySem.W.fnOf "_law_gap" "_law_gap" (defArgs S__law_gap) (defBody S__law_gap) (defScope S__law_gap) .none kV35 dc35 pm35 an35 cd35 ct35), sl35⟩)
    (c35 : PySem.W.codeIn K cd35 "_law_gap" = true)
    (k35 : PySem.W.keepIn K (.ref f35) = true)
    (a36 : PySem.W.nsIn K mainGlobals "_law_edge" = some (some (.ref f36)))
    (l36 : K.lookup f36 = some ⟨oc36, od36, .func (PySem.W.fnOf "_law_edge" "_law_edge" (defArgs S__law_edge) (defBody S__law_edge) (defScope S__law_edge) .none kV36 dc36 pm36 an36 cd36 ct36), sl36⟩)
    (c36 : PySem.W.codeIn K cd36 "_law_edge" = true)
    (k36 : PySem.W.keepIn K (.ref f36) = true)
    (a37 : PySem.W.nsIn K mainGlobals "_law_near" = some (some (.ref f37)))
    (l37 : K.lookup f37 = some ⟨oc37, od37, .func (PySem.W.fnOf "_law_near" "_law_near" (defArgs S__law_near) (defBody S__law_near) (defScope S__law_near) .none kV37 dc37 pm37 an37 cd37 ct37), sl37⟩)
    (c37 : PySem.W.codeIn K cd37 "_law_near" = true)
    (k37 : PySem.W.keepIn K (.ref f37) = true)
    (a38 : PySem.W.nsIn K mainGlobals "_law_places" = some (some (.ref f38)))
    (l38 : K.lookup f38 = some ⟨oc38, od38, .func (PySem.W.fnOf "_law_places" "_law_places" (defArgs S__law_places) (defBody S__law_places) (defScope S__law_places) .none kV38 dc38 pm38 an38 cd38 ct38), sl38⟩)
    (c38 : PySem.W.codeIn K cd38 "_law_places" = true)
    (k38 : PySem.W.keepIn K (.ref f38) = true)
    (a39 : PySem.W.nsIn K mainGlobals "law" = some (some (.ref f39)))
    (l39 : K.lookup f39 = some ⟨oc39, od39, .func (PySem.W.fnOf "law" "law" (defArgs S_law) (defBody S_law) (defScope S_law) .none kV39 dc39 pm39 an39 cd39 ct39), sl39⟩)
    (c39 : PySem.W.codeIn K cd39 "law" = true)
    (k39 : PySem.W.keepIn K (.ref f39) = true)
    (z_ValueError : PySem.W.nsIn K mainGlobals "ValueError" = some none)
    (z_abs : PySem.W.nsIn K mainGlobals "abs" = some none)
    (z_all : PySem.W.nsIn K mainGlobals "all" = some none)
    (z_any : PySem.W.nsIn K mainGlobals "any" = some none)
    (z_bool : PySem.W.nsIn K mainGlobals "bool" = some none)
    (z_enumerate : PySem.W.nsIn K mainGlobals "enumerate" = some none)
    (z_int : PySem.W.nsIn K mainGlobals "int" = some none)
    (z_isinstance : PySem.W.nsIn K mainGlobals "isinstance" = some none)
    (z_len : PySem.W.nsIn K mainGlobals "len" = some none)
    (z_list : PySem.W.nsIn K mainGlobals "list" = some none)
    (z_max : PySem.W.nsIn K mainGlobals "max" = some none)
    (z_min : PySem.W.nsIn K mainGlobals "min" = some none)
    (z_range : PySem.W.nsIn K mainGlobals "range" = some none)
    (z_repr : PySem.W.nsIn K mainGlobals "repr" = some none)
    (z_sorted : PySem.W.nsIn K mainGlobals "sorted" = some none)
    (z_str : PySem.W.nsIn K mainGlobals "str" = some none)
    (z_sum : PySem.W.nsIn K mainGlobals "sum" = some none)
    (z_tuple : PySem.W.nsIn K mainGlobals "tuple" = some none)
    (z_zip : PySem.W.nsIn K mainGlobals "zip" = some none)
    (ctE : PySem.W.typeIn K (.ref CE) = some (.type "type"))
    (st_tuple : PySem.W.subIn K (.type "tuple") (.ref CE) = some false)
    (st_str : PySem.W.subIn K (.type "str") (.ref CE) = some false)
    (st_NoneType : PySem.W.subIn K (.type "NoneType") (.ref CE) = some false)
    (st_int : PySem.W.subIn K (.type "int") (.ref CE) = some false)
    (nf_tuple : PySem.W.notFirst K CE (.type "tuple") = true)
    (nf_str : PySem.W.notFirst K CE (.type "str") = true)
    (nf_NoneType : PySem.W.notFirst K CE (.type "NoneType") = true)
    (nf_int : PySem.W.notFirst K CE (.type "int") = true)
    (scc : PySem.W.subIn K (.ref C) (.ref C) = some true)
    (sre : PySem.W.subIn K (.ref C) (.ref CE) = some false)
    (nfr : PySem.W.notFirst K CE (.ref C) = true) :
    ∃ fd : FuncData, (∀ (s : Shared) (v : Value), BindsTo s fd ⟨[v], []⟩ [("_law_script", v)]) ∧ ∀ base : Heap, K.In base → base.Ns mainGlobals mg → FnOkG l.prog w K mg base CX0 11 fa fd ["_law_script"] (sp_law K) := by
  have e := hfa.symm.trans (PySem.W.mg_of X G a39)
  cases e
  have T : Txt K mg := ⟨PySem.W.mg_none_of X G z_ValueError, PySem.W.mg_none_of X G z_abs, PySem.W.mg_none_of X G z_all, PySem.W.mg_none_of X G z_any, PySem.W.mg_none_of X G z_bool, PySem.W.mg_none_of X G z_enumerate, PySem.W.mg_none_of X G z_int, PySem.W.mg_none_of X G z_isinstance, PySem.W.mg_none_of X G z_len, PySem.W.mg_none_of X G z_list, PySem.W.mg_none_of X G z_max, PySem.W.mg_none_of X G z_min, PySem.W.mg_none_of X G z_range, PySem.W.mg_none_of X G z_repr, PySem.W.mg_none_of X G z_sorted, PySem.W.mg_none_of X G z_str, PySem.W.mg_none_of X G z_sum, PySem.W.mg_none_of X G z_tuple, PySem.W.mg_none_of X G z_zip⟩
  have mgU := PySem.W.mg_of X G aU
  have UE : UeC K cUnmarkedError := ⟨⟨rdU, gaU⟩, inU⟩
  have N_UnmarkedError : NmC mg "UnmarkedError" cUnmarkedError := ⟨mgU⟩
  have N_InvalidRatio : NmC mg "InvalidRatio" cInvalidRatio := ⟨PySem.W.mg_of X G aInvalidRatio⟩
  have N_InvalidEdge : NmC mg "InvalidEdge" cInvalidEdge := ⟨PySem.W.mg_of X G aInvalidEdge⟩
  have O_InvalidRatio : OexC K cInvalidRatio := ⟨⟨_, _, _, _, _, _, _, _, _, _, _, _, _, _, _, xInvalidRatio, by rfl⟩, sInvalidRatio, bInvalidRatio, tInvalidRatio, kInvalidRatio⟩
  have O_InvalidEdge : OexC K cInvalidEdge := ⟨⟨_, _, _, _, _, _, _, _, _, _, _, _, _, _, _, xInvalidEdge, by rfl⟩, sInvalidEdge, bInvalidEdge, tInvalidEdge, kInvalidEdge⟩
  have INSC : C8.InsC K C := ⟨⟨pgC, hdC, poC, saC⟩, haC, hnC, htC, hmC, kit_self _ _ (beq_self_eq_true _)⟩
  have R : RatT K mg C := ⟨INSC, n1, n2, PySem.W.mg_of X G aC, nf, ne, so⟩
  have INSCE : C8.InsC K CE := ⟨⟨pgCE, hdCE, poCE, saCE⟩, haCE, hnCE, htCE, hmCE, kit_self _ _ (beq_self_eq_true _)⟩
  have Re : EdgT K mg CE := ⟨INSCE, en1, en2, PySem.W.mg_of X G aCE, enf, ene, eso⟩
  have F1 := fun_mk (st := S__law_take) l1 c1 k1
  have b1 := F1.binds (ps := ["_law_box_here", "_law_many"]) fun _ _ _ _ _ _ us hl => match us, hl with | [_, _], _ => rfl
  have F2 := fun_mk (st := S__law_box) l2 c2 k2
  have b2 := F2.binds (ps := ["_law_script", "_law_k"]) fun _ _ _ _ _ _ us hl => match us, hl with | [_, _], _ => rfl
  have F3 := fun_mk (st := S_is_integer) l3 c3 k3
  have b3 := F3.binds (ps := ["value"]) fun _ _ _ _ _ _ us hl => match us, hl with | [_], _ => rfl
  have F4 := fun_mk (st := S_is_length) l4 c4 k4
  have b4 := F4.binds (ps := ["value"]) fun _ _ _ _ _ _ us hl => match us, hl with | [_], _ => rfl
  have F5 := fun_mk (st := S_common_length) l5 c5 k5
  have b5 := F5.binds (ps := ["first", "second"]) fun _ _ _ _ _ _ us hl => match us, hl with | [_, _], _ => rfl
  have F6 := fun_mk (st := S_InvalidRatio__init_) l6 c6 k6
  have b6 := F6.binds (ps := ["self"]) fun _ _ _ _ _ _ us hl => match us, hl with | [_], _ => rfl
  have F7 := fun_mk (st := S_InvalidEdge__init_) l7 c7 k7
  have b7 := F7.binds (ps := ["self"]) fun _ _ _ _ _ _ us hl => match us, hl with | [_], _ => rfl
  have F8 := fun_mk (st := S_Ratio__init_) l8 c8 k8
  have b8 := F8.binds (ps := ["self", "first", "second"]) fun _ _ _ _ _ _ us hl => match us, hl with | [_, _, _], _ => rfl
  have F9 := fun_mk (st := S_common) l9 c9 k9
  have b9 := F9.binds (ps := ["one", "other"]) fun _ _ _ _ _ _ us hl => match us, hl with | [_, _], _ => rfl
  have F10 := fun_mk (st := S_sign_of) l10 c10 k10
  have b10 := F10.binds (ps := ["number"]) fun _ _ _ _ _ _ us hl => match us, hl with | [_], _ => rfl
  have F11 := fun_mk (st := S_whole_root) l11 c11 k11
  have b11 := F11.binds (ps := ["number"]) fun _ _ _ _ _ _ us hl => match us, hl with | [_], _ => rfl
  have F12 := fun_mk (st := S_sign_with_root) l12 c12 k12
  have b12 := F12.binds (ps := ["one", "times", "inner"]) fun _ _ _ _ _ _ us hl => match us, hl with | [_, _, _], _ => rfl
  have F13 := fun_mk (st := S_lowered) l13 c13 k13
  have b13 := F13.binds (ps := ["a", "b", "c", "side"]) fun _ _ _ _ _ _ us hl => match us, hl with | [_, _, _, _], _ => rfl
  have F14 := fun_mk (st := S_inner_of) l14 c14 k14
  have b14 := F14.binds (ps := ["root"]) fun _ _ _ _ _ _ us hl => match us, hl with | [_], _ => rfl
  have F15 := fun_mk (st := S_Edge__init_) l15 c15 k15
  have b15 := F15.binds (ps := ["self", "place"]) fun _ _ _ _ _ _ us hl => match us, hl with | [_, _], _ => rfl
  have F16 := fun_mk (st := S_Edge_of) l16 c16 k16
  have b16 := F16.binds (ps := ["cls", "ratio"]) fun _ _ _ _ _ _ us hl => match us, hl with | [_, _], _ => rfl
  have F17 := fun_mk (st := S_Edge_zero) l17 c17 k17
  have b17 := F17.binds (ps := ["cls"]) fun _ _ _ _ _ _ us hl => match us, hl with | [_], _ => rfl
  have F18 := fun_mk (st := S_Edge_endless) l18 c18 k18
  have b18 := F18.binds (ps := ["cls"]) fun _ _ _ _ _ _ us hl => match us, hl with | [_], _ => rfl
  have F19 := fun_mk (st := S_Edge__eq_) l19 c19 k19
  have b19 := F19.binds (ps := ["self", "other"]) fun _ _ _ _ _ _ us hl => match us, hl with | [_, _], _ => rfl
  have F20 := fun_mk (st := S_Edge_root) l20 c20 k20
  have b20 := F20.binds (ps := ["cls", "p", "q", "d", "r"]) fun _ _ _ _ _ _ us hl => match us, hl with | [_, _, _, _, _], _ => rfl
  have F21 := fun_mk (st := S_sign_with_roots) l21 c21 k21
  have b21 := F21.binds (ps := ["one", "times", "inner", "again", "other"]) fun _ _ _ _ _ _ us hl => match us, hl with | [_, _, _, _, _], _ => rfl
  have F22 := fun_mk (st := S_compared) l22 c22 k22
  have b22 := F22.binds (ps := ["one", "other"]) fun _ _ _ _ _ _ us hl => match us, hl with | [_, _], _ => rfl
  have F23 := fun_mk (st := S_Edge__lt_) l23 c23 k23
  have b23 := F23.binds (ps := ["self", "other"]) fun _ _ _ _ _ _ us hl => match us, hl with | [_, _], _ => rfl
  have F24 := fun_mk (st := S_Edge__le_) l24 c24 k24
  have b24 := F24.binds (ps := ["self", "other"]) fun _ _ _ _ _ _ us hl => match us, hl with | [_, _], _ => rfl
  have F25 := fun_mk (st := S_Edge__gt_) l25 c25 k25
  have b25 := F25.binds (ps := ["self", "other"]) fun _ _ _ _ _ _ us hl => match us, hl with | [_, _], _ => rfl
  have F26 := fun_mk (st := S_Edge__ge_) l26 c26 k26
  have b26 := F26.binds (ps := ["self", "other"]) fun _ _ _ _ _ _ us hl => match us, hl with | [_, _], _ => rfl
  have F27 := fun_mk (st := S__law_sign) l27 c27 k27
  have b27 := F27.binds (ps := ["_law_number"]) fun _ _ _ _ _ _ us hl => match us, hl with | [_], _ => rfl
  have F28 := fun_mk (st := S__law_gcd) l28 c28 k28
  have b28 := F28.binds (ps := ["_law_one", "_law_other"]) fun _ _ _ _ _ _ us hl => match us, hl with | [_, _], _ => rfl
  have F29 := fun_mk (st := S__law_sign_root) l29 c29 k29
  have b29 := F29.binds (ps := ["_law_one", "_law_times", "_law_inner"]) fun _ _ _ _ _ _ us hl => match us, hl with | [_, _, _], _ => rfl
  have F30 := fun_mk (st := S__law_whole_root) l30 c30 k30
  have b30 := F30.binds (ps := ["_law_number"]) fun _ _ _ _ _ _ us hl => match us, hl with | [_], _ => rfl
  have F31 := fun_mk (st := S__law_is_square) l31 c31 k31
  have b31 := F31.binds (ps := ["_law_number"]) fun _ _ _ _ _ _ us hl => match us, hl with | [_], _ => rfl
  have F32 := fun_mk (st := S__law_root) l32 c32 k32
  have b32 := F32.binds (ps := ["_law_box_here", "_law_most"]) fun _ _ _ _ _ _ us hl => match us, hl with | [_, _], _ => rfl
  have F33 := fun_mk (st := S__law_fraction) l33 c33 k33
  have b33 := F33.binds (ps := ["_law_given"]) fun _ _ _ _ _ _ us hl => match us, hl with | [_], _ => rfl
  have F34 := fun_mk (st := S__law_sign_roots) l34 c34 k34
  have b34 := F34.binds (ps := ["_law_one", "_law_times", "_law_inner", "_law_again", "_law_other"]) fun _ _ _ _ _ _ us hl => match us, hl with | [_, _, _, _, _], _ => rfl
  have F35 := fun_mk (st := S__law_gap) l35 c35 k35
  have b35 := F35.binds (ps := ["_law_one", "_law_other"]) fun _ _ _ _ _ _ us hl => match us, hl with | [_, _], _ => rfl
  have F36 := fun_mk (st := S__law_edge) l36 c36 k36
  have b36 := F36.binds (ps := ["_law_place"]) fun _ _ _ _ _ _ us hl => match us, hl with | [_], _ => rfl
  have F37 := fun_mk (st := S__law_near) l37 c37 k37
  have b37 := F37.binds (ps := ["_law_given", "_law_count"]) fun _ _ _ _ _ _ us hl => match us, hl with | [_, _], _ => rfl
  have F38 := fun_mk (st := S__law_places) l38 c38 k38
  have b38 := F38.binds (ps := ["_law_box_here"]) fun _ _ _ _ _ _ us hl => match us, hl with | [_], _ => rfl
  have F39 := fun_mk (st := S_law) l39 c39 k39
  refine ⟨PySem.W.fnOf "law" "law" (defArgs S_law) (defBody S_law) (defScope S_law) .none kV39 dc39 pm39 an39 cd39 ct39, fun s v => .of_eq rfl, fun base _ _ => ?_⟩
  have C_take : FnC l.prog w K mg base CX0 1 "_law_take" ["_law_box_here", "_law_many"] sp_take := ⟨_, _, ok_take F1 T , PySem.W.mg_of X G a1, k1, b1⟩
  have C_box : FnC l.prog w K mg base CX0 1 "_law_box" ["_law_script", "_law_k"] (sp_box2 K) := ⟨_, _, ok_box F2 T , PySem.W.mg_of X G a2, k2, b2⟩
  have C_isint : FnC l.prog w K mg base CX0 1 "is_integer" ["value"] (sp_isint K) := ⟨_, _, ok_isint F3 T , PySem.W.mg_of X G a3, k3, b3⟩
  have C_islen : FnC l.prog w K mg base CX0 2 "is_length" ["value"] (sp_islen K) := ⟨_, _, ok_islen F4 T C_isint, PySem.W.mg_of X G a4, k4, b4⟩
  have C_common : FnC l.prog w K mg base CX0 1 "common_length" ["first", "second"] sp_common := ⟨_, _, ok_common F5 T , PySem.W.mg_of X G a5, k5, b5⟩
  have E_InvalidRatio : ErC l.prog w K mg base "InvalidRatio" cInvalidRatio := ⟨_, _, (ok_err_InvalidRatio F6 UE mgU O_InvalidRatio).mono (by decide), O_InvalidRatio, a6, i6, PySem.W.mg_of X G aInvalidRatio, b6⟩
  have E_InvalidEdge : ErC l.prog w K mg base "InvalidEdge" cInvalidEdge := ⟨_, _, (ok_err_InvalidEdge F7 UE mgU O_InvalidEdge).mono (by decide), O_InvalidEdge, a7, i7, PySem.W.mg_of X G aInvalidEdge, b7⟩
  have C_ratioX : MkC l.prog w K mg base (L2.CX l.prog w) 4 C "Ratio" ["self", "first", "second"] (sp_init C cInvalidRatio K) := ⟨_, _, ok_init F8 T R E_InvalidRatio C_islen C_common, ⟨mkC, a8, i8, kcC⟩, PySem.W.mg_of X G aC, b8⟩
  have C_com : FnC l.prog w K mg base CX0 1 "common" ["one", "other"] sp_com := ⟨_, _, ok_com F9 T , PySem.W.mg_of X G a9, k9, b9⟩
  have C_sign : FnC l.prog w K mg base CX0 1 "sign_of" ["number"] sp_sign := ⟨_, _, ok_sign F10 T , PySem.W.mg_of X G a10, k10, b10⟩
  have C_wr : FnC l.prog w K mg base CX0 1 "whole_root" ["number"] sp_wr := ⟨_, _, ok_wr F11 T , PySem.W.mg_of X G a11, k11, b11⟩
  have C_swr : FnC l.prog w K mg base CX0 2 "sign_with_root" ["one", "times", "inner"] sp_swr := ⟨_, _, ok_swr F12 T C_sign, PySem.W.mg_of X G a12, k12, b12⟩
  have C_low : FnC l.prog w K mg base CX0 2 "lowered" ["a", "b", "c", "side"] sp_low := ⟨_, _, ok_low F13 T C_com, PySem.W.mg_of X G a13, k13, b13⟩
  have C_inner : FnC l.prog w K mg base CX0 1 "inner_of" ["root"] (sp_inner K) := ⟨_, _, ok_inner F14 T , PySem.W.mg_of X G a14, k14, b14⟩
  have C_edgeX : MkC l.prog w K mg base (L2.CX l.prog w) 2 CE "Edge" ["self", "place"] (sp_einit CE) := ⟨_, _, ok_einit F15 T Re C_inner, ⟨mkCE, a15, i15, kcCE⟩, PySem.W.mg_of X G aCE, b15⟩
  have M_eofX : CmC l.prog w K mg base (L2.CX l.prog w) 4 CE "Edge" "of" ["cls", "ratio"] (sp_eof C CE) := ⟨_, _, _, ok_eof F16 T R C_edgeX, ⟨rdcCE, gacCE⟩, ⟨a16, ⟨_, r16⟩, i16⟩, PySem.W.mg_of X G aCE, b16⟩
  have M_ezeroX : CmC l.prog w K mg base (L2.CX l.prog w) 4 CE "Edge" "zero" ["cls"] (sp_ecm CE [0, 1]) := ⟨_, _, _, ok_zero F17 T C_edgeX, ⟨rdcCE, gacCE⟩, ⟨a17, ⟨_, r17⟩, i17⟩, PySem.W.mg_of X G aCE, b17⟩
  have M_eendlessX : CmC l.prog w K mg base (L2.CX l.prog w) 4 CE "Edge" "endless" ["cls"] (sp_ecm CE [1, 0]) := ⟨_, _, _, ok_endless F18 T C_edgeX, ⟨rdcCE, gacCE⟩, ⟨a18, ⟨_, r18⟩, i18⟩, PySem.W.mg_of X G aCE, b18⟩
  have M_eeq2 : MtC l.prog w K mg base CX0 1 CE "__eq__" ["self", "other"] (sp_eeq2 CE K) := ⟨_, _, ok_eeq2 F19 T Re, ⟨a19, i19, k19⟩, b19⟩
  have M_erootX : CmC l.prog w K mg base (L2.CX l.prog w) 4 CE "Edge" "root" ["cls", "p", "q", "d", "r"] (sp_eroot CE cInvalidEdge K) := ⟨_, _, _, ok_eroot F20 T E_InvalidEdge C_isint C_swr C_wr C_com C_low C_edgeX, ⟨rdcCE, gacCE⟩, ⟨a20, ⟨_, r20⟩, i20⟩, PySem.W.mg_of X G aCE, b20⟩
  have C_swrs : FnC l.prog w K mg base CX0 3 "sign_with_roots" ["one", "times", "inner", "again", "other"] sp_swrs := ⟨_, _, ok_swrs F21 T C_sign C_swr, PySem.W.mg_of X G a21, k21, b21⟩
  have C_cmp4 : FnC l.prog w K mg base CX0 4 "compared" ["one", "other"] (sp_cmp4 K) := ⟨_, _, ok_cmp4 F22 T C_sign C_swr C_swrs C_inner, PySem.W.mg_of X G a22, k22, b22⟩
  have C_cmp : FnC l.prog w K mg base CX0 6 "compared" ["one", "other"] (sp_cmp K) := ⟨_, _, ok_cmp F22 T C_sign C_swr C_swrs C_inner C_cmp4, PySem.W.mg_of X G a22, k22, b22⟩
  have M_elt : MtC l.prog w K mg base CX0 7 CE "__lt__" ["self", "other"] (sp_ecmp CE fun i => decide (i < 0)) := ⟨_, _, ok_elt F23 T Re C_cmp, ⟨a23, i23, k23⟩, b23⟩
  have M_ele : MtC l.prog w K mg base CX0 7 CE "__le__" ["self", "other"] (sp_ecmp CE fun i => decide (i ≤ 0)) := ⟨_, _, ok_ele F24 T Re C_cmp, ⟨a24, i24, k24⟩, b24⟩
  have M_egt : MtC l.prog w K mg base CX0 7 CE "__gt__" ["self", "other"] (sp_ecmp CE fun i => decide (i > 0)) := ⟨_, _, ok_egt F25 T Re C_cmp, ⟨a25, i25, k25⟩, b25⟩
  have M_ege : MtC l.prog w K mg base CX0 7 CE "__ge__" ["self", "other"] (sp_ecmp CE fun i => decide (i ≥ 0)) := ⟨_, _, ok_ege F26 T Re C_cmp, ⟨a26, i26, k26⟩, b26⟩
  have C_lsign : FnC l.prog w K mg base CX0 1 "_law_sign" ["_law_number"] sp_sign := ⟨_, _, ok_lsign F27 T , PySem.W.mg_of X G a27, k27, b27⟩
  have C_lgcd : FnC l.prog w K mg base CX0 1 "_law_gcd" ["_law_one", "_law_other"] sp_com := ⟨_, _, ok_lgcd F28 T , PySem.W.mg_of X G a28, k28, b28⟩
  have C_lsr : FnC l.prog w K mg base CX0 2 "_law_sign_root" ["_law_one", "_law_times", "_law_inner"] sp_lsr := ⟨_, _, ok_lsr F29 T C_lsign, PySem.W.mg_of X G a29, k29, b29⟩
  have C_lwr : FnC l.prog w K mg base CX0 1 "_law_whole_root" ["_law_number"] sp_wr := ⟨_, _, ok_lwr F30 T , PySem.W.mg_of X G a30, k30, b30⟩
  have C_lsq : FnC l.prog w K mg base CX0 2 "_law_is_square" ["_law_number"] sp_lsq := ⟨_, _, ok_lsq F31 T C_lwr, PySem.W.mg_of X G a31, k31, b31⟩
  have C_lroot : FnC l.prog w K mg base CX0 3 "_law_root" ["_law_box_here", "_law_most"] sp_lroot := ⟨_, _, ok_lroot F32 T C_take C_lsr, PySem.W.mg_of X G a32, k32, b32⟩
  have C_lfrac : FnC l.prog w K mg base CX0 3 "_law_fraction" ["_law_given"] sp_lfrac := ⟨_, _, ok_lfrac F33 T C_lsq C_lwr C_lgcd, PySem.W.mg_of X G a33, k33, b33⟩
  have C_lsrs : FnC l.prog w K mg base CX0 3 "_law_sign_roots" ["_law_one", "_law_times", "_law_inner", "_law_again", "_law_other"] sp_lsrs := ⟨_, _, ok_lsrs F34 T C_lsign C_lsr, PySem.W.mg_of X G a34, k34, b34⟩
  have C_lgap : FnC l.prog w K mg base CX0 4 "_law_gap" ["_law_one", "_law_other"] (sp_lgap K) := ⟨_, _, ok_lgap F35 T C_lsign C_lsrs, PySem.W.mg_of X G a35, k35, b35⟩
  have C_ledge : FnC l.prog w K mg base CX0 8 "_law_edge" ["_law_place"] (sp_ledge CE K) := ⟨_, _, ok_ledge F36 T R C_ratioX.calm M_erootX.calm M_eofX.calm M_ezeroX.calm M_eendlessX.calm, PySem.W.mg_of X G a36, k36, b36⟩
  have C_lnear : FnC l.prog w K mg base CX0 4 "_law_near" ["_law_given", "_law_count"] sp_lnear := ⟨_, _, ok_lnear F37 T C_lsr, PySem.W.mg_of X G a37, k37, b37⟩
  have C_lplaces : FnC l.prog w K mg base CX0 6 "_law_places" ["_law_box_here"] sp_lplaces := ⟨_, _, ok_lplaces F38 T C_take C_lroot C_lfrac C_lnear C_lsr, PySem.W.mg_of X G a38, k38, b38⟩
  exact ok_law F39 T R Re C_box C_lplaces C_ledge C_lgap C_ratioX.calm M_eeq2 M_elt M_ele M_egt M_ege (kit_ownB hdCE ctE st_tuple) (kit_ownB hdCE ctE st_str) (kit_ownB hdCE ctE st_NoneType) (kit_ownB hdCE ctE st_int) (kit_ownF scc hdCE ctE sre) nf_tuple nf_str nf_NoneType nf_int nfr
end Lw
open PySem PySem.W PyProof.Rows in
set_option maxRecDepth 100000 in
set_option maxHeartbeats 0 in
theorem PySem.Challenge.cw_unmarked_k11_edges_in_order_holds : PySem.Challenge.rw_unmarked_k11_edges_in_order.Holds := by
  w_on; o_law; k_head; (case hw => w_witness2)
  k_fill
  refine Kb.walk_ofG (l := PySem.Challenge.rw_unmarked_k11_edges_in_order) (n := 63) (k := 11) (x := "_law_script") (sp := Lw.K10.sp_law) rfl (by decide) rfl ⟨rfl, by decide, by decide⟩ (fun w h Y => PySem.W.kIn_of Y) ?F (fun K H a ns hl _ hS => ⟨a, ns, rfl, hS, hl, fun _ => rfl⟩)
  case F =>
    intro w mg fa h KX G hmg
    refine' Lw.all_mk KX G hmg ?aU ?rdU ?gaU ?inU ?aInvalidRatio ?xInvalidRatio ?sInvalidRatio ?bInvalidRatio ?tInvalidRatio ?kInvalidRatio ?aInvalidEdge ?xInvalidEdge ?sInvalidEdge ?bInvalidEdge ?tInvalidEdge ?kInvalidEdge ?hdUnmarkedError ?bUnmarkedError ?tUnmarkedError ?hdInvalidRatio ?hdInvalidEdge ?aC ?pgC ?hdC ?poC ?saC ?mkC ?kcC ?haC ?hnC ?htC ?hmC ?n1 ?n2 ?nf ?ne ?so ?aCE ?pgCE ?hdCE ?poCE ?saCE ?mkCE ?kcCE ?haCE ?hnCE ?htCE ?hmCE ?rdcCE ?gacCE ?en1 ?en2 ?enf ?ene ?eso ?a1 ?l1 ?c1 ?k1 ?a2 ?l2 ?c2 ?k2 ?a3 ?l3 ?c3 ?k3 ?a4 ?l4 ?c4 ?k4 ?a5 ?l5 ?c5 ?k5 ?a6 ?i6 ?l6 ?c6 ?k6 ?a7 ?i7 ?l7 ?c7 ?k7 ?a8 ?i8 ?l8 ?c8 ?k8 ?a9 ?l9 ?c9 ?k9 ?a10 ?l10 ?c10 ?k10 ?a11 ?l11 ?c11 ?k11 ?a12 ?l12 ?c12 ?k12 ?a13 ?l13 ?c13 ?k13 ?a14 ?l14 ?c14 ?k14 ?a15 ?i15 ?l15 ?c15 ?k15 ?a16 ?r16 ?i16 ?l16 ?c16 ?k16 ?a17 ?r17 ?i17 ?l17 ?c17 ?k17 ?a18 ?r18 ?i18 ?l18 ?c18 ?k18 ?a19 ?i19 ?l19 ?c19 ?k19 ?a20 ?r20 ?i20 ?l20 ?c20 ?k20 ?a21 ?l21 ?c21 ?k21 ?a22 ?l22 ?c22 ?k22 ?a23 ?i23 ?l23 ?c23 ?k23 ?a24 ?i24 ?l24 ?c24 ?k24 ?a25 ?i25 ?l25 ?c25 ?k25 ?a26 ?i26 ?l26 ?c26 ?k26 ?a27 ?l27 ?c27 ?k27 ?a28 ?l28 ?c28 ?k28 ?a29 ?l29 ?c29 ?k29 ?a30 ?l30 ?c30 ?k30 ?a31 ?l31 ?c31 ?k31 ?a32 ?l32 ?c32 ?k32 ?a33 ?l33 ?c33 ?k33 ?a34 ?l34 ?c34 ?k34 ?a35 ?l35 ?c35 ?k35 ?a36 ?l36 ?c36 ?k36 ?a37 ?l37 ?c37 ?k37 ?a38 ?l38 ?c38 ?k38 ?a39 ?l39 ?c39 ?k39 ?z_ValueError ?z_abs ?z_all ?z_any ?z_bool ?z_enumerate ?z_int ?z_isinstance ?z_len ?z_list ?z_max ?z_min ?z_range ?z_repr ?z_sorted ?z_str ?z_sum ?z_tuple ?z_zip ?ctE ?st_tuple ?st_str ?st_NoneType ?st_int ?nf_tuple ?nf_str ?nf_NoneType ?nf_int ?scc ?sre ?nfr
    (case aU => k_is)
    (case rdU => k_is)
    (case gaU => k_is)
    (case inU => k_is)
    (case aInvalidRatio => k_is)
    (case xInvalidRatio => k_is)
    (case sInvalidRatio => k_is)
    (case bInvalidRatio => k_is)
    (case tInvalidRatio => k_is)
    (case kInvalidRatio => k_is)
    (case aInvalidEdge => k_is)
    (case xInvalidEdge => k_is)
    (case sInvalidEdge => k_is)
    (case bInvalidEdge => k_is)
    (case tInvalidEdge => k_is)
    (case kInvalidEdge => k_is)
    (case hdUnmarkedError => k_is)
    (case bUnmarkedError => k_is)
    (case tUnmarkedError => k_is)
    (case hdInvalidRatio => k_is)
    (case hdInvalidEdge => k_is)
    (case aC => k_is)
    (case pgC => k_is)
    (case hdC => k_is)
    (case poC => k_is)
    (case saC => k_is)
    (case mkC => k_is)
    (case kcC => k_is)
    (case haC => k_is)
    (case hnC => k_is)
    (case htC => k_is)
    (case hmC => k_is)
    (case n1 => k_is)
    (case n2 => k_is)
    (case nf => k_is)
    (case ne => k_is)
    (case so => k_is)
    (case aCE => k_is)
    (case pgCE => k_is)
    (case hdCE => k_is)
    (case poCE => k_is)
    (case saCE => k_is)
    (case mkCE => k_is)
    (case kcCE => k_is)
    (case haCE => k_is)
    (case hnCE => k_is)
    (case htCE => k_is)
    (case hmCE => k_is)
    (case rdcCE => k_is)
    (case gacCE => k_is)
    (case en1 => k_is)
    (case en2 => k_is)
    (case enf => k_is)
    (case ene => k_is)
    (case eso => k_is)
    (case a1 => k_is)
    (case l1 => k_is)
    (case c1 => k_is)
    (case k1 => k_is)
    (case a2 => k_is)
    (case l2 => k_is)
    (case c2 => k_is)
    (case k2 => k_is)
    (case a3 => k_is)
    (case l3 => k_is)
    (case c3 => k_is)
    (case k3 => k_is)
    (case a4 => k_is)
    (case l4 => k_is)
    (case c4 => k_is)
    (case k4 => k_is)
    (case a5 => k_is)
    (case l5 => k_is)
    (case c5 => k_is)
    (case k5 => k_is)
    (case a6 => k_is)
    (case i6 => k_is)
    (case l6 => k_is)
    (case c6 => k_is)
    (case k6 => k_is)
    (case a7 => k_is)
    (case i7 => k_is)
    (case l7 => k_is)
    (case c7 => k_is)
    (case k7 => k_is)
    (case a8 => k_is)
    (case i8 => k_is)
    (case l8 => k_is)
    (case c8 => k_is)
    (case k8 => k_is)
    (case a9 => k_is)
    (case l9 => k_is)
    (case c9 => k_is)
    (case k9 => k_is)
    (case a10 => k_is)
    (case l10 => k_is)
    (case c10 => k_is)
    (case k10 => k_is)
    (case a11 => k_is)
    (case l11 => k_is)
    (case c11 => k_is)
    (case k11 => k_is)
    (case a12 => k_is)
    (case l12 => k_is)
    (case c12 => k_is)
    (case k12 => k_is)
    (case a13 => k_is)
    (case l13 => k_is)
    (case c13 => k_is)
    (case k13 => k_is)
    (case a14 => k_is)
    (case l14 => k_is)
    (case c14 => k_is)
    (case k14 => k_is)
    (case a15 => k_is)
    (case i15 => k_is)
    (case l15 => k_is)
    (case c15 => k_is)
    (case k15 => k_is)
    (case a16 => k_is)
    (case r16 => k_is)
    (case i16 => k_is)
    (case l16 => k_is)
    (case c16 => k_is)
    (case k16 => k_is)
    (case a17 => k_is)
    (case r17 => k_is)
    (case i17 => k_is)
    (case l17 => k_is)
    (case c17 => k_is)
    (case k17 => k_is)
    (case a18 => k_is)
    (case r18 => k_is)
    (case i18 => k_is)
    (case l18 => k_is)
    (case c18 => k_is)
    (case k18 => k_is)
    (case a19 => k_is)
    (case i19 => k_is)
    (case l19 => k_is)
    (case c19 => k_is)
    (case k19 => k_is)
    (case a20 => k_is)
    (case r20 => k_is)
    (case i20 => k_is)
    (case l20 => k_is)
    (case c20 => k_is)
    (case k20 => k_is)
    (case a21 => k_is)
    (case l21 => k_is)
    (case c21 => k_is)
    (case k21 => k_is)
    (case a22 => k_is)
    (case l22 => k_is)
    (case c22 => k_is)
    (case k22 => k_is)
    (case a23 => k_is)
    (case i23 => k_is)
    (case l23 => k_is)
    (case c23 => k_is)
    (case k23 => k_is)
    (case a24 => k_is)
    (case i24 => k_is)
    (case l24 => k_is)
    (case c24 => k_is)
    (case k24 => k_is)
    (case a25 => k_is)
    (case i25 => k_is)
    (case l25 => k_is)
    (case c25 => k_is)
    (case k25 => k_is)
    (case a26 => k_is)
    (case i26 => k_is)
    (case l26 => k_is)
    (case c26 => k_is)
    (case k26 => k_is)
    (case a27 => k_is)
    (case l27 => k_is)
    (case c27 => k_is)
    (case k27 => k_is)
    (case a28 => k_is)
    (case l28 => k_is)
    (case c28 => k_is)
    (case k28 => k_is)
    (case a29 => k_is)
    (case l29 => k_is)
    (case c29 => k_is)
    (case k29 => k_is)
    (case a30 => k_is)
    (case l30 => k_is)
    (case c30 => k_is)
    (case k30 => k_is)
    (case a31 => k_is)
    (case l31 => k_is)
    (case c31 => k_is)
    (case k31 => k_is)
    (case a32 => k_is)
    (case l32 => k_is)
    (case c32 => k_is)
    (case k32 => k_is)
    (case a33 => k_is)
    (case l33 => k_is)
    (case c33 => k_is)
    (case k33 => k_is)
    (case a34 => k_is)
    (case l34 => k_is)
    (case c34 => k_is)
    (case k34 => k_is)
    (case a35 => k_is)
    (case l35 => k_is)
    (case c35 => k_is)
    (case k35 => k_is)
    (case a36 => k_is)
    (case l36 => k_is)
    (case c36 => k_is)
    (case k36 => k_is)
    (case a37 => k_is)
    (case l37 => k_is)
    (case c37 => k_is)
    (case k37 => k_is)
    (case a38 => k_is)
    (case l38 => k_is)
    (case c38 => k_is)
    (case k38 => k_is)
    (case a39 => k_is)
    (case l39 => k_is)
    (case c39 => k_is)
    (case k39 => k_is)
    (case z_ValueError => k_is)
    (case z_abs => k_is)
    (case z_all => k_is)
    (case z_any => k_is)
    (case z_bool => k_is)
    (case z_enumerate => k_is)
    (case z_int => k_is)
    (case z_isinstance => k_is)
    (case z_len => k_is)
    (case z_list => k_is)
    (case z_max => k_is)
    (case z_min => k_is)
    (case z_range => k_is)
    (case z_repr => k_is)
    (case z_sorted => k_is)
    (case z_str => k_is)
    (case z_sum => k_is)
    (case z_tuple => k_is)
    (case z_zip => k_is)
    (case ctE => k_is)
    (case st_tuple => k_is)
    (case st_str => k_is)
    (case st_NoneType => k_is)
    (case st_int => k_is)
    (case nf_tuple => k_is)
    (case nf_str => k_is)
    (case nf_NoneType => k_is)
    (case nf_int => k_is)
    (case scc => k_is)
    (case sre => k_is)
    (case nfr => k_is)
#print axioms PySem.Challenge.cw_unmarked_k11_edges_in_order_holds
