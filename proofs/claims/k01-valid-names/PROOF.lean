import PyProof.Rows.All
import Wide.All
import OpenK.AllK
import Wide.FinOn
import KE.KStateDown
import Lean
import HandS.Base
import HandS.Call
import HandS.Ends
import HandS.More
import HandS.Words
import HandS.WordsExc
import HandS.Defaults
import HandS.Head0
import HandS.Head1
import HandS.Head2
import HandS.HeadEnd
import HandS.HeadHook1
import HandS.HeadHook2
import HandS.ForMost
import HandS.IsInst
import PySem.Challenge.RW_wholemixes_k01_valid_names
import HandS.Walk
import HandS.Style
import PyProof.EqKinds
import PyProof.NeKinds
import HandS.MakeKwOnly
set_option Elab.async false
set_option linter.all false
set_option maxRecDepth 100000
set_option maxHeartbeats 0
namespace K01
open PySem PySem.Spec PyProof.Rows L2
def top (i : Nat) : Stmt := PySem.Challenge.pw_wholemixes_k01_valid_names.main.body.getD i (.Pass ⟨0, 0, 0, 0⟩)
abbrev sDraw : Stmt := top 7
abbrev FnP (K : PySem.W.Frag) (x : Str) (st : Stmt) (f : Addr) (fd : FuncData) : Prop := FunD K x x (defArgs st) (defBody st) (defScope st) [] [] f fd
abbrev nDraw : List Str := ["_law_state", "_law_size", "_law_digit", "_law_cell", "_law_one"]
theorem scD : FnScope nDraw ["_law_state", "_law_size"] (defScope sDraw) := ⟨rfl, rfl, rfl, by decide +kernel, rfl, by decide +kernel, by decide +kernel⟩
section
variable {X : Cx}
theorem pget_list : PGet X (rIxL X.K) := by
  intro pins s σ H x y v u Q I rx ry h
  obtain ⟨p, xs, i, z, rfl, rfl, hq, he, q⟩ := h
  cases rx
  obtain ⟨t, rfl⟩ := ry
  obtain ⟨its, r, pl, hz⟩ := I.list hq
  obtain ⟨j, h1, h2, h3, h4, h5⟩ := atI_get he
  obtain ⟨w, ew, rw'⟩ := r.get h2
  have hl := r.length
  have hn := line63
  have fin : EP X pins σ Q w s := ⟨z, H, I, rw', q⟩
  by_cases h0 : 0 ≤ i
  · have hj : i.toNat = j := by
      rw [seqIndex_of h0 h5] at h1
      exact Option.some.inj h1
    exact wpAny_getItem_list pl.isList h0 (by omega) (by rw [hj]; simpa using ew) fin
  · have hj : (i + (its.toArray.size : Int)).toNat = j := by
      rw [seqIndex_neg (by omega) h4] at h1
      rw [List.size_toArray, ← hl]
      exact Option.some.inj h1
    exact wpAny_getItem_list_neg pl.isList (by omega) (by rw [List.size_toArray] <;> omega) (by omega) (by rw [hj]; simpa using ew) fin
end
/-! ### the draws -/
structure StO (H : Hp) (p a0 a1 : Addr) (ns ms : List Int) (n : Int) : Prop where
  h : H p = some (.lst [.ref a0, .ref a1, .int n])
  h0 : H a0 = some (.lst (ns.map .int))
  h1 : H a1 = some (.lst (ms.map .int))
  e : ms ≠ []
  l : ms.length ≤ 100
  n0 : 0 ≤ n
  d : a0 ≠ a1
  l0 : ns.length ≤ 100
theorem StO.p0 {H : Hp} {p a0 a1 : Addr} {ns ms : List Int} {n : Int} (h : StO H p a0 a1 ns ms n) : p ≠ a0 := ne_of h.h h.h0 (fun z => by cases ns <;> simp at z)
theorem StO.p1 {H : Hp} {p a0 a1 : Addr} {ns ms : List Int} {n : Int} (h : StO H p a0 a1 ns ms n) : p ≠ a1 := ne_of h.h h.h1 (fun z => by cases ms <;> simp at z)
def spDraw : Sp := fun vs H Q _ => ∃ (p a0 a1 : Addr) (ns ms : List Int) (n m : Int), vs = [.ref p, .int m] ∧ StO H p a0 a1 ns ms n ∧ n < 2 ^ 41 ∧ 0 < m ∧ m < 1073741824 ∧
  ∀ H' a0' ns' r, StO H' p a0' a1 ns' ms (n + 1) → (a0' = a0 ∨ H a0' = none) → (∀ b, b ≠ p → b ≠ a0 → H b ≠ none → H' b = H b) → H' a0 ≠ none → 0 ≤ r → r < m → Q (.int r) H'
theorem ints_dp {K : PySem.W.Frag} {H : Hp} : ∀ ns : List Int, DpAll K H (ns.map .int) (ns.map .int)
  | [] => .nil
  | n :: ns => .cons (.int n) (ints_dp ns)
theorem ints_shaped (ns : List Int) : SeqAt.shaped (.list (ns.map .int)) = true := by
  have h1 : PyData.canLayAll0 (ns.map PyData.int) = true := by
    induction ns with
    | nil => rfl
    | cons a r ih => simp [PyData.canLayAll0, PyData.canLay0, ih]
  have h2 : PyData.depthAll (ns.map PyData.int) = 0 := by
    induction ns with
    | nil => rfl
    | cons a r ih => simp [PyData.depthAll, PyData.depth, ih (by simpa [PyData.canLayAll0, PyData.canLay0] using h1)]
  unfold SeqAt.shaped
  simp only [PyData.canLay0, PyData.depth, h1, h2, Bool.true_and]
  decide
theorem eqv_nil (ns : List Int) : PyData.eqv (.list (ns.map .int)) (.list []) = ns.isEmpty := by
  cases ns <;> rfl
/-- what a draw leaves of the heap -/
structure DrF (H : Hp) (p a0 : Addr) (H' : Hp) (a0' : Addr) : Prop where
  k : ∀ b, b ≠ p → b ≠ a0 → H b ≠ none → H' b = H b
  g : H' a0 ≠ none
  a : a0' = a0 ∨ H a0' = none
section
variable {H H' : Hp} {p a0 a0' a1 l : Addr} {ns ms : List Int} {n : Int} {o : HO}
theorem StO.new (h : StO H p a0 a1 ns ms n) (hl : H l = none) : StO (upd H l o) p a0 a1 ns ms n :=
  ⟨by rw [upd_ne (ne_of_none h.h hl)]; exact h.h, by rw [upd_ne (ne_of_none h.h0 hl)]; exact h.h0, by rw [upd_ne (ne_of_none h.h1 hl)]; exact h.h1, h.e, h.l, h.n0, h.d, h.l0⟩
theorem DrF.new (h : DrF H p a0 H' a0') (hl : H' l = none) : DrF H p a0 (upd H' l o) a0' :=
  ⟨fun b h1 h2 h3 => by rw [upd_ne (fun z => by have := h.k b h1 h2 h3; rw [z, hl] at this; rw [z] at h3; exact h3 this.symm)]; exact h.k b h1 h2 h3,
    by rw [upd_ne (fun z => h.g (by rw [z]; exact hl))]; exact h.g, h.a⟩
theorem StO.setN (h : StO H p a0 a1 ns ms n) {k : Int} (hk : 0 ≤ k) : StO (upd H p (.lst [.ref a0, .ref a1, .int k])) p a0 a1 ns ms k :=
  ⟨upd_same, by rw [upd_ne h.p0.symm]; exact h.h0, by rw [upd_ne h.p1.symm]; exact h.h1, h.e, h.l, hk, h.d, h.l0⟩
theorem DrF.first (h : StO H p a0 a1 ns ms n) (u : HO) : DrF H p a0 (upd H p u) a0 := ⟨fun b h1 _ _ => upd_ne h1, by rw [upd_ne h.p0.symm, h.h0]; simp, .inl rfl⟩
theorem StO.setL (h : StO H p a0 a1 ns ms n) {ns' : List Int} (hl : H l = none) (l0 : ns'.length ≤ 100) : StO (upd (upd H l (.lst (ns'.map .int))) p (.lst [.ref l, .ref a1, .int n])) p l a1 ns' ms n := by
  have n1 := ne_of_none h.h hl
  have n2 := ne_of_none h.h1 hl
  refine ⟨upd_same, by rw [upd_ne n1.symm, upd_same], by rw [upd_ne h.p1.symm, upd_ne n2]; exact h.h1, h.e, h.l, h.n0, n2.symm, l0⟩
theorem DrF.setL {k : Int} {ks : List Int} (g : DrF H p a0 H' a0') (h : StO H p a0 a1 ks ms k) (hs : StO H' p a0' a1 ns ms n) (hl : H' l = none) (u v : HO) : DrF H p a0 (upd (upd H' l v) p u) l := by
  have g' := g.new (l := l) (o := v) hl
  refine ⟨fun b h1 h2 h3 => by rw [upd_ne h1]; exact g'.k b h1 h2 h3, by rw [upd_ne h.p0.symm]; exact g'.g, .inr ?_⟩
  cases e : H l with
  | none => rfl
  | some o =>
    exfalso
    by_cases h1 : l = p
    · rw [h1, hs.h] at hl; cases hl
    · by_cases h2 : l = a0
      · exact g.g (h2 ▸ hl)
      · have := g.k l h1 h2 (by rw [e]; simp)
        rw [hl, e] at this; cases this
end
section
variable {H H' : Hp} {p a0 a0' a1 l : Addr} {ns ms : List Int} {n : Int}
theorem StO.setI (h : StO H p a0 a1 ns ms n) {ns' : List Int} (l0 : ns'.length ≤ 100) : StO (upd H a0 (.lst (ns'.map .int))) p a0 a1 ns' ms n :=
  ⟨by rw [upd_ne h.p0]; exact h.h, upd_same, by rw [upd_ne h.d.symm]; exact h.h1, h.e, h.l, h.n0, h.d, l0⟩
theorem DrF.setI (g : DrF H p a0 H' a0') (u : HO) : DrF H p a0 (upd H' a0' u) a0' := by
  refine ⟨fun b h1 h2 h3 => ?_, ?_, g.a⟩
  · rw [upd_ne (fun z => ?_)]
    · exact g.k b h1 h2 h3
    · rcases g.a with e | e
      · exact h2 (z.trans e)
      · rw [z] at h3; exact h3 e
  · by_cases e : a0 = a0'
    · rw [← e, upd_same]; simp
    · rw [upd_ne e]; exact g.g
theorem atI_map (ns : List Int) (x : Int) (r : List Int) (h : ns = x :: r) : atI (ns.map V.int) 0 = some (.int x) := by subst h; exact atI_nat (j := 0) rfl
end
theorem ibT {b : Bool} {A B : Prop} (e : b = true) (h : A) : if b = true then A else B := by rw [if_pos e]; exact h
theorem ibF {b : Bool} {A B : Prop} (e : b = false) (h : B) : if b = true then A else B := by rw [if_neg (by rw [e]; simp)]; exact h
theorem while_by2 {c : TT} {tb : TS} {D : Ends} {σ : L2.St} {H : Hp} (Pv : L2.St → Hp → Prop) (μ : L2.St → Hp → Nat) (h0 : Pv σ H) (Pe : L2.St → Hp → Prop)
    (hs : ∀ σ H, Pv σ H → c σ H fun b H1 => if b = true then tb { D with nx := fun σ' H' => Pv σ' H' ∧ μ σ' H' < μ σ H, ct := fun σ' H' => Pv σ' H' ∧ μ σ' H' < μ σ H, bk := D.nx } σ H1 else Pe σ H1)
    (hd : ∀ σ H, Pe σ H → D.nx σ H) (mono : ∀ σ H Q Q', (∀ b H1, Q b H1 → Q' b H1) → c σ H Q → c σ H Q') : tWhile c tb D σ H :=
  while_by Pv μ h0 (fun σ H hp => mono _ _ _ _ (fun b H1 q => by
    cases b with
    | true => exact q
    | false => exact hd _ _ q) (hs σ H hp)) mono
theorem cut1 (x : V) (r : List V) : cutV (x :: r) (some 1) none = r := by
  unfold cutV
  have e : HT.sIx (x :: r).length 0 (some 1) = 1 := by
    show (if (1 : Int) < 0 then ((1 : Int) + ((x :: r).length : Int)).toNat else min (1 : Int).toNat (x :: r).length) = 1
    rw [if_neg (by decide)]
    show min 1 (r.length + 1) = 1
    omega
  rw [e]
  show (r.take ((r.length + 1) - 1)) = r
  rw [Nat.add_sub_cancel, List.take_length]
theorem ixN0 (x : Int) (r : List Int) : ixN ((x :: r).map V.int).length 0 = some 0 := by
  unfold ixN
  rw [if_pos (by decide), if_pos (by simp)]; rfl
/-! ### readings that grow with what follows -/
def MoE (t : TE) : Prop := ∀ σ H (Q Q' : VK), (∀ v H', Q v H' → Q' v H') → t σ H Q → t σ H Q'
def MoT (t : TT) : Prop := ∀ σ H (Q Q' : Bool → Hp → Prop), (∀ v H', Q v H' → Q' v H') → t σ H Q → t σ H Q'
def MoR (t : R2) : Prop := ∀ x y H (Q Q' : VK), (∀ v H', Q v H' → Q' v H') → t x y H Q → t x y H Q'
theorem moVar (i : Nat) : MoE (tVar i) := fun _ _ _ _ k ⟨v, h, q⟩ => ⟨v, h, k _ _ q⟩
theorem moC (v : V) : MoE (tC v) := fun _ _ _ _ k q => k _ _ q
theorem moOp {r : R2} {a b : TE} (hr : MoR r) (ha : MoE a) (hb : MoE b) : MoE (tOp r a b) := fun _ _ _ _ k q => ha _ _ _ _ (fun _ _ q => hb _ _ _ _ (fun _ _ q => hr _ _ _ _ _ k q) q) q
theorem moIx {K : PySem.W.Frag} : MoR (rIxL K) := fun _ _ _ _ _ k ⟨p, xs, i, v, e1, e2, e3, e4, q⟩ => ⟨p, xs, i, v, e1, e2, e3, e4, k _ _ q⟩
theorem moNe {K : PySem.W.Frag} : MoR (rNeD K) := fun _ _ _ _ _ k ⟨p, xs, e1, e2, e3, e4, q⟩ => ⟨p, xs, e1, e2, e3, e4, k _ _ q⟩
theorem moEq : MoR rEq := fun _ _ _ _ _ k ⟨e1, q⟩ => ⟨e1, k _ _ q⟩
theorem moL0 : MoE (tLst tNil) := fun _ _ _ _ k ⟨h, q⟩ => ⟨h, fun p hp => k _ _ (q p hp)⟩
theorem moTest {t : TE} (h : MoE t) : MoT (tTest t) := fun _ _ _ _ k q => h _ _ _ _ (fun _ _ ⟨b, e, q⟩ => ⟨b, e, k _ _ q⟩) q
theorem moAnd {t u : TT} (h : MoT t) (h' : MoT u) : MoT (tAnd t u) := fun _ _ _ _ k q => h _ _ _ _ (fun b _ q => by
  cases b with
  | true => exact h' _ _ _ _ k q
  | false => exact k _ _ q) q
section
variable {P : Program} {w : World} {K : PySem.W.Frag} {mg : Str → Option Value} {base : Heap} {f : Addr} {fd : FuncData}
theorem ok_draw (F : FnP K "_law_draw" sDraw f fd) (gI : mg "int" = none) (gL : mg "len" = none) : FnOk P w K mg base CX0 1 f fd ["_law_state", "_law_size"] spDraw := by
  refine F.ok scD (fun vs H Q E h => ?_) (fun cdv A outer s H vs Q E hr h => ?_)
  · obtain ⟨p, a0, a1, ns, ms, n, m, rfl, _⟩ := h; rfl
  have nd := scD.nd
  have ixS : ∀ {X : Cx}, True := fun {_} => trivial
  refine ⟨_, PSs.nox (pss_cons (ps_augS (pv 0) pe_int pget_list pe_int ip_add set_list)
    (pss_cons (ps_while PassesOwn.never (PW.pt (pw_and (pt_cmpR (op_neD hr.units) (pe_ix ix_list (pv 0) pe_int (fun _ _ => rfl)) (pe_lst pa_nil) (nomark _))
        (pw_and1 (pt_cmpR op_eq (pe_ix ix_list (pe_ix ix_list (pv 0) pe_int (fun _ _ => rfl)) pe_int (fun _ _ => rfl)) pe_int (nomark _)))))
      (pss_one (ps_asg (pe_slice sl_list (pe_ix ix_list (pv 0) pe_int (fun _ _ => rfl)) (po_some pe_int) po_none) (pg_sub (pv 0) pe_int set_list))))
    (pss_cons (ps_if (pt_cmpR (op_neD hr.units) (pe_ix ix_list (pv 0) pe_int (fun _ _ => rfl)) (pe_lst pa_nil) (nomark _))
      (pss_cons (ps_set (i := 2) nd rfl (Or.inl rfl) (pe_op op_mod (pe_callTy call_int1 (by rfl) gI (by decide +kernel) (pa_cons (pe_ix ix_list (pe_ix ix_list (pv 0) pe_int (fun _ _ => rfl)) pe_int (fun _ _ => rfl)) pa_nil)) (pv 1)))
      (pss_cons (ps_asg (pe_op op_fdiv (pe_ix ix_list (pe_ix ix_list (pv 0) pe_int (fun _ _ => rfl)) pe_int (fun _ _ => rfl)) (pv 1)) (pg_sub (pe_ix ix_list (pv 0) pe_int (fun _ _ => rfl)) pe_int set_list))
      (pss_one (ps_ret (pv 2))))) pss_nil)
    (pss_cons (ps_set (i := 3) nd rfl (Or.inl rfl) (pe_op op_mod (pe_callTy call_int1 (by rfl) gI (by decide +kernel) (pa_cons (pe_ix ix_list (pe_ix ix_list (pv 0) pe_int (fun _ _ => rfl))
        (pe_op op_mod (pe_callTy call_int1 (by rfl) gI (by decide +kernel) (pa_cons (pe_ix ix_list (pv 0) pe_int (fun _ _ => rfl)) pa_nil)) (pe_callB call_len_seq (by rfl) gL PySem.boot_len (pa_cons (pe_ix ix_list (pv 0) pe_int (fun _ _ => rfl)) pa_nil))) (fun _ _ => rfl)) pa_nil)) pe_int))
    (pss_cons (ps_set (i := 4) nd rfl (Or.inl rfl) (pe_op op_mod (pe_callTy call_int1 (by rfl) gI (by decide +kernel) (pa_cons (pe_op op_pow (pe_op op_add (pe_op op_add (pe_op op_mul (pv 3) pe_int) (pe_op op_mul (pe_ix ix_list (pv 0) pe_int (fun _ _ => rfl)) pe_int)) pe_int) pe_int) pa_nil)) pe_int))
    (pss_one (ps_ret (pe_op op_mod (pe_op op_fdiv (pe_op op_mod (pe_callTy call_int1 (by rfl) gI (by decide +kernel) (pa_cons (pe_op op_pow (pe_op op_add (pe_op op_add (pe_op op_mul (pv 4) pe_int) (pe_op op_mul (pe_ix ix_list (pv 0) pe_int (fun _ _ => rfl)) pe_int)) pe_int) pe_int) pa_nil)) pe_int) pe_int) (pv 1))))))))), ?_⟩
  obtain ⟨p, a0, a1, ns, ms, n, m, rfl, h, hn, hm0, hm1, q⟩ := h
  refine ⟨_, rfl, p, _, 2, .int n, rfl, rfl, SqL.of h.h, rfl, n, 1, rfl, rfl, p, _, 2, 2, rfl, rfl, h.h, rfl, ?_⟩
  have h' : StO (upd H p (.lst [.ref a0, .ref a1, .int (n + 1)])) p a0 a1 ns ms (n + 1) := h.setN (by have := h.n0; omega)
  have g' := DrF.first h (.lst [.ref a0, .ref a1, .int (n + 1)])
  refine while_by2 (fun σ' H' => σ' = start nDraw [.ref p, .int m] ∧ ∃ b0 ns', StO H' p b0 a1 ns' ms (n + 1) ∧ DrF H p a0 H' b0)
    (fun _ H' => match H' p with | some (.lst (.ref a :: _)) => (match H' a with | some (.lst xs) => xs.length | _ => 0) | _ => 0) ⟨rfl, a0, ns, h', g'⟩
    (fun σ' H' => σ' = start nDraw [.ref p, .int m] ∧ ∃ b0 ns', StO H' p b0 a1 ns' ms (n + 1) ∧ DrF H p a0 H' b0) ?_ ?_
    (moAnd (moTest (moOp moNe (moOp moIx (moVar 0) (moC _)) moL0)) (moTest (moOp moEq (moOp moIx (moOp moIx (moVar 0) (moC _)) (moC _)) (moC _))))
  · rintro σ1 H1 ⟨rfl, b0, ns', h1, g1⟩
    refine ⟨_, rfl, p, _, 0, .ref b0, rfl, rfl, SqL.of h1.h, rfl, (by decide : 0 ≤ sizeLine), fun l hl => ?_⟩
    have h2 := h1.new (o := .lst []) hl
    have g2 := g1.new (o := .lst []) hl
    refine ⟨.list (ns'.map .int), .list [], .lst (SqL.of h2.h0) (ints_dp _), .lst (SqL.of upd_same) .nil, ints_shaped _, by decide, _, rfl, ?_⟩
    rw [eqv_nil]
    cases e : ns' with
    | nil => exact ibF rfl (ibF rfl ⟨rfl, b0, ns', h2, g2⟩)
    | cons x r =>
      refine ibT rfl ?_
      refine ⟨_, rfl, p, _, 0, .ref b0, rfl, rfl, SqL.of h2.h, rfl, b0, _, 0, .int x, rfl, rfl, SqL.of h2.h0, atI_map _ _ _ e, rfl, _, rfl, ?_⟩
      by_cases hx : x = 0
      · subst hx
        refine ibT (decide_eq_true rfl) ?_
        refine ⟨_, rfl, p, _, 0, .ref b0, rfl, rfl, SqL.of h2.h, rfl, 1, rfl, b0, _, rfl, SqL.of h2.h0, fun l2 hl2 => ?_⟩
        have ec : cutV (ns'.map V.int) (some 1) none = r.map V.int := by
          rw [e]; exact cut1 _ _
        rw [ec]
        have h3 := h2.setL (ns' := r) hl2 (by have := h2.l0; rw [e] at this; simp at this; omega)
        have g3 := g2.setL h h2 hl2 (.lst [.ref l2, .ref a1, .int (n + 1)]) (.lst (r.map .int))
        have h2' := h2.new (o := .lst (r.map .int)) hl2
        refine ⟨_, rfl, p, [.ref b0, .ref a1, .int (n + 1)], 0, 0, rfl, rfl, h2'.h, rfl, ⟨rfl, l2, r, h3, g3⟩, ?_⟩
        have m3 := h3.h
        have m4 := h3.h0
        show (match upd (upd (upd H1 l (.lst [])) l2 (.lst (r.map V.int))) p (.lst [.ref l2, .ref a1, .int (n + 1)]) p with | some (.lst (.ref a :: _)) => (match upd (upd (upd H1 l (.lst [])) l2 (.lst (r.map V.int))) p (.lst [.ref l2, .ref a1, .int (n + 1)]) a with | some (.lst xs) => xs.length | _ => 0) | _ => 0) < (match H1 p with | some (.lst (.ref a :: _)) => (match H1 a with | some (.lst xs) => xs.length | _ => 0) | _ => 0)
        rw [m3, h1.h]
        show (match upd (upd (upd H1 l (.lst [])) l2 (.lst (r.map V.int))) p (.lst [.ref l2, .ref a1, .int (n + 1)]) l2 with | some (.lst xs) => xs.length | _ => 0) < (match H1 b0 with | some (.lst xs) => xs.length | _ => 0)
        rw [m4, h1.h0, e]
        show (r.map V.int).length < ((0 :: r).map V.int).length
        simp
      · exact ibF (decide_eq_false fun z => hx (by simpa using z)) ⟨rfl, b0, ns', h2, g2⟩
  · rintro σ1 H1 ⟨rfl, b0, ns', h1, g1⟩
    refine ⟨_, rfl, p, _, 0, .ref b0, rfl, rfl, SqL.of h1.h, rfl, (by decide : 0 ≤ sizeLine), fun l hl => ?_⟩
    have h2 := h1.new (o := .lst []) hl
    have g2 := g1.new (o := .lst []) hl
    refine ⟨.list (ns'.map .int), .list [], .lst (SqL.of h2.h0) (ints_dp _), .lst (SqL.of upd_same) .nil, ints_shaped _, by decide, _, rfl, ?_⟩
    rw [eqv_nil]
    cases e : ns' with
    | cons x r =>
      refine ibT rfl ?_
      have a1' := atI_map _ _ _ e
      refine ⟨_, rfl, p, _, 0, .ref b0, rfl, rfl, SqL.of h2.h, rfl, b0, _, 0, .int x, rfl, rfl, SqL.of h2.h0, a1', .inl ⟨x, rfl, _, rfl, x, m, rfl, rfl, hm0, ?_⟩⟩
      refine ⟨_, rfl, p, _, 0, .ref b0, rfl, rfl, SqL.of h2.h, rfl, b0, _, 0, .int x, rfl, rfl, SqL.of h2.h0, a1', _, rfl, x, m, rfl, rfl, ⟨hm0, hm1⟩, ?_⟩
      refine ⟨_, rfl, p, _, 0, .ref b0, rfl, rfl, SqL.of h2.h, rfl, b0, ns'.map .int, 0, 0, rfl, rfl, h2.h0, by rw [e]; exact ixN0 _ _, ?_⟩
      have hs : (ns'.map V.int).set 0 (.int (x / m)) = ((x / m) :: r).map V.int := by rw [e]; rfl
      rw [hs]
      refine ⟨_, rfl, ?_⟩
      have h3 := h2.setI (ns' := (x / m) :: r) (by have := h2.l0; rw [e] at this; simpa using this)
      have g3 := g2.setI (.lst (((x / m) :: r).map .int))
      exact q _ b0 _ _ h3 g3.a g3.k g3.g (Int.emod_nonneg _ (by omega)) (Int.emod_lt_of_pos _ hm0)
    | nil =>
      refine ibF rfl ?_
      obtain ⟨y, hy⟩ : ∃ y, atI (ms.map V.int) ((n + 1) % ((ms.map V.int).length : Int)) = some (.int y) := by
        have hp : 0 < ms.length := List.length_pos_iff.mpr h.e
        have b1 : 0 ≤ (n + 1) % (ms.length : Int) := Int.emod_nonneg _ (by omega)
        have b2 : (n + 1) % (ms.length : Int) < ms.length := Int.emod_lt_of_pos _ (by omega)
        obtain ⟨k, hk⟩ := Int.eq_ofNat_of_zero_le b1
        have hk2 : k < ms.length := by omega
        refine ⟨ms[k], ?_⟩
        rw [List.length_map, hk]
        exact atI_nat (by simp [hk2])
      refine ⟨_, rfl, p, _, 1, .ref a1, rfl, rfl, SqL.of h2.h, rfl, ?_⟩
      refine ⟨_, rfl, p, _, 2, .int (n + 1), rfl, rfl, SqL.of h2.h, rfl, .inl ⟨n + 1, rfl, ?_⟩⟩
      refine ⟨_, rfl, p, _, 1, .ref a1, rfl, rfl, SqL.of h2.h, rfl, a1, _, rfl, .inl (SqL.of h2.h1), n + 1, _, rfl, rfl, ?_, a1, _, _, _, rfl, rfl, SqL.of h2.h1, hy, .inl ⟨y, rfl, y, 2147483647, rfl, rfl, (by show (0 : Int) < 2147483647; decide), ?_⟩⟩
      · have hp : 0 < ms.length := List.length_pos_iff.mpr h.e
        simpa using hp
      have z0 : 0 ≤ y % 2147483647 := by omega
      have z1 : y % 2147483647 < 2147483647 := by omega
      have hn0 := h2.n0
      refine ⟨_, rfl, y % 2147483647, 48271, rfl, rfl, .inl ⟨by omega, by omega⟩, ?_⟩
      refine ⟨_, rfl, p, _, 2, .int (n + 1), rfl, rfl, SqL.of h2.h, rfl, n + 1, _, rfl, rfl, .inl ⟨by omega, by omega⟩, _, _, rfl, rfl, _, _, rfl, rfl, _, 5, rfl, rfl, ⟨by decide, by decide, ?_⟩, .inl ⟨_, rfl, _, 2147483647, rfl, rfl, (by show (0 : Int) < 2147483647; decide), ?_⟩⟩
      · show (y % 2147483647 * 48271 + (n + 1) * 69621 + 7).natAbs < 2 ^ 64
        omega
      generalize (y % 2147483647 * 48271 + (n + 1) * 69621 + 7) ^ Int.toNat 5 = u
      have u0 : 0 ≤ u % 2147483647 := by omega
      have u1 : u % 2147483647 < 2147483647 := by omega
      refine ⟨_, rfl, u % 2147483647, 16807, rfl, rfl, .inl ⟨by omega, by omega⟩, ?_⟩
      refine ⟨_, rfl, p, _, 2, .int (n + 1), rfl, rfl, SqL.of h2.h, rfl, n + 1, _, rfl, rfl, .inl ⟨by omega, by omega⟩, _, _, rfl, rfl, _, _, rfl, rfl, _, 5, rfl, rfl, ⟨by decide, by decide, ?_⟩, .inl ⟨_, rfl, _, 2147483629, rfl, rfl, (by show (0 : Int) < 2147483629; decide), ?_⟩⟩
      · show (u % 2147483647 * 16807 + (n + 1) * 40692 + 13).natAbs < 2 ^ 64
        omega
      generalize (u % 2147483647 * 16807 + (n + 1) * 40692 + 13) ^ Int.toNat 5 = v
      refine ⟨_, 16, rfl, rfl, ⟨(by show (0 : Int) < 16; decide), (by show (16 : Int) < 1073741824; decide)⟩, _, rfl, _, m, rfl, rfl, hm0, ?_⟩
      exact q _ b0 _ _ h2 g2.a g2.k g2.g (Int.emod_nonneg _ (by omega)) (Int.emod_lt_of_pos _ hm0)
end
end K01

namespace K01
open PySem PySem.Spec PyProof.Rows L2
abbrev sStart : Stmt := top 6
abbrev nStart : List Str := ["_law_script", "_law_cell"]
theorem scS : FnScope nStart ["_law_script"] (defScope sStart) := ⟨rfl, rfl, rfl, by decide +kernel, rfl, by decide +kernel, by decide +kernel⟩
def spStart (K : PySem.W.Frag) : Sp := fun vs H Q _ => ∃ (a : Addr) (ns : List Int), vs = [.ref a] ∧ SqL K H a (ns.map .int) ∧ ns.length ≤ 63 ∧
  ∀ H' p a0 a1 xs ms, StO H' p a0 a1 xs ms 0 → (∀ b, H b ≠ none → H' b = H b) → H p = none → H a0 = none → H a1 = none → Q (.ref p) H'
theorem SqL.new {K : PySem.W.Frag} {H : Hp} {a l : Addr} {xs : List V} {o : HO} (h : SqL K H a xs) (hl : H l = none) : SqL K (upd H l o) a xs := by
  rcases h with (h | ⟨ob, h⟩) | h
  · exact .inl (.inl (by rw [upd_ne (ne_of_none h hl)]; exact h))
  · exact .inl (.inr ⟨ob, by rw [upd_ne (ne_of_none h hl)]; exact h⟩)
  · exact .inr h
def Kp (H H' : Hp) : Prop := ∀ b o, H b = some o → H' b = some o
theorem Kp.refl {H : Hp} : Kp H H := fun _ _ h => h
theorem Kp.upd {H H' : Hp} {l : Addr} {o : HO} (k : Kp H H') (h : H' l = none) : Kp H (upd H' l o) := fun b u e => by rw [upd_ne (ne_of_none (k b u e) h)]; exact k b u e
theorem Kp.trans {H H1 H2 : Hp} (k : Kp H H1) (k' : Kp H1 H2) : Kp H H2 := fun b o h => k' b o (k b o h)
theorem Kp.non {H H' : Hp} {l : Addr} (k : Kp H H') (h : H' l = none) : H l = none := by
  cases e : H l with
  | none => rfl
  | some o => rw [k l o e] at h; cases h
theorem Kp.eq {H H' : Hp} (k : Kp H H') : ∀ b, H b ≠ none → H' b = H b := fun b hb => by
  cases e : H b with
  | none => exact absurd e hb
  | some o => exact k b o e
theorem SqL.keep {K : PySem.W.Frag} {H H' : Hp} {a : Addr} {xs : List V} (h : SqL K H a xs) (k : ∀ b, H b ≠ none → H' b = H b) : SqL K H' a xs := by
  rcases h with (h | ⟨ob, h⟩) | h
  · exact .inl (.inl (by rw [k a (by rw [h]; simp)]; exact h))
  · exact .inl (.inr ⟨ob, by rw [k a (by rw [h]; simp)]; exact h⟩)
  · exact .inr h
section
variable {P : Program} {w : World} {K : PySem.W.Frag} {mg : Str → Option Value} {base : Heap} {f : Addr} {fd : FuncData}
theorem ok_start (F : FnP K "_law_start" sStart f fd) (gA : mg "abs" = none) (gL : mg "list" = none) : FnOk P w K mg base CX0 1 f fd ["_law_script"] (spStart K) := by
  refine F.ok scS (fun vs H Q E h => ?_) (fun cdv A outer s H vs Q E hr h => ?_)
  · obtain ⟨a, ns, rfl, _⟩ := h; rfl
  have nd := scS.nd
  refine ⟨_, PSs.nox (pss_one (ps_ret (pe_lst (pa_cons (pe_lc (own := [("_law_cell", 1)]) (g := gName 1) rfl nd (pi_list (pv 0)) (blkOk_by (N := nStart) (sc := defScope sStart) (by decide +kernel))
      (fun _ _ _ _ _ => pg_name (i := 1) nd rfl (Or.inl rfl)) (fun _ _ _ _ _ => pts_one (pt_cmpR op_ge (pe_callB call_abs (by rfl) gA (by decide +kernel) (pa_cons (pv 1) pa_nil)) (pe_op op_pow pe_int pe_int) (nomark _)))
      (fun _ _ _ _ _ => pe_callB call_abs (by rfl) gA (by decide +kernel) (pa_cons (pv 1) pa_nil)))
    (pa_cons (pe_op op_cat (pe_callTy call_list_of (by rfl) gL (by decide +kernel) (pa_cons (pv 0) pa_nil)) (pe_lst (pa_cons pe_int pa_nil))) (pa_cons pe_int pa_nil)))))), ?_⟩
  obtain ⟨a, ns, rfl, hs, hn, q⟩ := h
  refine ⟨_, rfl, a, rfl, ⟨_, hs⟩, fun D hD => ?_⟩
  refine lc_list (xs := ns.map V.int) (fun i H1 => Kp H H1 ∧ ∃ xs : List Int, H1 D = some (.lst (xs.map V.int)) ∧ xs.length ≤ i) ?_ ?_ ?_ ?_
  · exact ⟨Kp.refl.upd hD, [], upd_same, Nat.le_refl _⟩
  · rintro i H1 _ ⟨k, _⟩
    exact SqL.keep hs k.eq
  · rintro i x H1 hx ⟨k, xs, hD1, hl⟩
    obtain ⟨j, rfl⟩ : ∃ j, x = V.int j := by
      rw [List.getElem?_map] at hx
      cases e : ns[i]? with
      | none => rw [e] at hx; cases hx
      | some j => rw [e] at hx; exact ⟨j, by cases hx; rfl⟩
    have hi : i < 63 := by
      have := (List.getElem?_eq_some_iff.mp hx).1
      simp at this; omega
    refine ⟨rfl, _, rfl, j, rfl, 10, 18, rfl, rfl, ⟨by decide, by decide, by decide⟩, _, _, rfl, rfl, _, rfl, ?_⟩
    refine ite2 (fun _ => ?_) (fun _ => ?_)
    · refine ⟨_, rfl, j, rfl, _, hD1, ?_, ?_, xs ++ [if j < 0 then -j else j], ?_, ?_⟩
      · have : xs.length < sizeLine := Nat.lt_of_le_of_lt (Nat.le_trans hl (Nat.le_of_lt hi)) (by decide)
        simpa using this
      · intro b o hb
        rw [upd_ne (ne_of_none hb hD)]; exact k b o hb
      · rw [upd_same, List.map_append]; rfl
      · simp; omega
    · exact ⟨k, xs, hD1, by omega⟩
  · rintro H1 ⟨k, xs, hD1, hl⟩
    have s1 := SqL.keep hs k.eq
    refine ⟨_, rfl, a, _, rfl, .inl s1, fun l hl1 => ⟨(by decide : 1 ≤ sizeLine), fun l2 hl2 => ?_⟩⟩
    have nl : l2 ≠ l := fun z => by rw [z, upd_same] at hl2; cases hl2
    refine ⟨l, l2, _, _, rfl, rfl, by rw [upd_ne nl.symm]; exact upd_same, upd_same, ?_, fun l3 hl3 => ?_⟩
    · have : ns.length + 1 ≤ sizeLine := Nat.le_trans (Nat.succ_le_succ hn) (by decide)
      simpa using this
    refine ⟨(by decide : 3 ≤ sizeLine), fun p hp => ?_⟩
    have k1 := (Kp.refl (H := H1)).upd (o := .lst (ns.map V.int)) hl1
    have k2 := k1.upd (o := .lst [.int 5]) hl2
    have k3 := k2.upd (o := .lst (ns.map V.int ++ [.int 5])) hl3
    have k4 := k3.upd (o := .lst [.ref D, .ref l3, .int 0]) hp
    have n3 : D ≠ l3 := ne_of_none (k2 _ _ hD1) hl3
    have hx : xs.length ≤ ns.length := by simpa using hl
    refine q _ p D l3 xs (ns ++ [5]) ⟨upd_same, k4 _ _ hD1, ?_, by simp, by simp; omega, by decide, n3, by omega⟩ (k.trans k4).eq ((k.trans k3).non hp) hD ((k.trans k2).non hl3)
    rw [List.map_append]
    have : upd (upd (upd H1 l (.lst (ns.map V.int))) l2 (.lst [.int 5])) l3 (.lst (ns.map V.int ++ [.int 5])) l3 = some (.lst (ns.map V.int ++ [.int 5])) := upd_same
    exact Kp.refl.upd hp _ _ this
end
end K01

namespace K01
open PySem PySem.Spec PyProof.Rows L2
abbrev sValid : Stmt := top 4
abbrev sChar : Stmt := top 8
abbrev sText : Stmt := top 9
abbrev sDue : Stmt := top 10
abbrev sLaw : Stmt := top 11
def letters : Str := "abcdefghijklmnopqrstuvwxyz"
def digits : Str := "0123456789"
def lowB (c : Nat) : Bool := decide (c ∈ letters.cps.toList)
def digB (c : Nat) : Bool := decide (c ∈ digits.cps.toList)
def headB : List Nat → Bool
  | c :: _ => lowB c
  | [] => false
def nameB (z : Str) : Bool := (decide (1 ≤ z.length) && decide (z.length ≤ 6)) && headB z.cps.toList && z.cps.toList.all fun c => lowB c || digB c
abbrev nValid : List Str := ["text", "char"]
theorem scV : FnScope nValid ["text"] (defScope sValid) := ⟨rfl, rfl, rfl, by decide +kernel, rfl, by decide +kernel, by decide +kernel⟩
def spValid : Sp := fun vs H Q _ => ∃ z : Str, vs = [.str z] ∧ z.length ≤ 1000 ∧ Q (.bl (nameB z)) H
section
variable {P : Program} {w : World} {K : PySem.W.Frag} {mg : Str → Option Value} {base : Heap} {f : Addr} {fd : FuncData}
theorem take1 {α : Type} {l : List α} {i : Nat} {x : α} (h : l[i]? = some x) : l.take (i + 1) = l.take i ++ [x] := by
  rw [List.take_add_one, h]; rfl
theorem ok_valid {t1 t2 t3 : Tok} (F : FnP K "valid_name" sValid f fd) (gL : mg "len" = none) (g1 : mg "LONGEST" = some (.int 6 t1)) (g2 : mg "LETTERS" = some (.str letters t2)) (g3 : mg "DIGITS" = some (.str digits t3)) :
    FnOk P w K mg base CX0 1 f fd ["text"] spValid := by
  refine F.ok scV (fun vs H Q E h => ?_) (fun cdv A outer s H vs Q E hr h => ?_)
  · obtain ⟨z, rfl, _⟩ := h; rfl
  have nd := scV.nd
  refine ⟨_, PSs.nox (pss_cons (ps_if (PW.pt (pw_or (pt_not (pt_chain op_le op_le pe_int (pe_callB call_len_str (by rfl) gL PySem.boot_len (pa_cons (pv 0) pa_nil)) (pe_glob (v := .int 6) rfl g1 ⟨_, rfl⟩)))
      (pw_or1 (pt_cmpR op_notIn_sign (pe_ix ix_str (pv 0) pe_int (fun _ _ => rfl)) (pe_glob (v := .str letters) rfl g2 ⟨_, rfl⟩) (by rfl))))) (pss_one (ps_ret pe_bl)) pss_nil)
    (pss_cons (ps_for PassesOwn.never rfl (pi_str (pv 0)) (pg_name (i := 1) nd rfl (Or.inl rfl))
      (pss_one (ps_if (PW.pt (pw_and (pt_cmpR op_notIn_sign (pv 1) (pe_glob (v := .str letters) rfl g2 ⟨_, rfl⟩) (by rfl)) (pw_and1 (pt_cmpR op_notIn_sign (pv 1) (pe_glob (v := .str digits) rfl g3 ⟨_, rfl⟩) (by rfl))))) (pss_one (ps_ret pe_bl)) pss_nil)))
    (pss_one (ps_ret pe_bl)))), ?_⟩
  obtain ⟨z, rfl, hz, q⟩ := h
  have hzl : z.length ≤ sizeLine := Nat.le_trans hz (by decide)
  have en : nameB z = ((decide ((1 : Int) ≤ z.length) && decide ((z.length : Int) ≤ 6)) && headB z.cps.toList && z.cps.toList.all fun c => lowB c || digB c) := by
    unfold nameB
    congr 3
    · rw [decide_eq_decide]; omega
    · rw [decide_eq_decide]; omega
  refine ⟨_, rfl, z, rfl, hzl, 1, _, rfl, rfl, _, rfl, ?_⟩
  by_cases h1 : (1 : Int) ≤ z.length
  · refine ibT (decide_eq_true h1) ?_
    refine ⟨_, 6, rfl, rfl, _, rfl, ?_⟩
    by_cases h2 : (z.length : Int) ≤ 6
    · rw [decide_eq_true h2]
      refine ibF rfl ?_
      obtain ⟨c, r, hc⟩ : ∃ c r, z.cps.toList = c :: r := by
        cases e : z.cps.toList with
        | nil =>
          have : z.length = 0 := by
            have := congrArg List.length e
            simpa [Str.length] using this
          omega
        | cons c r => exact ⟨c, r, rfl⟩
      refine ⟨_, rfl, z, 0, c, rfl, rfl, hzl, by rw [hc]; exact atI_nat (j := 0) rfl, c, letters, rfl, rfl, _, rfl, ?_⟩
      cases hl : lowB c with
      | false =>
        refine ibT (by show (!lowB c) = true; rw [hl]; rfl) ?_
        have : nameB z = false := by
          rw [en, hc]
          simp [headB, hl]
        rw [this] at q
        exact q
      | true =>
        refine ibF (by show (!lowB c) = false; rw [hl]; rfl) ?_
        refine ⟨_, rfl, z, rfl, ?_⟩
        refine for_it walk_str (fun i σ' H' => H' = H ∧ (∃ o, σ' = [some (.str z), o]) ∧ (z.cps.toList.take i).all (fun c => lowB c || digB c) = true) ⟨rfl, ⟨_, rfl⟩, rfl⟩ (fun _ _ _ _ _ => trivial) ?_ ?_
        · rintro i x σ' H' H2 hi ⟨rfl, ⟨o, rfl⟩, ha⟩ ⟨rfl, d, hd, rfl⟩
          have hd' : z.cps.toList[i]? = some d := by simpa using hd
          have ha' : (z.cps.toList.take (i + 1)).all (fun c => lowB c || digB c) = (lowB d || digB d) := by
            rw [take1 hd', List.all_append, ha]; simp
          refine ⟨_, rfl, d, letters, rfl, rfl, _, rfl, ?_⟩
          have stop : (lowB d || digB d) = false → Q (.bl false) H2 := fun hf => by
            have : nameB z = false := by
              rw [en, List.all_eq_false.mpr ⟨d, List.mem_of_getElem? hd', by simp [hf]⟩]
              simp
            rw [this] at q
            exact q
          cases h3 : lowB d with
          | true =>
            refine ibF (by show (!lowB d) = false; rw [h3]; rfl) (ibF rfl ⟨rfl, ⟨_, rfl⟩, ?_⟩)
            rw [ha']; simp [h3]
          | false =>
            refine ibT (by show (!lowB d) = true; rw [h3]; rfl) ⟨_, rfl, d, digits, rfl, rfl, _, rfl, ?_⟩
            cases h4 : digB d with
            | true =>
              refine ibF (by show (!digB d) = false; rw [h4]; rfl) ⟨rfl, ⟨_, rfl⟩, ?_⟩
              rw [ha']; simp [h4]
            | false => exact ibT (by show (!digB d) = true; rw [h4]; rfl) (stop (by simp [h3, h4]))
        · rintro σ' H' ⟨rfl, _, ha⟩
          have : nameB z = true := by
            rw [en, decide_eq_true h1, decide_eq_true h2]
            rw [List.take_of_length_le (by simp)] at ha
            rw [ha, hc]
            simp [headB, hl]
          rw [this] at q
          exact q
    · rw [decide_eq_false h2]
      refine ibT rfl ?_
      show Q (.bl false) H
      rw [en, decide_eq_false h2] at q
      simpa using q
  · refine ibF (decide_eq_false h1) ⟨_, rfl, ibT rfl ?_⟩
    show Q (.bl false) H
    rw [en, decide_eq_false h1] at q
    simpa using q
end
end K01

namespace K01
open PySem PySem.Spec PyProof.Rows L2
/-- a list against the empty one -/
theorem op_eqNil {X : Cx} (hu : X.A.units < cLine) : OpR X (compareOp .Eq) (fun x y H Q => ∃ p xs q, x = .ref p ∧ y = .ref q ∧ SqL X.K H p xs ∧ SqL X.K H q [] ∧ Q (.bl xs.isEmpty) H) := by
  intro pins s σ H x y v u Q I rx ry h
  obtain ⟨p, xs, q, rfl, rfl, hp, hq, z⟩ := h
  cases rx
  cases ry
  obtain ⟨its, r, pl, _⟩ := I.list hp
  obtain ⟨its2, r2, pl2, _⟩ := I.list hq
  cases r2
  cases xs with
  | nil =>
    cases r
    exact (SeqAt.RcAt.lists (e := fun _ => true) pl.isList pl2.isList (A := X.A) rfl hu (fun j h1 _ => absurd h1 (by simp))) X.prog X.w X.xe _ ⟨.bl true, H, I, rfl, z⟩
  | cons a b =>
    cases r with
    | cons r1 r2 => exact (SeqAt.RcAt.lists_lengths (A := X.A) pl.isList pl2.isList (by simp) hu) X.prog X.w X.xe _ ⟨.bl false, H, I, rfl, z⟩
abbrev nDue : List Str := ["_law_word", "_law_char_here"]
theorem scDue : FnScope nDue ["_law_word"] (defScope sDue) := ⟨rfl, rfl, rfl, by decide +kernel, rfl, by decide +kernel, by decide +kernel⟩
def spDue : Sp := fun vs H Q _ => ∃ z : Str, vs = [.str z] ∧ z.length ≤ 1000 ∧ ∀ H', Kp H H' → Q (.bl (nameB z)) H'
def lowR (c : Nat) : Bool := !decide ([c] < [97]) && !decide ([122] < [c])
def digR (c : Nat) : Bool := !decide ([c] < [48]) && !decide ([57] < [c])
theorem low_eq (c : Nat) : lowR c = lowB c := by
  have e : letters.cps.toList = [97, 98, 99, 100, 101, 102, 103, 104, 105, 106, 107, 108, 109, 110, 111, 112, 113, 114, 115, 116, 117, 118, 119, 120, 121, 122] := by decide +kernel
  unfold lowR lowB
  rw [e, Bool.eq_iff_iff]
  simp [List.cons_lt_cons_iff]
  omega
theorem dig_eq (c : Nat) : digR c = digB c := by
  have e : digits.cps.toList = [48, 49, 50, 51, 52, 53, 54, 55, 56, 57] := by decide +kernel
  unfold digR digB
  rw [e, Bool.eq_iff_iff]
  simp [List.cons_lt_cons_iff]
  omega
section
variable {P : Program} {w : World} {K : PySem.W.Frag} {mg : Str → Option Value} {base : Heap} {f : Addr} {fd : FuncData}
theorem ok_due (F : FnP K "_law_due" sDue f fd) (gL : mg "len" = none) : FnOk P w K mg base CX0 1 f fd ["_law_word"] spDue := by
  refine F.ok scDue (fun vs H Q E h => ?_) (fun cdv A outer s H vs Q E hr h => ?_)
  · obtain ⟨z, rfl, _⟩ := h; rfl
  have nd := scDue.nd
  refine ⟨_, PSs.nox (pss_cons (ps_if (PW.pt (pw_or (pt_cmpR op_eq (pv 0) pe_str (nomark _)) (pw_or (pt_cmpR op_gt (pe_callB call_len_str (by rfl) gL PySem.boot_len (pa_cons (pv 0) pa_nil)) pe_int (nomark _))
      (pw_or1 (pt_not (pt_chain op_le_str op_le_str pe_str (pe_ix ix_str (pv 0) pe_int (fun _ _ => rfl)) pe_str)))))) (pss_one (ps_ret pe_bl)) pss_nil)
    (pss_one (ps_ret (pe_cmpR (op_eqNil hr.units0) (pe_lc (own := [("_law_char_here", 1)]) (g := gName 1) rfl nd (pi_str (pv 0)) (blkOk_by (N := nDue) (sc := defScope sDue) (by decide +kernel))
      (fun _ _ _ _ _ => pg_name (i := 1) nd rfl (Or.inl rfl)) (fun _ _ _ _ _ => pts_one (pt_not (PW.pt (pw_or (pt_chain op_le_str op_le_str pe_str (pv 1) pe_str) (pw_or1 (pt_chain op_le_str op_le_str pe_str (pv 1) pe_str))))))
      (fun _ _ _ _ _ => pv 1)) (pe_lst pa_nil) (nomark _))))), ?_⟩
  obtain ⟨z, rfl, hz, q⟩ := h
  have hzl : z.length ≤ sizeLine := Nat.le_trans hz (by decide)
  refine ⟨_, rfl, rfl, _, rfl, ?_⟩
  have off : nameB z = false → Q (.bl false) H := fun e => by rw [e] at q; exact q H Kp.refl
  by_cases h0 : V.str z = V.str ""
  · refine ibT (decide_eq_true h0) (ibT rfl (off ?_))
    cases h0; rfl
  refine ibF (decide_eq_false h0) ⟨_, rfl, z, rfl, hzl, _, 6, rfl, rfl, _, rfl, ?_⟩
  by_cases h6 : (6 : Int) < z.length
  · refine ibT (decide_eq_true h6) (ibT rfl (off ?_))
    unfold nameB
    have : decide (z.length ≤ 6) = false := decide_eq_false (by omega)
    rw [this]; simp
  refine ibF (decide_eq_false h6) ?_
  obtain ⟨c, r, hc⟩ : ∃ c r, z.cps.toList = c :: r := by
    cases e : z.cps.toList with
    | nil =>
      refine absurd ?_ h0
      obtain ⟨a⟩ := z
      have : a = #[] := by simpa using e
      subst this; rfl
    | cons c r => exact ⟨c, r, rfl⟩
  have hl1 : 1 ≤ z.length := by
    have := congrArg List.length hc
    simp [Str.length] at this ⊢
    omega
  have e1 : nameB z = (lowB c && z.cps.toList.all fun c => lowB c || digB c) := by
    unfold nameB
    rw [decide_eq_true hl1, decide_eq_true (show z.length ≤ 6 by omega), hc]
    rfl
  refine ⟨_, rfl, z, 0, c, rfl, rfl, hzl, by rw [hc]; exact atI_nat (j := 0) rfl, _, _, rfl, rfl, _, rfl, ?_⟩
  have lowOff : lowR c = false → Q (.bl false) H := fun e => off (by rw [e1, ← low_eq, e]; rfl)
  refine ite2 (fun ka => ?_) (fun ka => ?_)
  case refine_2 =>
    refine ⟨_, rfl, ibT rfl (lowOff ?_)⟩
    have ka' : ¬ (!decide ([c] < [97])) = true := ka
    have : (!decide ([c] < [97])) = false := by simpa using ka'
    unfold lowR; rw [this]; rfl
  refine ⟨_, _, rfl, rfl, _, rfl, ?_⟩
  refine ite2 (fun kb => ?_) (fun kb => ?_)
  · refine lowOff ?_
    have : (!decide ([122] < [c])) = false := by
      have kb' : (!(!decide ([122] < [c]))) = true := kb
      simpa using kb'
    unfold lowR; rw [this, Bool.and_false]
  have hlow : lowB c = true := by
    rw [← low_eq]
    have ka' : (!decide ([c] < [97])) = true := ka
    have kb' : ¬ (!(!decide ([122] < [c]))) = true := kb
    unfold lowR
    rw [ka']
    simpa using kb'
  rw [hlow, Bool.true_and] at e1
  refine ⟨_, rfl, z, rfl, fun D hD => ?_⟩
  refine lc_it walk_str (fun i H1 => Kp H H1 ∧ ∃ xs : List V, H1 D = some (.lst xs) ∧ xs.length ≤ i ∧ xs.isEmpty = (z.cps.toList.take i).all fun c => lowB c || digB c) ⟨Kp.refl.upd hD, [], upd_same, Nat.le_refl _, rfl⟩ (fun _ _ _ _ => trivial) ?_ ?_
  · rintro i x H1 H2 hi ⟨k, xs, hx, hl, he⟩ ⟨rfl, d, hd, rfl⟩
    have hd' : z.cps.toList[i]? = some d := by simpa using hd
    have ha' : (z.cps.toList.take (i + 1)).all (fun c => lowB c || digB c) = (xs.isEmpty && (lowB d || digB d)) := by
      rw [take1 hd', List.all_append, he]; simp
    refine ⟨rfl, ?_⟩
    have fin : ∀ b : Bool, b = (lowB d || digB d) → (if (!b) = true then (tVar 1 ((wipe (L2.start nDue [V.str z]) [1]).set 1 (some (V.str ⟨#[d]⟩))) H2 fun y H4 => ∃ acc, H4 D = some (.lst acc) ∧ acc.length < sizeLine ∧
        (Kp H (upd H4 D (.lst (acc ++ [y]))) ∧ ∃ xs : List V, (upd H4 D (.lst (acc ++ [y]))) D = some (.lst xs) ∧ xs.length ≤ i + 1 ∧ xs.isEmpty = (z.cps.toList.take (i + 1)).all fun c => lowB c || digB c)) else
        (Kp H H2 ∧ ∃ xs : List V, H2 D = some (.lst xs) ∧ xs.length ≤ i + 1 ∧ xs.isEmpty = (z.cps.toList.take (i + 1)).all fun c => lowB c || digB c)) := by
      rintro b rfl
      cases e : (lowB d || digB d) with
      | true => exact ibF rfl ⟨k, xs, hx, by omega, by rw [ha', e, Bool.and_true]⟩
      | false =>
        refine ibT rfl ⟨_, rfl, xs, hx, ?_, fun b o hb => ?_, _, upd_same, by simp; omega, ?_⟩
        · have : i ≤ 6 := by
            have : z.cps.size = z.length := rfl
            omega
          exact Nat.lt_of_le_of_lt (Nat.le_trans hl this) (by decide)
        · rw [upd_ne (ne_of_none hb hD)]; exact k b o hb
        · rw [ha', e, Bool.and_false]; cases xs <;> rfl
    have eb : (lowB d || digB d) = (lowR d || digR d) := by rw [low_eq, dig_eq]
    rw [eb] at fin
    -- the second chain
    have two : lowR d = false → ∀ R : Bool → Hp → Prop, R (digR d) H2 → tTest (tChain (fun x y H Q => ∃ i j, x = V.str i ∧ y = V.str j ∧ Q (.bl (!decide (j.cps.toList < i.cps.toList))) H) (fun x y H Q => ∃ i j, x = V.str i ∧ y = V.str j ∧ Q (.bl (!decide (j.cps.toList < i.cps.toList))) H) (tC (.str "0")) (tVar 1) (tC (.str "9")))
        ((wipe (L2.start nDue [V.str z]) [1]).set 1 (some (V.str ⟨#[d]⟩))) H2 R := by
      intro _ R hR
      refine ⟨_, rfl, _, _, rfl, rfl, _, rfl, ?_⟩
      cases a1 : decide ([d] < [48]) with
      | true =>
        refine ibF (by show (!decide ([d] < [48])) = false; rw [a1]; rfl) ⟨_, rfl, ?_⟩
        have : digR d = false := by unfold digR; rw [a1]; rfl
        rw [this] at hR
        exact hR
      | false =>
        refine ibT (by show (!decide ([d] < [48])) = true; rw [a1]; rfl) ⟨_, _, rfl, rfl, _, rfl, ?_⟩
        have : digR d = !decide ([57] < [d]) := by unfold digR; rw [a1]; rfl
        rw [this] at hR
        exact hR
    refine ⟨_, rfl, _, _, rfl, rfl, _, rfl, ?_⟩
    cases a1 : decide ([d] < [97]) with
    | true =>
      have z1 : lowR d = false := by unfold lowR; rw [a1]; rfl
      refine ibF (by show (!decide ([d] < [97])) = false; rw [a1]; rfl) ⟨_, rfl, ibF rfl (two z1 _ (fin _ ?_))⟩
      rw [z1]; rfl
    | false =>
      refine ibT (by show (!decide ([d] < [97])) = true; rw [a1]; rfl) ⟨_, _, rfl, rfl, _, rfl, ?_⟩
      cases a2 : decide ([122] < [d]) with
      | true =>
        have z1 : lowR d = false := by unfold lowR; rw [a1, a2]; rfl
        refine ibF (by show (!decide ([122] < [d])) = false; rw [a2]; rfl) (two z1 _ (fin _ ?_))
        rw [z1]; rfl
      | false =>
        have z1 : lowR d = true := by unfold lowR; rw [a1, a2]; rfl
        refine ibT (by show (!decide ([122] < [d])) = true; rw [a2]; rfl) (fin _ ?_)
        rw [z1]; rfl
  · rintro H1 ⟨k, xs, hx, hl, he⟩
    refine ⟨by decide, fun l hl1 => ⟨D, xs, l, rfl, rfl, ?_, SqL.of upd_same, ?_⟩⟩
    · exact SqL.of (by rw [upd_ne (ne_of_none hx hl1)]; exact hx)
    · have : xs.isEmpty = nameB z := by
        rw [he, e1, List.take_of_length_le (by simp)]
      rw [this]
      exact q _ (k.upd hl1)
end
/-! ### the drawn words -/
abbrev nChar : List Str := ["_law_state", "_law_signs"]
theorem scCh : FnScope nChar ["_law_state"] (defScope sChar) := ⟨rfl, rfl, rfl, by decide +kernel, rfl, by decide +kernel, by decide +kernel⟩
/-- what draws leave -/
structure St2 (H : Hp) (p a0 : Addr) (a1 : Addr) (ms : List Int) (n : Int) (H' : Hp) (b0 : Addr) (k : Int) : Prop where
  s : ∃ ns, StO H' p b0 a1 ns ms k
  f : DrF H p a0 H' b0
end K01

namespace K01
open PySem PySem.Spec PyProof.Rows L2
section
variable {H H1 H2 : Hp} {p a0 a1 b0 c0 D : Addr} {ns ms : List Int} {n : Int} {u : HO}
theorem DrF.refl (h : StO H p a0 a1 ns ms n) : DrF H p a0 H a0 := ⟨fun _ _ _ _ => rfl, by rw [h.h0]; simp, .inl rfl⟩
theorem DrF.trans {n1 : Int} {ns1 : List Int} (h : StO H p a0 a1 ns ms n) (g : DrF H p a0 H1 b0) (h1 : StO H1 p b0 a1 ns1 ms n1) (g2 : DrF H1 p b0 H2 c0) : DrF H p a0 H2 c0 := by
  refine ⟨fun b h1' h2' h3 => ?_, ?_, ?_⟩
  · have e := g.k b h1' h2' h3
    rw [← e]
    refine g2.k b h1' (fun z => ?_) (by rw [e]; exact h3)
    rcases g.a with y | y
    · exact h2' (z.trans y)
    · rw [z] at h3; exact h3 y
  · by_cases e : a0 = b0
    · rw [e]; exact g2.g
    · rw [g2.k a0 h.p0.symm e g.g]; exact g.g
  · rcases g2.a with y | y
    · rcases g.a with z | z
      · exact .inl (y.trans z)
      · exact .inr (by rw [y]; exact z)
    · refine .inr ?_
      cases e : H c0 with
      | none => rfl
      | some o =>
        exfalso
        by_cases k1 : c0 = p
        · rw [k1, h1.h] at y; cases y
        by_cases k2 : c0 = a0
        · exact g.g (k2 ▸ y)
        · have := g.k c0 k1 k2 (by rw [e]; simp)
          rw [this, e] at y; cases y
theorem StO.setD (h : StO H1 p b0 a1 ns ms n) (d0 : D ≠ p) (d1 : D ≠ b0) (d2 : D ≠ a1) : StO (upd H1 D u) p b0 a1 ns ms n :=
  ⟨by rw [upd_ne d0.symm]; exact h.h, by rw [upd_ne d1.symm]; exact h.h0, by rw [upd_ne d2.symm]; exact h.h1, h.e, h.l, h.n0, h.d, h.l0⟩
theorem DrF.setD (g : DrF H p a0 H1 b0) (hD : H D = none) : DrF H p a0 (upd H1 D u) b0 := by
  refine ⟨fun b h1 h2 h3 => by rw [upd_ne (fun z => h3 (by rw [z]; exact hD))]; exact g.k b h1 h2 h3, ?_, g.a⟩
  by_cases e : a0 = D
  · rw [e, upd_same]; simp
  · rw [upd_ne e]; exact g.g
def DrQ (H : Hp) (p a0 a1 : Addr) (ms : List Int) (k : Int) (H' : Hp) : Prop := ∃ b0 ns, StO H' p b0 a1 ns ms k ∧ DrF H p a0 H' b0
theorem atI_lt {α : Type} (l : List α) {r : Int} (h0 : 0 ≤ r) (h1 : r < l.length) : ∃ c, atI l r = some c := by
  obtain ⟨k, rfl⟩ := Int.eq_ofNat_of_zero_le h0
  have : k < l.length := by omega
  exact ⟨l[k], atI_nat (by simp [this])⟩
end
def spChar : Sp := fun vs H Q _ => ∃ (p a0 a1 : Addr) (ns ms : List Int) (n : Int), vs = [.ref p] ∧ StO H p a0 a1 ns ms n ∧ n < 2 ^ 40 ∧ ∀ H' c, DrQ H p a0 a1 ms (n + 1) H' → Q (.str ⟨#[c]⟩) H'
section
variable {P : Program} {w : World} {K : PySem.W.Frag} {mg : Str → Option Value} {base : Heap} {f fD fC : Addr} {fd fdD fdC : FuncData}
theorem bD (F : FnP K "_law_draw" sDraw f fd) : Binds K fd ["_law_state", "_law_size"] [] := F.bindsN fun _ _ _ _ _ _ us hl => match us, hl with | [_, _], _ => rfl
theorem bC (F : FnP K "_law_char" sChar f fd) : Binds K fd ["_law_state"] [] := F.bindsN fun _ _ _ _ _ _ us hl => match us, hl with | [_], _ => rfl
theorem ok_char (F : FnP K "_law_char" sChar f fd) (D : FnP K "_law_draw" sDraw fD fdD) (gD : mg "_law_draw" = some (.ref fD)) (gI : mg "int" = none) (gL : mg "len" = none) : FnOk P w K mg base CX0 2 f fd ["_law_state"] spChar := by
  have GD : FnOk P w K mg base CX0 1 fD fdD ["_law_state", "_law_size"] spDraw := ok_draw D gI gL
  refine F.ok scCh (fun vs H Q E h => ?_) (fun cdv A outer s H vs Q E hr h => ?_)
  · obtain ⟨p, a0, a1, ns, ms, n, rfl, _⟩ := h; rfl
  have nd := scCh.nd
  refine ⟨_, PSs.nox (pss_cons (ps_set (i := 1) nd rfl (Or.inl rfl) pe_str)
    (pss_one (ps_ret (pe_ix ix_str (pv 1) (pe_call GD hr rfl gD D.kp (bD D) .nil pass0 (pa_cons (pv 0) (pa_cons (pe_callB call_len_str (by rfl) gL PySem.boot_len (pa_cons (pv 1) pa_nil)) pa_nil))) (fun _ _ => rfl))))), ?_⟩
  obtain ⟨p, a0, a1, ns, ms, n, rfl, h, hn, q⟩ := h
  refine ⟨_, rfl, _, rfl, _, rfl, _, rfl, by decide +kernel, p, a0, a1, ns, ms, n, _, rfl, h, by omega, by decide +kernel, by decide +kernel, fun H' b0 ns' r h1 k1 k2 k3 r0 r1 => ?_⟩
  obtain ⟨c, hc⟩ := atI_lt _ r0 r1
  exact ⟨_, _, c, rfl, rfl, by decide +kernel, hc, q H' c ⟨b0, ns', h1, k2, k3, k1⟩⟩
end
end K01

namespace K01
open PySem PySem.Spec PyProof.Rows L2
theorem joinL0 : ∀ l : List (List Nat), TL.joinL [] l = l.flatten
  | [] => rfl
  | [a] => by simp [TL.joinL]
  | a :: b :: r => by
    have := joinL0 (b :: r)
    simp only [TL.joinL, List.nil_append, List.append_nil] at this ⊢
    rw [this]; simp
theorem join_len (ys : List Str) (h : ∀ y ∈ ys, y.length = 1) : (Txt.join "" ys).length = ys.length := by
  have e : (Txt.join "" ys).cps.toList = (ys.map TL.tl).flatten := by
    rw [TL.join_eq]
    have := TL.tl_join "" ys
    rw [show TL.tl "" = [] from rfl, joinL0] at this
    exact this
  have e2 := congrArg List.length e
  have e3 : ∀ ys : List Str, (∀ y ∈ ys, y.length = 1) → ((ys.map TL.tl).flatten).length = ys.length := fun ys => by
    induction ys with
    | nil => intro _; rfl
    | cons y r ih =>
      intro h
      rw [List.map_cons, List.flatten_cons, List.length_append, ih (fun z hz => h z (by simp [hz]))]
      have := h y (by simp)
      have e4 : (TL.tl y).length = y.length := by show y.cps.toList.length = _; simp [Str.length]
      rw [e4, this, List.length_cons]; omega
  rw [e3 ys h] at e2
  simpa [Str.length] using e2
theorem sum_len (ys : List Str) (h : ∀ y ∈ ys, y.length = 1) : (ys.map (·.length)).sum = ys.length := by
  induction ys with
  | nil => rfl
  | cons y r ih => rw [List.map_cons, List.sum_cons, ih (fun z hz => h z (by simp [hz])), h y (by simp), List.length_cons]; omega
theorem len_app (a b : Str) : (a ++ b).length = a.length + b.length := by show (a.cps ++ b.cps).size = a.cps.size + b.cps.size; simp
theorem cutS_len (z : Str) (a b : Option Int) : (cutS z a b).length ≤ z.length := by
  unfold cutS
  simp only [Str.length, List.size_toArray, List.length_take, List.length_drop, Array.length_toList]
  omega
theorem DrF.free {H H2 : Hp} {p a0 a1 c0 D : Addr} {ns ms ns2 : List Int} {n k : Int} (h : StO H p a0 a1 ns ms n) (h2 : StO H2 p c0 a1 ns2 ms k) (g : DrF H p a0 H2 c0) (hD : H2 D = none) : H D = none := by
  cases e : H D with
  | none => rfl
  | some o =>
    exfalso
    by_cases h1 : D = p
    · rw [h1, h2.h] at hD; cases hD
    by_cases h3 : D = a0
    · exact g.g (h3 ▸ hD)
    · have := g.k D h1 h3 (by rw [e]; simp)
      rw [hD, e] at this; cases this
/-- one-sign texts, made by draws -/
structure PvC (H : Hp) (p a0 a1 D : Addr) (ms : List Int) (k : Int) (i : Nat) (H1 : Hp) (b0 : Addr) (ns : List Int) (ys : List Str) : Prop where
  s : StO H1 p b0 a1 ns ms (k + i)
  f : DrF H p a0 H1 b0
  d0 : D ≠ b0
  d1 : D ≠ p
  d2 : D ≠ a1
  dn : H D = none
  at_ : H1 D = some (.lst (ys.map V.str))
  len : ys.length = i
  one : ∀ y ∈ ys, y.length = 1
section
variable {H H1 H2 H3 : Hp} {p a0 a1 b0 c0 D : Addr} {ns ms ns2 ns3 : List Int} {n k : Int} {i : Nat} {ys : List Str}
theorem PvC.start (h : StO H p a0 a1 ns ms n) (h2 : StO H2 p c0 a1 ns2 ms k) (g : DrF H p a0 H2 c0) (hD : H2 D = none) : PvC H p a0 a1 D ms k 0 (upd H2 D (.lst [])) c0 ns2 [] := by
  have dn := g.free h h2 hD
  have d1 : D ≠ p := fun z => by rw [z, h2.h] at hD; cases hD
  have d0 : D ≠ c0 := fun z => by rw [z, h2.h0] at hD; cases hD
  have d2 : D ≠ a1 := fun z => by rw [z, h2.h1] at hD; cases hD
  exact ⟨by simpa using h2.setD d1 d0 d2, g.setD dn, d0, d1, d2, dn, upd_same, rfl, by simp⟩
theorem PvC.at2 (q : PvC H p a0 a1 D ms k i H1 b0 ns ys) (g : DrF H1 p b0 H3 c0) : H3 D = some (.lst (ys.map V.str)) := by
  rw [g.k D q.d1 q.d0 (by rw [q.at_]; simp)]; exact q.at_
theorem PvC.step (h : StO H p a0 a1 ns2 ms n) (q : PvC H p a0 a1 D ms k i H1 b0 ns ys) (h3 : StO H3 p c0 a1 ns3 ms (k + i + 1)) (g : DrF H1 p b0 H3 c0) {y : Str} (hy : y.length = 1) :
    PvC H p a0 a1 D ms k (i + 1) (upd H3 D (.lst (ys.map V.str ++ [.str y]))) c0 ns3 (ys ++ [y]) := by
  have d0 : D ≠ c0 := fun z => by
    rcases g.a with e | e
    · exact q.d0 (z.trans e)
    · rw [← z, q.at_] at e; cases e
  refine ⟨?_, (DrF.trans h q.f q.s g).setD q.dn, d0, q.d1, q.d2, q.dn, by rw [upd_same, List.map_append]; rfl, by simp [q.len], fun z hz => ?_⟩
  · have : k + ((i + 1 : Nat) : Int) = k + i + 1 := by omega
    rw [this]
    exact h3.setD q.d1 d0 q.d2
  · rcases List.mem_append.mp hz with hz | hz
    · exact q.one z hz
    · simp at hz; rw [hz]; exact hy
end
def small : Str := "abcdefghijklmnopqrstuvwxyz0123456789"
abbrev nText : List Str := ["_law_state", "_law_plan", "_law_small", "_law_word", "_law_place", "_law_char_here", "_law_k"]
theorem scT : FnScope nText ["_law_state"] (defScope sText) := ⟨rfl, rfl, rfl, by decide +kernel, rfl, by decide +kernel, by decide +kernel⟩
def spText : Sp := fun vs H Q _ => ∃ (p a0 a1 : Addr) (ns ms : List Int) (n : Int), vs = [.ref p] ∧ StO H p a0 a1 ns ms n ∧ n < 2 ^ 39 ∧ ∀ H' z k, n ≤ k → k ≤ n + 100 → z.length ≤ 100 → DrQ H p a0 a1 ms k H' → Q (.str z) H'
section
variable {P : Program} {w : World} {K : PySem.W.Frag} {mg : Str → Option Value} {base : Heap} {f fD fC : Addr} {fd fdD fdC : FuncData}
theorem ok_text (F : FnP K "_law_text" sText f fd) (D : FnP K "_law_draw" sDraw fD fdD) (C : FnP K "_law_char" sChar fC fdC) (gD : mg "_law_draw" = some (.ref fD)) (gC : mg "_law_char" = some (.ref fC)) (gI : mg "int" = none) (gL : mg "len" = none) (gR : mg "range" = none) :
    FnOk P w K mg base CX0 3 f fd ["_law_state"] spText := by
  have GD : FnOk P w K mg base CX0 1 fD fdD ["_law_state", "_law_size"] spDraw := ok_draw D gI gL
  have GC : FnOk P w K mg base CX0 2 fC fdC ["_law_state"] spChar := ok_char C D gD gI gL
  refine F.ok scT (fun vs H Q E h => ?_) (fun cdv A outer s H vs Q E hr h => ?_)
  · obtain ⟨p, a0, a1, ns, ms, n, rfl, _⟩ := h; rfl
  have nd := scT.nd
  have hr1 := hr.mono (show 1 ≤ 2 by decide)
  refine ⟨_, PSs.nox (pss_cons (ps_set (i := 1) nd rfl (Or.inl rfl) (pe_call GD hr1 rfl gD D.kp (bD D) .nil pass0 (pa_cons (pv 0) (pa_cons pe_int pa_nil))))
    (pss_cons (ps_if (pt_cmpR op_eq (pv 1) pe_int (nomark _))
      (pss_one (ps_ret (pe_join pe_str (pe_lc (own := [("_law_k", 6)]) (g := gName 6) (tt := tYes) rfl nd (pi_range1 (by rfl) gR (pa_cons (pe_call GD hr1 rfl gD D.kp (bD D) .nil pass0 (pa_cons (pv 0) (pa_cons pe_int pa_nil))) pa_nil)) (blkOk_by (N := nText) (sc := defScope sText) (by decide +kernel))
        (fun _ _ _ _ _ => pg_name (i := 6) nd rfl (Or.inl rfl)) (fun _ _ _ _ _ => pts_nil) (fun _ _ _ _ _ => pe_call GC hr rfl gC C.kp (bC C) .nil pass0 (pa_cons (pv 0) pa_nil)))))) pss_nil)
    (pss_cons (ps_set (i := 2) nd rfl (Or.inr rfl) pe_str)
    (pss_cons (ps_set (i := 3) nd rfl (Or.inl rfl) (pe_op op_add_str (pe_ix ix_str (pv 2) (pe_call GD hr1 rfl gD D.kp (bD D) .nil pass0 (pa_cons (pv 0) (pa_cons pe_int pa_nil))) (fun _ _ => rfl))
      (pe_join pe_str (pe_lc (own := [("_law_k", 6)]) (g := gName 6) (tt := tYes) rfl nd (pi_range1 (by rfl) gR (pa_cons (pe_call GD hr1 rfl gD D.kp (bD D) .nil pass0 (pa_cons (pv 0) (pa_cons pe_int pa_nil))) pa_nil)) (blkOk_by (N := nText) (sc := defScope sText) (by decide +kernel))
        (fun _ _ _ _ _ => pg_name (i := 6) nd rfl (Or.inl rfl)) (fun _ _ _ _ _ => pts_nil) (fun _ _ _ _ _ => pe_ix ix_str (pv 2) (pe_call GD hr1 rfl gD D.kp (bD D) .nil pass0 (pa_cons (pv 0) (pa_cons pe_int pa_nil))) (fun _ _ => rfl))))))
    (pss_cons (ps_if (pt_cmpR op_eq (pv 1) pe_int (nomark _)) (pss_one (ps_ret (pv 3))) pss_nil)
    (pss_cons (ps_set (i := 4) nd rfl (Or.inl rfl) (pe_call GD hr1 rfl gD D.kp (bD D) .nil pass0 (pa_cons (pv 0) (pa_cons (pe_op op_add (pe_callB call_len_str (by rfl) gL PySem.boot_len (pa_cons (pv 3) pa_nil)) pe_int) pa_nil))))
    (pss_cons (ps_set (i := 5) nd rfl (Or.inl rfl) (pe_call GC hr rfl gC C.kp (bC C) .nil pass0 (pa_cons (pv 0) pa_nil)))
    (pss_cons (ps_if (pt_cmpR op_eq (pv 1) pe_int (nomark _)) (pss_one (ps_ret (pe_op op_add_str (pe_op op_add_str (pe_slice sl_str (pv 3) po_none (po_some (pv 4))) (pv 5)) (pe_slice sl_str (pv 3) (po_some (pv 4)) po_none)))) pss_nil)
    (pss_one (ps_ret (pe_op op_add_str (pe_op op_add_str (pe_slice sl_str (pv 3) po_none (po_some (pv 4)))
      (pe_ix ix_list (pe_lst (pa_cons pe_str (pa_cons (pv 5) pa_nil))) (pe_call GD hr1 rfl gD D.kp (bD D) .nil pass0 (pa_cons (pv 0) (pa_cons pe_int pa_nil))) (fun _ _ => rfl)))
      (pe_slice sl_str (pv 3) (po_some (pe_op op_add (pv 4) pe_int)) po_none)))))))))))), ?_⟩
  obtain ⟨p, a0, a1, ns, ms, n, rfl, h, hn, q⟩ := h
  refine ⟨_, rfl, p, a0, a1, ns, ms, n, 4, rfl, h, by omega, by decide, by decide, fun H1 b0 ns1 r h1 k1 k2 k3 r0 r1 => ?_⟩
  have g1 : DrF H p a0 H1 b0 := ⟨k2, k3, k1⟩
  clear k1 k2 k3
  refine ⟨_, rfl, rfl, _, rfl, ite2 (fun _ => ?_) (fun _ => ?_)⟩
  · refine ⟨⟨_, rfl⟩, _, rfl, p, b0, a1, ns1, ms, n + 1, 9, rfl, h1, by omega, by decide, by decide, fun H2 c0 ns2 r2 h2 k1 k2 k3 s0 s1 => ?_⟩
    have g2 : DrF H p a0 H2 c0 := DrF.trans h g1 h1 ⟨k2, k3, k1⟩
    refine ⟨r2, rfl, by omega, by omega, fun D hD => ?_⟩
    refine lc_range (lo := 0) (n := r2.toNat) (fun i H3 => ∃ d0 ns3 ys, PvC H p a0 a1 D ms (n + 1 + 1) i H3 d0 ns3 ys) ⟨_, _, _, PvC.start h h2 g2 hD⟩ ?_ ?_
    · rintro i H3 hi ⟨d0, ns3, ys, pv⟩
      refine ⟨rfl, ibT (B := ∃ d0 ns3 ys, PvC H p a0 a1 D ms (n + 1 + 1) (i + 1) H3 d0 ns3 ys) rfl ?_⟩
      refine ⟨_, rfl, p, d0, a1, ns3, ms, _, rfl, pv.s, by omega, fun H4 c ⟨e0, ns4, h4, g4⟩ => ⟨_, pv.at2 g4, ?_, _, _, _, PvC.step h pv h4 g4 rfl⟩⟩
      have : i < sizeLine := Nat.lt_of_lt_of_le (show i < 9 by omega) (by decide)
      simpa [pv.len] using this
    · rintro H3 ⟨d0, ns3, ys, pv⟩
      refine ⟨"", D, ys, rfl, rfl, .inl (SqL.of pv.at_), ?_, ?_⟩
      · rw [sum_len ys pv.one, pv.len]
        show r2.toNat + r2.toNat * 0 ≤ 16777216
        omega
      · refine q _ _ (n + 1 + 1 + (r2.toNat : Nat)) (by omega) (by omega) ?_ ⟨d0, ns3, pv.s, pv.f⟩
        rw [join_len ys pv.one, pv.len]; omega
  · refine ⟨_, rfl, _, rfl, p, b0, a1, ns1, ms, n + 1, 26, rfl, h1, by omega, by decide, by decide, fun H2 c0 ns2 r2 h2 k1 k2 k3 s0 s1 => ?_⟩
    have g2 : DrF H p a0 H2 c0 := DrF.trans h g1 h1 ⟨k2, k3, k1⟩
    clear k1 k2 k3
    obtain ⟨c, hc⟩ := atI_lt small.cps.toList s0 (by show r2 < 36; omega)
    refine ⟨small, r2, c, rfl, rfl, by decide +kernel, hc, ⟨_, rfl⟩, ?_⟩
    refine ⟨_, rfl, p, c0, a1, ns2, ms, n + 1 + 1, 7, rfl, h2, by omega, by decide, by decide, fun H3 d0 ns3 r3 h3 k1 k2 k3 t0 t1 => ?_⟩
    have g3 : DrF H p a0 H3 d0 := DrF.trans h g2 h2 ⟨k2, k3, k1⟩
    clear k1 k2 k3
    refine ⟨r3, rfl, by omega, by omega, fun D hD => ?_⟩
    refine lc_range (lo := 0) (n := r3.toNat) (fun i H3 => ∃ d0 ns3 ys, PvC H p a0 a1 D ms (n + 1 + 1 + 1) i H3 d0 ns3 ys) ⟨_, _, _, PvC.start h h3 g3 hD⟩ ?_ ?_
    · rintro i H4 hi ⟨d0, ns4, ys, pv⟩
      refine ⟨rfl, ibT (B := ∃ d0 ns3 ys, PvC H p a0 a1 D ms (n + 1 + 1 + 1) (i + 1) H4 d0 ns3 ys) rfl ?_⟩
      refine ⟨_, rfl, _, rfl, p, d0, a1, ns4, ms, _, 36, rfl, pv.s, by omega, by decide, by decide, fun H5 e0 ns5 r5 h5 k1 k2 k3 u0 u1 => ?_⟩
      have g5 : DrF H4 p d0 H5 e0 := ⟨k2, k3, k1⟩
      obtain ⟨c5, hc5⟩ := atI_lt small.cps.toList u0 (by show r5 < 36; exact u1)
      refine ⟨small, r5, c5, rfl, rfl, by decide +kernel, hc5, _, pv.at2 g5, ?_, _, _, _, PvC.step h pv h5 g5 (y := ⟨#[c5]⟩) rfl⟩
      have : i < sizeLine := Nat.lt_of_lt_of_le (show i < 9 by omega) (by decide)
      simpa [pv.len] using this
    rintro H4 ⟨d0, ns4, ys, pv⟩
    refine ⟨"", D, ys, rfl, rfl, .inl (SqL.of pv.at_), ?_, ?_⟩
    · rw [sum_len ys pv.one, pv.len]
      show r3.toNat + r3.toNat * 0 ≤ 16777216
      omega
    have zl : (Txt.join "" ys).length = r3.toNat := (join_len ys pv.one).trans pv.len
    generalize Txt.join "" ys = z at zl ⊢
    have wl : ((⟨#[c]⟩ : Str) ++ z).length = 1 + r3.toNat := by rw [← zl]; exact len_app _ _
    refine ⟨_, _, rfl, rfl, ?_, ?_⟩
    · have : 1 + z.length ≤ sizeLine := Nat.le_trans (show 1 + z.length ≤ 100 by omega) (by decide)
      exact this
    generalize (⟨#[c]⟩ : Str) ++ z = wd at wl ⊢
    have h4 := pv.s
    have g4 := pv.f
    refine ⟨_, rfl, rfl, _, rfl, ite2 (fun _ => ?_) (fun _ => ?_)⟩
    · exact ⟨_, rfl, q _ _ (n + 1 + 1 + 1 + (r3.toNat : Nat)) (by omega) (by omega) (by omega) ⟨d0, ns4, h4, g4⟩⟩
    have sl : wd.length ≤ sizeLine := Nat.le_trans (show wd.length ≤ 100 by omega) (by decide)
    refine ⟨_, rfl, _, rfl, wd, rfl, sl, _, _, rfl, rfl, p, d0, a1, ns4, ms, _, _, rfl, h4, by omega, by omega, by omega, fun H5 e0 ns5 r5 h5 k1 k2 k3 u0 u1 => ?_⟩
    have g5 : DrF H p a0 H5 e0 := DrF.trans h g4 h4 ⟨k2, k3, k1⟩
    clear k1 k2 k3
    refine ⟨_, rfl, p, e0, a1, ns5, ms, _, rfl, h5, by omega, fun H6 c6 ⟨f0, ns6, h6, g6'⟩ => ?_⟩
    have g6 : DrF H p a0 H6 f0 := DrF.trans h g5 h5 g6'
    clear g6'
    refine ⟨_, rfl, rfl, _, rfl, ite2 (fun _ => ?_) (fun _ => ?_)⟩
    · have l1 := cutS_len wd none (some r5)
      have l2 := cutS_len wd (some r5) none
      have big : ∀ k, k ≤ 100 → k ≤ sizeLine := fun k hk => Nat.le_trans hk (by decide)
      refine ⟨_, rfl, _, rfl, r5, rfl, wd, rfl, sl, _, rfl, _, _, rfl, rfl, ?_, ?_⟩
      · exact big _ (show (cutS wd none (some r5)).length + 1 ≤ 100 by omega)
      have l3 : (cutS wd none (some r5) ++ (⟨#[c6]⟩ : Str)).length = (cutS wd none (some r5)).length + 1 := len_app _ _
      refine ⟨_, rfl, _, rfl, r5, rfl, wd, rfl, sl, _, _, rfl, rfl, big _ (by rw [l3]; omega), ?_⟩
      exact q _ _ (n + 1 + 1 + 1 + (r3.toNat : Nat) + 1 + 1) (by omega) (by omega) (by rw [len_app, l3]; omega) ⟨f0, ns6, h6, g6⟩
    · have l1 := cutS_len wd none (some r5)
      have l2 := cutS_len wd (some (r5 + 1)) none
      have big : ∀ k, k ≤ 100 → k ≤ sizeLine := fun k hk => Nat.le_trans hk (by decide)
      refine ⟨_, rfl, _, rfl, r5, rfl, wd, rfl, sl, _, rfl, (by decide : 2 ≤ sizeLine), fun l hl => ?_⟩
      have h7 := h6.new (o := .lst [.str "", .str ⟨#[c6]⟩]) hl
      have g7 := g6.new (o := .lst [.str "", .str ⟨#[c6]⟩]) hl
      refine ⟨_, rfl, p, f0, a1, ns6, ms, _, 2, rfl, h7, by omega, by decide, by decide, fun H8 e8 ns8 r8 h8 k1 k2 k3 u2 u3 => ?_⟩
      have g8 : DrF H p a0 H8 e8 := DrF.trans h g7 h7 ⟨k2, k3, k1⟩
      have e8 : H8 l = some (.lst [.str "", .str ⟨#[c6]⟩]) := by
        rw [k2 l (fun z => by rw [z, h6.h] at hl; cases hl) (fun z => by rw [z, h6.h0] at hl; cases hl) (by rw [upd_same]; simp), upd_same]
      obtain ⟨y, hy, yl⟩ : ∃ y : Str, atI [V.str "", V.str ⟨#[c6]⟩] r8 = some (.str y) ∧ y.length ≤ 1 := by
        have : r8 = 0 ∨ r8 = 1 := by omega
        rcases this with rfl | rfl
        · exact ⟨"", rfl, by decide⟩
        · exact ⟨⟨#[c6]⟩, rfl, Nat.le_refl _⟩
      refine ⟨l, _, r8, _, rfl, rfl, SqL.of e8, hy, _, _, rfl, rfl, ?_, ?_⟩
      · exact big _ (show (cutS wd none (some r5)).length + y.length ≤ 100 by omega)
      have l3 : (cutS wd none (some r5) ++ y).length = (cutS wd none (some r5)).length + y.length := len_app _ _
      refine ⟨_, rfl, _, rfl, _, _, rfl, rfl, r5 + 1, rfl, wd, rfl, sl, _, _, rfl, rfl, big _ (by rw [l3]; omega), ?_⟩
      exact q _ _ (n + 1 + 1 + 1 + (r3.toNat : Nat) + 1 + 1 + 1) (by omega) (by omega) (by rw [len_app, l3]; omega) ⟨_, ns8, h8, g8⟩
end
end K01

namespace K01
open PySem PySem.Spec PyProof.Rows L2
section
variable {X : Cx} {CX : CXT} {k : Nat} {f : Addr} {fd : FuncData} {ps ks : List Str} {sp : Sp} {E : XK} {x : Str} {p pos : Pos} {kws : List Keyword} {tk : TA} {g : List Value → List Value → List Value} {gV : List V → List V → List V}
/-- f(k = v, ..), no positional argument -/
theorem pe_callN0 (F : FnOk X.prog X.w X.K X.mg X.base CX k f fd ps sp) (hr : Room k X.A) (hg : Gl X x) (hm : X.mg x = some (.ref f)) (hk : PySem.W.keepIn X.K (.ref f) = true) (hb : KBn X.K fd ps 0 ks g gV) (hx : Passes CX X E)
    (hkw : PK X kws tk) (hall : (backToKw pos (keywordEach kws X.env)).all (·.1.isSome) = true := by rfl) (hks : (backToKw pos (keywordEach kws X.env)).filterMap (·.1) = ks := by rfl)
    (hdb : (x == ("__debug__" : Str)) = false := by decide)
    (hpl : ((backTo pos (starEach [] X.env)).any (·.1) || (backToKw pos (keywordEach kws X.env)).any (·.1.isNone)) = false := by rfl) :
    PE X (.Call (.Name x p) [] kws pos) (tCallN 0 ks.length sp gV E tNil tk) := by
  refine ⟨fun pins s σ H Q I h => ?_⟩
  refine wpAny_Call_Name_kw (ld_glob I hg hm ?_ hdb)
  refine PySem.W.callWith_KW0 (h₀ := X.base) I.ok.mod.kin hk hall ?_ hpl
  refine thn (hkw.run pos pins s σ H _ I h) fun ws s2 ⟨zs, H2, I2, rz, l1, l2, q2⟩ => ⟨I2.kIn, ?_⟩
  rw [hks]
  exact run_fnN (us := []) (vs := []) F hr hb hx I2 .nil rz rfl l2 q2
end
abbrev nLaw : List Str := ["_law_script", "_law_state", "_law_turn", "_law_wording", "_law_told"]
theorem scL : FnScope nLaw ["_law_script"] (defScope sLaw) := ⟨rfl, rfl, rfl, by decide +kernel, rfl, by decide +kernel, by decide +kernel⟩
def spLaw (K : PySem.W.Frag) : Sp := fun vs H Q _ => ∃ (a : Addr) (ns : List Int), vs = [.ref a] ∧ SqL K H a (ns.map .int) ∧ ns.length ≤ 63 ∧ ∀ H', Q (.bl true) H'
section
variable {P : Program} {w : World} {K : PySem.W.Frag} {mg : Str → Option Value} {base : Heap} {f f4 f6 f7 f8 f9 f10 : Addr} {fd fd4 fd6 fd7 fd8 fd9 fd10 : FuncData} {t1 t2 t3 : Tok}
theorem bV (F : FnP K "valid_name" sValid f fd) : Binds K fd ["text"] [] := F.bindsN fun _ _ _ _ _ _ us hl => match us, hl with | [_], _ => rfl
theorem bS (F : FnP K "_law_start" sStart f fd) : Binds K fd ["_law_script"] [] := F.bindsN fun _ _ _ _ _ _ us hl => match us, hl with | [_], _ => rfl
theorem bT (F : FnP K "_law_text" sText f fd) : Binds K fd ["_law_state"] [] := F.bindsN fun _ _ _ _ _ _ us hl => match us, hl with | [_], _ => rfl
theorem bDu (F : FnP K "_law_due" sDue f fd) : Binds K fd ["_law_word"] [] := F.bindsN fun _ _ _ _ _ _ us hl => match us, hl with | [_], _ => rfl
theorem kbV (F : FnP K "valid_name" sValid f fd) : KBn K fd ["text"] 0 ["text"] (fun _ ws => ws) (fun _ zs => zs) := by
  refine ⟨fun s us ws X hl hw => ?_, fun _ r => r⟩
  obtain ⟨oc, od, dV, kV, doc, pm, an, cdv, ct, osl, rfl, lk, hcd, hD, hK⟩ := F.ex
  match us, ws, hl, hw with
  | [], [u], _, _ => exact .of_eq (by rcases hD with ⟨_, rfl⟩ | ⟨e, _⟩; rfl; exact absurd rfl e)
theorem ok_law (F : FnP K "law" sLaw f fd) (F4 : FnP K "valid_name" sValid f4 fd4) (F6 : FnP K "_law_start" sStart f6 fd6) (F7 : FnP K "_law_draw" sDraw f7 fd7) (F8 : FnP K "_law_char" sChar f8 fd8) (F9 : FnP K "_law_text" sText f9 fd9) (F10 : FnP K "_law_due" sDue f10 fd10)
    (g4 : mg "valid_name" = some (.ref f4)) (g6 : mg "_law_start" = some (.ref f6)) (g7 : mg "_law_draw" = some (.ref f7)) (g8 : mg "_law_char" = some (.ref f8)) (g9 : mg "_law_text" = some (.ref f9)) (g10 : mg "_law_due" = some (.ref f10))
    (h1 : mg "LONGEST" = some (.int 6 t1)) (h2 : mg "LETTERS" = some (.str letters t2)) (h3 : mg "DIGITS" = some (.str digits t3))
    (gA : mg "abs" = none) (gLi : mg "list" = none) (gI : mg "int" = none) (gL : mg "len" = none) (gR : mg "range" = none) (gB : mg "bool" = none) (gIs : mg "isinstance" = none) :
    FnOk P w K mg base CX0 4 f fd ["_law_script"] (spLaw K) := by
  have G4 : FnOk P w K mg base CX0 1 f4 fd4 ["text"] spValid := ok_valid F4 gL h1 h2 h3
  have G6 : FnOk P w K mg base CX0 1 f6 fd6 ["_law_script"] (spStart K) := ok_start F6 gA gLi
  have G9 : FnOk P w K mg base CX0 3 f9 fd9 ["_law_state"] spText := ok_text F9 F7 F8 g7 g8 gI gL gR
  have G10 : FnOk P w K mg base CX0 1 f10 fd10 ["_law_word"] spDue := ok_due F10 gL
  refine F.ok scL (fun vs H Q E h => ?_) (fun cdv A outer s H vs Q E hr h => ?_)
  · obtain ⟨a, ns, rfl, _⟩ := h; rfl
  have nd := scL.nd
  have hr1 := hr.mono (show 1 ≤ 3 by decide)
  refine ⟨_, PSs.nox (pss_cons (ps_set (i := 1) nd rfl (Or.inl rfl) (pe_call G6 hr1 rfl g6 F6.kp (bS F6) .nil pass0 (pa_cons (pv 0) pa_nil)))
    (pss_cons (ps_for PassesOwn.never rfl (pi_range1 (by rfl) gR (pa_cons pe_int pa_nil)) (pg_name (i := 2) nd rfl (Or.inl rfl))
      (pss_cons (ps_set (i := 3) nd rfl (Or.inl rfl) (pe_call G9 hr rfl g9 F9.kp (bT F9) .nil pass0 (pa_cons (pv 1) pa_nil)))
      (pss_cons (ps_set (i := 4) nd rfl (Or.inl rfl) (pe_call G4 hr1 rfl g4 F4.kp (bV F4) .nil pass0 (pa_cons (pv 3) pa_nil)))
      (pss_one (ps_if (PW.pt (pw_or (pt_not (pt_val (pe_callB call_isi (by rfl) gIs (by decide +kernel) (pa_cons (pv 4) (pa_cons (pe_bltn (v := .ty "bool") (by rfl) gB (by decide +kernel) rfl) pa_nil)))))
        (pw_or (pt_cmpR op_ne (pv 4) (pe_call G10 hr1 rfl g10 F10.kp (bDu F10) .nil pass0 (pa_cons (pv 3) pa_nil)) (nomark _))
        (pw_or1 (pt_cmpR op_ne (pe_callN0 G4 hr1 rfl g4 F4.kp (kbV F4) pass0 (pk_cons (pv 3) pk_nil)) (pv 4) (nomark _)))))) (pss_one (ps_ret pe_bl)) pss_nil)))))
    (pss_one (ps_ret (pe_cmpR op_isBl (pe_call G4 hr1 rfl g4 F4.kp (bV F4) .nil pass0 (pa_cons pe_str pa_nil)) pe_bl (nomark _)))))), ?_⟩
  obtain ⟨a, ns, rfl, hs, hn, q⟩ := h
  refine ⟨_, rfl, a, ns, rfl, hs, hn, fun H1 p a0 a1 xs ms h0 _ _ _ _ => ?_⟩
  refine ⟨24, rfl, by decide, by decide, ?_⟩
  refine for_range (lo := 0) (n := 24) (fun i σ' H' => (∃ o2 o3 o4, σ' = [some (.ref a), some (.ref p), o2, o3, o4]) ∧ ∃ b0 ns' k, StO H' p b0 a1 ns' ms k ∧ k ≤ 100 * i) ⟨⟨_, _, _, rfl⟩, a0, xs, 0, h0, by decide⟩ ?_ ?_
  · rintro i σ' H2 hi ⟨⟨o2, o3, o4, rfl⟩, b0, ns', k, hk, kb⟩
    refine ⟨_, rfl, p, b0, a1, ns', ms, k, rfl, hk, by omega, fun H3 z k2 kl ku zl ⟨c0, ns3, h3', _⟩ => ?_⟩
    refine ⟨_, rfl, z, rfl, by omega, ?_⟩
    refine ⟨_, rfl, _, _, _, _, true, rfl, .ty "bool", .base (.bl _), kit_ty (by decide +kernel), _, rfl, ?_⟩
    refine ibF rfl ⟨_, rfl, _, rfl, z, rfl, by omega, fun H4 kp4 => ⟨rfl, _, rfl, ?_⟩⟩
    refine ibF (by simp) ⟨_, rfl, rfl, rfl, z, rfl, by omega, _, rfl, rfl, _, rfl, ?_⟩
    refine ibF (by simp) ⟨⟨_, _, _, rfl⟩, c0, ns3, k2, ?_, by omega⟩
    exact ⟨kp4 _ _ h3'.h, kp4 _ _ h3'.h0, kp4 _ _ h3'.h1, h3'.e, h3'.l, h3'.n0, h3'.d, h3'.l0⟩
  · rintro σ' H2 ⟨⟨o2, o3, o4, rfl⟩, _⟩
    refine ⟨"", rfl, by decide, nameB "", false, rfl, rfl, ?_⟩
    exact q _
end
end K01
namespace K01
open PySem PySem.Spec PyProof.Rows L2
def d0 : He.DefD := ⟨("valid_name", none), "valid_name", "valid_name", defArgs (top 4), defBody (top 4), defScope (top 4), [], []⟩
def d1 : He.DefD := ⟨("_law_start", none), "_law_start", "_law_start", defArgs (top 6), defBody (top 6), defScope (top 6), [], []⟩
def d2 : He.DefD := ⟨("_law_draw", none), "_law_draw", "_law_draw", defArgs (top 7), defBody (top 7), defScope (top 7), [], []⟩
def d3 : He.DefD := ⟨("_law_char", none), "_law_char", "_law_char", defArgs (top 8), defBody (top 8), defScope (top 8), [], []⟩
def d4 : He.DefD := ⟨("_law_text", none), "_law_text", "_law_text", defArgs (top 9), defBody (top 9), defScope (top 9), [], []⟩
def d5 : He.DefD := ⟨("_law_due", none), "_law_due", "_law_due", defArgs (top 10), defBody (top 10), defScope (top 10), [], []⟩
def d6 : He.DefD := ⟨("law", none), "law", "law", defArgs (top 11), defBody (top 11), defScope (top 11), [], []⟩
def fn : List He.DefD := [d0, d1, d2, d3, d4, d5, d6]
def fa : List He.Fa := [.glo "valid_name", .glo "_law_start", .glo "_law_draw", .glo "_law_char", .glo "_law_text", .glo "_law_due", .glo "law", .int "LONGEST" 6, .str "LETTERS" letters, .str "DIGITS" digits, .free "abs", .free "list", .free "int", .free "len", .free "range", .free "bool", .free "isinstance"]
def loose : List Str := ["__name__", "LETTERS", "DIGITS", "LONGEST", "valid_name", "_law_start", "_law_draw", "_law_char", "_law_text", "_law_due"]
abbrev R : PySem.W.OpenRow := PySem.W.OpenLaw.row PySem.Challenge.rw_wholemixes_k01_valid_names
abbrev hk : PySem.W.Hook := He.hookD 5 fa fn
def ob (s : PySem.W.SharedT) : He.AlD := He.obsDG 5 fa fn (HandSHeadRun.getT s)
theorem ob_eq (s : PySem.W.SharedT) : ob s = hk.obs s.abs := He.obsDG_eq (HandSHeadRun.getT_eq s)
theorem run (w : World) : HandSHeadRun.RunEq R (PySem.W.view R.prog [11]) hk ob 20000 loose w := by
  intro os
  kernel_rfl
theorem facts {P : Program} {w : World} {K : PySem.W.Frag} {h : Heap} {mg : Str → Option Value} {f : Addr} (X : K.In h) (G : h.Ns mainGlobals mg) (hfa : mg ("law" : Str) = some (.ref f)) (c : He.SaysD fa fn K) :
    ∃ fd : FuncData, (∀ (s : Shared) (v : Value), BindsTo s fd ⟨[v], []⟩ [("_law_script", v)]) ∧ ∀ base : Heap, K.In base → base.Ns mainGlobals mg → FnOk P w K mg base CX0 4 f fd ["_law_script"] (spLaw K) := by
  obtain ⟨fd0, F0⟩ := c.def_ 0 (d := d0) rfl
  obtain ⟨fd1, F1⟩ := c.def_ 1 (d := d1) rfl
  obtain ⟨fd2, F2⟩ := c.def_ 2 (d := d2) rfl
  obtain ⟨fd3, F3⟩ := c.def_ 3 (d := d3) rfl
  obtain ⟨fd4, F4⟩ := c.def_ 4 (d := d4) rfl
  obtain ⟨fd5, F5⟩ := c.def_ 5 (d := d5) rfl
  obtain ⟨fd6, F6⟩ := c.def_ 6 (d := d6) rfl
  have e := hfa.symm.trans (He.glo_ok X G (c.fact 6 (f := .glo "law") rfl))
  cases e
  obtain ⟨t1, h1⟩ := He.int_ok X G (c.fact 7 (f := .int "LONGEST" 6) rfl)
  obtain ⟨t2, h2⟩ := He.str_ok X G (c.fact 8 (f := .str "LETTERS" letters) rfl)
  obtain ⟨t3, h3⟩ := He.str_ok X G (c.fact 9 (f := .str "DIGITS" digits) rfl)
  have b := FunD.bindsA (ps := ["_law_script"]) F6 fun _ _ _ _ _ _ us hl => match us, hl with | [_], _ => rfl
  refine ⟨fd6, fun s v => b s [v] rfl, fun base _ _ => ok_law F6 F0 F1 F2 F3 F4 F5 (He.glo_ok X G (c.fact 0 (f := .glo "valid_name") rfl)) (He.glo_ok X G (c.fact 1 (f := .glo "_law_start") rfl)) (He.glo_ok X G (c.fact 2 (f := .glo "_law_draw") rfl)) (He.glo_ok X G (c.fact 3 (f := .glo "_law_char") rfl)) (He.glo_ok X G (c.fact 4 (f := .glo "_law_text") rfl)) (He.glo_ok X G (c.fact 5 (f := .glo "_law_due") rfl)) h1 h2 h3 (He.free_ok X G (c.fact 10 (f := .free "abs") rfl)) (He.free_ok X G (c.fact 11 (f := .free "list") rfl)) (He.free_ok X G (c.fact 12 (f := .free "int") rfl)) (He.free_ok X G (c.fact 13 (f := .free "len") rfl)) (He.free_ok X G (c.fact 14 (f := .free "range") rfl)) (He.free_ok X G (c.fact 15 (f := .free "bool") rfl)) (He.free_ok X G (c.fact 16 (f := .free "isinstance") rfl)) ⟩
end K01
open PySem PySem.W PySem.Calls PyProof.Rows
theorem PySem.Challenge.cw_wholemixes_k01_valid_names_holds : PySem.Challenge.rw_wholemixes_k01_valid_names.Holds := by
  w_on; o_law
  refine HandSHeadRun.head_any (r := OpenLaw.row PySem.Challenge.rw_wholemixes_k01_valid_names) (q := view (OpenLaw.row PySem.Challenge.rw_wholemixes_k01_valid_names).prog [11]) (H := K01.hk) (ob := K01.ob) (M := 20000) (loose := K01.loose) (d := HandSHeadRun.topDef (OpenLaw.row PySem.Challenge.rw_wholemixes_k01_valid_names).prog 11) (kwd := []) K01.ob_eq
    (by kernel_rfl) (fun s => by kernel_rfl) K01.run (by kernel_rfl) (by kernel_rfl) (by kernel_rfl) (by rfl) (by first | assumption | decide +kernel) (by decide +kernel) ⟨rfl, rfl, rfl, rfl, rfl, by decide +kernel⟩ ?hw ?hc
  case hw => w_witness2
  case hc =>
    refine L2.walk_ofE (l := PySem.Challenge.rw_wholemixes_k01_valid_names) (n := 63) (k := 4) (x := "_law_script") (CX := L2.CX0) rfl (by decide) (by kernel_rfl) ⟨rfl, by decide, by decide⟩ ?F (fun _ _ _ _ z => z)
    intro w mg fa h Y G hmg0
    obtain ⟨K, KX, c⟩ := Y
    have hmg : mg ("law" : PySem.Str) = some (.ref fa) := by
      have e : (HandSHeadRun.topDef (OpenLaw.row PySem.Challenge.rw_wholemixes_k01_valid_names).prog 11).name = ("law" : PySem.Str) := by kernel_rfl
      rw [← e]
      exact hmg0
    obtain ⟨fd, hb, hF⟩ := K01.facts (P := (PySem.Challenge.rw_wholemixes_k01_valid_names).prog) (w := w) KX G hmg c
    exact ⟨K, fd, K01.spLaw K, KX, hb, fun H a ns hl _ hS => ⟨a, ns, rfl, hS, hl, fun _ => rfl⟩, hF⟩
