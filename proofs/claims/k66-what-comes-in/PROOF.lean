import PyProof.Rows.All
import Wide.All
import OpenK.AllK
import Wide.FinOn
import PySem.Challenge.RW_endclimbs_k66_whole_what_comes_in
import KE.KExcSuper
import HandS.ForMost
import HandS.Exc
import HandS.TryOnly
import HandS.ExcInit
import HandS.ExcField
import HandS.Lambda
import HandS.EndTab
import HandS.HeadHook4
import HandS.HeadWalk
import HandS.Head2
import HandS.Defaults
import HandS.IsInst
import HandS.TupAny
import HandS.TupMul
import HandS.Wide
import HandS.Zip
import PyProof.ReprRoads
import KE.GoesNew
import KE.GoesEnum
import KE.GoesMore
import KE.GoesZip
import HandS.Style
import HandS.ExcOwn
set_option Elab.async false
set_option linter.all false
set_option maxRecDepth 100000
/-! E0: the text of the defs -/
namespace EC
open PySem PySem.Spec PyProof.Rows L2
abbrev prog : Program := PySem.Challenge.pw_endclimbs_k66_whole_what_comes_in
def topS (i : Nat) : Stmt := prog.main.body.getD i (.Pass ⟨0, 0, 0, 0⟩)
/-! ### a def of the top, under its name -/
structure Df (K : PySem.W.Frag) (mg : Str → Option Value) (x : Str) (i : Nat) (ps : List Str) : Prop where
  ex : ∃ (f : Addr) (fd : FuncData), FunD K x x (defArgs (topS i)) (defBody (topS i)) (defScope (topS i)) [] [] f fd ∧ mg x = some (.ref f) ∧ L2.Binds K fd ps []
section
variable {P : Program} {w : World} {K : PySem.W.Frag} {mg : Str → Option Value} {base : Heap}
theorem Df.cal {x : Str} {i k : Nat} {N ps : List Str} {sp : Sp} (D : Df K mg x i ps) (S : FnScope N ps (defScope (topS i))) (len : ∀ vs H Q E, sp vs H Q E → vs.length = ps.length)
    (hbody : ∀ (f : Addr) (cdv : Value) (A : Around) (outer : List Env) (s : Shared) (H : Hp) (vs : List V) (Q : VK) (E : XK), Room k (A.deeper (envOfC x (defScope (topS i)) s.heap.objs.size f cdv)) → sp vs H Q E →
      ∃ t, PSs (cxOf C8.CX0 P w K mg base N x (defScope (topS i)) f cdv A outer s H E).nox (defBody (topS i)) t ∧ t { nx := fun _ H' => Q .non H', rt := Q } (start N vs) H) : C8.Cal P w K mg base (k + 1) x sp [] := by
  obtain ⟨f, fd, F, hm, b⟩ := D.ex
  refine ⟨f, fd, ps, [], F.ok S len (fun cdv A outer s H vs Q E hr hsp => ?_), hm, F.kp, b, .nil⟩
  obtain ⟨t, h1, h2⟩ := hbody f cdv A outer s H vs Q E hr hsp
  exact ⟨t, h1.nox, h2⟩
end
/-! ### what the module's names hold -/
structure Txt (K : PySem.W.Frag) (mg : Str → Option Value) : Prop where
  gL : ∃ t, mg "LETTERS" = some (.str "abcdefghijklmnopqrstuvwxyz" t)
  z_isinstance : mg "isinstance" = none
  z_int : mg "int" = none
  z_bool : mg "bool" = none
  z_str : mg "str" = none
  z_tuple : mg "tuple" = none
  z_list : mg "list" = none
  z_len : mg "len" = none
  z_all : mg "all" = none
  z_zip : mg "zip" = none
  z_range : mg "range" = none
  z_min : mg "min" = none
  z_max : mg "max" = none
  z_repr : mg "repr" = none
/-! ### plain helpers -/
theorem same_upd {H : Hp} {p : Addr} {o : HO} (h : H p = none) : Same H (upd H p o) := fun b x e => by
  rw [upd_ne (ne_of_none e h)]
  exact e
theorem Same.none {H H' : Hp} (e : Same H H') {l : Addr} (h : H' l = Option.none) : H l = Option.none := e.free h
/-- the tuples stand -/
def Tups (H H' : Hp) : Prop := ∀ b xs, H b = some (.tup xs) → H' b = some (.tup xs)
theorem Tups.refl (H : Hp) : Tups H H := fun _ _ h => h
theorem Tups.trans {H H1 H2 : Hp} (a : Tups H H1) (b : Tups H1 H2) : Tups H H2 := fun c o h => b c o (a c o h)
theorem Same.tups {H H' : Hp} (e : Same H H') : Tups H H' := fun b xs h => e b _ h
end EC

set_option maxHeartbeats 4000000
/-! E1: is_integer, is_end, is_letter, is_range, is_name_of -/
namespace EC
open PySem PySem.Spec PyProof.Rows L2
/-! ### kinds of values -/
def intB : V → Bool
  | .int _ => true
  | _ => false
def scB : V → Bool
  | .non | .bl _ | .int _ | .str _ => true
  | _ => false
def endB (v : V) : Bool := decide (v = .non) || intB v
section
variable {P : Program} {w : World} {K : PySem.W.Frag} {mg : Str → Option Value} {base : Heap}
theorem isi_sc {H : Hp} {v : V} {n : String} (hs : scB v = true) : ∃ t : String, TyX K H v (.type t) ∧ (v = .non ∧ t = "NoneType" ∨ (∃ b, v = .bl b) ∧ t = "bool" ∨ (∃ i, v = .int i) ∧ t = "int" ∨ (∃ z, v = .str z) ∧ t = "str") := by
  cases v with
  | non => exact ⟨_, .base .non, .inl ⟨rfl, rfl⟩⟩
  | bl b => exact ⟨_, .base (.bl b), .inr (.inl ⟨⟨b, rfl⟩, rfl⟩)⟩
  | int i => exact ⟨_, .base (.int i), .inr (.inr (.inl ⟨⟨i, rfl⟩, rfl⟩))⟩
  | str z => exact ⟨_, .base (.str z), .inr (.inr (.inr ⟨⟨z, rfl⟩, rfl⟩))⟩
  | _ => cases hs
/-! ### is_integer -/
def spInt : Sp := fun vs H Q _ => ∃ v, vs = [v] ∧ scB v = true ∧ Q (.bl (intB v)) H
abbrev nm_is_integer : List Str := ["thing"]
theorem sc_is_integer : FnScope nm_is_integer ["thing"] (defScope (topS 5)) := ⟨rfl, rfl, rfl, by decide +kernel, rfl, by decide +kernel, by decide +kernel⟩
theorem c_is_integer (D : Df K mg "is_integer" 5 ["thing"]) (T : Txt K mg) : C8.Cal P w K mg base 1 "is_integer" spInt [] := by
  refine D.cal sc_is_integer (fun vs H Q E h => ?_) (fun f cdv A outer s H vs Q E hr h => ?_)
  · obtain ⟨v, rfl, _⟩ := h
    rfl
  · obtain ⟨v, rfl, hs, q⟩ := h
    refine ⟨_, (pss_one (ps_ret (pe_and (pe_callB call_isi (by rfl) T.z_isinstance (by decide +kernel) (pa_cons (pv 0) (pa_cons (pe_bltn (v := .ty "int") (by rfl) T.z_int (by decide +kernel) rfl) pa_nil))) (pe_one (pe_not (pe_callB call_isi (by rfl) T.z_isinstance (by decide +kernel) (pa_cons (pv 0) (pa_cons (pe_bltn (v := .ty "bool") (by rfl) T.z_bool (by decide +kernel) rfl) pa_nil)))))))), ?_⟩
    cases v with
    | non =>
      refine ⟨_, rfl, .non, .ty "int", _, _, false, rfl, .ty _, .base .non, kit_ty (by decide +kernel), false, rfl, ?_⟩
      exact iteF q
    | bl b =>
      refine ⟨_, rfl, .bl b, .ty "int", _, _, true, rfl, .ty _, .base (.bl b), kit_ty (by decide +kernel), true, rfl, ?_⟩
      refine iteT ⟨_, rfl, .bl b, .ty "bool", _, _, true, rfl, .ty _, .base (.bl b), kit_ty (by decide +kernel), true, rfl, q⟩
    | int i =>
      refine ⟨_, rfl, .int i, .ty "int", _, _, true, rfl, .ty _, .base (.int i), kit_ty (by decide +kernel), true, rfl, ?_⟩
      refine iteT ⟨_, rfl, .int i, .ty "bool", _, _, false, rfl, .ty _, .base (.int i), kit_ty (by decide +kernel), false, rfl, q⟩
    | str z =>
      refine ⟨_, rfl, .str z, .ty "int", _, _, false, rfl, .ty _, .base (.str z), kit_ty (by decide +kernel), false, rfl, ?_⟩
      exact iteF q
    | _ => cases hs
/-! ### is_end -/
def spEnd : Sp := fun vs H Q _ => ∃ v, vs = [v] ∧ scB v = true ∧ Q (.bl (endB v)) H
abbrev nm_is_end : List Str := ["thing"]
theorem sc_is_end : FnScope nm_is_end ["thing"] (defScope (topS 6)) := ⟨rfl, rfl, rfl, by decide +kernel, rfl, by decide +kernel, by decide +kernel⟩
theorem c_is_end (D : Df K mg "is_end" 6 ["thing"]) (T : Txt K mg) (c_is_integer : C8.Cal P w K mg base 1 "is_integer" spInt []) : C8.Cal P w K mg base 2 "is_end" spEnd [] := by
  refine D.cal sc_is_end (fun vs H Q E h => ?_) (fun f cdv A outer s H vs Q E hr h => ?_)
  · obtain ⟨v, rfl, _⟩ := h
    rfl
  · obtain ⟨v, rfl, hs, q⟩ := h
    refine ⟨_, (pss_one (ps_ret (pe_or (pe_cmp (pc_isN (pv 0))) (pe_one (C8.pe_c c_is_integer hr (by decide) (by rfl) (pa_cons (pv 0) pa_nil)))))), ?_⟩
    refine ⟨_, rfl, _, rfl, ite2 (fun e => ?_) (fun e => ?_)⟩
    · have e2 : endB v = true := by unfold endB; rw [e]; rfl
      rw [e2] at q
      exact q
    · refine ⟨v, rfl, v, rfl, hs, ?_⟩
      have e2 : endB v = intB v := by
        unfold endB
        cases hd : decide (v = V.non) with
        | true => exact absurd hd e
        | false => rfl
      rw [e2] at q
      exact q
/-! ### is_letter -/
def letters : Str := "abcdefghijklmnopqrstuvwxyz"
/-- what may be asked for as a name: a scalar, or a tracked tuple or list -/
def Odd (H : Hp) (v : V) : Prop := scB v = true ∨ ∃ a, v = .ref a ∧ ((∃ xs, H a = some (.tup xs)) ∨ ∃ xs, H a = some (.lst xs))
def letB : V → Bool
  | .str z => z.length == 1 && !(Builtin.Str.occurrences letters z 0 letters.length 1).isEmpty
  | _ => false
def strLen : V → Nat
  | .str z => z.length
  | _ => 0
def spLet : Sp := fun vs H Q _ => ∃ v, vs = [v] ∧ Odd H v ∧ strLen v ≤ 1000 ∧ Q (.bl (letB v)) H
abbrev nm_is_letter : List Str := ["thing"]
theorem sc_is_letter : FnScope nm_is_letter ["thing"] (defScope (topS 9)) := ⟨rfl, rfl, rfl, by decide +kernel, rfl, by decide +kernel, by decide +kernel⟩
theorem dec_len {n : Nat} : decide (V.int ((n : Nat) : Int) = V.int 1) = (n == 1) := by
  by_cases h : n = 1
  · subst h; rfl
  · have h1 : ¬ V.int ((n : Nat) : Int) = V.int 1 := fun e => h (by injection e with e; omega)
    rw [decide_eq_false h1]
    exact (beq_eq_false_iff_ne.mpr h).symm
theorem c_is_letter (D : Df K mg "is_letter" 9 ["thing"]) (T : Txt K mg) : C8.Cal P w K mg base 1 "is_letter" spLet [] := by
  refine D.cal sc_is_letter (fun vs H Q E h => ?_) (fun f cdv A outer s H vs Q E hr h => ?_)
  · obtain ⟨v, rfl, _⟩ := h
    rfl
  · obtain ⟨v, rfl, ho, hl, q⟩ := h
    obtain ⟨tL, gL⟩ := T.gL
    refine ⟨_, (pss_one (ps_ret (pe_and (pe_callB call_isi (by rfl) T.z_isinstance (by decide +kernel) (pa_cons (pv 0) (pa_cons (pe_bltn (v := .ty "str") (by rfl) T.z_str (by decide +kernel) rfl) pa_nil))) (pe_and (pe_cmpR op_eq (pe_callB call_len_str (by rfl) T.z_len (by decide +kernel) (pa_cons (pv 0) pa_nil)) pe_int (nomark _)) (pe_one (pe_cmpR op_in_str (pv 0) (pe_glob (v := .str letters) (by rfl) gL ⟨_, rfl⟩) rfl)))))), ?_⟩
    rcases ho with hs | ⟨a, rfl, ha⟩
    · cases v with
      | non => exact ⟨_, rfl, .non, .ty "str", _, _, false, rfl, .ty _, .base .non, kit_ty (by decide +kernel), false, rfl, iteF q⟩
      | bl b => exact ⟨_, rfl, .bl b, .ty "str", _, _, false, rfl, .ty _, .base (.bl b), kit_ty (by decide +kernel), false, rfl, iteF q⟩
      | int i => exact ⟨_, rfl, .int i, .ty "str", _, _, false, rfl, .ty _, .base (.int i), kit_ty (by decide +kernel), false, rfl, iteF q⟩
      | str z =>
        refine ⟨_, rfl, .str z, .ty "str", _, _, true, rfl, .ty _, .base (.str z), kit_ty (by decide +kernel), true, rfl, iteT ?_⟩
        refine ⟨.str z, rfl, z, rfl, Nat.le_of_lt (small1000 hl), rfl, _, rfl, ite2 (fun e => ?_) (fun e => ?_)⟩
        · rw [dec_len] at e
          have e2 : letB (.str z) = !(Builtin.Str.occurrences letters z 0 letters.length 1).isEmpty := by
            show (z.length == 1 && _) = _
            rw [e]; rfl
          rw [e2] at q
          exact ⟨.str z, rfl, z, letters, rfl, rfl, q⟩
        · rw [dec_len] at e
          have e3 : (z.length == 1) = false := by
            cases h : (z.length == 1) with
            | true => exact absurd h e
            | false => rfl
          have e2 : letB (.str z) = false := by
            show (z.length == 1 && _) = _
            rw [e3]; rfl
          rw [e2] at q
          exact q
      | _ => cases hs
    · rcases ha with ⟨xs, hx⟩ | ⟨xs, hx⟩
      · exact ⟨_, rfl, .ref a, .ty "str", _, _, false, rfl, .ty _, .base (.tup hx), kit_ty (by decide +kernel), false, rfl, iteF q⟩
      · exact ⟨_, rfl, .ref a, .ty "str", _, _, false, rfl, .ty _, .base (.lst hx), kit_ty (by decide +kernel), false, rfl, iteF q⟩
end
end EC

set_option maxHeartbeats 4000000
/-! E2: is_range, is_name_of, are_ranges_of -/
namespace EC
open PySem PySem.Spec PyProof.Rows L2
/-- what is_range is asked of -/
inductive Arg where
  | sc (v : V) | lst | tup (xs : List V)
def ArgAt (H : Hp) (v : V) : Arg → Prop
  | .sc u => v = u ∧ scB u = true
  | .lst => ∃ a xs, v = .ref a ∧ H a = some (.lst xs)
  | .tup xs => ∃ a, v = .ref a ∧ H a = some (.tup xs) ∧ ∀ x ∈ xs, scB x = true
def leB : V → V → Bool
  | .int i, .int j => decide (i ≤ j)
  | _, _ => true
def rngB : Arg → Bool
  | .tup [l, h] => endB l && endB h && leB l h
  | _ => false
theorem ArgAt.same {H H' : Hp} {v : V} {g : Arg} (e : Same H H') (h : ArgAt H v g) : ArgAt H' v g := by
  cases g with
  | sc u => exact h
  | lst =>
    obtain ⟨a, xs, e1, e2⟩ := h
    exact ⟨a, xs, e1, e _ _ e2⟩
  | tup xs =>
    obtain ⟨a, e1, e2, e3⟩ := h
    exact ⟨a, e1, e _ _ e2, e3⟩
theorem len_ne2 {n : Nat} : (!decide (V.int ((n : Nat) : Int) = V.int 2)) = !(n == 2) := by
  by_cases h : n = 2
  · subst h; rfl
  · have h1 : ¬ V.int ((n : Nat) : Int) = V.int 2 := fun e => h (by injection e with e; omega)
    rw [decide_eq_false h1, beq_eq_false_iff_ne.mpr h]
section
variable {P : Program} {w : World} {K : PySem.W.Frag} {mg : Str → Option Value} {base : Heap}
def spRange : Sp := fun vs H Q _ => ∃ v g, vs = [v] ∧ ArgAt H v g ∧ Q (.bl (rngB g)) H
abbrev nm_is_range : List Str := ["thing", "low", "high"]
theorem sc_is_range : FnScope nm_is_range ["thing"] (defScope (topS 10)) := ⟨rfl, rfl, rfl, by decide +kernel, rfl, by decide +kernel, by decide +kernel⟩
theorem c_is_range (D : Df K mg "is_range" 10 ["thing"]) (T : Txt K mg) (c_is_integer : C8.Cal P w K mg base 1 "is_integer" spInt []) (c_is_end : C8.Cal P w K mg base 2 "is_end" spEnd []) : C8.Cal P w K mg base 3 "is_range" spRange [] := by
  refine D.cal sc_is_range (fun vs H Q E h => ?_) (fun f cdv A outer s H vs Q E hr h => ?_)
  · obtain ⟨v, g, rfl, _⟩ := h
    rfl
  · obtain ⟨v, g, rfl, hg, q⟩ := h
    have nd := sc_is_range.nd
    refine ⟨_, (pss_cons (ps_if (PW.pt (pw_or (pt_not (pt_val (pe_callB call_isi (by rfl) T.z_isinstance (by decide +kernel) (pa_cons (pv 0) (pa_cons (pe_bltn (v := .ty "tuple") (by rfl) T.z_tuple (by decide +kernel) rfl) pa_nil))))) (pw_or1 (pt_cmpR op_ne (pe_callB call_len_seq (by rfl) T.z_len (by decide +kernel) (pa_cons (pv 0) pa_nil)) pe_int (nomark _)))))
(pss_one (ps_ret pe_bl))
pss_nil)
(pss_cons (ps_asg (pv 0) (pg_tup rfl (pgs_cons (pg_name (i := 1) nd rfl (.inl rfl)) (pgs_cons (pg_name (i := 2) nd rfl (.inl rfl)) pgs_nil))))
(pss_cons (ps_if (PW.pt (pw_or (PW.pt (pw_and (pt_cmp (pc_notN (pv 1))) (pw_and1 (pt_not (pt_val (C8.pe_c c_is_integer hr (by decide) (by rfl) (pa_cons (pv 1) pa_nil))))))) (pw_or1 (pt_not (pt_val (C8.pe_c c_is_end hr (by decide) (by rfl) (pa_cons (pv 2) pa_nil)))))))
(pss_one (ps_ret pe_bl))
pss_nil)
(pss_one (ps_ret (pe_or (pe_cmp (pc_isN (pv 1))) (pe_or (pe_cmp (pc_isN (pv 2))) (pe_one (pe_cmpR op_le (pv 1) (pv 2) (nomark _)))))))))), ?_⟩
    cases g with
    | sc u =>
      obtain ⟨rfl, hs⟩ := hg
      cases v with
      | non => exact ⟨_, rfl, .non, .ty "tuple", _, _, false, rfl, .ty _, .base .non, kit_ty (by decide +kernel), false, rfl, iteT (iteT q)⟩
      | bl b => exact ⟨_, rfl, .bl b, .ty "tuple", _, _, false, rfl, .ty _, .base (.bl b), kit_ty (by decide +kernel), false, rfl, iteT (iteT q)⟩
      | int b => exact ⟨_, rfl, .int b, .ty "tuple", _, _, false, rfl, .ty _, .base (.int b), kit_ty (by decide +kernel), false, rfl, iteT (iteT q)⟩
      | str b => exact ⟨_, rfl, .str b, .ty "tuple", _, _, false, rfl, .ty _, .base (.str b), kit_ty (by decide +kernel), false, rfl, iteT (iteT q)⟩
      | _ => cases hs
    | lst =>
      obtain ⟨a, xs, rfl, ha⟩ := hg
      exact ⟨_, rfl, .ref a, .ty "tuple", _, _, false, rfl, .ty _, .base (.lst ha), kit_ty (by decide +kernel), false, rfl, iteT (iteT q)⟩
    | tup xs =>
      obtain ⟨a, rfl, ha, hx⟩ := hg
      refine ⟨_, rfl, .ref a, .ty "tuple", _, _, true, rfl, .ty _, .base (.tup ha), kit_ty (by decide +kernel), true, rfl, iteF ?_⟩
      refine ⟨.ref a, rfl, a, xs, rfl, .inr (SqT.of ha), rfl, _, rfl, ?_⟩
      rw [len_ne2]
      by_cases h2 : xs.length = 2
      · rw [beq_iff_eq.mpr h2]
        refine iteF ?_
        obtain ⟨l, h, rfl⟩ : ∃ l h, xs = [l, h] := by
          match xs, h2 with
          | [l, h], _ => exact ⟨l, h, rfl⟩
        have hl : scB l = true := hx l (by simp)
        have hh : scB h = true := hx h (by simp)
        refine ⟨.ref a, rfl, a, [l, h], rfl, SqT.of ha, rfl, l, [h], rfl, h, [], rfl, rfl, ?_⟩
        -- behind the first part of the test: is_end(high)
        have tail : endB l = true → ∀ (b : Bool), b = false → (if b = true then ((fun b H1 => if b = true then Q (.bl false) H1 else (tRet (tOrV (tIsN (tVar 1)) (tOrV (tIsN (tVar 2)) (tOp (rI0 fun i j => .bl (decide (i ≤ j))) (tVar 1) (tVar 2))))) { nx := fun _ H' => Q .non H', rt := Q } [some (.ref a), some l, some h] H1) true H) else (tNot (tB (tCall spEnd [] C8.E0 (tCons (tVar 2) tNil)))) [some (.ref a), some l, some h] H (fun b H1 => if b = true then Q (.bl false) H1 else (tRet (tOrV (tIsN (tVar 1)) (tOrV (tIsN (tVar 2)) (tOp (rI0 fun i j => .bl (decide (i ≤ j))) (tVar 1) (tVar 2))))) { nx := fun _ H' => Q .non H', rt := Q } [some (.ref a), some l, some h] H1)) := by
          intro el b eb
          rw [eb]
          refine iteF ⟨h, rfl, h, rfl, hh, endB h, rfl, ?_⟩
          cases eh : endB h with
          | false =>
            refine iteT ?_
            have e2 : rngB (.tup [l, h]) = false := by
              show (endB l && endB h && leB l h) = false
              rw [eh, Bool.and_false, Bool.false_and]
            rw [e2] at q
            exact q
          | true =>
            refine iteF ?_
            have e2 : rngB (.tup [l, h]) = leB l h := by
              show (endB l && endB h && leB l h) = _
              rw [el, eh]; rfl
            rw [e2] at q
            refine ⟨l, rfl, _, rfl, ite2 (fun e => ?_) (fun e => ?_)⟩
            · have el2 : l = .non := of_decide_eq_true e
              subst el2
              exact q
            · refine ⟨h, rfl, _, rfl, ite2 (fun e' => ?_) (fun e' => ?_)⟩
              · have eh2 : h = .non := of_decide_eq_true e'
                subst eh2
                cases l <;> exact q
              · cases l with
                | int i =>
                  cases h with
                  | int j => exact ⟨_, rfl, _, rfl, i, j, rfl, rfl, q⟩
                  | non => exact absurd (decide_eq_true rfl) e'
                  | _ => cases eh
                | non => exact absurd (decide_eq_true rfl) e
                | _ => cases el
        refine ⟨l, rfl, _, rfl, ite2 (fun e => ?_) (fun e => ?_)⟩
        · refine ⟨l, rfl, l, rfl, hl, intB l, rfl, ?_⟩
          cases ei : intB l with
          | true => exact tail (by unfold endB; rw [ei, Bool.or_true]) _ rfl
          | false =>
            refine iteT (iteT ?_)
            have en : decide (l = .non) = false := by
              cases hd : decide (l = V.non) with
              | true =>
                rw [hd] at e
                cases e
              | false => rfl
            have e2 : rngB (.tup [l, h]) = false := by
              show (endB l && endB h && leB l h) = false
              unfold endB
              rw [ei, en]; rfl
            rw [e2] at q
            exact q
        · have en : decide (l = .non) = true := by
            cases hd : decide (l = V.non) with
            | true => rfl
            | false =>
              rw [hd] at e
              exact absurd rfl e
          exact tail (by unfold endB; rw [en]; rfl) _ rfl
      · rw [beq_eq_false_iff_ne.mpr h2]
        refine iteT ?_
        have e2 : rngB (.tup xs) = false := by
          match xs, h2 with
          | [], _ => rfl
          | [_], _ => rfl
          | [_, _], h2 => exact absurd rfl h2
          | _ :: _ :: _ :: _, _ => rfl
        rw [e2] at q
        exact q
end
end EC

set_option maxHeartbeats 4000000
/-! E3: is_name_of, are_ranges_of -/
namespace EC
open PySem PySem.Spec PyProof.Rows L2
/-- the head of a name program: its names -/
def PrgHd (H : Hp) (v : V) (names : Str) : Prop := ∃ a st, v = .ref a ∧ H a = some (.tup [.str names, st])
theorem PrgHd.same {H H' : Hp} {v : V} {n : Str} (e : Same H H') (h : PrgHd H v n) : PrgHd H' v n := by
  obtain ⟨a, st, e1, e2⟩ := h
  exact ⟨a, st, e1, e _ _ e2⟩
def inB (names : Str) : V → Bool
  | .str z => !(Builtin.Str.occurrences names z 0 names.length 1).isEmpty
  | _ => false
/-- what are_ranges_of is asked of -/
inductive Arg2 where
  | sc (v : V) | lst | tup (gs : List Arg)
def Arg2At (H : Hp) (v : V) : Arg2 → Prop
  | .sc u => v = u ∧ scB u = true
  | .lst => ∃ a xs, v = .ref a ∧ H a = some (.lst xs)
  | .tup gs => ∃ a xs, v = .ref a ∧ H a = some (.tup xs) ∧ Paired (fun x g => ArgAt H x g) xs gs
def nonB : Arg → Bool
  | .sc .non => true
  | _ => false
def okG (g : Arg) : Bool := nonB g || rngB g
def rngsB (n : Nat) : Arg2 → Bool
  | .tup gs => gs.length == n && gs.all okG
  | _ => false
theorem paired_imp {α β : Type} {F G : α → β → Prop} : ∀ {l : List α} {m : List β}, Paired F l m → (∀ a b, F a b → G a b) → Paired G l m := fun h k => Paired.mapP h k
theorem Arg2At.same {H H' : Hp} {v : V} {g : Arg2} (e : Same H H') (h : Arg2At H v g) : Arg2At H' v g := by
  cases g with
  | sc u => exact h
  | lst =>
    obtain ⟨a, xs, e1, e2⟩ := h
    exact ⟨a, xs, e1, e _ _ e2⟩
  | tup gs =>
    obtain ⟨a, xs, e1, e2, e3⟩ := h
    exact ⟨a, xs, e1, e _ _ e2, paired_imp e3 fun x g q => q.same e⟩
theorem paired_at {α β : Type} {F : α → β → Prop} : ∀ {l : List α} {m : List β}, Paired F l m → ∀ {i : Nat} {x : α}, l[i]? = some x → ∃ y, m[i]? = some y ∧ F x y
  | _, _, .nil, i, x, h => by simp at h
  | _, _, .cons r t, 0, x, h => by
    simp at h
    subst h
    exact ⟨_, rfl, r⟩
  | _, _, .cons r t, i + 1, x, h => by
    obtain ⟨y, h1, h2⟩ := paired_at t (i := i) (x := x) (by simpa using h)
    exact ⟨y, by simpa using h1, h2⟩
theorem paired_len {α β : Type} {F : α → β → Prop} {l : List α} {m : List β} (h : Paired F l m) : l.length = m.length := Paired.length h
theorem non_iff {H : Hp} {x : V} {g : Arg} (h : ArgAt H x g) : decide (x = .non) = nonB g := by
  cases g with
  | sc u =>
    obtain ⟨rfl, hs⟩ := h
    cases x <;> first | rfl | cases hs
  | lst =>
    obtain ⟨a, xs, rfl, _⟩ := h
    rfl
  | tup xs =>
    obtain ⟨a, rfl, _⟩ := h
    rfl
theorem take_more {α : Type} {l : List α} {i : Nat} {x : α} (h : l[i]? = some x) : l.take (i + 1) = l.take i ++ [x] := by
  rw [List.take_add_one, h]
  rfl
theorem len_ne {m n : Nat} : (!decide (V.int ((m : Nat) : Int) = V.int ((n : Nat) : Int))) = !(m == n) := by
  by_cases h : m = n
  · subst h
    rw [decide_eq_true rfl, beq_self_eq_true]
  · have h1 : ¬ V.int ((m : Nat) : Int) = V.int ((n : Nat) : Int) := fun e => h (by injection e with e; omega)
    rw [decide_eq_false h1, beq_eq_false_iff_ne.mpr h]
section
variable {P : Program} {w : World} {K : PySem.W.Frag} {mg : Str → Option Value} {base : Heap}
/-! ### is_name_of -/
def spNameOf : Sp := fun vs H Q _ => ∃ pv v names, vs = [pv, v] ∧ PrgHd H pv names ∧ Odd H v ∧ strLen v ≤ 1000 ∧ Q (.bl (letB v && inB names v)) H
abbrev nm_is_name_of : List Str := ["program", "thing"]
theorem sc_is_name_of : FnScope nm_is_name_of ["program", "thing"] (defScope (topS 11)) := ⟨rfl, rfl, rfl, by decide +kernel, rfl, by decide +kernel, by decide +kernel⟩
theorem c_is_name_of (D : Df K mg "is_name_of" 11 ["program", "thing"]) (T : Txt K mg) (c_is_letter : C8.Cal P w K mg base 1 "is_letter" spLet []) : C8.Cal P w K mg base 2 "is_name_of" spNameOf [] := by
  refine D.cal sc_is_name_of (fun vs H Q E h => ?_) (fun f cdv A outer s H vs Q E hr h => ?_)
  · obtain ⟨pv, v, names, rfl, _⟩ := h
    rfl
  · obtain ⟨p, v, names, rfl, hp, ho, hl, q⟩ := h
    obtain ⟨a, st, rfl, ha⟩ := hp
    refine ⟨_, (pss_one (ps_ret (pe_and (C8.pe_c c_is_letter hr (by decide) (by rfl) (pa_cons (pv 1) pa_nil)) (pe_one (pe_cmpR op_in_str (pv 1) (pe_ix ix_tup (pv 0) pe_int (fun _ _ => rfl)) rfl))))), ?_⟩
    refine ⟨v, rfl, v, rfl, ho, hl, letB v, rfl, ?_⟩
    cases hb : letB v with
    | false =>
      rw [hb] at q
      exact iteF q
    | true =>
      rw [hb] at q
      obtain ⟨z, rfl⟩ : ∃ z, v = .str z := by
        cases v with
        | str z => exact ⟨z, rfl⟩
        | _ => cases hb
      refine iteT ⟨.str z, rfl, .ref a, rfl, a, _, 0, .str names, rfl, rfl, SqT.of ha, atI_nat (j := 0) rfl, z, names, rfl, rfl, q⟩
/-! ### are_ranges_of -/
def spRanges : Sp := fun vs H Q _ => ∃ pv v names g, vs = [pv, v] ∧ PrgHd H pv names ∧ names.length ≤ 1000 ∧ Arg2At H v g ∧ ∀ H', Same H H' → Q (.bl (rngsB names.length g)) H'
abbrev nm_are_ranges_of : List Str := ["program", "thing", "one"]
theorem sc_are_ranges_of : FnScope nm_are_ranges_of ["program", "thing"] (defScope (topS 12)) := ⟨rfl, rfl, rfl, by decide +kernel, rfl, by decide +kernel, by decide +kernel⟩
theorem c_are_ranges_of (D : Df K mg "are_ranges_of" 12 ["program", "thing"]) (T : Txt K mg) (c_is_range : C8.Cal P w K mg base 3 "is_range" spRange []) : C8.Cal P w K mg base 4 "are_ranges_of" spRanges [] := by
  refine D.cal sc_are_ranges_of (fun vs H Q E h => ?_) (fun f cdv A outer s H vs Q E hr h => ?_)
  · obtain ⟨pv, v, names, g, rfl, _⟩ := h
    rfl
  · obtain ⟨p, v, names, g, rfl, hp, hz, hg, q⟩ := h
    obtain ⟨a, st, rfl, ha⟩ := hp
    have nd := sc_are_ranges_of.nd
    refine ⟨_, (pss_cons (ps_if (PW.pt (pw_or (pt_not (pt_val (pe_callB call_isi (by rfl) T.z_isinstance (by decide +kernel) (pa_cons (pv 1) (pa_cons (pe_bltn (v := .ty "tuple") (by rfl) T.z_tuple (by decide +kernel) rfl) pa_nil))))) (pw_or1 (pt_cmpR op_ne (pe_callB call_len_seq (by rfl) T.z_len (by decide +kernel) (pa_cons (pv 1) pa_nil)) (pe_callB call_len_str (by rfl) T.z_len (by decide +kernel) (pa_cons (pe_ix ix_tup (pv 0) pe_int (fun _ _ => rfl)) pa_nil)) (nomark _)))))
(pss_one (ps_ret pe_bl))
pss_nil)
(pss_one (ps_ret (pe_callB (cr_all rfl) (by rfl) T.z_all (by decide +kernel) (pa_cons (pe_lc (own := [("one", 2)]) (g := gName 2) rfl nd (pi_tup (pv 1)) (blkOk_by (own := [("one", 2)]) (N := nm_are_ranges_of) (sc := defScope (topS 12)) (by decide +kernel)) (fun _ _ _ _ _ => pg_name (i := 2) nd rfl (.inl rfl)) (fun _ _ _ _ _ => pts_nil) (fun _ _ _ _ _ => (pe_or (pe_cmp (pc_isN (pv 2))) (pe_one (C8.pe_c c_is_range hr (by decide) (by rfl) (pa_cons (pv 2) pa_nil)))))) pa_nil))))), ?_⟩
    cases g with
    | sc u =>
      obtain ⟨rfl, hs⟩ := hg
      have q' := q H (Same.refl H)
      cases v with
      | non => exact ⟨_, rfl, .non, .ty "tuple", _, _, false, rfl, .ty _, .base .non, kit_ty (by decide +kernel), false, rfl, iteT (iteT q')⟩
      | bl b => exact ⟨_, rfl, .bl b, .ty "tuple", _, _, false, rfl, .ty _, .base (.bl b), kit_ty (by decide +kernel), false, rfl, iteT (iteT q')⟩
      | int b => exact ⟨_, rfl, .int b, .ty "tuple", _, _, false, rfl, .ty _, .base (.int b), kit_ty (by decide +kernel), false, rfl, iteT (iteT q')⟩
      | str b => exact ⟨_, rfl, .str b, .ty "tuple", _, _, false, rfl, .ty _, .base (.str b), kit_ty (by decide +kernel), false, rfl, iteT (iteT q')⟩
      | _ => cases hs
    | lst =>
      obtain ⟨b, xs, rfl, hb⟩ := hg
      exact ⟨_, rfl, .ref b, .ty "tuple", _, _, false, rfl, .ty _, .base (.lst hb), kit_ty (by decide +kernel), false, rfl, iteT (iteT (q H (Same.refl H)))⟩
    | tup gs =>
      obtain ⟨b, xs, rfl, hb, hx⟩ := hg
      refine ⟨_, rfl, .ref b, .ty "tuple", _, _, true, rfl, .ty _, .base (.tup hb), kit_ty (by decide +kernel), true, rfl, iteF ?_⟩
      refine ⟨.ref b, rfl, b, xs, rfl, .inr (SqT.of hb), .ref a, rfl, a, _, 0, .str names, rfl, rfl, SqT.of ha, atI_nat (j := 0) rfl, names, rfl, Nat.le_of_lt (small1000 hz), rfl, _, rfl, ?_⟩
      rw [len_ne]
      by_cases hn : xs.length = names.length
      · rw [beq_iff_eq.mpr hn]
        refine iteF ?_
        refine ⟨.ref b, rfl, b, rfl, ⟨xs, SqT.of hb⟩, fun D nD => ?_⟩
        refine lc_tup (xs := xs) (fun i H' => Same H H' ∧ H' D = some (.lst ((gs.take i).map fun g => .bl (okG g)))) ⟨same_upd nD, upd_same⟩ (fun i H' _ hP => SqT.of (hP.1 _ _ hb)) (fun i x H' hi hP => ?_) (fun H' hP => ?_)
        · obtain ⟨g, hgi, hga⟩ := paired_at hx hi
          have hga' := hga.same hP.1
          have nH : ∀ b o, H b = some o → b ≠ D := fun b o e => ne_of_none e nD
          have fin : ∃ acc, H' D = some (.lst acc) ∧ acc.length < sizeLine ∧ (Same H (upd H' D (.lst (acc ++ [V.bl (okG g)]))) ∧ (upd H' D (.lst (acc ++ [V.bl (okG g)]))) D = some (.lst ((gs.take (i + 1)).map fun g => .bl (okG g)))) := by
            refine ⟨_, hP.2, ?_, fun c o e => ?_, ?_⟩
            · rw [List.length_map, List.length_take]
              have h1 := paired_len hx
              exact Nat.lt_of_le_of_lt (Nat.min_le_right _ _) (small1000 (by omega))
            · rw [upd_ne (nH _ _ e)]
              exact hP.1 _ _ e
            · rw [upd_same, take_more hgi, List.map_append]
              rfl
          have e0 := non_iff hga'
          refine ⟨rfl, ?_⟩
          refine ⟨x, rfl, _, rfl, ?_⟩
          rw [e0]
          cases en : nonB g with
          | true =>
            refine iteT ?_
            have e2 : okG g = true := by unfold okG; rw [en]; rfl
            rw [e2] at fin
            exact fin
          | false =>
            refine iteF ⟨x, rfl, x, g, rfl, hga', ?_⟩
            have e2 : okG g = rngB g := by unfold okG; rw [en, Bool.false_or]
            rw [e2] at fin
            exact fin
        · have hlen := paired_len hx
          have e1 : gs.take xs.length = gs := List.take_of_length_le (by omega)
          have hP2 := hP.2
          rw [e1] at hP2
          refine ⟨D, gs.map okG, rfl, SqL.of (by rw [hP2, List.map_map]; rfl), ?_⟩
          have e2 : rngsB names.length (.tup gs) = (gs.map okG).all id := by
            show (gs.length == names.length && gs.all okG) = _
            rw [beq_iff_eq.mpr (show gs.length = names.length by omega), Bool.true_and, List.all_map]
            rfl
          have q' := q H' hP.1
          rw [e2] at q'
          exact q'
      · rw [beq_eq_false_iff_ne.mpr hn]
        refine iteT ?_
        have e2 : rngsB names.length (.tup gs) = false := by
          show (gs.length == names.length && gs.all okG) = _
          have h1 := paired_len hx
          rw [beq_eq_false_iff_ne.mpr (show gs.length ≠ names.length by omega), Bool.false_and]
        have q' := q H (Same.refl H)
        rw [e2] at q'
        exact q'
end
end EC

set_option maxHeartbeats 4000000
/-! E4: zip of a text and a tuple (a rule of one's own), range_at -/
namespace EC
open PySem PySem.Spec PyProof.Rows L2
/-! ### zip(text, tuple): at each turn a new pair of the sign and the item -/
def ItSt (K : PySem.W.Frag) (zt : Str) (b : Addr) : It where
  go := fun i H => ∃ (ys : List V) (c : Nat) (y : V), SqT K H b ys ∧ zt.cps[i]? = some c ∧ ys[i]? = some y
  yld := fun i H v H' => ∃ (T : Addr) (c : Nat) (y : V), v = .ref T ∧ H T = none ∧ H' = upd H T (.tup [.str ⟨#[c]⟩, y]) ∧ zt.cps[i]? = some c ∧ ∀ ys, SqT K H b ys → ys[i]? = some y
  stop := fun i H => ∃ ys : List V, SqT K H b ys ∧ i = min zt.cps.size ys.length
theorem mem5 {c z TI TO i1 i2 : Addr} (h : c ∈ [z, TI, TO, i1, i2]) : c = z ∨ c = TI ∨ c = TO ∨ c = i1 ∨ c = i2 := by simpa using h
theorem turn_st {P : Program} {w : World} {K : PySem.W.Frag} {elts : List Expr} {kk : Nat} {tpos : Pos} {zt : Str} {t : Tok} {b z TI TO i1 i2 : Addr} (S : ZipSep2 z TI TO i1 i2 [i1] [i2, b]) (hne : b ≠ i2) :
    Turn P w K (.Tuple elts kk tpos) (ItSt K zt b) [z, TI, TO, i1, i2] z
      (fun i h => IsZip h z TI TO .none ∧ IsTupOf2 h TI (.ref i1) (.ref i2) ∧ (∃ x y, IsTupOf2 h TO x y) ∧ h.IsStrIter i1 (strIterType zt) zt t i ∧ h.IsTupleIter i2 b i) where
  mem := List.mem_cons_self
  obj := by
    rintro i h ⟨hz, hTI, ⟨x, y, hTO⟩, ⟨o1, e1, _, d1⟩, ⟨o2, e2, _, d2⟩⟩ c hc
    rcases mem5 hc with q | q | q | q | q <;> rw [q]
    · exact ⟨_, hz, fun _ q => nomatch q⟩
    · exact ⟨_, hTI, fun _ q => nomatch q⟩
    · exact ⟨_, hTO, fun _ q => nomatch q⟩
    · refine ⟨o1, e1, fun _ q => ?_⟩
      rw [d1] at q
      cases q
    · refine ⟨o2, e2, fun _ q => ?_⟩
      rw [d2] at q
      cases q
  keep := by
    rintro i h h' ⟨hz, hTI, ⟨x, y, hTO⟩, ⟨o1, e1, r1⟩, h2⟩ k
    exact ⟨k z (by simp) _ hz, k TI (by simp) _ hTI, ⟨x, y, k TO (by simp) _ hTO⟩, ⟨o1, k i1 (by simp) _ e1, r1⟩, h2.at fun o q => k i2 (by simp) o q⟩
  item := by
    intro X hP hw hK hc i pins s σ H E I hf st hg
    subst hP hw hK
    obtain ⟨hz, hTI, hTO, h1, h2⟩ := st
    obtain ⟨ys, c, y, hq, hcx, hy⟩ := hg
    obtain ⟨its, rv, p, _⟩ := I.tuple hq
    obtain ⟨u, hu, ru⟩ := rv.get hy
    have hh : X.A.handled = none := I.ok.hd hc
    have i_1 : i < zt.cps.size := (Array.getElem?_eq_some_iff.mp hcx).1
    have i_2 : i < its.toArray.size := by
      have q := (List.getElem?_eq_some_iff.mp hu).1
      rw [List.size_toArray]
      exact q
    have D2 := Draws.tuple (prog := X.prog) (w := X.w) (A := X.A.in1) hh i2 b hne its.toArray
    have W := GoesN.zip2 (elts := elts) (x1 := kk) (pos := tpos) S (Draws.text (prog := X.prog) (w := X.w) (A := X.A.in1) hh i1 zt t) D2
    refine W.goes i s (fun u s2 => ∃ x H', Inv X pins σ H' s2 ∧ RelV x u ∧ (ItSt X.K zt b).yld i H x H' ∧ _ ∧ ∀ c ∈ [z, TI, TO, i1, i2], H' c = none) E (by omega) ⟨hz, hTI, hTO, h1, h2, p⟩ (fun v h' tk hY st' hk htk => ?_)
    obtain ⟨T, x, y', rfl, hT, ⟨c', u', hc', rfl⟩, hy', hT2⟩ := hY
    obtain ⟨z', TI', TO', h1', h2', _⟩ := st'
    have ec : c' = c := Option.some.inj (hc'.symm.trans hcx)
    subst ec
    have ey : y' = u := by
      have q : its.toArray[i]? = some u := by simpa using hu
      exact Option.some.inj (hy'.symm.trans q)
    subst ey
    have new : ObjOk X.prog X.w (upd H T (.tup [.str ⟨#[c']⟩, y])) h' T (.tup [.str ⟨#[c']⟩, y]) :=
      ⟨(by show 2 ≤ sizeLine; decide), [_, _], .cons ⟨u', rfl⟩ (.cons ru .nil), hT2⟩
    have I1 : Inv X pins σ (upd H T (.tup [.str ⟨#[c']⟩, y])) { s with heap := h', toks := tk } :=
      I.turnedNew (t' := tk) (ch := [z, TI, TO, i1, i2]) (fun d o hd e => hk d o (fun q => hd (by
        have q2 : d = z ∨ d = TO ∨ d = i1 ∨ d = i2 := by simpa using q
        rcases q2 with q | q | q | q <;> simp [q])) e) hf hT new
    refine ⟨.ref T, _, I1, rfl, ⟨T, c', y, rfl, I.hok.fresh hT, rfl, hcx, fun l hl => ?_⟩, ⟨z', TI', TO', h1', h2'⟩, fun d hd => ?_⟩
    · rw [I.tuple_inj hl hq]
      exact hy
    · have hlt : d < s.heap.objs.size := by
        obtain ⟨x0, y0, hTO0⟩ := hTO
        rcases mem5 hd with q | q | q | q | q <;> rw [q]
        · exact Heap.lt_size hz
        · exact Heap.lt_size hTI
        · exact Heap.lt_size hTO0
        · obtain ⟨_, e, _⟩ := h1
          exact Heap.lt_size e
        · obtain ⟨_, e, _⟩ := h2
          exact Heap.lt_size e
      rw [upd_ne (Nat.ne_of_lt (Nat.lt_of_lt_of_le hlt hT))]
      exact (hf d hd).1
  done := by
    intro X hP hw hK hc i pins s σ H E I hf st hg
    subst hP hw hK
    obtain ⟨hz, hTI, hTO, h1, h2⟩ := st
    obtain ⟨ys, hq, hi⟩ := hg
    obtain ⟨its, rv, p, _⟩ := I.tuple hq
    have hh : X.A.handled = none := I.ok.hd hc
    have D2 := Draws.tuple (prog := X.prog) (w := X.w) (A := X.A.in1) hh i2 b hne its.toArray
    have W := GoesN.zip2 (elts := elts) (x1 := kk) (pos := tpos) S (Draws.text (prog := X.prog) (w := X.w) (A := X.A.in1) hh i1 zt t) D2
    have el : its.toArray.size = ys.length := (List.size_toArray).trans rv.length.symm
    have e : i = min zt.cps.size its.toArray.size := by
      rw [el]
      exact hi
    subst e
    refine W.stops s (fun s1 => Inv X pins σ H s1) E ⟨hz, hTI, hTO, h1, h2, p⟩ (fun h' tk hk htk => ?_)
    exact I.turnedL (t' := tk) (ch := [z, TI, TO, i1, i2]) (fun d o hd e => hk d o (fun q => hd (by
      have q2 : d = z ∨ d = TO ∨ d = i1 ∨ d = i2 := by simpa using q
      rcases q2 with q | q | q | q <;> simp [q])) e) hf
  self := fun A i s Q E st h => wpAny_pyIter_zip st.1 h
def iZipSt (K : PySem.W.Frag) (ta : TA) : TI := fun σ H R => ta σ H fun vs H1 => ∃ (zt : Str) (b : Addr) (ys : List V), vs = [.str zt, .ref b] ∧ SqT K H1 b ys ∧ R (ItSt K zt b) H1
theorem pi_zipSt {X : Cx} {e1 e2 : Expr} {ta : TA} {p pos tpos : Pos} {elts : List Expr} {kk : Nat} (hg : Gl X "zip") (hm : X.mg "zip" = none) (ha : PA X [e1, e2] ta)
    (hs : starEach [e1, e2] X.env = (false, eval e1 X.env) :: starEach [e2] X.env := by rfl) (hpl : (backTo pos (starEach [e2] X.env)).any (·.1) = false := by rfl) :
    PI X (.Tuple elts kk tpos) (.Call (.Name "zip" p) [e1, e2] [] pos) (iZipSt X.K ta) := by
  constructor
  intro pins s σ H R I h
  refine Call_ (ld_blt I hg hm PyProof.Rows.boot_zip (PyProof.Rows.callWith_type1 (thn (ha.run pos pins s σ H _ I h) fun us s1 hh => ?_) hs hpl))
  obtain ⟨vs, H1, I1, r1, zt, b, ys, rfl, hq, q⟩ := hh
  obtain ⟨u1, u2, rfl, ⟨t, rfl⟩, r2⟩ := vals2 r1
  cases (show u2 = Value.ref b from r2)
  obtain ⟨its, rv, p, _⟩ := I1.tuple hq
  have hb : b < s1.heap.objs.size := by
    obtain ⟨o, e, _⟩ := p
    exact Heap.lt_size e
  refine zip_begins2 (begins_text zt t) (begins_tuple b its.toArray) trivial p fun h' hz hTI hTO h1 h2 hsz hk => wpAny_pyIter_zip hz ?_
  have S := zip_sep2 (N := s1.heap.objs.size) (fp1 := []) (fp2 := [b]) (fun c hc => nomatch hc) (fun c hc => by
    have : c = b := by simpa using hc
    rw [this]
    exact hb)
  have ge : ∀ c, c ∈ [s1.heap.objs.size + 4, s1.heap.objs.size + 2, s1.heap.objs.size + 3, s1.heap.objs.size, s1.heap.objs.size + 1] → s1.heap.objs.size ≤ c := fun c hc => by
    rcases mem5 hc with q | q | q | q | q <;> rw [q]
    · exact Nat.le_add_right _ _
    · exact Nat.le_add_right _ _
    · exact Nat.le_add_right _ _
    · exact Nat.le_refl _
    · exact Nat.le_add_right _ _
  refine ⟨_, _, _, _, H1, rfl, I1.kept (t' := s1.toks) hk, turn_st (t := t) S (Nat.ne_of_lt (Nat.lt_succ_of_lt hb)), ⟨hz, hTI, ⟨_, _, hTO⟩, ⟨_, h1, rfl, rfl⟩, ⟨_, h2, rfl, rfl⟩⟩, fun c hc => ?_, q⟩
  exact I1.fpOk (ge c hc) (I1.hok.fresh (ge c hc))
/-- the loop over such a zip, text and tuple of one length -/
theorem for_zipSt {K : PySem.W.Frag} {zt : Str} {b : Addr} {ys : List V} {g : TG} {tb : TS} {D : Ends} {σ : L2.St} {H : Hp} (hl : zt.cps.size = ys.length) (Pv : Nat → L2.St → Hp → Prop) (h0 : Pv 0 σ H) (hq : ∀ i σ H, Pv i σ H → SqT K H b ys)
    (hs : ∀ (i c : Nat) (y : V) (T : Addr) (σ : L2.St) (H : Hp), zt.cps[i]? = some c → ys[i]? = some y → Pv i σ H → H T = none → g (.ref T) σ (upd H T (.tup [.str ⟨#[c]⟩, y])) fun σ2 H2 => tb { D with nx := Pv (i + 1), ct := Pv (i + 1), bk := D.nx } σ2 H2)
    (hd : ∀ σ H, Pv ys.length σ H → D.nx σ H) :
    ∃ W : Nat → Nat → L2.St → Hp → Prop, (∃ m, W 0 m σ H) ∧ ∀ i m σ H, W i m σ H →
      ((ItSt K zt b).stop i H ∧ D.nx σ H) ∨ ((ItSt K zt b).go i H ∧ ∃ N : L2.St → Hp → Prop, (∀ σ' H', N σ' H' → ∃ m', m' < m ∧ W (i + 1) m' σ' H') ∧ ∀ v H', (ItSt K zt b).yld i H v H' → g v σ H' fun σ2 H2 => tb { D with nx := N, ct := N, bk := D.nx } σ2 H2) := by
  refine ⟨fun i m σ H => i + m = ys.length ∧ Pv i σ H, ⟨ys.length, Nat.zero_add _, h0⟩, ?_⟩
  intro i m σ H hW
  obtain ⟨e, hp⟩ := hW
  have hqT := hq i σ H hp
  by_cases hi : i < ys.length
  · have h1 : zt.cps[i]? = some zt.cps[i] := Array.getElem?_eq_getElem (by omega)
    have h2 : ys[i]? = some ys[i] := List.getElem?_eq_getElem hi
    refine .inr ⟨⟨ys, _, _, hqT, h1, h2⟩, Pv (i + 1), fun σ' H' hN => ⟨m - 1, by omega, by omega, hN⟩, ?_⟩
    rintro v H' ⟨T, c, y, rfl, hT, rfl, hc, hy⟩
    exact hs i c y T σ H hc (hy ys hqT) hp hT
  · have ei : i = ys.length := by omega
    subst ei
    exact .inl ⟨⟨ys, hqT, by omega⟩, hd σ H hp⟩
/-! ### range_at -/
/-- a range's ends as values -/
abbrev Rg : Type := Option Int × Option Int
def oV : Option Int → V
  | none => .non
  | some i => .int i
def rgL (r : Rg) : List V := [oV r.1, oV r.2]
/-- v is a tuple of the two ends -/
def RgAt (H : Hp) (v : V) (r : Rg) : Prop := ∃ a, v = .ref a ∧ H a = some (.tup (rgL r))
/-- None for none -/
def ORgAt (H : Hp) (v : V) : Option Rg → Prop
  | none => v = .non
  | some r => RgAt H v r
theorem RgAt.tups {H H' : Hp} {v : V} {r : Rg} (e : Tups H H') (h : RgAt H v r) : RgAt H' v r := by
  obtain ⟨a, e1, e2⟩ := h
  exact ⟨a, e1, e _ _ e2⟩
theorem ORgAt.tups {H H' : Hp} {v : V} {r : Option Rg} (e : Tups H H') (h : ORgAt H v r) : ORgAt H' v r := by
  cases r with
  | none => exact h
  | some r => exact RgAt.tups e h
/-- one sign as a text -/
abbrev ch (c : Nat) : Str := ⟨#[c]⟩
abbrev nmS (cs : List Nat) : Str := ⟨cs.toArray⟩
/-- the item that stands with the first c -/
def atc {α : Type} : List Nat → List α → Nat → Option α
  | d :: cs, y :: ys, c => if d = c then some y else atc cs ys c
  | _, _, _ => none
theorem atc_skip {α : Type} : ∀ {cs : List Nat} {ys : List α} {c : Nat} (i : Nat), (∀ j d, j < i → cs[j]? = some d → d ≠ c) → atc cs ys c = atc (cs.drop i) (ys.drop i) c
  | _, _, _, 0, _ => rfl
  | [], ys, c, i + 1, h => by
    cases ys <;> rfl
  | d :: cs, [], c, i + 1, h => by
    rw [List.drop_succ_cons, List.drop_nil]
    cases cs.drop i <;> rfl
  | d :: cs, y :: ys, c, i + 1, h => by
    have h0 : d ≠ c := h 0 d (Nat.succ_pos _) rfl
    show (if d = c then some y else atc cs ys c) = atc (cs.drop i) (ys.drop i) c
    rw [if_neg h0]
    exact atc_skip i fun j d hj e => h (j + 1) d (Nat.succ_lt_succ hj) e
theorem ch_eq {c d : Nat} : decide (V.str (ch c) = V.str (ch d)) = decide (c = d) := by
  by_cases h : c = d
  · subst h
    rw [decide_eq_true rfl, decide_eq_true rfl]
  · have h1 : ¬ V.str (ch c) = V.str (ch d) := fun e => h (by
      injection e with e
      injection e with e
      have e2 := congrArg Array.toList e
      simpa using e2)
    rw [decide_eq_false h1, decide_eq_false h]
section
variable {P : Program} {w : World} {K : PySem.W.Frag} {mg : Str → Option Value} {base : Heap}
def spRangeAt : Sp := fun vs H Q _ => ∃ (cs : List Nat) (b : Addr) (ys : List V) (c : Nat) (y : V), vs = [.str (nmS cs), .ref b, .str (ch c)] ∧ H b = some (.tup ys) ∧ cs.length = ys.length ∧ atc cs ys c = some y ∧
  ∀ H', Same H H' → Q y H'
abbrev nm_range_at : List Str := ["names", "ranges", "name", "own", "one"]
theorem sc_range_at : FnScope nm_range_at ["names", "ranges", "name"] (defScope (topS 13)) := ⟨rfl, rfl, rfl, by decide +kernel, rfl, by decide +kernel, by decide +kernel⟩
theorem c_range_at (D : Df K mg "range_at" 13 ["names", "ranges", "name"]) (T : Txt K mg) : C8.Cal P w K mg base 1 "range_at" spRangeAt [] := by
  refine D.cal sc_range_at (fun vs H Q E h => ?_) (fun f cdv A outer s H vs Q E hr h => ?_)
  · obtain ⟨cs, b, ys, c, y, rfl, _⟩ := h
    rfl
  · obtain ⟨cs, b, ys, c, y, rfl, hb, hl, hy, q⟩ := h
    have nd := sc_range_at.nd
    refine ⟨_, (pss_cons (ps_for PassesOwn.never rfl (pi_zipSt (by rfl) T.z_zip (pa_cons (pv 0) (pa_cons (pv 1) pa_nil))) (pg_tup rfl (pgs_cons (pg_name (i := 3) nd rfl (.inl rfl)) (pgs_cons (pg_name (i := 4) nd rfl (.inl rfl)) pgs_nil)))
(pss_one (ps_if (pt_cmpR op_eq (pv 3) (pv 2) (nomark _))
(pss_one (ps_ret (pv 4)))
pss_nil)))
(pss_one (ps_ret pe_non))), ?_⟩
    refine ⟨_, rfl, _, rfl, nmS cs, b, ys, rfl, SqT.of hb, ?_⟩
    refine for_zipSt (ys := ys) (by show cs.toArray.size = _; rw [List.size_toArray]; exact hl) (fun i σ H' => ∃ y3 y4, σ = [some (.str (nmS cs)), some (.ref b), some (.str (ch c)), y3, y4] ∧ Same H H' ∧ ∀ j d, j < i → cs[j]? = some d → d ≠ c)
      ⟨none, none, rfl, Same.refl H, fun j d hj => absurd hj (Nat.not_lt_zero _)⟩ (fun i σ H' hP => ?_) (fun i d y' T σ H' hd hy' hP nT => ?_) (fun σ H' hP => ?_)
    · obtain ⟨_, _, _, sm, _⟩ := hP
      exact SqT.of (sm _ _ hb)
    · obtain ⟨y3, y4, rfl, sm, hne⟩ := hP
      have hd' : cs[i]? = some d := by simpa using hd
      refine ⟨T, [.str (ch d), y'], rfl, SqT.of upd_same, rfl, _, [y'], rfl, y', [], rfl, rfl, ?_⟩
      have sm' : Same H (upd H' T (.tup [.str (ch d), y'])) := sm.trans (same_upd nT)
      refine ⟨.str (ch d), rfl, .str (ch c), rfl, rfl, _, rfl, ?_⟩
      rw [ch_eq]
      refine ite2 (fun e => ?_) (fun e => ?_)
      · have edc : d = c := of_decide_eq_true e
        refine ⟨y', rfl, ?_⟩
        have e1 := atc_skip (ys := ys) i hne
        have e2 : cs.drop i = d :: cs.drop (i + 1) := by
          obtain ⟨hlt, he⟩ := List.getElem?_eq_some_iff.mp hd'
          rw [List.drop_eq_getElem_cons hlt, he]
        have e3 : ys.drop i = y' :: ys.drop (i + 1) := by
          obtain ⟨hlt, he⟩ := List.getElem?_eq_some_iff.mp hy'
          rw [List.drop_eq_getElem_cons hlt, he]
        rw [hy, e2, e3] at e1
        have e4 : some y = (if d = c then some y' else atc (cs.drop (i + 1)) (ys.drop (i + 1)) c) := e1
        rw [if_pos edc] at e4
        have e5 : y = y' := Option.some.inj e4
        subst e5
        exact q _ sm'
      · refine ⟨some (.str (ch d)), some y', rfl, sm', fun j d' hj e' => ?_⟩
        by_cases hji : j = i
        · rw [hji, hd'] at e'
          have e'' := Option.some.inj e'
          rw [← e'']
          exact fun z => e (decide_eq_true z)
        · exact hne j d' (by omega) e'
    · obtain ⟨y3, y4, rfl, sm, hne⟩ := hP
      exfalso
      have e1 := atc_skip (ys := ys) ys.length hne
      rw [hy, List.drop_length] at e1
      cases hcd : cs.drop ys.length <;> rw [hcd] at e1 <;> cases e1
end
end EC

set_option maxHeartbeats 4000000
/-! E5: joined, shared, shifted_range -/
namespace EC
open PySem PySem.Spec PyProof.Rows L2
/-! ### the mathematics of ranges -/
def jL : Option Int → Option Int → Option Int
  | some l, some f => if f < l then some f else some l
  | _, _ => none
def jH : Option Int → Option Int → Option Int
  | some h, some f => if h < f then some f else some h
  | _, _ => none
def joinR : Option Rg → Option Rg → Option Rg
  | none, o => o
  | some a, none => some a
  | some a, some b => some (jL a.1 b.1, jH a.2 b.2)
def sL : Option Int → Option Int → Option Int
  | none, f => f
  | some l, some f => if l < f then some f else some l
  | some l, none => some l
def sH : Option Int → Option Int → Option Int
  | none, f => f
  | some h, some f => if f < h then some f else some h
  | some h, none => some h
def okR : Rg → Bool
  | (some l, some h) => decide (l ≤ h)
  | _ => true
def metR (a b : Rg) : Rg := (sL a.1 b.1, sH a.2 b.2)
def sharedR (a b : Rg) : Option Rg := if okR (metR a b) = true then some (metR a b) else none
def shiftR (r : Rg) (c : Int) : Rg := (r.1.map (· + c), r.2.map (· + c))
theorem scB_oV (o : Option Int) : scB (oV o) = true := by cases o <;> rfl
theorem rngB_rg (r : Rg) : rngB (.tup (rgL r)) = okR r := by
  obtain ⟨l, h⟩ := r
  cases l <;> cases h <;> rfl
theorem RgAt.arg {H : Hp} {v : V} {r : Rg} (h : RgAt H v r) : ArgAt H v (.tup (rgL r)) := by
  obtain ⟨a, rfl, ha⟩ := h
  refine ⟨a, rfl, ha, fun x hx => ?_⟩
  have : x = oV r.1 ∨ x = oV r.2 := by simpa [rgL] using hx
  rcases this with e | e <;> rw [e] <;> exact scB_oV _
section
variable {P : Program} {w : World} {K : PySem.W.Frag} {mg : Str → Option Value} {base : Heap}
/-! ### joined -/
def spJoined : Sp := fun vs H Q _ => ∃ v1 v2 r1 r2, vs = [v1, v2] ∧ ORgAt H v1 r1 ∧ ORgAt H v2 r2 ∧ ∀ H' v, Same H H' → ORgAt H' v (joinR r1 r2) → Q v H'
abbrev nm_joined : List Str := ["one", "other", "low", "high", "far_low", "far_high"]
theorem sc_joined : FnScope nm_joined ["one", "other"] (defScope (topS 14)) := ⟨rfl, rfl, rfl, by decide +kernel, rfl, by decide +kernel, by decide +kernel⟩
theorem c_joined (D : Df K mg "joined" 14 ["one", "other"]) : C8.Cal P w K mg base 1 "joined" spJoined [] := by
  refine D.cal sc_joined (fun vs H Q E h => ?_) (fun f cdv A outer s H vs Q E hr h => ?_)
  · obtain ⟨v1, v2, r1, r2, rfl, _⟩ := h
    rfl
  · obtain ⟨v1, v2, r1, r2, rfl, h1, h2, q⟩ := h
    have nd := sc_joined.nd
    refine ⟨_, (pss_cons (ps_if (PW.pt (pw_or (pt_cmp (pc_isN (pv 0))) (pw_or1 (pt_cmp (pc_isN (pv 1))))))
(pss_one (ps_ret (pe_ifExp (pt_cmp (pc_isN (pv 0))) (pv 1) (pv 0))))
pss_nil)
(pss_cons (ps_asg (pe_tup (pa_cons (pv 0) (pa_cons (pv 1) pa_nil))) (pg_tup rfl (pgs_cons (pg_tup rfl (pgs_cons (pg_name (i := 2) nd rfl (.inl rfl)) (pgs_cons (pg_name (i := 3) nd rfl (.inl rfl)) pgs_nil))) (pgs_cons (pg_tup rfl (pgs_cons (pg_name (i := 4) nd rfl (.inl rfl)) (pgs_cons (pg_name (i := 5) nd rfl (.inl rfl)) pgs_nil))) pgs_nil))))
(pss_cons (ps_if (PW.pt (pw_and (pt_cmp (pc_notN (pv 2))) (pw_and1 (PW.pt (pw_or (pt_cmp (pc_isN (pv 4))) (pw_or1 (pt_cmpR op_lt (pv 4) (pv 2) (nomark _))))))))
(pss_one (ps_set (i := 2) nd rfl (.inl rfl) (pv 4)))
pss_nil)
(pss_cons (ps_if (PW.pt (pw_and (pt_cmp (pc_notN (pv 3))) (pw_and1 (PW.pt (pw_or (pt_cmp (pc_isN (pv 5))) (pw_or1 (pt_cmpR op_gt (pv 5) (pv 3) (nomark _))))))))
(pss_one (ps_set (i := 3) nd rfl (.inl rfl) (pv 5)))
pss_nil)
(pss_one (ps_ret (pe_tup (pa_cons (pv 2) (pa_cons (pv 3) pa_nil))))))))), ?_⟩
    cases r1 with
    | none =>
      obtain rfl : v1 = .non := h1
      refine ⟨.non, rfl, _, rfl, iteT (iteT ?_)⟩
      exact ⟨.non, rfl, _, rfl, iteT ⟨v2, rfl, q H v2 (Same.refl H) h2⟩⟩
    | some a =>
      obtain ⟨p1, rfl, hp1⟩ := h1
      refine ⟨.ref p1, rfl, _, rfl, iteF ?_⟩
      cases r2 with
      | none =>
        obtain rfl : v2 = .non := h2
        refine ⟨.non, rfl, _, rfl, iteT ?_⟩
        exact ⟨.ref p1, rfl, _, rfl, iteF ⟨.ref p1, rfl, q H (.ref p1) (Same.refl H) ⟨p1, rfl, hp1⟩⟩⟩
      | some b =>
        obtain ⟨p2, rfl, hp2⟩ := h2
        obtain ⟨l, h⟩ := a
        obtain ⟨fl, fh⟩ := b
        refine ⟨.ref p2, rfl, _, rfl, iteF ?_⟩
        refine ⟨.ref p1, rfl, .ref p2, rfl, (by show 2 ≤ sizeLine; decide), fun p np => ?_⟩
        have sm := same_upd (o := .tup [.ref p1, .ref p2]) np
        refine ⟨p, [.ref p1, .ref p2], rfl, SqT.of upd_same, rfl, .ref p1, [.ref p2], rfl, ?_⟩
        refine ⟨p1, _, rfl, SqT.of (sm _ _ hp1), rfl, oV l, [oV h], rfl, oV h, [], rfl, rfl, .ref p2, [], rfl, ?_⟩
        refine ⟨p2, _, rfl, SqT.of (sm _ _ hp2), rfl, oV fl, [oV fh], rfl, oV fh, [], rfl, rfl, rfl, ?_⟩
        have last : ∀ (l' h' : Option Int), l' = jL l fl → h' = jH h fh → (tRet (tTup (tCons (tVar 2) (tCons (tVar 3) tNil)))) { nx := fun _ H' => Q .non H', rt := Q } [some (.ref p1), some (.ref p2), some (oV l'), some (oV h'), some (oV fl), some (oV fh)] (upd H p (.tup [.ref p1, .ref p2])) := by
          intro l' h' e1 e2
          subst e1 e2
          refine ⟨_, rfl, _, rfl, (by show 2 ≤ sizeLine; decide), fun p' np' => ?_⟩
          exact q _ _ (sm.trans (same_upd np')) ⟨p', rfl, upd_same⟩
        have rest : ∀ (l' : Option Int), l' = jL l fl → (tSeq (tIfS (tAnd (tB (tNotN (tVar 3))) (tOr (tB (tIsN (tVar 5))) (tTest (tOp (rI0 fun i j => .bl (decide (j < i))) (tVar 5) (tVar 3))))) (tAsg (tVar 5) (gName 3)) tNext) (tRet (tTup (tCons (tVar 2) (tCons (tVar 3) tNil))))) { nx := fun _ H' => Q .non H', rt := Q } [some (.ref p1), some (.ref p2), some (oV l'), some (oV h), some (oV fl), some (oV fh)] (upd H p (.tup [.ref p1, .ref p2])) := by
          intro l' e1
          cases h with
          | none => exact ⟨.non, rfl, _, rfl, iteF (iteF (last l' none e1 (by cases fh <;> rfl)))⟩
          | some hi =>
            refine ⟨.int hi, rfl, _, rfl, iteT ?_⟩
            cases fh with
            | none => exact ⟨.non, rfl, _, rfl, iteT (iteT ⟨.non, rfl, last l' none e1 rfl⟩)⟩
            | some fi =>
              refine ⟨.int fi, rfl, _, rfl, iteF ⟨.int fi, rfl, .int hi, rfl, fi, hi, rfl, rfl, _, rfl, ite2 (fun e => ?_) (fun e => ?_)⟩⟩
              · have hlt : hi < fi := of_decide_eq_true e
                exact ⟨.int fi, rfl, last l' (some fi) e1 (if_pos hlt).symm⟩
              · have hlt : ¬ hi < fi := fun z => e (decide_eq_true z)
                exact last l' (some hi) e1 (if_neg hlt).symm
        cases l with
        | none => exact ⟨.non, rfl, _, rfl, iteF (iteF (rest none (by cases fl <;> rfl)))⟩
        | some li =>
          refine ⟨.int li, rfl, _, rfl, iteT ?_⟩
          cases fl with
          | none => exact ⟨.non, rfl, _, rfl, iteT (iteT ⟨.non, rfl, rest none rfl⟩)⟩
          | some fi =>
            refine ⟨.int fi, rfl, _, rfl, iteF ⟨.int fi, rfl, .int li, rfl, fi, li, rfl, rfl, _, rfl, ite2 (fun e => ?_) (fun e => ?_)⟩⟩
            · have hlt : fi < li := of_decide_eq_true e
              exact ⟨.int fi, rfl, rest (some fi) (if_pos hlt).symm⟩
            · have hlt : ¬ fi < li := fun z => e (decide_eq_true z)
              exact rest (some li) (if_neg hlt).symm
/-! ### shared -/
def spShared : Sp := fun vs H Q _ => ∃ v1 v2 r1 r2, vs = [v1, v2] ∧ RgAt H v1 r1 ∧ RgAt H v2 r2 ∧ ∀ H' v, Same H H' → ORgAt H' v (sharedR r1 r2) → Q v H'
abbrev nm_shared : List Str := ["one", "other", "low", "high", "far_low", "far_high"]
theorem sc_shared : FnScope nm_shared ["one", "other"] (defScope (topS 15)) := ⟨rfl, rfl, rfl, by decide +kernel, rfl, by decide +kernel, by decide +kernel⟩
theorem c_shared (D : Df K mg "shared" 15 ["one", "other"]) (c_is_range : C8.Cal P w K mg base 3 "is_range" spRange []) : C8.Cal P w K mg base 4 "shared" spShared [] := by
  refine D.cal sc_shared (fun vs H Q E h => ?_) (fun f cdv A outer s H vs Q E hr h => ?_)
  · obtain ⟨v1, v2, r1, r2, rfl, _⟩ := h
    rfl
  · obtain ⟨v1, v2, r1, r2, rfl, h1, h2, q⟩ := h
    have nd := sc_shared.nd
    refine ⟨_, (pss_cons (ps_asg (pe_tup (pa_cons (pv 0) (pa_cons (pv 1) pa_nil))) (pg_tup rfl (pgs_cons (pg_tup rfl (pgs_cons (pg_name (i := 2) nd rfl (.inl rfl)) (pgs_cons (pg_name (i := 3) nd rfl (.inl rfl)) pgs_nil))) (pgs_cons (pg_tup rfl (pgs_cons (pg_name (i := 4) nd rfl (.inl rfl)) (pgs_cons (pg_name (i := 5) nd rfl (.inl rfl)) pgs_nil))) pgs_nil))))
(pss_cons (ps_if (PW.pt (pw_or (pt_cmp (pc_isN (pv 2))) (pw_or1 (PW.pt (pw_and (pt_cmp (pc_notN (pv 4))) (pw_and1 (pt_cmpR op_gt (pv 4) (pv 2) (nomark _))))))))
(pss_one (ps_set (i := 2) nd rfl (.inl rfl) (pv 4)))
pss_nil)
(pss_cons (ps_if (PW.pt (pw_or (pt_cmp (pc_isN (pv 3))) (pw_or1 (PW.pt (pw_and (pt_cmp (pc_notN (pv 5))) (pw_and1 (pt_cmpR op_lt (pv 5) (pv 3) (nomark _))))))))
(pss_one (ps_set (i := 3) nd rfl (.inl rfl) (pv 5)))
pss_nil)
(pss_one (ps_ret (pe_ifExp (pt_val (C8.pe_c c_is_range hr (by decide) (by rfl) (pa_cons (pe_tup (pa_cons (pv 2) (pa_cons (pv 3) pa_nil))) pa_nil))) (pe_tup (pa_cons (pv 2) (pa_cons (pv 3) pa_nil))) pe_non)))))), ?_⟩
    obtain ⟨p1, rfl, hp1⟩ := h1
    obtain ⟨p2, rfl, hp2⟩ := h2
    obtain ⟨l, h⟩ := r1
    obtain ⟨fl, fh⟩ := r2
    refine ⟨.ref p1, rfl, .ref p2, rfl, (by show 2 ≤ sizeLine; decide), fun p np => ?_⟩
    have sm := same_upd (o := .tup [.ref p1, .ref p2]) np
    refine ⟨p, [.ref p1, .ref p2], rfl, SqT.of upd_same, rfl, .ref p1, [.ref p2], rfl, ?_⟩
    refine ⟨p1, _, rfl, SqT.of (sm _ _ hp1), rfl, oV l, [oV h], rfl, oV h, [], rfl, rfl, .ref p2, [], rfl, ?_⟩
    refine ⟨p2, _, rfl, SqT.of (sm _ _ hp2), rfl, oV fl, [oV fh], rfl, oV fh, [], rfl, rfl, rfl, ?_⟩
    have last : ∀ (l' h' : Option Int), l' = sL l fl → h' = sH h fh → (tRet (tIf (tB (tCall spRange [] C8.E0 (tCons (tTup (tCons (tVar 2) (tCons (tVar 3) tNil))) tNil))) (tTup (tCons (tVar 2) (tCons (tVar 3) tNil))) (tC .non))) { nx := fun _ H' => Q .non H', rt := Q } [some (.ref p1), some (.ref p2), some (oV l'), some (oV h'), some (oV fl), some (oV fh)] (upd H p (.tup [.ref p1, .ref p2])) := by
      intro l' h' e1 e2
      subst e1 e2
      refine ⟨_, rfl, _, rfl, (by show 2 ≤ sizeLine; decide), fun p' np' => ?_⟩
      have sm2 := sm.trans (same_upd (o := .tup [oV (sL l fl), oV (sH h fh)]) np')
      refine ⟨.ref p', _, rfl, RgAt.arg (r := metR (l, h) (fl, fh)) ⟨p', rfl, upd_same⟩, _, rfl, ?_⟩
      rw [rngB_rg]
      refine ite2 (fun e => ?_) (fun e => ?_)
      · refine ⟨_, rfl, _, rfl, (by show 2 ≤ sizeLine; decide), fun p'' np'' => ?_⟩
        refine q _ _ (sm2.trans (same_upd np'')) ?_
        unfold sharedR
        rw [if_pos e]
        exact ⟨p'', rfl, upd_same⟩
      · refine q _ _ sm2 ?_
        unfold sharedR
        rw [if_neg e]
        rfl
    have rest : ∀ (l' : Option Int), l' = sL l fl → (tSeq (tIfS (tOr (tB (tIsN (tVar 3))) (tAnd (tB (tNotN (tVar 5))) (tTest (tOp (rI0 fun i j => .bl (decide (i < j))) (tVar 5) (tVar 3))))) (tAsg (tVar 5) (gName 3)) tNext) (tRet (tIf (tB (tCall spRange [] C8.E0 (tCons (tTup (tCons (tVar 2) (tCons (tVar 3) tNil))) tNil))) (tTup (tCons (tVar 2) (tCons (tVar 3) tNil))) (tC .non)))) { nx := fun _ H' => Q .non H', rt := Q } [some (.ref p1), some (.ref p2), some (oV l'), some (oV h), some (oV fl), some (oV fh)] (upd H p (.tup [.ref p1, .ref p2])) := by
      intro l' e1
      cases h with
      | none => exact ⟨.non, rfl, _, rfl, iteT (iteT ⟨oV fh, rfl, last l' fh e1 rfl⟩)⟩
      | some hi =>
        refine ⟨.int hi, rfl, _, rfl, iteF ?_⟩
        cases fh with
        | none => exact ⟨.non, rfl, _, rfl, iteF (iteF (last l' (some hi) e1 rfl))⟩
        | some fi =>
          refine ⟨.int fi, rfl, _, rfl, iteT ⟨.int fi, rfl, .int hi, rfl, fi, hi, rfl, rfl, _, rfl, ite2 (fun e => ?_) (fun e => ?_)⟩⟩
          · have hlt : fi < hi := of_decide_eq_true e
            exact ⟨.int fi, rfl, last l' (some fi) e1 (if_pos hlt).symm⟩
          · have hlt : ¬ fi < hi := fun z => e (decide_eq_true z)
            exact last l' (some hi) e1 (if_neg hlt).symm
    cases l with
    | none => exact ⟨.non, rfl, _, rfl, iteT (iteT ⟨oV fl, rfl, rest fl rfl⟩)⟩
    | some li =>
      refine ⟨.int li, rfl, _, rfl, iteF ?_⟩
      cases fl with
      | none => exact ⟨.non, rfl, _, rfl, iteF (iteF (rest (some li) rfl))⟩
      | some fi =>
        refine ⟨.int fi, rfl, _, rfl, iteT ⟨.int fi, rfl, .int li, rfl, fi, li, rfl, rfl, _, rfl, ite2 (fun e => ?_) (fun e => ?_)⟩⟩
        · have hlt : li < fi := of_decide_eq_true e
          exact ⟨.int fi, rfl, rest (some fi) (if_pos hlt).symm⟩
        · have hlt : ¬ li < fi := fun z => e (decide_eq_true z)
          exact rest (some li) (if_neg hlt).symm
/-! ### shifted_range -/
def spShift : Sp := fun vs H Q _ => ∃ v r c, vs = [v, .int c] ∧ RgAt H v r ∧ ∀ H' v, Same H H' → RgAt H' v (shiftR r c) → Q v H'
abbrev nm_shifted_range : List Str := ["one", "by", "low", "high"]
theorem sc_shifted_range : FnScope nm_shifted_range ["one", "by"] (defScope (topS 16)) := ⟨rfl, rfl, rfl, by decide +kernel, rfl, by decide +kernel, by decide +kernel⟩
theorem c_shifted_range (D : Df K mg "shifted_range" 16 ["one", "by"]) : C8.Cal P w K mg base 1 "shifted_range" spShift [] := by
  refine D.cal sc_shifted_range (fun vs H Q E h => ?_) (fun f cdv A outer s H vs Q E hr h => ?_)
  · obtain ⟨v, r, c, rfl, _⟩ := h
    rfl
  · obtain ⟨v, r, c, rfl, hv, q⟩ := h
    have nd := sc_shifted_range.nd
    refine ⟨_, (pss_cons (ps_asg (pv 0) (pg_tup rfl (pgs_cons (pg_name (i := 2) nd rfl (.inl rfl)) (pgs_cons (pg_name (i := 3) nd rfl (.inl rfl)) pgs_nil))))
(pss_one (ps_ret (pe_tup (pa_cons (pe_ifExp (pt_cmp (pc_isN (pv 2))) pe_non (pe_op op_add (pv 2) (pv 1))) (pa_cons (pe_ifExp (pt_cmp (pc_isN (pv 3))) pe_non (pe_op op_add (pv 3) (pv 1))) pa_nil)))))), ?_⟩
    obtain ⟨p1, rfl, hp1⟩ := hv
    obtain ⟨l, h⟩ := r
    refine ⟨.ref p1, rfl, p1, _, rfl, SqT.of hp1, rfl, oV l, [oV h], rfl, oV h, [], rfl, rfl, ?_⟩
    have fin : ∀ p, H p = none → Q (.ref p) (upd H p (.tup [oV (l.map (· + c)), oV (h.map (· + c))])) := fun p np => q _ _ (same_upd np) ⟨p, rfl, upd_same⟩
    have h2 : (2 : Nat) ≤ sizeLine := by decide
    cases l with
    | none =>
      cases h with
      | none => exact ⟨.non, rfl, _, rfl, iteT ⟨.non, rfl, _, rfl, iteT ⟨h2, fin⟩⟩⟩
      | some j => exact ⟨.non, rfl, _, rfl, iteT ⟨.int j, rfl, _, rfl, iteF ⟨.int j, rfl, .int c, rfl, j, c, rfl, rfl, h2, fin⟩⟩⟩
    | some i =>
      refine ⟨.int i, rfl, _, rfl, iteF ⟨.int i, rfl, .int c, rfl, i, c, rfl, rfl, ?_⟩⟩
      cases h with
      | none => exact ⟨.non, rfl, _, rfl, iteT ⟨h2, fin⟩⟩
      | some j => exact ⟨.int j, rfl, _, rfl, iteF ⟨.int j, rfl, .int c, rfl, j, c, rfl, rfl, h2, fin⟩⟩
end
end EC

set_option maxHeartbeats 4000000
/-! E6: came_by, comes_in -/
namespace EC
open PySem PySem.Spec PyProof.Rows L2
/-! ### steps -/
inductive Step where
  | is (a : Nat) (r : Rg) | plus (a b : Nat) (c : Int) | within (a b : Nat) (r : Rg) | when (a b : Nat) (r m : Rg)
def Step.tgt : Step → Nat
  | .is a _ => a
  | .plus a _ _ => a
  | .within a _ _ => a
  | .when a _ _ _ => a
def Step.vals : Step → List V
  | .is a r => [.str "is", .str (ch a), oV r.1, oV r.2]
  | .plus a b c => [.str "plus", .str (ch a), .str (ch b), .int c]
  | .within a b r => [.str "within", .str (ch a), .str (ch b), oV r.1, oV r.2]
  | .when a b r m => [.str "when", .str (ch a), .str (ch b), oV r.1, oV r.2, oV m.1, oV m.2]
def Step.srcIn (cs : List Nat) : Step → Prop
  | .is _ _ => True
  | .plus _ b _ => b ∈ cs
  | .within _ b _ => b ∈ cs
  | .when _ b _ _ => b ∈ cs
def Step.came (own : Nat → Option Rg) : Step → Option Rg
  | .is _ r => some r
  | .plus _ b c => (own b).map fun o => shiftR o c
  | .within _ b r => (own b).bind fun o => sharedR o r
  | .when _ b r m => (own b).bind fun o => (sharedR o r).bind fun _ => some m
def StepAt (H : Hp) (v : V) (st : Step) : Prop := ∃ a, v = .ref a ∧ H a = some (.tup st.vals)
theorem StepAt.tups {H H' : Hp} {v : V} {st : Step} (e : Tups H H') (h : StepAt H v st) : StepAt H' v st := by
  obtain ⟨a, e1, e2⟩ := h
  exact ⟨a, e1, e _ _ e2⟩
theorem Step.at1 (st : Step) : st.vals[1]? = some (.str (ch st.tgt)) := by cases st <;> rfl
/-- a name program -/
def PrgAt (H : Hp) (v : V) (cs : List Nat) (sts : List Step) : Prop := ∃ a s xs, v = .ref a ∧ H a = some (.tup [.str (nmS cs), .ref s]) ∧ H s = some (.tup xs) ∧ Paired (fun x st => StepAt H x st) xs sts
/-- the ranges -/
def TolAt (H : Hp) (v : V) (rs : List (Option Rg)) : Prop := ∃ b ys, v = .ref b ∧ H b = some (.tup ys) ∧ Paired (fun y r => ORgAt H y r) ys rs
theorem PrgAt.tups {H H' : Hp} {v : V} {cs : List Nat} {sts : List Step} (e : Tups H H') (h : PrgAt H v cs sts) : PrgAt H' v cs sts := by
  obtain ⟨a, s, xs, e1, e2, e3, e4⟩ := h
  exact ⟨a, s, xs, e1, e _ _ e2, e _ _ e3, paired_imp e4 fun x st q => q.tups e⟩
theorem TolAt.tups {H H' : Hp} {v : V} {rs : List (Option Rg)} (e : Tups H H') (h : TolAt H v rs) : TolAt H' v rs := by
  obtain ⟨b, ys, e1, e2, e3⟩ := h
  exact ⟨b, ys, e1, e _ _ e2, paired_imp e3 fun x st q => ORgAt.tups e q⟩
theorem PrgAt.hd {H : Hp} {v : V} {cs : List Nat} {sts : List Step} (h : PrgAt H v cs sts) : PrgHd H v (nmS cs) := by
  obtain ⟨a, s, xs, e1, e2, _⟩ := h
  exact ⟨a, _, e1, e2⟩
def ownR (cs : List Nat) (rs : List (Option Rg)) (c : Nat) : Option Rg := (atc cs rs c).bind id
theorem atc_paired {α β : Type} {F : α → β → Prop} : ∀ {cs : List Nat} {ys : List α} {rs : List β} {c : Nat}, Paired F ys rs → cs.length = ys.length → c ∈ cs → ∃ y r, atc cs ys c = some y ∧ atc cs rs c = some r ∧ F y r
  | [], _, _, c, _, _, hc => nomatch hc
  | d :: cs, _, _, c, .nil, hl, _ => nomatch hl
  | d :: cs, y :: ys, r :: rs, c, .cons f t, hl, hc => by
    by_cases h : d = c
    · exact ⟨y, r, if_pos h, if_pos h, f⟩
    · have hc' : c ∈ cs := by
        rcases List.mem_cons.mp hc with e | e
        · exact absurd e.symm h
        · exact e
      obtain ⟨y', r', e1, e2, e3⟩ := atc_paired (cs := cs) (c := c) t (Nat.succ.inj hl) hc'
      exact ⟨y', r', (if_neg h).trans e1, (if_neg h).trans e2, e3⟩
/-! ### cuts of tuples -/
theorem cut24 (a b c d : V) : cutV [a, b, c, d] (some 2) (some 4) = [c, d] := rfl
theorem cut35 (a b c d e : V) : cutV [a, b, c, d, e] (some 3) (some 5) = [d, e] := rfl
theorem cut357 (a b c d e f g : V) : cutV [a, b, c, d, e, f, g] (some 3) (some 5) = [d, e] := rfl
theorem cut577 (a b c d e f g : V) : cutV [a, b, c, d, e, f, g] (some 5) (some 7) = [f, g] := rfl
theorem n24 : ¬ (HT.sIx 4 0 (some 2) = 0 ∧ HT.sIx 4 4 (some 4) = 4) := by decide
theorem n35 : ¬ (HT.sIx 5 0 (some 3) = 0 ∧ HT.sIx 5 5 (some 5) = 5) := by decide
theorem n357 : ¬ (HT.sIx 7 0 (some 3) = 0 ∧ HT.sIx 7 7 (some 5) = 7) := by decide
theorem n577 : ¬ (HT.sIx 7 0 (some 5) = 0 ∧ HT.sIx 7 7 (some 7) = 7) := by decide
/-- a slice that is not the whole -/
theorem slA {K : PySem.W.Frag} {H : Hp} {a : Addr} {xs ys : List V} {lo hi : Option Int} {Q : VK} (ha : H a = some (.tup xs)) (hn : ¬ (HT.sIx xs.length 0 lo = 0 ∧ HT.sIx xs.length xs.length hi = xs.length)) (hc : cutV xs lo hi = ys)
    (h : ∀ p, H p = none → Q (.ref p) (upd H p (.tup ys))) : rSlA K (.ref a) lo hi H Q :=
  ⟨a, xs, rfl, SqT.of ha, fun z => absurd z hn, fun _ p np => by rw [hc]; exact h p np⟩
theorem d_is_is : decide (V.str ("is" : Str) = V.str ("is" : Str)) = true := by decide +kernel
theorem d_pl_is : decide (V.str ("plus" : Str) = V.str ("is" : Str)) = false := by decide +kernel
theorem d_wi_is : decide (V.str ("within" : Str) = V.str ("is" : Str)) = false := by decide +kernel
theorem d_wh_is : decide (V.str ("when" : Str) = V.str ("is" : Str)) = false := by decide +kernel
theorem d_pl_pl : decide (V.str ("plus" : Str) = V.str ("plus" : Str)) = true := by decide +kernel
theorem d_wi_pl : decide (V.str ("within" : Str) = V.str ("plus" : Str)) = false := by decide +kernel
theorem d_wh_pl : decide (V.str ("when" : Str) = V.str ("plus" : Str)) = false := by decide +kernel
theorem d_wi_wi : decide (V.str ("within" : Str) = V.str ("within" : Str)) = true := by decide +kernel
theorem d_wh_wi : decide (V.str ("when" : Str) = V.str ("within" : Str)) = false := by decide +kernel
section
variable {P : Program} {w : World} {K : PySem.W.Frag} {mg : Str → Option Value} {base : Heap}
/-! ### came_by -/
def spCame : Sp := fun vs H Q _ => ∃ v1 v2 v3 cs rs st, vs = [v1, v2, v3] ∧ PrgHd H v1 (nmS cs) ∧ TolAt H v2 rs ∧ cs.length = rs.length ∧ StepAt H v3 st ∧ st.srcIn cs ∧ ∀ H' v, Same H H' → ORgAt H' v (st.came (ownR cs rs)) → Q v H'
abbrev nm_came_by : List Str := ["program", "ranges", "step", "own", "met"]
theorem sc_came_by : FnScope nm_came_by ["program", "ranges", "step"] (defScope (topS 17)) := ⟨rfl, rfl, rfl, by decide +kernel, rfl, by decide +kernel, by decide +kernel⟩
theorem c_came_by (D : Df K mg "came_by" 17 ["program", "ranges", "step"]) (c_range_at : C8.Cal P w K mg base 1 "range_at" spRangeAt []) (c_shifted_range : C8.Cal P w K mg base 1 "shifted_range" spShift []) (c_shared : C8.Cal P w K mg base 4 "shared" spShared []) : C8.Cal P w K mg base 5 "came_by" spCame [] := by
  refine D.cal sc_came_by (fun vs H Q E h => ?_) (fun f cdv A outer s H vs Q E hr h => ?_)
  · obtain ⟨v1, v2, v3, cs, rs, st, rfl, _⟩ := h
    rfl
  · obtain ⟨v1, v2, v3, cs, rs, st, rfl, h1, h2, hl, h3, hs, q⟩ := h
    have nd := sc_came_by.nd
    refine ⟨_, (pss_cons (ps_if (pt_cmpR op_eq (pe_ix ix_tup (pv 2) pe_int (fun _ _ => rfl)) pe_str (nomark _))
(pss_one (ps_ret (pe_slice sl_tupA (pv 2) (po_some pe_int) (po_some pe_int))))
pss_nil)
(pss_cons (ps_set (i := 3) nd rfl (.inl rfl) (C8.pe_c c_range_at hr (by decide) (by rfl) (pa_cons (pe_ix ix_tup (pv 0) pe_int (fun _ _ => rfl)) (pa_cons (pv 1) (pa_cons (pe_ix ix_tup (pv 2) pe_int (fun _ _ => rfl)) pa_nil)))))
(pss_cons (ps_if (pt_cmp (pc_isN (pv 3)))
(pss_one (ps_ret pe_non))
pss_nil)
(pss_cons (ps_if (pt_cmpR op_eq (pe_ix ix_tup (pv 2) pe_int (fun _ _ => rfl)) pe_str (nomark _))
(pss_one (ps_ret (C8.pe_c c_shifted_range hr (by decide) (by rfl) (pa_cons (pv 3) (pa_cons (pe_ix ix_tup (pv 2) pe_int (fun _ _ => rfl)) pa_nil)))))
pss_nil)
(pss_cons (ps_set (i := 4) nd rfl (.inl rfl) (C8.pe_c c_shared hr (by decide) (by rfl) (pa_cons (pv 3) (pa_cons (pe_slice sl_tupA (pv 2) (po_some pe_int) (po_some pe_int)) pa_nil))))
(pss_cons (ps_if (PW.pt (pw_or (pt_cmpR op_eq (pe_ix ix_tup (pv 2) pe_int (fun _ _ => rfl)) pe_str (nomark _)) (pw_or1 (pt_cmp (pc_isN (pv 4))))))
(pss_one (ps_ret (pv 4)))
pss_nil)
(pss_one (ps_ret (pe_slice sl_tupA (pv 2) (po_some pe_int) (po_some pe_int)))))))))), ?_⟩
    obtain ⟨a, stv, rfl, ha⟩ := h1
    obtain ⟨b, ys, rfl, hb, hp⟩ := h2
    obtain ⟨p, rfl, hpv⟩ := h3
    have hlen : cs.length = ys.length := hl.trans (paired_len hp).symm
    cases st with
    | is a' r =>
      obtain ⟨l, h⟩ := r
      refine ⟨.ref p, rfl, p, _, 0, _, rfl, rfl, SqT.of hpv, atI_nat (j := 0) rfl, rfl, _, rfl, ?_⟩
      rw [d_is_is]
      refine iteT ⟨.ref p, rfl, 2, rfl, 4, rfl, slA hpv n24 (cut24 _ _ _ _) fun p' np => ?_⟩
      exact q _ _ (same_upd np) ⟨p', rfl, upd_same⟩
    | plus a' b' c =>
      refine ⟨.ref p, rfl, p, _, 0, _, rfl, rfl, SqT.of hpv, atI_nat (j := 0) rfl, rfl, _, rfl, ?_⟩
      rw [d_pl_is]
      refine iteF ⟨.ref a, rfl, a, _, 0, _, rfl, rfl, SqT.of ha, atI_nat (j := 0) rfl, .ref b, rfl, .ref p, rfl, p, _, 2, _, rfl, rfl, SqT.of hpv, atI_nat (j := 2) rfl, ?_⟩
      obtain ⟨y, r, e1, e2, e3⟩ := atc_paired (c := b') hp hlen hs
      have eo : ownR cs rs b' = r := by unfold ownR; rw [e2]; rfl
      refine ⟨cs, b, ys, b', y, rfl, hb, hlen, e1, fun H1 sm => ?_⟩
      have e3' := ORgAt.tups (Same.tups sm) e3
      cases r with
      | none =>
        obtain rfl : y = .non := e3'
        refine ⟨.non, rfl, _, rfl, iteT ?_⟩
        refine q H1 .non sm ?_
        show ORgAt H1 .non ((ownR cs rs b').map _)
        rw [eo]
        rfl
      | some o =>
        obtain ⟨po, rfl, hpo⟩ := e3'
        refine ⟨.ref po, rfl, _, rfl, iteF ?_⟩
        refine ⟨.ref p, rfl, p, _, 0, _, rfl, rfl, SqT.of (sm _ _ hpv), atI_nat (j := 0) rfl, rfl, _, rfl, ?_⟩
        rw [d_pl_pl]
        refine iteT ⟨.ref po, rfl, .ref p, rfl, p, _, 3, _, rfl, rfl, SqT.of (sm _ _ hpv), atI_nat (j := 3) rfl, ?_⟩
        refine ⟨.ref po, o, c, rfl, ⟨po, rfl, hpo⟩, fun H2 v sm2 hv => q H2 v (sm.trans sm2) ?_⟩
        show ORgAt H2 v ((ownR cs rs b').map _)
        rw [eo]
        exact hv
    | within a' b' g =>
      obtain ⟨gl, gh⟩ := g
      refine ⟨.ref p, rfl, p, _, 0, _, rfl, rfl, SqT.of hpv, atI_nat (j := 0) rfl, rfl, _, rfl, ?_⟩
      rw [d_wi_is]
      refine iteF ⟨.ref a, rfl, a, _, 0, _, rfl, rfl, SqT.of ha, atI_nat (j := 0) rfl, .ref b, rfl, .ref p, rfl, p, _, 2, _, rfl, rfl, SqT.of hpv, atI_nat (j := 2) rfl, ?_⟩
      obtain ⟨y, r, e1, e2, e3⟩ := atc_paired (c := b') hp hlen hs
      have eo : ownR cs rs b' = r := by unfold ownR; rw [e2]; rfl
      refine ⟨cs, b, ys, b', y, rfl, hb, hlen, e1, fun H1 sm => ?_⟩
      have e3' := ORgAt.tups (Same.tups sm) e3
      cases r with
      | none =>
        obtain rfl : y = .non := e3'
        refine ⟨.non, rfl, _, rfl, iteT ?_⟩
        refine q H1 .non sm ?_
        show ORgAt H1 .non ((ownR cs rs b').bind _)
        rw [eo]
        rfl
      | some o =>
        obtain ⟨po, rfl, hpo⟩ := e3'
        refine ⟨.ref po, rfl, _, rfl, iteF ?_⟩
        refine ⟨.ref p, rfl, p, _, 0, _, rfl, rfl, SqT.of (sm _ _ hpv), atI_nat (j := 0) rfl, rfl, _, rfl, ?_⟩
        rw [d_wi_pl]
        refine iteF ⟨.ref po, rfl, .ref p, rfl, 3, rfl, 5, rfl, slA (sm _ _ hpv) n35 (cut35 _ _ _ _ _) fun p' np => ?_⟩
        have sm1 := sm.trans (same_upd (o := .tup [oV gl, oV gh]) np)
        refine ⟨.ref po, .ref p', o, (gl, gh), rfl, ⟨po, rfl, same_upd np _ _ hpo⟩, ⟨p', rfl, upd_same⟩, fun H2 v sm2 hv => ?_⟩
        have sm3 := sm1.trans sm2
        refine ⟨.ref p, rfl, p, _, 0, _, rfl, rfl, SqT.of (sm3 _ _ hpv), atI_nat (j := 0) rfl, rfl, _, rfl, ?_⟩
        rw [d_wi_wi]
        refine iteT (iteT ⟨v, rfl, q H2 v sm3 ?_⟩)
        show ORgAt H2 v ((ownR cs rs b').bind _)
        rw [eo]
        exact hv
    | when a' b' g m =>
      obtain ⟨gl, gh⟩ := g
      obtain ⟨ml, mh⟩ := m
      refine ⟨.ref p, rfl, p, _, 0, _, rfl, rfl, SqT.of hpv, atI_nat (j := 0) rfl, rfl, _, rfl, ?_⟩
      rw [d_wh_is]
      refine iteF ⟨.ref a, rfl, a, _, 0, _, rfl, rfl, SqT.of ha, atI_nat (j := 0) rfl, .ref b, rfl, .ref p, rfl, p, _, 2, _, rfl, rfl, SqT.of hpv, atI_nat (j := 2) rfl, ?_⟩
      obtain ⟨y, r, e1, e2, e3⟩ := atc_paired (c := b') hp hlen hs
      have eo : ownR cs rs b' = r := by unfold ownR; rw [e2]; rfl
      refine ⟨cs, b, ys, b', y, rfl, hb, hlen, e1, fun H1 sm => ?_⟩
      have e3' := ORgAt.tups (Same.tups sm) e3
      cases r with
      | none =>
        obtain rfl : y = .non := e3'
        refine ⟨.non, rfl, _, rfl, iteT ?_⟩
        refine q H1 .non sm ?_
        show ORgAt H1 .non ((ownR cs rs b').bind _)
        rw [eo]
        rfl
      | some o =>
        obtain ⟨po, rfl, hpo⟩ := e3'
        refine ⟨.ref po, rfl, _, rfl, iteF ?_⟩
        refine ⟨.ref p, rfl, p, _, 0, _, rfl, rfl, SqT.of (sm _ _ hpv), atI_nat (j := 0) rfl, rfl, _, rfl, ?_⟩
        rw [d_wh_pl]
        refine iteF ⟨.ref po, rfl, .ref p, rfl, 3, rfl, 5, rfl, slA (sm _ _ hpv) n357 (cut357 _ _ _ _ _ _ _) fun p' np => ?_⟩
        have sm1 := sm.trans (same_upd (o := .tup [oV gl, oV gh]) np)
        refine ⟨.ref po, .ref p', o, (gl, gh), rfl, ⟨po, rfl, same_upd np _ _ hpo⟩, ⟨p', rfl, upd_same⟩, fun H2 v sm2 hv => ?_⟩
        have sm3 := sm1.trans sm2
        refine ⟨.ref p, rfl, p, _, 0, _, rfl, rfl, SqT.of (sm3 _ _ hpv), atI_nat (j := 0) rfl, rfl, _, rfl, ?_⟩
        rw [d_wh_wi]
        refine iteF ?_
        cases hsh : sharedR o (gl, gh) with
        | none =>
          rw [hsh] at hv
          obtain rfl : v = .non := hv
          refine ⟨.non, rfl, _, rfl, iteT ⟨.non, rfl, q H2 .non sm3 ?_⟩⟩
          show ORgAt H2 .non ((ownR cs rs b').bind _)
          rw [eo]
          show ORgAt H2 .non ((sharedR o (gl, gh)).bind _)
          rw [hsh]
          rfl
        | some met =>
          rw [hsh] at hv
          obtain ⟨pm, rfl, hpm⟩ := hv
          refine ⟨.ref pm, rfl, _, rfl, iteF ?_⟩
          refine ⟨.ref p, rfl, 5, rfl, 7, rfl, slA (sm3 _ _ hpv) n577 (cut577 _ _ _ _ _ _ _) fun p3 np3 => ?_⟩
          refine q _ _ (sm3.trans (same_upd np3)) ?_
          show ORgAt _ _ ((ownR cs rs b').bind _)
          rw [eo]
          show ORgAt _ _ ((sharedR o (gl, gh)).bind _)
          rw [hsh]
          exact ⟨p3, rfl, upd_same⟩
/-! ### comes_in -/
def comeStep (cs : List Nat) (rs : List (Option Rg)) (c : Nat) (f : Option Rg) (st : Step) : Option Rg := if st.tgt = c then joinR f (st.came (ownR cs rs)) else f
def comesIn (cs : List Nat) (rs : List (Option Rg)) (sts : List Step) (c : Nat) : Option Rg := sts.foldl (comeStep cs rs c) none
def spComes : Sp := fun vs H Q _ => ∃ v1 v2 cs rs sts c, vs = [v1, v2, .str (ch c)] ∧ PrgAt H v1 cs sts ∧ TolAt H v2 rs ∧ cs.length = rs.length ∧ (∀ st ∈ sts, st.srcIn cs) ∧ ∀ H' v, Same H H' → ORgAt H' v (comesIn cs rs sts c) → Q v H'
abbrev nm_comes_in : List Str := ["program", "ranges", "name", "found", "step"]
theorem sc_comes_in : FnScope nm_comes_in ["program", "ranges", "name"] (defScope (topS 18)) := ⟨rfl, rfl, rfl, by decide +kernel, rfl, by decide +kernel, by decide +kernel⟩
theorem c_comes_in (D : Df K mg "comes_in" 18 ["program", "ranges", "name"]) (c_joined : C8.Cal P w K mg base 1 "joined" spJoined []) (c_came_by : C8.Cal P w K mg base 5 "came_by" spCame []) : C8.Cal P w K mg base 6 "comes_in" spComes [] := by
  refine D.cal sc_comes_in (fun vs H Q E h => ?_) (fun f cdv A outer s H vs Q E hr h => ?_)
  · obtain ⟨v1, v2, cs, rs, sts, c, rfl, _⟩ := h
    rfl
  · obtain ⟨v1, v2, cs, rs, sts, c, rfl, h1, h2, hl, hs, q⟩ := h
    have nd := sc_comes_in.nd
    refine ⟨_, (pss_cons (ps_set (i := 3) nd rfl (.inl rfl) pe_non)
(pss_cons (ps_for PassesOwn.never rfl (pi_tup (pe_ix ix_tup (pv 0) pe_int (fun _ _ => rfl))) (pg_name (i := 4) nd rfl (.inl rfl))
(pss_one (ps_if (pt_cmpR op_eq (pe_ix ix_tup (pv 4) pe_int (fun _ _ => rfl)) (pv 2) (nomark _))
(pss_one (ps_set (i := 3) nd rfl (.inl rfl) (C8.pe_c c_joined hr (by decide) (by rfl) (pa_cons (pv 3) (pa_cons (C8.pe_c c_came_by hr (by decide) (by rfl) (pa_cons (pv 0) (pa_cons (pv 1) (pa_cons (pv 4) pa_nil)))) pa_nil)))))
pss_nil)))
(pss_one (ps_ret (pv 3))))), ?_⟩
    obtain ⟨a, sa, xs, rfl, ha, hsa, hx⟩ := id h1
    refine ⟨.ref a, rfl, a, _, 1, _, rfl, rfl, SqT.of ha, atI_nat (j := 1) rfl, sa, rfl, ⟨xs, SqT.of hsa⟩, ?_⟩
    refine for_tup (xs := xs) (fun i σ H' => ∃ v y4, σ = [some (.ref a), some v2, some (.str (ch c)), some v, y4] ∧ Same H H' ∧ ORgAt H' v ((sts.take i).foldl (comeStep cs rs c) none)) ⟨.non, none, rfl, Same.refl H, rfl⟩ (fun i σ H' _ hP => ?_) (fun i x σ H' hi hP => ?_) (fun σ H' hP => ?_)
    · obtain ⟨_, _, _, sm, _⟩ := hP
      exact SqT.of (sm _ _ hsa)
    · obtain ⟨v, y4, rfl, sm, hv⟩ := hP
      obtain ⟨st, hst, hat⟩ := paired_at hx hi
      have hat' := hat.tups (Same.tups sm)
      obtain ⟨p, rfl, hp⟩ := id hat'
      have hmem : st ∈ sts := List.mem_of_getElem? hst
      refine ⟨.ref p, rfl, p, _, 1, _, rfl, rfl, SqT.of hp, atI_nat (j := 1) st.at1, .str (ch c), rfl, rfl, _, rfl, ?_⟩
      rw [ch_eq]
      have ef : (sts.take (i + 1)).foldl (comeStep cs rs c) none = comeStep cs rs c ((sts.take i).foldl (comeStep cs rs c) none) st := by
        rw [take_more hst, List.foldl_append]
        rfl
      refine ite2 (fun e => ?_) (fun e => ?_)
      · have et : st.tgt = c := of_decide_eq_true e
        refine ⟨v, rfl, .ref a, rfl, v2, rfl, .ref p, rfl, .ref a, v2, .ref p, cs, rs, st, rfl, (h1.tups (Same.tups sm)).hd, h2.tups (Same.tups sm), hl, hat', hs st hmem, fun H2 v3 sm2 hv3 => ?_⟩
        refine ⟨v, v3, _, _, rfl, ORgAt.tups (Same.tups sm2) hv, hv3, fun H3 v4 sm3 hv4 => ?_⟩
        refine ⟨v4, some (.ref p), rfl, (sm.trans sm2).trans sm3, ?_⟩
        rw [ef]
        unfold comeStep
        rw [if_pos et]
        exact hv4
      · have et : ¬ st.tgt = c := fun z => e (decide_eq_true z)
        refine ⟨v, some (.ref p), rfl, sm, ?_⟩
        rw [ef]
        unfold comeStep
        rw [if_neg et]
        exact hv
    · obtain ⟨v, y4, rfl, sm, hv⟩ := hP
      have e1 : sts.take xs.length = sts := List.take_of_length_le (Nat.le_of_eq (paired_len hx).symm)
      rw [e1] at hv
      exact ⟨v, rfl, q H' v sm hv⟩
end
end EC

set_option maxHeartbeats 4000000
/-! E7: NotUsable made -/
namespace EC
open PySem PySem.W PySem.Calls PyProof.Rows PySem.HandSPX
abbrev sNI : Stmt := L2.inClass (topS 3) 0
/-- what the written part says of NotUsable, at C, and of its __init__, at fI -/
structure NuTxt (P : Program) (K : Frag) (mg : Str → Option Value) (C fI : Addr) : Prop where
  gC : mg "NotUsable" = some (.ref C)
  zs : mg "super" = none
  cls : ∃ nm q N bs bm sn sub ab col dd k0 k1 k2 k3 k5, K.lookup C = some (excClassObj nm q C N bs bm true sn sub ab col dd k0 k1 k2 k3 k5 "ValueError.__new__") ∧ refsVE bm = true
  sa : findIn K (.ref C) "__setattr__" = some (some (.builtin "object.__setattr__"))
  ga : findIn K (.ref C) "__getattribute__" = some (some (.builtin "BaseException.__getattribute__"))
  gg : findIn K (.ref C) "__getattr__" = some none
  noW : findIn K (.ref C) "word" = some none
  noA : findIn K (.ref C) "at" = some none
  iC : findIn K (.ref C) "__init__" = some (some (.ref fI))
  tC : typeIn K (.ref fI) = some (.type "function")
  kC : keepIn K (.ref C) = true
  exC : subIn K (.ref C) (.type "BaseException") = some true
  exV : subIn K (.ref C) (.type "ValueError") = some true
  tyC : typeIn K (.ref C) = some (.type "type")
  hdC : hasDictIn K C = true
  te : exmOne K (.ref C) (.ref C) = some true
  mro : mroIn K C (.ref C) = some true
  sup : ks_superIn K C C "__init__" = some (some (.builtin "ValueError.__init__"))
  tp : nsIn K cStatics "thirdparty.any" = some none
  ntop : (P.main.scope.names.lookup ("super" : Str)).isSome = false
  fn : ∃ (oc : Value) (od : Option Addr) (kV doc pm : Value) (an : Option Addr) (cda : Addr) (ct : Value) (cc : Addr) (osl : Array (Option Value)) (ccl : Value) (cdd : Option Addr) (vs : Array Value) (ccs : Array (Option Value)) (file : Str) (tf : Tok) (cl : Value) (cld : Option Addr) (csl : Array (Option Value)),
    K.lookup fI = some ⟨oc, od, .func (ksFn "__init__" "NotUsable.__init__" (L2.defArgs sNI) (L2.defBody sNI) (L2.defScope sNI) .none kV doc pm an (.ref cda) ct cc), osl⟩ ∧ codeIn K (.ref cda) "NotUsable.__init__" = true
    ∧ K.lookup cda = some ⟨ccl, cdd, .fields vs, ccs⟩ ∧ vs[2]? = some (.str file tf) ∧ ((P.main.file : Str) == file) = true ∧ K.lookup cc = some ⟨cl, cld, .cell (some (.ref C)), csl⟩
theorem few_size (a b : Value) : [a, b].length ≤ sizeLine := by
  rw [sizeLine_eq]
  exact (by decide : 2 ≤ 16777216)
/-- what __init__ leaves of a fresh exception at x -/
structure NuEnd (h h' : Heap) (x C dx t1 : Addr) (a b : Value) : Prop where
  keep : ∀ y o, y ≠ x → h.get? y = some o → h'.get? y = some o
  obj : h'.get? x = some { cls := .ref C, dict := some dx, data := .fields #[.ref t1, .none, .none, .none, .bool false, .none] }
  dbig : h.objs.size ≤ dx
  dne : dx ≠ x
  ns : h'.Ns1 dx (fun y => if y = "at" then some b else if y = "word" then some a else none)
/-- a made NotUsable -/
structure NuMade (h h' : Heap) (e C d : Addr) (a b : Value) : Prop where
  keep : ∀ y o, h.get? y = some o → h'.get? y = some o
  new : h.objs.size ≤ e
  obj : ∃ oe vs, h'.get? e = some oe ∧ oe.cls = .ref C ∧ oe.dict = some d ∧ oe.data = .fields vs ∧ vs[1]? = some .none
  dbig : h.objs.size ≤ d
  dne : d ≠ e
  ns : h'.Ns1 d (fun y => if y = "at" then some b else if y = "word" then some a else none)
section
variable {P : Program} {w : World} {A : Around} {E : Value → Shared → Prop} {R : Result → Shared → Prop} {s : Shared} {K : Frag} {mg : Str → Option Value} {C fI : Addr} {base : Heap}
theorem ldN {env : Env} {m : Str → Option Value} {x : Str} {pos : Pos} {v : Value} {Q : Value → Shared → Prop} (hn : s.heap.Ns env.locals m) (hv : m x = some v) (h : Q v s)
    (hk : env.scope.kind = .function := by rfl)
    (hl : env.kindOf x = some .local := by rfl)
    (hd : (x == ("__debug__" : Str)) = false := by decide) : wpAny (model P w) A (eval (.Name x pos) env) Q E s :=
  wpAny_Name (wpAny_loadName_local hk hl hn hv h) hd
/-- the built-in __init__, bound to the exception and called -/
theorem nu_bound {hp : Heap} {g : Array GenState} {d : Drawn} {t : Nat} {os : OsState} {nm q : Str} {N : Addr} {bs bm : List Value} {hdct : Bool} {sn : List Str} {sub : List Value} {ab : Bool} {col : Option Bool} {dd : Option Addr} {k0 k1 k2 k3 k5 : Option Value}
    {u x t0 : Addr} {v1 v2 : Value} {Q : Value → Shared → Prop} (hC : hp.get? C = some (excClassObj nm q C N bs bm hdct sn sub ab col dd k0 k1 k2 k3 k5 "ValueError.__new__")) (he : hp.get? x = some (excO C t0)) (hu : hp.get? u = some (kxs_mw "ValueError.__init__" x))
    (hq : ∀ h' t1, (∀ b o, b ≠ x → hp.get? b = some o → h'.get? b = some o) → h'.get? x = some (excO C t1) → Q .none ⟨h', g, d, t, os⟩) :
    wpAny (model P w) A (call (.ref u) [v1, v2]) Q E ⟨hp, g, d, t, os⟩ := by
  have e1 : (Value.type "method-wrapper" == Value.type "method" || Value.type "method-wrapper" == Value.type "builtin_function_or_method" || Value.type "method-wrapper" == Value.type "method-wrapper") = true := by
    decide
  have last : wpAny (model P w) A.in1 (callAny (.ref u) ⟨[v1, v2], []⟩) (fun fin s' => match fin with | .done f => wants Q E (.ok f) s' | .again c' => c'.quiet = true ∧ codeAny (model P w) A c' (wants Q E) s') (fun e s' => wants Q E (.error e) s') ⟨hp, g, d, t, os⟩ := by
    unfold callAny
    refine wpAny_bind (wpAny_load hu ?_)
    simp only [kxs_mw, e1, if_true]
    exact KFB.if_so (by decide) (wpAny_bind (check_bound_init F.excBase_ValueError.toExcCallFacts hC he rfl (wpAny_bind (wpAny_pure (wpAny_pure ⟨plainId_quiet F.excBase_ValueError.init.plain _,
      codeAny_builtin F.excBase_ValueError.initEntry (exc_init_tree (cls := .ref C) (t0 := t0) (dv := none) (c2 := .none) (c3 := .none) (b4 := .bool false) he (few_size v1 v2) fun h' k e1 _ => hq h' _ k e1)⟩)))))
  exact wpAny_call (codeAny_of_tree last)
theorem nu_init (T : NuTxt P K mg C fI) (M : L2.Mod K mg base) (kb : ∀ b o, base.get? b = some o → s.heap.get? b = some o) {x t0 : Addr} {v1 v2 : Value} (hx : s.heap.get? x = some (excO C t0)) (hnx : K.lookup x = none) (hroom : A.depth < recursionLimit)
    (hq : ∀ h' tk dx t1, NuEnd s.heap h' x C dx t1 v1 v2 → R (.ok (.ret .none)) { s with heap := h', toks := tk }) :
    codeAny (model P w) A (.call (.ref fI) ⟨[.ref x, v1, v2], []⟩) R s := by
  obtain ⟨oc, od, kV, doc, pm, an, cda, ct, cc, osl, ccl, cdd, vs, ccs, file, tf, cl, cld, csl, ho, hcd, hco, hvs, hfile, hcc⟩ := T.fn
  obtain ⟨nm, q, N, bs, bm, sn, sub, ab, col, dd, k0, k1, k2, k3, k5, hC, hbm⟩ := T.cls
  have hcl : clsIn K C = some { name := nm, bases := bs, mro := .ref C :: bm, ns := N, qualname := q, hasDict := true, slotNames := sn, subclasses := sub, abstract := ab, collection := col, hasDel := false } := by unfold clsIn; rw [hC] <;> rfl
  have hsup := T.sup
  unfold ks_superIn at hsup
  rw [hcl] at hsup
  obtain ⟨hp, g, d, t, os⟩ := s
  have X : K.In hp := M.kin.keeps kb
  obtain ⟨mb, hmb, hb⟩ := M.blt
  refine ks_codeAny_call_defAt (fd := ksFn "__init__" "NotUsable.__init__" (L2.defArgs sNI) (L2.defBody sNI) (L2.defScope sNI) .none kV doc pm an (.ref cda) ct cc) (body := L2.defBody sNI) (args := ⟨[.ref x, v1, v2], []⟩) (binds := [("self", .ref x), ("word", v1), ("at", v2)])
    hroom (X _ _ ho) rfl (M.nolimit.keeps kb) (codeRec_of X hcd) rfl (BindsTo.of_eq (by first | rfl | with_unfolding_all rfl)) (show ∀ x ∈ (L2.defScope sNI).names, x.2 ≠ .cell by decide +kernel) (fun y hy => by rcases List.mem_cons.mp hy with rfl | hy; rfl; rcases List.mem_cons.mp hy with rfl | hy; rfl; rcases List.mem_cons.mp hy with rfl | hy; rfl; cases hy) (fun h₁ hns hk₁ => ?_)
  have X₁ : K.In h₁ := X.keeps hk₁
  have kb₁ : ∀ b o, base.get? b = some o → h₁.get? b = some o := fun b o e => hk₁ b o (kb b o e)
  have hx₁ := hk₁ _ _ hx
  have I₁ : InstAt h₁ x (excO C t0) C none := ⟨hx₁, rfl, rfl, trivial⟩
  have hxC : x ≠ C := ks_ne X₁ I₁ hcl
  -- super().__init__(word, at)
  refine ks_wpAt_execs_cons (ks_wpAt_Expr_any (ks_wpAt_MethodCall (pl := _) (ks_wpAt_super_base (env := ksEnv "NotUsable.__init__" (L2.defScope sNI) hp.objs.size fI (.ref cda) cc) rfl rfl rfl rfl (X₁ _ _ ho) rfl rfl rfl (X₁ _ _ hco) rfl hvs hfile T.ntop ?_)))
  refine ks_loadName_global rfl rfl (loadGlobal_builtin (M.glob.keeps kb₁) T.zs (hmb.keeps kb₁) ((hb _ (by decide +kernel)).trans (by decide +kernel)) ⟨rfl, ?_⟩)
  refine wpAny_loadName_free rfl rfl rfl ⟨_, X₁ _ _ hcc, rfl⟩ ?_
  refine wpAny_loadName_local rfl rfl hns rfl ?_
  refine ks_wpAny_isType_cls (X₁ _ _ hC) rfl ⟨rfl, ?_⟩
  refine ks_wpAny_call_super (X₁ _ _ hC) rfl hx₁ rfl (fun c e => by cases e) (looks_mroIn X₁ T.mro) (fun h₂ hso hk₂ => ?_)
  have X₂ : K.In h₂ := X₁.keeps hk₂
  have I₂ : InstAt h₂ x (excO C t0) C none := ⟨hk₂ _ _ hx₁, rfl, rfl, trivial⟩
  refine kxs_getMethod kxs_ValueError hso (looks_opaque X₂ T.tp) (l₀ := .ref C :: bm) ((looks_clsIn X₂ hcl).andThen .now) rfl X₂ hsup (I₂.type.andThen (looks_subIn X₂ T.exV)) hxC rfl ?_
  have hk₃ : ∀ b o, h₁.get? b = some o → (h₂.push (kxs_mw "ValueError.__init__" x)).get? b = some o := fun b o e => Heap.get?_push_of_some _ (hk₂ b o e)
  have hmw : (h₂.push (kxs_mw "ValueError.__init__" x)).get? h₂.objs.size = some (kxs_mw "ValueError.__init__" x) := Heap.get?_push_at rfl rfl
  have hns₃ : (h₂.push (kxs_mw "ValueError.__init__" x)).Ns hp.objs.size _ := hns.at fun o q => hk₃ _ _ q
  have X₃ : K.In (h₂.push (kxs_mw "ValueError.__init__" x)) := X₁.keeps hk₃
  generalize h₂.push (kxs_mw "ValueError.__init__" x) = h₃ at hk₃ hmw hns₃ X₃ ⊢
  refine kxs_callWith (i := "ValueError.__init__") (x := x) rfl (evalArgs_plain (spliced_cons (ldN (v := v1) hns₃ rfl (spliced_cons (ldN (v := v2) hns₃ rfl (spliced_nil ⟨hmw, ?_⟩))))))
  refine nu_bound (X₃ _ _ hC) (hk₃ _ _ hx₁) hmw fun h₄ t1 k₄ hx₄ => ?_
  have xL : hp.objs.size ≠ x := Nat.ne_of_gt (Heap.lt_size hx)
  have hns₄ : h₄.Ns hp.objs.size _ := hns₃.at fun o q => k₄ _ _ xL q
  have k14 : ∀ b o, b ≠ x → h₁.get? b = some o → h₄.get? b = some o := fun b o n e => k₄ b o n (hk₃ b o e)
  have X₄ : K.In h₄ := fun a o e => k14 a o (fun z => by rw [z] at e; have e' : K.lookup x = some o := e; rw [hnx] at e'; cases e') (X₁ a o e)
  show PySem.wpAt _ _ _ (execs _ _) _ _ _
  -- self.word = word
  refine wpAt_of_wpAny (wpAny_execs_cons (plainObj_wpAny_Assign_Attribute (ldN (v := v1) hns₄ rfl (ldN (v := .ref x) hns₄ rfl ?_))))
  refine set_plain X₄ (ox := excO C t1) (od := none) ⟨hx₄, rfl, rfl, trivial⟩ T.sa ?_
  refine exc_osa X₄ hx₄ hcl (show refsVE (.ref C :: bm) = true from hbm) rfl T.noW (fun h₅ tk₅ dx k₅ dn dne hx₅ hn₅ => ?_)
  have hns₅ : h₅.Ns hp.objs.size _ := hns₄.at fun o q => k₅ _ _ xL q
  have X₅ : K.In h₅ := fun a o e => k₅ a o (fun z => by rw [z] at e; have e' : K.lookup x = some o := e; rw [hnx] at e'; cases e') (X₄ a o e)
  show wpAny _ _ (execs _ _) _ _ _
  -- self.at = at
  refine wpAny_execs_cons (plainObj_wpAny_Assign_Attribute (ldN (v := v2) hns₅ rfl (ldN (v := .ref x) hns₅ rfl ?_)))
  have wi : Within (fun y : Str => if y = "word" then some v1 else none) ["word"] := by
    intro y hy
    by_cases h : y = "word"
    · rw [h]; exact List.mem_cons_self
    · exact absurd (if_neg h) hy
  obtain ⟨oD, esD, epD, hoD, hdD, _⟩ := hn₅.count wi
  refine set_plain X₅ (ox := { cls := .ref C, dict := some dx, data := .fields #[.ref t1, .none, .none, .none, .bool false, .none] }) (od := some oD) ⟨hx₅, rfl, rfl, hoD⟩ T.sa ?_
  refine OEX.osa_old X₅ hx₅ hn₅ wi (by decide) hcl (show refsVE (.ref C :: bm) = true from hbm) rfl T.noA (fun h₆ tk₆ k₆ hn₆ => ?_)
  show wpAny _ _ (execs _ _) _ _ _
  have lt0 : hp.objs.size ≤ dx := by
    obtain ⟨oL, _, _, hL, _⟩ := hns₄
    exact Nat.le_of_lt (Nat.lt_of_lt_of_le (Heap.lt_size hL) dn)
  have ndx : ∀ {b : Addr} {o : Obj}, hp.get? b = some o → b ≠ dx := fun {b o} e => Nat.ne_of_lt (Nat.lt_of_lt_of_le (Heap.lt_size e) lt0)
  exact wpAny_execs_nil (hq h₆ _ dx t1 ⟨fun b o hb e => k₆ b o (ndx e) (k₅ b o hb (k14 b o hb (hk₁ b o e))), k₆ _ _ (Ne.symm dne) hx₅, lt0, dne, hn₆⟩)
theorem nu_made (T : NuTxt P K mg C fI) (M : L2.Mod K mg base) (kb : ∀ b o, base.get? b = some o → s.heap.get? b = some o) {a b : Value} (hroom : A.depth + 1 < recursionLimit)
    (hq : ∀ h' tk e d, NuMade s.heap h' e C d a b → R (.ok (.ret (.ref e))) { s with heap := h', toks := tk }) :
    codeAny (model P w) A (.call (.ref C) ⟨[a, b], []⟩) R s := by
  obtain ⟨nm, q, N, bs, bm, sn, sub, ab, col, dd, k0, k1, k2, k3, k5, hC, hbm⟩ := T.cls
  obtain ⟨hp, g, dr, tk, os⟩ := s
  have X : K.In hp := M.kin.keeps kb
  have k : ∀ y o, hp.get? y = some o → ((hp.push (kdv_tup [a, b])).push (excO C hp.objs.size)).get? y = some o := fun y o e => Heap.get?_push_of_some _ (Heap.get?_push_of_some _ e)
  have hget : ((hp.push (kdv_tup [a, b])).push (excO C hp.objs.size)).get? (hp.objs.size + 1) = some (excO C hp.objs.size) := by
    heap_get
  have hnx : K.lookup (hp.objs.size + 1) = none := by
    cases e : K.lookup (hp.objs.size + 1) with
    | none => rfl
    | some o => exact absurd (Nat.lt_of_succ_lt (Heap.lt_size (X _ _ e))) (Nat.lt_irrefl _)
  refine call_own F.excBase_ValueError (fun Y => refsVE_contains Y bm hbm) (X _ _ hC) (looks_findIn X T.iC) (fun self => bind_fn X self T.tC) (few_size a b) ?_
  refine nu_init (s := ⟨(hp.push (kdv_tup [a, b])).push (excO C hp.objs.size), g, dr, tk, os⟩) T M (fun y o e => k y o (kb y o e)) hget hnx hroom fun h' tk' dx t1 ⟨k', hx, dn, dne, hns⟩ => ?_
  have old : ∀ y o, hp.get? y = some o → h'.get? y = some o := fun y o e => k' y o (Nat.ne_of_lt (Nat.lt_succ_of_lt (Heap.lt_size e))) (k y o e)
  have z : hp.objs.size ≤ dx := by
    have q := dn
    rw [Heap.size_push, Heap.size_push] at q
    omega
  exact ⟨rfl, hq h' tk' (hp.objs.size + 1) dx ⟨old, Nat.le_succ _, ⟨_, _, hx, rfl, rfl, rfl, rfl⟩, z, dne, hns⟩⟩
end
end EC

set_option maxHeartbeats 4000000
/-! E8: raise NotUsable(..), incoming_ranges -/
namespace EC
open PySem PySem.Spec PyProof.Rows L2
/-- the fields of a made NotUsable, the newest first -/
def nuF (wd : Str) : List (Str × V) := [("at", .int (-1)), ("word", .str wd)]
section
variable {X : Cx} {C fI : Addr}
/-- NotUsable(a, b) -/
def tMkNu (C : Addr) (ta : TA) : L2.St → Hp → XK → Prop := fun σ H Q => ta σ H fun vs H1 => ∃ v1 v2, vs = [v1, v2] ∧ ∀ d, H1 d = none → Q (.ref C) (some d) (upd H1 d (.xd [(("at" : Str), v2), (("word" : Str), v1)]))
theorem pmk_nu {a b : Expr} {ta : TA} {p pos : Pos} {k : Nat} (T : NuTxt X.prog X.K X.mg C fI) (hr : Room k X.A) (ha : PA X [a, b] ta) (hg : Gl X "NotUsable" := by rfl)
    (he : starEach (a :: [b]) X.env = (false, eval a X.env) :: starEach [b] X.env := by rfl)
    (hpl : (backTo pos (starEach [b] X.env)).any (·.1) = false := by rfl) :
    PMk X (.Call (.Name "NotUsable" p) [a, b] [] pos) (tMkNu C ta) := by
  intro pins s σ H Q I h
  refine wpAny_Call_Name_kw (ld_glob I hg T.gC ?_)
  refine PySem.W.callWith_K (h₀ := X.base) I.ok.mod.kin T.kC (thn (ha.run pos pins s σ H _ I h) fun us s1 hh => ?_) he hpl
  obtain ⟨vs, H1, I1, r1, v1, v2, ev, q1⟩ := hh
  subst ev
  refine ⟨I1.kIn, ?_⟩
  cases r1 with
  | cons rv1 rn1 =>
    cases rn1 with
    | cons rv2 rn2 =>
      rename_i u1 u2 us2
      cases rn2
      show wpAny _ _ (call (.ref C) [u1, u2]) _ _ _
      have kb := I1.bk
      obtain ⟨hp, g, dr, tk, os⟩ := s1
      refine wpAny_call (nu_made T I1.ok.mod kb (by have := hr.dp; omega) fun h' tk' e d M => ?_)
      show MkP X pins σ Q (.ref e) ⟨h', g, dr, tk', os⟩
      obtain ⟨oe, fv, hoe, hc, hd, hdat, h1⟩ := M.obj
      have hns := M.ns
      obtain ⟨G', g1, g2⟩ := restrict h' fun b => decide (b ≠ e)
      have gk : ∀ b, b ≠ e → G'.get? b = h'.get? b := fun b hb => g1 b (decide_eq_true hb)
      have ge : G'.get? e = none := g2 e (by simp)
      have old : ∀ b o, hp.get? b = some o → G'.get? b = some o := fun b o q => (gk b (Nat.ne_of_lt (Nat.lt_of_lt_of_le (Heap.lt_size q) M.new))).trans (M.keep b o q)
      have ob : ObjOk X.prog X.w (upd H1 d (.xd [(("at" : Str), v2), (("word" : Str), v1)])) G' d (.xd [(("at" : Str), v2), (("word" : Str), v1)]) :=
        ⟨_, hns.at (fun o q => (gk d M.dne).trans q), relO_put rv2 (relO_put (fs := []) (mA := fun _ => none) rv1 fun g => True.intro)⟩
      have J : Inv X pins σ (upd H1 d (.xd [(("at" : Str), v2), (("word" : Str), v1)])) ⟨G', g, dr, tk', os⟩ := I1.laid (t' := tk') old M.dbig ob
      refine ⟨e, oe, fv, ⟨G', g, dr, tk', os⟩, _, .ref C, some d, rfl, J, fun b o q => ?_, ge, hoe, ⟨hc, hd⟩, hdat, h1, ?_, rfl, I1.bare, raises_own T.exC T.tyC, q1 d (I1.hok.fresh M.dbig)⟩
      · by_cases hb : b = e
        · have q' : G'.get? b = some o := q
          rw [hb, ge] at q'; cases q'
        · exact (gk b hb).symm.trans q
      · rw [upd_ne (Ne.symm M.dne)]
        exact I1.hok.fresh M.new
/-- raise NotUsable(a, b) -/
def tRaiseNu (C : Addr) (W : WX) (ta : TA) : TS := fun _ σ H => tMkNu C ta σ H fun cls d H' => W cls d σ H'
theorem ps_raiseNu {a b : Expr} {ta : TA} {W : WX} {p pos pos2 : Pos} {k : Nat} (hc : X.calm = true) (T : NuTxt X.prog X.K X.mg C fI) (hr : Room k X.A) (tk : Takes X W) (ha : PA X [a, b] ta) (hg : Gl X "NotUsable" := by rfl)
    (he : starEach (a :: [b]) X.env = (false, eval a X.env) :: starEach [b] X.env := by rfl)
    (hpl : (backTo pos (starEach [b] X.env)).any (·.1) = false := by rfl) :
    PS X (.Raise (some (.Call (.Name "NotUsable" p) [a, b] [] pos)) none pos2) (tRaiseNu C W ta) := ps_raise hc tk (pmk_nu T hr ha hg he hpl)
end
/-! ### incoming_ranges -/
def okRg (r : Option Rg) : Bool := match r with
  | some (some l, some h) => decide (l ≤ h)
  | _ => true
/-- the argument that these ranges are -/
def argOf : Option Rg → Arg
  | none => .sc .non
  | some r => .tup (rgL r)
theorem argOf_at {H : Hp} {v : V} {r : Option Rg} (h : ORgAt H v r) : ArgAt H v (argOf r) := by
  cases r with
  | none =>
    obtain rfl : v = .non := h
    exact ⟨rfl, rfl⟩
  | some r =>
    obtain ⟨a, e1, e2⟩ := h
    refine ⟨a, e1, e2, fun x hx => ?_⟩
    rcases List.mem_cons.mp hx with rfl | hx
    · exact scB_oV _
    rcases List.mem_cons.mp hx with rfl | hx
    · exact scB_oV _
    cases hx
theorem okG_of {r : Option Rg} (h : okRg r = true) : okG (argOf r) = true := by
  rcases r with _ | ⟨l, u⟩
  · rfl
  · cases l <;> cases u <;> first | rfl | exact h
theorem TolAt.arg {H : Hp} {v : V} {rs : List (Option Rg)} (h : TolAt H v rs) : Arg2At H v (.tup (rs.map argOf)) := by
  obtain ⟨b, ys, e1, e2, e3⟩ := h
  refine ⟨b, ys, e1, e2, ?_⟩
  clear e2
  induction e3 with
  | nil => exact .nil
  | cons f t ih => exact .cons (argOf_at f) ih
theorem rngs_ok {n : Nat} {rs : List (Option Rg)} (hl : rs.length = n) (h : ∀ r ∈ rs, okRg r = true) : rngsB n (.tup (rs.map argOf)) = true := by
  show ((rs.map argOf).length == n && (rs.map argOf).all okG) = true
  rw [List.length_map, hl, beq_self_eq_true, Bool.true_and, List.all_eq_true]
  intro g hg
  obtain ⟨r, hr, rfl⟩ := List.mem_map.mp hg
  exact okG_of (h r hr)
section
variable {P : Program} {w : World} {K : PySem.W.Frag} {mg : Str → Option Value} {base : Heap} {C fI : Addr}
def spIn (C : Addr) : Sp := fun vs H Q E =>
  (∃ v1 v2 cs rs sts c, vs = [v1, v2, .str (ch c)] ∧ PrgAt H v1 cs sts ∧ TolAt H v2 rs ∧ cs.length = rs.length ∧ cs.length ≤ 1000 ∧ (∀ st ∈ sts, st.srcIn cs) ∧ (∀ r ∈ rs, okRg r = true) ∧ (letB (.str (ch c)) && inB (nmS cs) (.str (ch c))) = true ∧
    ∀ H' v, Same H H' → ORgAt H' v (comesIn cs rs sts c) → Q v H') ∨
  (∃ v1 v2 v3 names g, vs = [v1, v2, v3] ∧ PrgHd H v1 names ∧ names.length ≤ 1000 ∧ Arg2At H v2 g ∧ rngsB names.length g = false ∧ ∀ H' d, Same H H' → H' d = none → E (.ref C) (some d) (upd H' d (.xd (nuF "ranges")))) ∨
  (∃ v1 v2 v3 names g, vs = [v1, v2, v3] ∧ PrgHd H v1 names ∧ names.length ≤ 1000 ∧ Arg2At H v2 g ∧ rngsB names.length g = true ∧ (∀ H', Same H H' → Odd H' v3) ∧ strLen v3 ≤ 1000 ∧ (letB v3 && inB names v3) = false ∧
    ∀ H' d, Same H H' → H' d = none → E (.ref C) (some d) (upd H' d (.xd (nuF "name"))))
abbrev nm_incoming_ranges : List Str := ["program", "ranges", "name"]
theorem sc_incoming_ranges : FnScope nm_incoming_ranges ["program", "ranges", "name"] (defScope (topS 19)) := ⟨rfl, rfl, rfl, by decide +kernel, rfl, by decide +kernel, by decide +kernel⟩
theorem c_incoming {f : Addr} {fd : FuncData} (F : FunD K "incoming_ranges" "incoming_ranges" (defArgs (topS 19)) (defBody (topS 19)) (defScope (topS 19)) [] [] f fd) (N : NuTxt P K mg C fI) (c_are_ranges_of : C8.Cal P w K mg base 4 "are_ranges_of" spRanges []) (c_is_name_of : C8.Cal P w K mg base 2 "is_name_of" spNameOf [])
    (c_comes_in : C8.Cal P w K mg base 6 "comes_in" spComes []) : FnOk P w K mg base (L2.CX P w) 7 f fd ["program", "ranges", "name"] (spIn C) := by
  refine F.ok sc_incoming_ranges (fun vs H Q E h => ?_) (fun cdv A outer s H vs Q E hr h => ?_)
  · rcases h with ⟨v1, v2, cs, rs, sts, c, rfl, _⟩ | ⟨v1, v2, v3, names, g, rfl, _⟩ | ⟨v1, v2, v3, names, g, rfl, _⟩ <;> rfl
  · refine ⟨_, (pss_cons (ps_if (pt_not (pt_val (C8.pe_c c_are_ranges_of hr (by decide) (by rfl) (pa_cons (pv 0) (pa_cons (pv 1) pa_nil)))))
(pss_one (ps_raiseNu rfl N hr (takes_of rfl rfl rfl rfl) (pa_cons pe_str (pa_cons (pe_un un_neg pe_int) pa_nil))))
pss_nil)
(pss_cons (ps_if (pt_not (pt_val (C8.pe_c c_is_name_of hr (by decide) (by rfl) (pa_cons (pv 0) (pa_cons (pv 2) pa_nil)))))
(pss_one (ps_raiseNu rfl N hr (takes_of rfl rfl rfl rfl) (pa_cons pe_str (pa_cons (pe_un un_neg pe_int) pa_nil))))
pss_nil)
(pss_one (ps_ret (C8.pe_c c_comes_in hr (by decide) (by rfl) (pa_cons (pv 0) (pa_cons (pv 1) (pa_cons (pv 2) pa_nil)))))))), ?_⟩
    rcases h with ⟨v1, v2, cs, rs, sts, c, rfl, h1, h2, hl, hz, hs, ho, hn, q⟩ | ⟨v1, v2, v3, names, g, rfl, h1, hz, h2, hb, q⟩ | ⟨v1, v2, v3, names, g, rfl, h1, hz, h2, hb, h3, hl, hn, q⟩
    · have hsz : (nmS cs).length = cs.length := rfl
      refine ⟨v1, rfl, v2, rfl, v1, v2, nmS cs, _, rfl, h1.hd, by rw [hsz]; exact hz, h2.arg, fun H1 sm => ?_⟩
      refine ⟨_, rfl, ?_⟩
      rw [rngs_ok (by rw [hsz]; exact hl.symm) ho]
      refine iteF ?_
      refine ⟨v1, rfl, _, rfl, v1, .str (ch c), nmS cs, rfl, (h1.hd).same sm, .inl rfl, (by show 1 ≤ 1000; decide), _, rfl, ?_⟩
      rw [hn]
      refine iteF ?_
      exact ⟨v1, rfl, v2, rfl, _, rfl, v1, v2, cs, rs, sts, c, rfl, h1.tups (Same.tups sm), h2.tups (Same.tups sm), hl, hs, fun H' v sm2 hv => q H' v (sm.trans sm2) hv⟩
    · refine ⟨v1, rfl, v2, rfl, v1, v2, names, g, rfl, h1, hz, h2, fun H1 sm => ?_⟩
      refine ⟨_, rfl, ?_⟩
      rw [hb]
      refine iteT ⟨1, rfl, _, _, rfl, fun d nd => q H1 d sm nd⟩
    · refine ⟨v1, rfl, v2, rfl, v1, v2, names, g, rfl, h1, hz, h2, fun H1 sm => ?_⟩
      refine ⟨_, rfl, ?_⟩
      rw [hb]
      refine iteF ?_
      refine ⟨v1, rfl, _, rfl, v1, v3, names, rfl, h1.same sm, h3 H1 sm, hl, _, rfl, ?_⟩
      rw [hn]
      refine iteT ⟨1, rfl, _, _, rfl, fun d nd => q H1 d sm nd⟩
end
end EC

set_option maxHeartbeats 4000000
/-! E9: _law_heard and the lambdas -/
namespace EC
open PySem PySem.Spec PyProof.Rows L2 LamX
section
variable {X : Cx} {C fI : Addr}
abbrev nm__law_heard : List Str := ["_law_ask", "error"]
theorem sc__law_heard : FnScope nm__law_heard ["_law_ask"] (defScope (topS 27)) := ⟨rfl, rfl, rfl, by decide +kernel, rfl, by decide +kernel, by decide +kernel⟩
/-- what is in the air has all its slots -/
theorem takes_len {Z : Cx} {W : WX} (tk : Takes Z W) : Takes Z (fun cls d σ H => σ.length = Z.N.length → W cls d σ H) := fun u s' ⟨a, B, sI, pins, σ, H, cls, d, e, I, nb, up, sky, na, os, ag, w⟩ =>
  tk u s' ⟨a, B, sI, pins, σ, H, cls, d, e, I, nb, up, sky, na, os, ag, w I.len⟩
/-- heard: try: return ('told', ask()) / except NotUsable as error: return ('no', error.word, error.at) -/
def TTheard (C : Addr) : (XK → Hp → VK → Prop) → Hp → VK → Prop := fun tl H Q =>
  tl (fun cls d H' => cls = .ref C ∧ ∃ dd wd, d = some dd ∧ H' dd = some (.xd (nuF wd)) ∧ ∀ p, H' p = none → Q (.ref p) (upd H' p (.tup [.str "no", .str wd, .int (-1)]))) H fun v H' => [V.str "told", v].length ≤ sizeLine ∧ ∀ p, H' p = none → Q (.ref p) (upd H' p (.tup [.str "told", v]))
theorem heard_gives {g : Addr} {cdg : Value} {q : Str} (N : NuTxt X.prog X.K X.mg C fI) : GivesTo X nm__law_heard "_law_heard" (defScope (topS 27)) g cdg (defBody (topS 27)) "_law_ask" q (TTheard C) := by
  intro f c' s H Q tl act hc h
  have nd := sc__law_heard.nd
  have xf : XfC X.K C := ⟨N.ga, N.gg, N.exC, N.hdC⟩
  have hgl : Gl (cxOf C8.CX0 X.prog X.w X.K X.mg X.base nm__law_heard "_law_heard" (defScope (topS 27)) g cdg X.A X.stack s H C8.E0).nox "NotUsable" := by rfl
  refine ⟨_, pss_one (ps_try_as (X := (cxOf C8.CX0 X.prog X.w X.K X.mg X.base nm__law_heard "_law_heard" (defScope (topS 27)) g cdg X.A X.stack s H C8.E0).nox) (c := .ref C) (i := 1) (Wout := fun _ _ _ _ => False)
      (tb := fun W D σ H => ∃ Ech : XK, (∀ cls d σ' H', Ech cls d H' → σ'.length = 2 → W cls d σ' H') ∧ σ[0]? = some (some (.ref f)) ∧ H c' = some (CodeO c' q) ∧ tl Ech H fun v H' => [V.str "told", v].length ≤ sizeLine ∧ ∀ p, H' p = none → D.rt (.ref p) (upd H' p (.tup [.str "told", v])))
      rfl rfl nd rfl rfl ⟨hgl, by decide, .inl N.gC⟩ LamX.takes0 (fun W pn xe tk _ => ?_)
      (fun a oe cls d pn hz hf => pss_one (ps_ret (pe_tup (pa_cons pe_str (pa_cons (pe_xf xf N.noW hz hf (pv 1)) (pa_cons (pe_xf xf N.noA hz hf (pv 1)) pa_nil))))))), ?_⟩
  · refine ⟨fun pins s' σ H' D I h' => ?_⟩
    obtain ⟨Ech, hW, h1, h2, h3⟩ := h'
    exact (pss_one (ps_ret (pe_tup (pa_cons pe_str (pa_cons (act _ pn xe Ech _ _ (takes_len tk) hW) pa_nil))))).run pins s' σ H' D I ⟨h1, h2, h3⟩
  · refine ⟨fun cls d H' => cls = .ref C ∧ ∃ dd wd, d = some dd ∧ H' dd = some (.xd (nuF wd)) ∧ ∀ p, H' p = none → Q (.ref p) (upd H' p (.tup [.str "no", .str wd, .int (-1)])), fun cls d σ' H' hh hlen => ?_, rfl, hc, h⟩
    obtain ⟨rfl, dd, wd, rfl, hd, q⟩ := hh
    refine ⟨true, N.te, fun _ a _ => ?_, fun z => Bool.noConfusion z⟩
    obtain ⟨x0, x1, rfl⟩ : ∃ x0 x1, σ' = [x0, x1] := by
      match σ', hlen with
      | [x0, x1], _ => exact ⟨x0, x1, rfl⟩
    exact ⟨.ref a, rfl, rfl, rfl, dd, nuF wd, .str wd, rfl, hd, rfl, .ref a, rfl, rfl, rfl, dd, nuF wd, .int (-1), rfl, hd, rfl, (by show 3 ≤ sizeLine; decide), fun p np => q p np⟩
end
end EC

set_option maxHeartbeats 4000000
/-! E10: _law_source, _law_pick -/
namespace EC
open PySem PySem.Spec PyProof.Rows L2
def srcK (ca : Addr) (sp r c : Int) : List (Key × V) := [(.inr "cells", .ref ca), (.inr "spot", .int sp), (.inr "rest", .int r), (.inr "count", .int c)]
/-- the numbers' source stands at a -/
def Src (H : Hp) (a : Addr) : Prop := ∃ (ca : Addr) (ns : List Int) (sp r c : Int), H a = some (.dK (srcK ca sp r c)) ∧ H ca = some (.lst (ns.map V.int))
/-- all but a stays -/
def But (a : Addr) (H H' : Hp) : Prop := ∀ b o, b ≠ a → H b = some o → H' b = some o
theorem But.refl (a : Addr) (H : Hp) : But a H H := fun _ _ _ h => h
theorem But.trans {a : Addr} {H H1 H2 : Hp} (x : But a H H1) (y : But a H1 H2) : But a H H2 := fun b o n h => y b o n (x b o n h)
theorem But.of {a : Addr} {H H' : Hp} (e : Same H H') : But a H H' := fun b o _ h => e b o h
theorem Src.same {a : Addr} {H H' : Hp} (e : Same H H') (h : Src H a) : Src H' a := by
  obtain ⟨ca, ns, sp, r, c, h1, h2⟩ := h
  exact ⟨ca, ns, sp, r, c, e _ _ h1, e _ _ h2⟩
theorem Src.tups {a : Addr} {H H' : Hp} (h : Src H a) (e : But a H H') : Tups H H' := fun b xs q => e b _ (fun z => by
  obtain ⟨ca, ns, sp, r, c, h1, h2⟩ := h
  rw [z, h1] at q
  cases q) q
theorem cut_take (xs : List V) (k : Nat) : cutV xs none (some (k : Int)) = xs.take k := by
  unfold cutV
  rw [HT.sIx_none, HT.sIx_nat, Nat.sub_zero, List.drop_zero]
  by_cases h : k ≤ xs.length
  · rw [Nat.min_eq_left h]
  · rw [Nat.min_eq_right (by omega), List.take_of_length_le (Nat.le_refl _), List.take_of_length_le (by omega)]
theorem cut_drop (xs : List V) (k : Nat) : cutV xs (some (k : Int)) none = xs.drop k := by
  unfold cutV
  rw [HT.sIx_none, HT.sIx_nat]
  by_cases h : k ≤ xs.length
  · rw [Nat.min_eq_left h]
    exact List.take_of_length_le (by rw [List.length_drop]; omega)
  · rw [Nat.min_eq_right (by omega), List.drop_of_length_le (Nat.le_refl _), List.drop_of_length_le (by omega), List.take_nil]
theorem src_new (ca : Addr) (v1 v2 v3 : V) : mergeK [] [((.inr "cells" : Key), V.ref ca), (.inr "spot", v1), (.inr "rest", v2), (.inr "count", v3)] = [(.inr "cells", .ref ca), (.inr "spot", v1), (.inr "rest", v2), (.inr "count", v3)] := by
  rfl
theorem g_cells {ca : Addr} {sp r c : Int} : valV (srcK ca sp r c) (.inr "cells") = some (.ref ca) := rfl
theorem g_spot {ca : Addr} {sp r c : Int} : valV (srcK ca sp r c) (.inr "spot") = some (.int sp) := rfl
theorem g_rest {ca : Addr} {sp r c : Int} : valV (srcK ca sp r c) (.inr "rest") = some (.int r) := rfl
theorem g_count {ca : Addr} {sp r c : Int} : valV (srcK ca sp r c) (.inr "count") = some (.int c) := rfl
theorem p_spot {ca : Addr} {sp r c x : Int} : putK (srcK ca sp r c) (.inr "spot") (.int x) = srcK ca x r c := rfl
theorem p_rest {ca : Addr} {sp r c x : Int} : putK (srcK ca sp r c) (.inr "rest") (.int x) = srcK ca sp x c := rfl
theorem p_count {ca : Addr} {sp r c x : Int} : putK (srcK ca sp r c) (.inr "count") (.int x) = srcK ca sp r x := rfl
section
variable {P : Program} {w : World} {K : PySem.W.Frag} {mg : Str → Option Value} {base : Heap}
/-! ### _law_source -/
def spSource (K : PySem.W.Frag) : Sp := fun vs H Q _ => ∃ (a : Addr) (ns : List Int), vs = [.ref a] ∧ SqL K H a (List.map V.int ns) ∧ ns.length ≤ 63 ∧ ∀ H' p, Same H H' → H p = none → Src H' p → Q (.ref p) H'
abbrev nm__law_source : List Str := ["_law_script", "_law_cell"]
theorem sc__law_source : FnScope nm__law_source ["_law_script"] (defScope (topS 21)) := ⟨rfl, rfl, rfl, by decide +kernel, rfl, by decide +kernel, by decide +kernel⟩
theorem c__law_source (D : Df K mg "_law_source" 21 ["_law_script"]) (T : Txt K mg) : C8.Cal P w K mg base 1 "_law_source" (spSource K) [] := by
  refine D.cal sc__law_source (fun vs H Q E h => ?_) (fun f cdv A outer s H vs Q E hr h => ?_)
  · obtain ⟨a, ns, rfl, _⟩ := h
    rfl
  · obtain ⟨a, ns, rfl, ha, hn, q⟩ := h
    have nd := sc__law_source.nd
    refine ⟨_, (pss_one (ps_ret (pe_disp (pps_cons pe_str (pe_lc (own := [("_law_cell", 1)]) (g := gName 1) rfl nd (pi_list (pe_slice sl_list (pv 0) po_none (po_some pe_int))) (blkOk_by (own := [("_law_cell", 1)]) (N := nm__law_source) (sc := defScope (topS 21)) (by decide +kernel)) (fun _ _ _ _ _ => pg_name (i := 1) nd rfl (.inl rfl)) (fun _ _ _ _ _ => pts_nil) (fun _ _ _ _ _ => (pe_callTy call_int1 (by rfl) T.z_int (by decide +kernel) (pa_cons (pv 1) pa_nil)))) (pps_cons pe_str pe_int (pps_cons pe_str pe_int (pps_cons pe_str pe_int pps_nil)))) (by rfl) (by rfl) (fun z => by cases z) (by decide)))), ?_⟩
    intro d hd
    have sd : Same H (upd H d (.dK [])) := same_upd hd
    refine ⟨.ref a, rfl, 63, rfl, a, _, rfl, sd.seq ha, fun sa hsa => ?_⟩
    refine ⟨sa, rfl, ⟨_, SqL.of upd_same⟩, fun D nD => ?_⟩
    have cutE : cutV (ns.map V.int) none (some 63) = (ns.take 63).map V.int := (cut_take _ 63).trans List.map_take.symm
    generalize hms : ns.take 63 = ms at cutE
    have hml : ms.length ≤ 63 := by rw [← hms, List.length_take]; omega
    rw [cutE] at nD ⊢
    have nds : d ≠ sa := ne_of_none (upd_same (H := H) (a := d) (o := HO.dK [])) hsa
    have ndD : d ≠ D := fun z => by rw [← z, upd_ne nds, upd_same] at nD; cases nD
    have nsD : sa ≠ D := fun z => by rw [← z, upd_same] at nD; cases nD
    have stay : ∀ b o, H b = some o → b ≠ d ∧ b ≠ sa ∧ b ≠ D := fun b o e => ⟨ne_of_none e hd, ne_of_none (sd _ _ e) hsa, fun z => by
      rw [← z, upd_ne (ne_of_none (sd _ _ e) hsa), sd _ _ e] at nD
      cases nD⟩
    refine lc_list (xs := ms.map V.int) (fun i H' => Same H H' ∧ H' d = some (.dK []) ∧ H' sa = some (.lst (ms.map V.int)) ∧ H' D = some (.lst ((ms.take i).map V.int))) ⟨?_, ?_, ?_, ?_⟩ (fun i H' _ hP => SqL.of hP.2.2.1) ?_ ?_
    · intro b o e
      obtain ⟨n1, n2, n3⟩ := stay b o e
      rw [upd_ne n3, upd_ne n2, upd_ne n1]
      exact e
    · rw [upd_ne ndD, upd_ne nds, upd_same]
    · rw [upd_ne nsD, upd_same]
    · exact upd_same
    · intro i x H' hx hP
      obtain ⟨h1, h2, h3, h4⟩ := hP
      obtain ⟨n, hn, rfl⟩ : ∃ n, ms[i]? = some n ∧ V.int n = x := by
        rw [List.getElem?_map] at hx
        cases e : ms[i]? with
        | none => rw [e] at hx; cases hx
        | some n =>
          rw [e] at hx
          exact ⟨n, rfl, Option.some.inj hx⟩
      refine ⟨rfl, .int n, rfl, .inl ⟨n, rfl, _, h4, ?_, fun b o e => ?_, ?_, ?_, ?_⟩⟩
      · rw [List.length_map, List.length_take]
        exact small1000 (by omega)
      · rw [upd_ne (stay b o e).2.2]
        exact h1 b o e
      · rw [upd_ne ndD]
        exact h2
      · rw [upd_ne nsD]
        exact h3
      · rw [upd_same, take_more hn, List.map_append]
        rfl
    · intro H' hP
      obtain ⟨h1, h2, h3, h4⟩ := hP
      rw [List.length_map, List.take_of_length_le (Nat.le_refl _)] at h4
      refine ⟨h2, [(.inr "cells", .ref D), (.inr "spot", .int 0), (.inr "rest", .int 0), (.inr "count", .int 0)], rfl, (by show 4 ≤ 15; decide), ?_⟩
      rw [src_new]
      refine q _ d (fun b o e => ?_) hd ⟨D, ms, 0, 0, 0, upd_same, ?_⟩
      · rw [upd_ne (stay b o e).1]
        exact h1 b o e
      · rw [upd_ne (Ne.symm ndD)]
        exact h4
/-! ### _law_pick -/
def spPick : Sp := fun vs H Q _ => ∃ (a : Addr) (n : Int), vs = [.ref a, .int n] ∧ Src H a ∧ 0 < n ∧ n < 1000000 ∧ ∀ H' r, Src H' a → But a H H' → 0 ≤ r → r < n → Q (.int r) H'
abbrev nm__law_pick : List Str := ["_law_source_here", "_law_many", "_law_cell", "_law_value", "_law_digit", "_law_cells", "_law_spot"]
theorem sc__law_pick : FnScope nm__law_pick ["_law_source_here", "_law_many"] (defScope (topS 22)) := ⟨rfl, rfl, rfl, by decide +kernel, rfl, by decide +kernel, by decide +kernel⟩
theorem dp_ints {K : PySem.W.Frag} {H : Hp} : ∀ ns : List Int, DpAll K H (ns.map V.int) (ns.map PyData.int)
  | [] => .nil
  | n :: r => .cons (.int n) (dp_ints r)
theorem divW {i n : Int} (h : 0 < n) (h2 : n < 1000000) : CDivW i n := by
  refine wide_div (b := 20) h ?_ (by decide) (by decide)
  have e : (2 : Nat) ^ 20 = 1048576 := by decide
  rw [e]
  omega
theorem but_upd {a : Addr} {H : Hp} {o : HO} : But a H (upd H a o) := fun b u n h => by rw [upd_ne n]; exact h
/-- another wish that gives the block's -/
theorem PSs.imp {X : Cx} {ss : List Stmt} {t t' : TS} (h : PSs X ss t) (f : ∀ D σ H, t' D σ H → t D σ H) : PSs X ss t' := ⟨fun pins s σ H D I q => h.run pins s σ H D I (f D σ H q)⟩
theorem c__law_pick (D : Df K mg "_law_pick" 22 ["_law_source_here", "_law_many"]) (T : Txt K mg) : C8.Cal P w K mg base 1 "_law_pick" spPick [] := by
  refine D.cal sc__law_pick (fun vs H Q E h => ?_) (fun f cdv A outer s H vs Q E hr h => ?_)
  · obtain ⟨a, n, rfl, _⟩ := h
    rfl
  · obtain ⟨a, n, rfl, ⟨ca, ns, sp, r, c, h1, h2⟩, hn, hn2, q⟩ := h
    have nd := sc__law_pick.nd
    have hu := hu_of hr
    have tl : PSs (cxOf C8.CX0 P w K mg base nm__law_pick "_law_pick" (defScope (topS 22)) f cdv A outer s H E).nox ((defBody (topS 22)).drop 6) (fun D σ H' => ∃ cl x3 x4 sp0 c0, σ = [some (.ref a), some (.int n), some (.int cl), x3, x4, some (.ref ca), some (.int sp)] ∧ H' a = some (.dK (srcK ca sp0 r c0)) ∧ ∀ i, D.rt (.int (i % n)) H') := by
      refine PSs.imp (pss_cons (ps_set (i := 3) nd rfl (.inl rfl) (pe_op op_mod (pe_callTy call_int1 (by rfl) T.z_int (by decide +kernel) (pa_cons (pe_op op_add (pe_op op_add (pe_op op_mod (pe_callTy call_int1 (by rfl) T.z_int (by decide +kernel) (pa_cons (pv 2) pa_nil)) pe_int) (pe_op op_mul pe_int (pe_dget hu (pv 0) pe_str (fun _ _ => rfl)))) pe_int) pa_nil)) pe_int))
(pss_cons (ps_set (i := 3) nd rfl (.inl rfl) (pe_op op_mod (pe_callTy call_int1 (by rfl) T.z_int (by decide +kernel) (pa_cons (pe_op op_add (pe_op op_add (pe_op op_pow (pv 3) pe_int) (pe_op op_mul pe_int (pe_dget hu (pv 0) pe_str (fun _ _ => rfl)))) pe_int) pa_nil)) pe_int))
(pss_cons (ps_set (i := 3) nd rfl (.inl rfl) (pe_op op_mod (pe_callTy call_int1 (by rfl) T.z_int (by decide +kernel) (pa_cons (pe_op op_add (pe_op op_pow (pv 3) pe_int) (pe_op op_mul pe_int (pv 3))) pa_nil)) pe_int))
(pss_one (ps_ret (pe_op op_mod (pe_callTy call_int1 (by rfl) T.z_int (by decide +kernel) (pa_cons (pe_op op_fdiv (pv 3) pe_int) pa_nil)) (pv 1))))))) ?_
      rintro D σ H' ⟨cl, x3, x4, sp0, c0, rfl, h1, q⟩
      have gc : DGet H' a (.str "count") (some (.int c0)) := DGet.k (k := .inr "count") h1
      have big : ∀ i : Int, (i % 2147483629).natAbs < 2 ^ 64 := fun i => by
        have e1 := Int.emod_nonneg i (show (2147483629 : Int) ≠ 0 by decide)
        have e2 := Int.emod_lt_of_pos i (show (0 : Int) < 2147483629 by decide)
        have e3 : (2 : Nat) ^ 64 = 18446744073709551616 := by decide
        omega
      have big2 : ∀ i : Int, (i % 2147483587).natAbs < 2 ^ 64 := fun i => by
        have e1 := Int.emod_nonneg i (show (2147483587 : Int) ≠ 0 by decide)
        have e2 := Int.emod_lt_of_pos i (show (0 : Int) < 2147483587 by decide)
        have e3 : (2 : Nat) ^ 64 = 18446744073709551616 := by decide
        omega
      refine ⟨.int cl, rfl, .inl ⟨cl, rfl, cl, 998244353, rfl, rfl, (by show (0 : Int) < 998244353; decide), .ref a, rfl, a, _, rfl, gc, 90023, c0, rfl, rfl, .inl ⟨by decide, by decide⟩, _, _, rfl, rfl, _, _, rfl, rfl, .inl ⟨_, rfl, _, 2147483629, rfl, rfl, (by show (0 : Int) < 2147483629; decide), ?_⟩⟩⟩
      refine ⟨_, rfl, _, 3, rfl, rfl, ⟨by decide, by decide, big _⟩, .ref a, rfl, a, _, rfl, gc, 6700417, c0, rfl, rfl, .inl ⟨by decide, by decide⟩, _, _, rfl, rfl, _, _, rfl, rfl, .inl ⟨_, rfl, _, 2147483587, rfl, rfl, (by show (0 : Int) < 2147483587; decide), ?_⟩⟩
      refine ⟨_, rfl, _, 3, rfl, rfl, ⟨by decide, by decide, big2 _⟩, _, rfl, 521, _, rfl, rfl, .inl ⟨by decide, by decide⟩, _, _, rfl, rfl, .inl ⟨_, rfl, _, 2147483579, rfl, rfl, (by show (0 : Int) < 2147483579; decide), ?_⟩⟩
      exact ⟨_, rfl, _, 64, rfl, rfl, ⟨by decide, by decide⟩, .inl ⟨_, rfl, .int n, rfl, _, n, rfl, rfl, hn, q _⟩⟩
    refine ⟨_, (pss_cons (ps_dput hu (pv 0) pe_str (pe_op op_add (pe_dget hu (pv 0) pe_str (fun _ _ => rfl)) pe_int) rfl)
(pss_cons (ps_if (pt_cmpR op_gt (pe_dget hu (pv 0) pe_str (fun _ _ => rfl)) pe_int (nomark _))
(pss_cons (ps_set (i := 4) nd rfl (.inl rfl) (pe_op op_mod (pe_callTy call_int1 (by rfl) T.z_int (by decide +kernel) (pa_cons (pe_dget hu (pv 0) pe_str (fun _ _ => rfl)) pa_nil)) (pv 1)))
(pss_cons (ps_dput hu (pv 0) pe_str (pe_op op_fdivW (pe_callTy call_int1 (by rfl) T.z_int (by decide +kernel) (pa_cons (pe_dget hu (pv 0) pe_str (fun _ _ => rfl)) pa_nil)) (pv 1)) rfl)
(pss_one (ps_ret (pv 4)))))
pss_nil)
(pss_cons (ps_par (i := 5) (j := 6) (by rfl) nd rfl rfl (by decide) rfl rfl (pa_cons (pe_dget hu (pv 0) pe_str (fun _ _ => rfl)) (pa_cons (pe_dget hu (pv 0) pe_str (fun _ _ => rfl)) pa_nil)) (by rfl))
(pss_cons (ps_dput hu (pv 0) pe_str (pe_op op_add (pv 6) pe_int) rfl)
(pss_cons (ps_set (i := 2) nd rfl (.inl rfl) (pe_ifExp (pt_cmpR (op_neD hr.units) (pv 5) (pe_lst pa_nil) (nomark _)) (pe_ix ix_list (pv 5) (pe_op op_mod (pe_callTy call_int1 (by rfl) T.z_int (by decide +kernel) (pa_cons (pv 6) pa_nil)) (pe_callB call_len_seq (by rfl) T.z_len (by decide +kernel) (pa_cons (pv 5) pa_nil))) (fun _ _ => rfl)) pe_int))
(pss_cons (ps_if (PW.pt (pw_and (pt_cmpR op_ge (pv 2) (pe_op op_pow pe_int pe_int) (nomark _)) (pw_and1 (pt_cmpR op_lt (pv 6) (pe_callB call_len_seq (by rfl) T.z_len (by decide +kernel) (pa_cons (pv 5) pa_nil)) (nomark _)))))
(pss_cons (ps_dput hu (pv 0) pe_str (pe_op op_fdivW (pe_callTy call_int1 (by rfl) T.z_int (by decide +kernel) (pa_cons (pv 2) pa_nil)) (pv 1)) rfl)
(pss_one (ps_ret (pe_op op_mod (pe_callTy call_int1 (by rfl) T.z_int (by decide +kernel) (pa_cons (pv 2) pa_nil)) (pv 1)))))
pss_nil)
tl)))))), ?_⟩
    have nca : ca ≠ a := fun z => by rw [z, h1] at h2; cases h2
    have g : ∀ {H : Hp} {sp r c : Int}, H a = some (.dK (srcK ca sp r c)) → DGet H a (.str "cells") (some (.ref ca)) ∧ DGet H a (.str "spot") (some (.int sp)) ∧ DGet H a (.str "rest") (some (.int r)) ∧ DGet H a (.str "count") (some (.int c)) := fun h =>
      ⟨DGet.k (k := .inr "cells") h, DGet.k (k := .inr "spot") h, DGet.k (k := .inr "rest") h, DGet.k (k := .inr "count") h⟩
    have pt : ∀ {H : Hp} {sp r c x : Int}, H a = some (.dK (srcK ca sp r c)) → DPut H a (.str "spot") (.int x) (upd H a (.dK (srcK ca x r c))) ∧ DPut H a (.str "rest") (.int x) (upd H a (.dK (srcK ca sp x c))) ∧ DPut H a (.str "count") (.int x) (upd H a (.dK (srcK ca sp r x))) := fun h =>
      ⟨DPut.k (k := .inr "spot") h (by show 4 < sizeLine; decide), DPut.k (k := .inr "rest") h (by show 4 < sizeLine; decide), DPut.k (k := .inr "count") h (by show 4 < sizeLine; decide)⟩
    have cel : ∀ {H : Hp} {o : HO}, H ca = some (.lst (ns.map V.int)) → upd H a o ca = some (.lst (ns.map V.int)) := fun h => by rw [upd_ne nca]; exact h
    have modn : ∀ i : Int, 0 ≤ i % n ∧ i % n < n := fun i => ⟨Int.emod_nonneg _ (by omega), Int.emod_lt_of_pos _ hn⟩
    -- count
    refine ⟨.ref a, rfl, a, .int c, rfl, (g h1).2.2.2, c, 1, rfl, rfl, .ref a, rfl, a, _, rfl, (pt h1).2.2, ?_⟩
    have k1 : upd H a (.dK (srcK ca sp r (c + 1))) a = some (.dK (srcK ca sp r (c + 1))) := upd_same
    have c1 := cel (o := .dK (srcK ca sp r (c + 1))) h2
    have b1 : But a H (upd H a (.dK (srcK ca sp r (c + 1)))) := but_upd
    generalize upd H a (.dK (srcK ca sp r (c + 1))) = H1 at k1 c1 b1 ⊢
    -- rest
    refine ⟨.ref a, rfl, a, .int r, rfl, (g k1).2.2.1, r, 0, rfl, rfl, _, rfl, ite2 (fun _ => ?_) (fun _ => ?_)⟩
    · refine ⟨.ref a, rfl, a, .int r, rfl, (g k1).2.2.1, .inl ⟨r, rfl, .int n, rfl, r, n, rfl, rfl, hn, ?_⟩⟩
      refine ⟨.ref a, rfl, a, .int r, rfl, (g k1).2.2.1, .inl ⟨r, rfl, .int n, rfl, r, n, rfl, rfl, divW hn hn2, .ref a, rfl, a, _, rfl, (pt k1).2.1, ?_⟩⟩
      exact ⟨_, rfl, q _ _ ⟨ca, ns, _, _, _, upd_same, cel c1⟩ (b1.trans but_upd) (modn r).1 (modn r).2⟩
    · refine ⟨.ref a, rfl, a, .ref ca, rfl, (g k1).1, .ref a, rfl, a, .int sp, rfl, (g k1).2.1, .ref ca, .int sp, rfl, ?_⟩
      refine ⟨.int sp, rfl, sp, 1, rfl, rfl, .ref a, rfl, a, _, rfl, (pt k1).1, ?_⟩
      have k2 : upd H1 a (.dK (srcK ca (sp + 1) r (c + 1))) a = some (.dK (srcK ca (sp + 1) r (c + 1))) := upd_same
      have c2 := cel (o := .dK (srcK ca (sp + 1) r (c + 1))) c1
      have b2 : But a H (upd H1 a (.dK (srcK ca (sp + 1) r (c + 1)))) := b1.trans but_upd
      generalize upd H1 a (.dK (srcK ca (sp + 1) r (c + 1))) = H2 at k2 c2 b2 ⊢
      refine ⟨.ref ca, rfl, (by show 0 ≤ sizeLine; decide), fun p np => ?_⟩
      have k3 : upd H2 p (.lst []) a = some (.dK (srcK ca (sp + 1) r (c + 1))) := (upd_ne (ne_of_none k2 np)).trans k2
      have c3 : upd H2 p (.lst []) ca = some (.lst (ns.map V.int)) := (upd_ne (ne_of_none c2 np)).trans c2
      have b3 : But a H (upd H2 p (.lst [])) := b2.trans (But.of (same_upd np))
      refine ⟨.list (ns.map PyData.int), .list [], .lst (SqL.of c3) (dp_ints ns), .lst (SqL.of upd_same) .nil, PySem.W.shaped_ints ns, rfl, _, rfl, ite2 (fun e => ?_) (fun e => ?_)⟩
      · have hpos : 0 < ns.length := by
          cases ns with
          | nil => exact Bool.noConfusion e
          | cons x l => exact Nat.succ_pos _
        have hj1 := Int.emod_nonneg sp (show ((ns.length : Nat) : Int) ≠ 0 by omega)
        have hj2 := Int.emod_lt_of_pos sp (show (0 : Int) < ((ns.length : Nat) : Int) by omega)
        obtain ⟨j, hj⟩ : ∃ j : Nat, sp % ((ns.length : Nat) : Int) = (j : Int) := ⟨_, (Int.toNat_of_nonneg hj1).symm⟩
        have hjl : j < ns.length := by omega
        have hat : atI (ns.map V.int) (sp % (((ns.map V.int).length : Nat) : Int)) = some (.int ns[j]) := by
          rw [List.length_map, hj]
          exact atI_nat (by rw [List.getElem?_map, List.getElem?_eq_getElem hjl]; rfl)
        refine ⟨.ref ca, rfl, .int sp, rfl, .inl ⟨sp, rfl, .ref ca, rfl, ca, _, rfl, .inl (SqL.of c3), sp, _, rfl, rfl, (by show (0 : Int) < (((ns.map V.int).length : Nat) : Int); rw [List.length_map]; omega), ca, _, _, _, rfl, rfl, SqL.of c3, hat, ?_⟩⟩
        refine ⟨_, rfl, 10, 18, rfl, rfl, ⟨by decide, by decide, by decide⟩, _, _, rfl, rfl, _, rfl, ite2 (fun _ => ?_) (fun _ => ?_)⟩
        · refine ⟨.int sp, rfl, .ref ca, rfl, ca, _, rfl, .inl (SqL.of c3), sp, _, rfl, rfl, _, rfl, ite2 (fun _ => ?_) (fun _ => ?_)⟩
          · refine ⟨_, rfl, .inl ⟨_, rfl, .int n, rfl, _, n, rfl, rfl, divW hn hn2, .ref a, rfl, a, _, rfl, (pt k3).2.1, ?_⟩⟩
            exact ⟨_, rfl, .inl ⟨_, rfl, .int n, rfl, _, n, rfl, rfl, hn, q _ _ ⟨ca, ns, _, _, _, upd_same, cel c3⟩ (b3.trans but_upd) (modn _).1 (modn _).2⟩⟩
          · exact ⟨_, _, _, _, _, rfl, k3, fun i => q _ _ ⟨ca, ns, _, _, _, k3, c3⟩ b3 (modn i).1 (modn i).2⟩
        · exact ⟨_, _, _, _, _, rfl, k3, fun i => q _ _ ⟨ca, ns, _, _, _, k3, c3⟩ b3 (modn i).1 (modn i).2⟩
      · refine ⟨_, rfl, 10, 18, rfl, rfl, ⟨by decide, by decide, by decide⟩, _, _, rfl, rfl, _, rfl, ite2 (fun _ => ?_) (fun _ => ?_)⟩
        · refine ⟨.int sp, rfl, .ref ca, rfl, ca, _, rfl, .inl (SqL.of c3), sp, _, rfl, rfl, _, rfl, ite2 (fun _ => ?_) (fun _ => ?_)⟩
          · refine ⟨_, rfl, .inl ⟨_, rfl, .int n, rfl, _, n, rfl, rfl, divW hn hn2, .ref a, rfl, a, _, rfl, (pt k3).2.1, ?_⟩⟩
            exact ⟨_, rfl, .inl ⟨_, rfl, .int n, rfl, _, n, rfl, rfl, hn, q _ _ ⟨ca, ns, _, _, _, upd_same, cel c3⟩ (b3.trans but_upd) (modn _).1 (modn _).2⟩⟩
          · exact ⟨_, _, _, _, _, rfl, k3, fun i => q _ _ ⟨ca, ns, _, _, _, k3, c3⟩ b3 (modn i).1 (modn i).2⟩
        · exact ⟨_, _, _, _, _, rfl, k3, fun i => q _ _ ⟨ca, ns, _, _, _, k3, c3⟩ b3 (modn i).1 (modn i).2⟩
end
end EC

set_option maxHeartbeats 4000000
/-! E11: _law_any, _law_range, _law_step -/
namespace EC
open PySem PySem.Spec PyProof.Rows L2
section
variable {P : Program} {w : World} {K : PySem.W.Frag} {mg : Str → Option Value} {base : Heap}
theorem idx_nat {n : Nat} {r : Int} (h0 : 0 ≤ r) (h1 : r < (n : Int)) : ∃ j : Nat, r = (j : Int) ∧ j < n := ⟨r.toNat, (Int.toNat_of_nonneg h0).symm, by omega⟩
/-! ### _law_any -/
def spAny : Sp := fun vs H Q _ => ∃ (a : Addr) (y : V), vs = [.ref a, y] ∧ Src H a ∧
  ((∃ cs : List Nat, y = .str (nmS cs) ∧ 0 < cs.length ∧ cs.length ≤ 1000 ∧ ∀ H' c, Src H' a → But a H H' → c ∈ cs → Q (.str (ch c)) H') ∨
   ∃ (l : Addr) (xs : List V), y = .ref l ∧ H l = some (.lst xs) ∧ 0 < xs.length ∧ xs.length ≤ 1000 ∧ ∀ H' x, Src H' a → But a H H' → x ∈ xs → Q x H')
abbrev nm__law_any : List Str := ["_law_source_here", "_law_some"]
theorem sc__law_any : FnScope nm__law_any ["_law_source_here", "_law_some"] (defScope (topS 23)) := ⟨rfl, rfl, rfl, by decide +kernel, rfl, by decide +kernel, by decide +kernel⟩
theorem c__law_any (D : Df K mg "_law_any" 23 ["_law_source_here", "_law_some"]) (T : Txt K mg) (c__law_pick : C8.Cal P w K mg base 1 "_law_pick" spPick []) : C8.Cal P w K mg base 2 "_law_any" spAny [] := by
  refine D.cal sc__law_any (fun vs H Q E h => ?_) (fun f cdv A outer s H vs Q E hr h => ?_)
  · obtain ⟨a, y, rfl, _⟩ := h
    rfl
  · obtain ⟨a, y, rfl, hs, h⟩ := h
    refine ⟨_, (pss_one (ps_ret (pe_ix ix_seq (pv 1) (C8.pe_c c__law_pick hr (by decide) (by rfl) (pa_cons (pv 0) (pa_cons (pe_callB (call_len_seq.or call_len_str) (by rfl) T.z_len (by decide +kernel) (pa_cons (pv 1) pa_nil)) pa_nil))) (fun _ _ => rfl)))), ?_⟩
    rcases h with ⟨cs, rfl, h0, h1, q⟩ | ⟨l, xs, rfl, hl, h0, h1, q⟩
    · refine ⟨_, rfl, .ref a, rfl, _, rfl, .inr ⟨nmS cs, rfl, Nat.le_of_lt (small1000 h1), a, ((cs.length : Nat) : Int), rfl, hs, by omega, by omega, fun H' r s' b' r0 r1 => ?_⟩⟩
      obtain ⟨j, rfl, hj⟩ := idx_nat r0 r1
      refine .inr (.inr ⟨nmS cs, _, cs[j], rfl, rfl, Nat.le_of_lt (small1000 h1), ?_, q H' _ s' b' (List.getElem_mem hj)⟩)
      exact atI_nat (xs := cs.toArray.toList) (by simp [hj])
    · have nla : l ≠ a := fun z => by
        obtain ⟨ca, ns, sp, r, c, e1, e2⟩ := hs
        rw [z, e1] at hl
        cases hl
      refine ⟨_, rfl, .ref a, rfl, _, rfl, .inl ⟨l, xs, rfl, .inl (SqL.of hl), a, ((xs.length : Nat) : Int), rfl, hs, by omega, by omega, fun H' r s' b' r0 r1 => ?_⟩⟩
      obtain ⟨j, rfl, hj⟩ := idx_nat r0 r1
      exact .inl ⟨l, xs, _, xs[j], rfl, rfl, SqL.of (b' _ _ nla hl), atI_nat (by simp [hj]), q H' _ s' b' (List.getElem_mem hj)⟩
/-! ### _law_range -/
def smE : Option Int → Bool
  | none => true
  | some i => decide (-20 ≤ i) && decide (i ≤ 20)
/-- a range with ends in order and small -/
def smB (r : Rg) : Bool := okRg (some r) && (smE r.1 && smE r.2)
def Rgs (H : Hp) (xs : List V) : Prop := ∀ x ∈ xs, ∃ r, RgAt H x r ∧ smB r = true
theorem Rgs.nil {H : Hp} : Rgs H [] := fun x h => nomatch h
theorem Rgs.cons {H : Hp} {x : V} {r : Rg} {xs : List V} (h : RgAt H x r) (hb : smB r = true) (t : Rgs H xs) : Rgs H (x :: xs) := fun y hy => by
  rcases List.mem_cons.mp hy with rfl | hy
  · exact ⟨r, h, hb⟩
  · exact t y hy
theorem Rgs.app {H : Hp} {xs ys : List V} (h : Rgs H xs) (t : Rgs H ys) : Rgs H (xs ++ ys) := fun y hy => by
  rcases List.mem_append.mp hy with hy | hy
  · exact h y hy
  · exact t y hy
theorem Rgs.tups {H H' : Hp} {xs : List V} (e : Tups H H') (h : Rgs H xs) : Rgs H' xs := fun x hx => by
  obtain ⟨r, h1, h2⟩ := h x hx
  exact ⟨r, h1.tups e, h2⟩
/-- a written range -/
def tRg (r : Rg) : TE := fun _ H Q => ∀ H' v, Same H H' → RgAt H' v r → Q v H'
theorem PE.imp {X : Cx} {e : Expr} {t t' : TE} (h : PE X e t) (f : ∀ σ H Q, t' σ H Q → t σ H Q) : PE X e t' := ⟨fun pins s σ H Q I q => h.run pins s σ H Q I (f σ H Q q)⟩
theorem pe_ng {X : Cx} {n : Int} {j : Nat} {p pos : Pos} : PE X (.UnaryOp .USub (.Constant (.int n) j p) pos) (tC (.int (-n))) := PE.imp (pe_un un_neg pe_int) fun σ H Q h => ⟨n, rfl, h⟩
theorem pe_rg {X : Cx} {r : Rg} {e1 e2 : Expr} {j : Nat} {pos : Pos} (h1 : PE X e1 (tC (oV r.1))) (h2 : PE X e2 (tC (oV r.2))) (he1 : starEach [e1, e2] X.env = (false, eval e1 X.env) :: starEach [e2] X.env := by rfl)
    (he2 : starEach [e2] X.env = (false, eval e2 X.env) :: starEach [] X.env := by rfl) : PE X (.Tuple [e1, e2] j pos) (tRg r) := PE.imp (pe_tup (pa_cons h1 (pa_cons h2 pa_nil he2) he1)) fun σ H Q h => ⟨by show 2 ≤ sizeLine; decide, fun p np => h _ _ (same_upd np) ⟨p, rfl, upd_same⟩⟩
def spRng : Sp := fun vs H Q _ => ∃ a : Addr, vs = [.ref a] ∧ Src H a ∧ ∀ H' v r, Src H' a → But a H H' → RgAt H' v r → smB r = true → Q v H'
abbrev nm__law_range : List Str := ["_law_source_here", "_law_some", "_law_low_in"]
theorem sc__law_range : FnScope nm__law_range ["_law_source_here"] (defScope (topS 24)) := ⟨rfl, rfl, rfl, by decide +kernel, rfl, by decide +kernel, by decide +kernel⟩
theorem c__law_range (D : Df K mg "_law_range" 24 ["_law_source_here"]) (c__law_pick : C8.Cal P w K mg base 1 "_law_pick" spPick []) (c__law_any : C8.Cal P w K mg base 2 "_law_any" spAny []) : C8.Cal P w K mg base 3 "_law_range" spRng [] := by
  refine D.cal sc__law_range (fun vs H Q E h => ?_) (fun f cdv A outer s H vs Q E hr h => ?_)
  · obtain ⟨a, rfl, _⟩ := h
    rfl
  · obtain ⟨a, rfl, hs, q⟩ := h
    have nd := sc__law_range.nd
    refine ⟨_, (pss_cons (ps_set (i := 1) nd rfl (.inl rfl) (pe_lst (pa_cons (pe_rg (r := (none, none)) pe_non pe_non) (pa_cons (pe_rg (r := (some 0, some 0)) pe_int pe_int) (pa_cons (pe_rg (r := (some 5, some 5)) pe_int pe_int) (pa_cons (pe_rg (r := (some (-3), some 4)) pe_ng pe_int) (pa_cons (pe_rg (r := (none, some 7)) pe_non pe_int) (pa_cons (pe_rg (r := (some 2, none)) pe_int pe_non) (pa_cons (pe_rg (r := (some 1, some 9)) pe_int pe_int) (pa_cons (pe_rg (r := (some (-8), some (-2))) pe_ng pe_ng) (pa_cons (pe_rg (r := (some 6, some 12)) pe_int pe_int) (pa_cons (pe_rg (r := (none, some (-1))) pe_non pe_ng) pa_nil))))))))))))
(pss_cons (ps_set (i := 2) nd rfl (.inl rfl) (pe_op op_sub (C8.pe_c c__law_pick hr (by decide) (by rfl) (pa_cons (pv 0) (pa_cons pe_int pa_nil))) pe_int))
(pss_one (ps_ret (C8.pe_c c__law_any hr (by decide) (by rfl) (pa_cons (pv 0) (pa_cons (pe_op op_cat (pv 1) (pe_lst (pa_cons (pe_tup (pa_cons (pv 2) (pa_cons (pe_op op_add (pv 2) (C8.pe_c c__law_pick hr (by decide) (by rfl) (pa_cons (pv 0) (pa_cons pe_int pa_nil)))) pa_nil))) (pa_cons (pe_tup (pa_cons (pv 2) (pa_cons (pv 2) pa_nil))) pa_nil)))) pa_nil))))))), ?_⟩
    refine fun H1 v1 s1 r1 H2 v2 s2 r2 H3 v3 s3 r3 H4 v4 s4 r4 H5 v5 s5 r5 H6 v6 s6 r6 H7 v7 s7 r7 H8 v8 s8 r8 H9 v9 s9 r9 H10 v10 s10 r10 => ?_
    have L1 : Rgs H1 [v1] := .cons r1 rfl .nil
    have L2 : Rgs H2 [v1, v2] := (L1.tups (Same.tups s2)).app (.cons r2 rfl .nil)
    have L3 : Rgs H3 [v1, v2, v3] := (L2.tups (Same.tups s3)).app (.cons r3 rfl .nil)
    have L4 : Rgs H4 [v1, v2, v3, v4] := (L3.tups (Same.tups s4)).app (.cons r4 rfl .nil)
    have L5 : Rgs H5 [v1, v2, v3, v4, v5] := (L4.tups (Same.tups s5)).app (.cons r5 rfl .nil)
    have L6 : Rgs H6 [v1, v2, v3, v4, v5, v6] := (L5.tups (Same.tups s6)).app (.cons r6 rfl .nil)
    have L7 : Rgs H7 [v1, v2, v3, v4, v5, v6, v7] := (L6.tups (Same.tups s7)).app (.cons r7 rfl .nil)
    have L8 : Rgs H8 [v1, v2, v3, v4, v5, v6, v7, v8] := (L7.tups (Same.tups s8)).app (.cons r8 rfl .nil)
    have L9 : Rgs H9 [v1, v2, v3, v4, v5, v6, v7, v8, v9] := (L8.tups (Same.tups s9)).app (.cons r9 rfl .nil)
    have L10 : Rgs H10 [v1, v2, v3, v4, v5, v6, v7, v8, v9, v10] := (L9.tups (Same.tups s10)).app (.cons r10 rfl .nil)
    have sm : Same H H10 := Same.trans (Same.trans (Same.trans (Same.trans (Same.trans (Same.trans (Same.trans (Same.trans (Same.trans (s1) s2) s3) s4) s5) s6) s7) s8) s9) s10
    refine ⟨(by show 10 ≤ sizeLine; decide), fun l nl => ?_⟩
    have L11 := L10.tups (Same.tups (same_upd (o := .lst [v1, v2, v3, v4, v5, v6, v7, v8, v9, v10]) nl))
    have hl : upd H10 l (.lst [v1, v2, v3, v4, v5, v6, v7, v8, v9, v10]) l = some (.lst [v1, v2, v3, v4, v5, v6, v7, v8, v9, v10]) := upd_same
    have sm1 : Same H (upd H10 l (.lst [v1, v2, v3, v4, v5, v6, v7, v8, v9, v10])) := sm.trans (same_upd nl)
    generalize upd H10 l (.lst [v1, v2, v3, v4, v5, v6, v7, v8, v9, v10]) = H11 at L11 hl sm1 ⊢
    have hs1 := hs.same sm1
    have nla : l ≠ a := fun z => by
      obtain ⟨ca, ns, sp, r, c, e1, e2⟩ := hs1
      rw [z, e1] at hl
      cases hl
    refine ⟨.ref a, rfl, a, 14, rfl, hs1, by decide, by decide, fun H12 r s12 b12 hr0 hr1 => ?_⟩
    refine ⟨r, 4, rfl, rfl, .ref a, rfl, .ref l, rfl, .int (r - 4), rfl, .int (r - 4), rfl, .ref a, rfl, a, 9, rfl, s12, by decide, by decide, fun H13 k s13 b13 hk0 hk1 => ?_⟩
    refine ⟨_, _, rfl, rfl, (by show 2 ≤ sizeLine; decide), fun p1 np1 => ?_⟩
    refine ⟨.int (r - 4), rfl, .int (r - 4), rfl, (by show 2 ≤ sizeLine; decide), fun p2 np2 => ?_⟩
    refine ⟨(by show 2 ≤ sizeLine; decide), fun m nm => ?_⟩
    have t12 := hs1.tups b12
    have t13 := s12.tups b13
    have e1 := same_upd (o := .tup [.int (r - 4), .int (r - 4 + k)]) np1
    have e2 := same_upd (o := .tup [.int (r - 4), .int (r - 4)]) np2
    have e3 := same_upd (o := .lst [.ref p1, .ref p2]) nm
    have q1 : RgAt (upd H13 p1 (.tup [.int (r - 4), .int (r - 4 + k)])) (.ref p1) (some (r - 4), some (r - 4 + k)) := ⟨p1, rfl, upd_same⟩
    have q2 : RgAt (upd (upd H13 p1 (.tup [.int (r - 4), .int (r - 4 + k)])) p2 (.tup [.int (r - 4), .int (r - 4)])) (.ref p2) (some (r - 4), some (r - 4)) := ⟨p2, rfl, upd_same⟩
    have b1 : smB (some (r - 4), some (r - 4 + k)) = true := by
      simp only [smB, okRg, smE, Bool.and_eq_true, decide_eq_true_eq]
      omega
    have b2 : smB (some (r - 4), some (r - 4)) = true := by
      simp only [smB, okRg, smE, Bool.and_eq_true, decide_eq_true_eq]
      omega
    have M : Rgs _ [.ref p1, .ref p2] := .cons ((q1.tups (Same.tups e2)).tups (Same.tups e3)) b1 (.cons (q2.tups (Same.tups e3)) b2 .nil)
    have L13 := ((((L11.tups t12).tups t13).tups (Same.tups e1)).tups (Same.tups e2)).tups (Same.tups e3)
    have hl2 := e3 _ _ (e2 _ _ (e1 _ _ (b13 _ _ nla (b12 _ _ nla hl))))
    refine ⟨l, m, _, _, rfl, rfl, hl2, upd_same, (by show 12 ≤ sizeLine; decide), fun p np => ?_⟩
    have e4 := same_upd (o := .lst ([v1, v2, v3, v4, v5, v6, v7, v8, v9, v10] ++ [.ref p1, .ref p2])) np
    have N := (L13.app M).tups (Same.tups e4)
    have s14 := (((s13.same e1).same e2).same e3).same e4
    refine ⟨a, _, rfl, s14, .inr ⟨p, _, rfl, upd_same, (by show 0 < 12; decide), (by show 12 ≤ 1000; decide), fun H' x s' b' hx => ?_⟩⟩
    obtain ⟨g, g1, g2⟩ := N x hx
    exact q H' x g s' (((((((But.of sm1).trans b12).trans b13).trans (But.of e1)).trans (But.of e2)).trans (But.of e3)).trans ((But.of e4).trans b')) (g1.tups (s14.tups b')) g2
/-! ### _law_step -/
/-- two tuples in one -/
theorem catA {K : PySem.W.Frag} {H : Hp} {a b : Addr} {xs ys : List V} {Q : VK} (ha : H a = some (.tup xs)) (hb : H b = some (.tup ys)) (hx : xs ≠ []) (hy : ys ≠ []) (hl : xs.length + ys.length ≤ 1000) (h : ∀ p, H p = none → Q (.ref p) (upd H p (.tup (xs ++ ys)))) : rCatA K (.ref a) (.ref b) H Q :=
  ⟨a, b, xs, ys, rfl, rfl, SqT.of ha, SqT.of hb, Nat.le_of_lt (small1000 hl), fun z => absurd z hx, fun _ z => absurd z hy, fun _ _ => h⟩
/-- a step that the law makes -/
def Step.ok (cs : List Nat) : Step → Bool
  | .is a r => cs.contains a && smB r
  | .plus a b c => cs.contains a && (cs.contains b && (decide (-10 ≤ c) && decide (c ≤ 10)))
  | .within a b r => cs.contains a && (cs.contains b && smB r)
  | .when a b r m => cs.contains a && (cs.contains b && (smB r && smB m))
def spStep : Sp := fun vs H Q _ => ∃ (a : Addr) (cs : List Nat), vs = [.ref a, .str (nmS cs)] ∧ Src H a ∧ 0 < cs.length ∧ cs.length ≤ 1000 ∧ ∀ H' v st, Src H' a → But a H H' → StepAt H' v st → st.ok cs = true → Q v H'
abbrev nm__law_step : List Str := ["_law_source_here", "_law_letters", "_law_a", "_law_b", "_law_way"]
theorem sc__law_step : FnScope nm__law_step ["_law_source_here", "_law_letters"] (defScope (topS 25)) := ⟨rfl, rfl, rfl, by decide +kernel, rfl, by decide +kernel, by decide +kernel⟩
theorem c__law_step (D : Df K mg "_law_step" 25 ["_law_source_here", "_law_letters"]) (c__law_pick : C8.Cal P w K mg base 1 "_law_pick" spPick []) (c__law_any : C8.Cal P w K mg base 2 "_law_any" spAny []) (c__law_range : C8.Cal P w K mg base 3 "_law_range" spRng []) : C8.Cal P w K mg base 4 "_law_step" spStep [] := by
  refine D.cal sc__law_step (fun vs H Q E h => ?_) (fun f cdv A outer s H vs Q E hr h => ?_)
  · obtain ⟨a, cs, rfl, _⟩ := h
    rfl
  · obtain ⟨a, cs, rfl, hs, h0, h1, q⟩ := h
    have nd := sc__law_step.nd
    refine ⟨_, (pss_cons (ps_par3 (i := 2) (j := 3) (l := 4) (by rfl) nd rfl rfl rfl (by decide) (by decide) (by decide) rfl rfl rfl (pa_cons (C8.pe_c c__law_any hr (by decide) (by rfl) (pa_cons (pv 0) (pa_cons (pv 1) pa_nil))) (pa_cons (C8.pe_c c__law_any hr (by decide) (by rfl) (pa_cons (pv 0) (pa_cons (pv 1) pa_nil))) (pa_cons (C8.pe_c c__law_pick hr (by decide) (by rfl) (pa_cons (pv 0) (pa_cons pe_int pa_nil))) pa_nil))) (by rfl))
(pss_cons (ps_if (pt_cmpR op_lt (pv 4) pe_int (nomark _))
(pss_one (ps_ret (pe_op op_catA (pe_tup (pa_cons pe_str (pa_cons (pv 2) pa_nil))) (C8.pe_c c__law_range hr (by decide) (by rfl) (pa_cons (pv 0) pa_nil)))))
pss_nil)
(pss_cons (ps_if (pt_cmpR op_lt (pv 4) pe_int (nomark _))
(pss_one (ps_ret (pe_tup (pa_cons pe_str (pa_cons (pv 2) (pa_cons (pv 3) (pa_cons (C8.pe_c c__law_any hr (by decide) (by rfl) (pa_cons (pv 0) (pa_cons (pe_lst (pa_cons pe_int (pa_cons pe_int (pa_cons pe_int (pa_cons (pe_un un_neg pe_int) (pa_cons (pe_un un_neg pe_int) (pa_cons pe_int (pa_cons pe_int (pa_cons pe_int pa_nil))))))))) pa_nil))) pa_nil)))))))
pss_nil)
(pss_cons (ps_if (pt_cmpR op_lt (pv 4) pe_int (nomark _))
(pss_one (ps_ret (pe_op op_catA (pe_tup (pa_cons pe_str (pa_cons (pv 2) (pa_cons (pv 3) pa_nil)))) (C8.pe_c c__law_range hr (by decide) (by rfl) (pa_cons (pv 0) pa_nil)))))
pss_nil)
(pss_one (ps_ret (pe_op op_catA (pe_op op_catA (pe_tup (pa_cons pe_str (pa_cons (pv 2) (pa_cons (pv 3) pa_nil)))) (C8.pe_c c__law_range hr (by decide) (by rfl) (pa_cons (pv 0) pa_nil))) (C8.pe_c c__law_range hr (by decide) (by rfl) (pa_cons (pv 0) pa_nil))))))))), ?_⟩
    refine ⟨.ref a, rfl, _, rfl, a, _, rfl, hs, .inl ⟨cs, rfl, h0, h1, fun H1 x s1 b1 hx => ?_⟩⟩
    refine ⟨.ref a, rfl, _, rfl, a, _, rfl, s1, .inl ⟨cs, rfl, h0, h1, fun H2 y s2 b2 hy => ?_⟩⟩
    refine ⟨.ref a, rfl, a, 7, rfl, s2, by decide, by decide, fun H3 k s3 b3 k0 k1 => ?_⟩
    have b := (b1.trans b2).trans b3
    refine ⟨_, _, _, rfl, ?_⟩
    refine ⟨.int k, rfl, k, 2, rfl, rfl, _, rfl, ite2 (fun _ => ?_) (fun _ => ?_)⟩
    · refine ⟨_, rfl, (by show 2 ≤ sizeLine; decide), fun p np => ?_⟩
      have e1 := same_upd (o := .tup [.str "is", .str (ch x)]) np
      refine ⟨.ref a, rfl, a, rfl, s3.same e1, fun H4 v r s4 b4 hv hg => ?_⟩
      have hp := (s3.same e1).tups b4 _ _ (upd_same (H := H3) (a := p) (o := .tup [.str "is", .str (ch x)]))
      obtain ⟨pv', rfl, hpv⟩ := hv
      refine catA hp hpv (by simp) (by simp [rgL]) (by show 4 ≤ 1000; decide) fun p2 np2 => ?_
      refine q _ _ (.is x r) (s4.same (same_upd np2)) (((b.trans (But.of e1)).trans b4).trans (But.of (same_upd np2))) ⟨p2, rfl, upd_same⟩ ?_
      show (cs.contains x && smB r) = true
      rw [List.contains_iff_mem.mpr hx, hg]
      rfl
    · refine ⟨.int k, rfl, k, 4, rfl, rfl, _, rfl, ite2 (fun _ => ?_) (fun _ => ?_)⟩
      · refine ⟨_, rfl, _, rfl, .ref a, rfl, 1, rfl, 2, rfl, (by show 8 ≤ sizeLine; decide), fun l nl => ?_⟩
        have e1 := same_upd (o := .lst (([1, 2, 3, -1, -2, 0, 7, 1] : List Int).map V.int)) nl
        refine ⟨a, _, rfl, s3.same e1, .inr ⟨l, ([1, 2, 3, -1, -2, 0, 7, 1] : List Int).map V.int, rfl, upd_same, (by decide), (by decide), fun H4 z s4 b4 hz => ?_⟩⟩
        obtain ⟨c, hc, rfl⟩ := List.mem_map.mp hz
        have hcb : -10 ≤ c ∧ c ≤ 10 := (by decide : ∀ c ∈ ([1, 2, 3, -1, -2, 0, 7, 1] : List Int), -10 ≤ c ∧ c ≤ 10) c hc
        refine ⟨(by show 4 ≤ sizeLine; decide), fun p2 np2 => ?_⟩
        refine q _ _ (.plus x y c) (s4.same (same_upd np2)) (((b.trans (But.of e1)).trans b4).trans (But.of (same_upd np2))) ⟨p2, rfl, upd_same⟩ ?_
        show (cs.contains x && (cs.contains y && (decide (-10 ≤ c) && decide (c ≤ 10)))) = true
        rw [List.contains_iff_mem.mpr hx, List.contains_iff_mem.mpr hy, decide_eq_true hcb.1, decide_eq_true hcb.2]
        rfl
      · refine ⟨.int k, rfl, k, 6, rfl, rfl, _, rfl, ite2 (fun _ => ?_) (fun _ => ?_)⟩
        · refine ⟨_, rfl, _, rfl, (by show 3 ≤ sizeLine; decide), fun p np => ?_⟩
          have e1 := same_upd (o := .tup [.str "within", .str (ch x), .str (ch y)]) np
          refine ⟨.ref a, rfl, a, rfl, s3.same e1, fun H4 v r s4 b4 hv hg => ?_⟩
          have hp := (s3.same e1).tups b4 _ _ (upd_same (H := H3) (a := p) (o := .tup [.str "within", .str (ch x), .str (ch y)]))
          obtain ⟨pv', rfl, hpv⟩ := hv
          refine catA hp hpv (by simp) (by simp [rgL]) (by show 5 ≤ 1000; decide) fun p2 np2 => ?_
          refine q _ _ (.within x y r) (s4.same (same_upd np2)) (((b.trans (But.of e1)).trans b4).trans (But.of (same_upd np2))) ⟨p2, rfl, upd_same⟩ ?_
          show (cs.contains x && (cs.contains y && smB r)) = true
          rw [List.contains_iff_mem.mpr hx, List.contains_iff_mem.mpr hy, hg]
          rfl
        · refine ⟨_, rfl, _, rfl, (by show 3 ≤ sizeLine; decide), fun p np => ?_⟩
          have e1 := same_upd (o := .tup [.str "when", .str (ch x), .str (ch y)]) np
          refine ⟨.ref a, rfl, a, rfl, s3.same e1, fun H4 v r s4 b4 hv hg => ?_⟩
          have hp := (s3.same e1).tups b4 _ _ (upd_same (H := H3) (a := p) (o := .tup [.str "when", .str (ch x), .str (ch y)]))
          obtain ⟨pv', rfl, hpv⟩ := hv
          refine catA hp hpv (by simp) (by simp [rgL]) (by show 5 ≤ 1000; decide) fun p2 np2 => ?_
          have e2 := same_upd (o := .tup ([.str "when", .str (ch x), .str (ch y)] ++ rgL r)) np2
          refine ⟨.ref a, rfl, a, rfl, s4.same e2, fun H5 v2 m s5 b5 hv2 hm => ?_⟩
          have hp2 := (s4.same e2).tups b5 _ _ (upd_same (H := H4) (a := p2) (o := .tup ([.str "when", .str (ch x), .str (ch y)] ++ rgL r)))
          obtain ⟨pw', rfl, hpw⟩ := hv2
          refine catA hp2 hpw (by simp) (by simp [rgL]) (by show 7 ≤ 1000; decide) fun p3 np3 => ?_
          refine q _ _ (.when x y r m) (s5.same (same_upd np3)) (((((b.trans (But.of e1)).trans b4).trans (But.of e2)).trans b5).trans (But.of (same_upd np3))) ⟨p3, rfl, upd_same⟩ ?_
          show (cs.contains x && (cs.contains y && (smB r && smB m))) = true
          rw [List.contains_iff_mem.mpr hx, List.contains_iff_mem.mpr hy, hg, hm]
          rfl
end
end EC

set_option maxHeartbeats 4000000
/-! E12: _law_plan -/
namespace EC
open PySem PySem.Spec PyProof.Rows L2
/-! ### the menus -/
def menu0 : List (List Nat) := [[102, 103, 119], [119, 103, 102], [97, 98], [98, 97], [120], [122, 107, 97], [113, 119, 101, 114, 116], [104, 105]]
def menus : List (List Nat) := menu0.map (·.take 4)
theorem menu_str : ([.str "fgw", .str "wgf", .str "ab", .str "ba", .str "x", .str "zka", .str "qwert", .str "hi"] : List V) = menu0.map fun cs => V.str (nmS cs) := by rfl
theorem menu_pos : ∀ cs ∈ menus, 0 < cs.length ∧ cs.length ≤ 4 := by decide +kernel
theorem menu0_len : ∀ cs ∈ menu0, cs.length ≤ 5 := by decide +kernel
theorem cutS4 (cs : List Nat) : cutS (nmS cs) none (some 4) = nmS (cs.take 4) := by
  show (⟨((cs.toArray.toList.drop (HT.sIx cs.toArray.size 0 none)).take (HT.sIx cs.toArray.size cs.toArray.size (some 4) - HT.sIx cs.toArray.size 0 none)).toArray⟩ : Str) = ⟨(cs.take 4).toArray⟩
  have e : HT.sIx cs.toArray.size cs.toArray.size (some 4) = min 4 cs.toArray.size := HT.sIx_nat _ _ 4
  rw [HT.sIx_none, e, Nat.sub_zero, List.drop_zero, List.size_toArray]
  have e2 : cs.toArray.toList = cs := by simp
  rw [e2]
  by_cases h : 4 ≤ cs.length
  · rw [Nat.min_eq_left h]
  · rw [Nat.min_eq_right (by omega), List.take_of_length_le (Nat.le_refl _), List.take_of_length_le (by omega)]
theorem atI_last {α : Type} {xs : List α} (h : 0 < xs.length) : atI xs (-1) = some (xs[xs.length - 1]'(by omega)) := by
  have e : ixN xs.length (-1) = some (xs.length - 1) := by
    unfold ixN
    rw [if_neg (by omega), if_pos (by omega)]
    congr 1
    omega
  unfold atI
  rw [e]
  exact List.getElem?_eq_getElem (by omega)
theorem nmS_list (cs : List Nat) : (nmS cs).cps.toList = cs := by simp
/-! ### lists of steps -/
/-- at l: a list of steps, at most n, not none -/
def StL (H : Hp) (l : Addr) (cs : List Nat) (n : Nat) : Prop := ∃ xs sts, H l = some (.lst xs) ∧ Paired (fun x st => StepAt H x st) xs sts ∧ (∀ st ∈ sts, Step.ok cs st = true) ∧ 1 ≤ sts.length ∧ sts.length ≤ n
theorem steps_tups {H H' : Hp} {xs : List V} {sts : List Step} (e : Tups H H') (h : Paired (fun x st => StepAt H x st) xs sts) : Paired (fun x st => StepAt H' x st) xs sts := paired_imp h fun x st q => q.tups e
theorem paired_app {α β : Type} {F : α → β → Prop} : ∀ {l l' : List α} {m m' : List β}, Paired F l m → Paired F l' m' → Paired F (l ++ l') (m ++ m')
  | _, _, _, _, .nil, h => h
  | _, _, _, _, .cons f t, h => .cons f (paired_app t h)
theorem paired_drop {α β : Type} {F : α → β → Prop} : ∀ {l : List α} {m : List β} (k : Nat), Paired F l m → Paired F (l.drop k) (m.drop k)
  | _, _, 0, h => h
  | _, _, k + 1, .nil => .nil
  | _, _, k + 1, .cons f t => paired_drop k t
theorem paired_take {α β : Type} {F : α → β → Prop} : ∀ {l : List α} {m : List β} (k : Nat), Paired F l m → Paired F (l.take k) (m.take k)
  | _, _, 0, h => .nil
  | _, _, k + 1, .nil => .nil
  | _, _, k + 1, .cons f t => .cons f (paired_take k t)
theorem tups_lst {H : Hp} {l : Addr} {xs : List V} {o : HO} (h : H l = some (.lst xs)) : Tups H (upd H l o) := fun b ys e => by
  rw [upd_ne (fun z => by rw [z, h] at e; cases e)]
  exact e
theorem But.new {a l : Addr} {H H' : Hp} {o : HO} (b : But a H H') (n : H l = none) : But a H (upd H' l o) := fun c u nc e => by
  rw [upd_ne (ne_of_none e n)]
  exact b c u nc e
/-- a store into a list of objects -/
theorem Src.lst {a l : Addr} {H : Hp} {p : Addr} {xs : List V} {o : HO} (h : Src H a) (hl : H l = some (.lst (.ref p :: xs))) : Src (upd H l o) a := by
  obtain ⟨ca, ns, sp, r, c, h1, h2⟩ := h
  have n1 : a ≠ l := fun z => by rw [← z, h1] at hl; cases hl
  have n2 : ca ≠ l := fun z => by
    rw [← z, h2] at hl
    have e := HO.lst.inj (Option.some.inj hl)
    cases ns with
    | nil => cases e
    | cons n ns => cases e
  exact ⟨ca, ns, sp, r, c, by rw [upd_ne n1]; exact h1, by rw [upd_ne n2]; exact h2⟩
theorem stL_hd {H : Hp} {xs : List V} {sts : List Step} (h : Paired (fun x st => StepAt H x st) xs sts) (h1 : 1 ≤ sts.length) : ∃ p ys, xs = .ref p :: ys := by
  cases h with
  | nil => exact absurd h1 (by simp)
  | cons f t =>
    obtain ⟨p, rfl, _⟩ := f
    exact ⟨p, _, rfl⟩
theorem StL.mono {H : Hp} {l : Addr} {cs : List Nat} {m n : Nat} (h : StL H l cs m) (e : m ≤ n) : StL H l cs n := by
  obtain ⟨xs, sts, h1, h2, h3, h4, h5⟩ := h
  exact ⟨xs, sts, h1, h2, h3, h4, Nat.le_trans h5 e⟩
theorem StL.but {H H' : Hp} {a l : Addr} {cs : List Nat} {n : Nat} (h : StL H l cs n) (hn : l ≠ a) (b : But a H H') (t : Tups H H') : StL H' l cs n := by
  obtain ⟨xs, sts, h1, h2, h3, h4, h5⟩ := h
  exact ⟨xs, sts, b _ _ hn h1, steps_tups t h2, h3, h4, h5⟩
/-- one step more -/
theorem StL.more {H : Hp} {l : Addr} {cs : List Nat} {n : Nat} {xs : List V} {sts : List Step} {v : V} {st : Step} (hl : H l = some (.lst xs)) (hp : Paired (fun x st => StepAt H x st) xs sts) (ho : ∀ st ∈ sts, Step.ok cs st = true) (hn : sts.length ≤ n) (hv : StepAt H v st) (hk : st.ok cs = true) :
    StL (upd H l (.lst (xs ++ [v]))) l cs (n + 1) := by
  have e := tups_lst (o := .lst (xs ++ [v])) hl
  refine ⟨xs ++ [v], sts ++ [st], upd_same, (steps_tups e hp).snoc (hv.tups e), fun s hs => ?_, by simp, by simp; omega⟩
  rcases List.mem_append.mp hs with h | h
  · exact ho s h
  · rcases List.mem_cons.mp h with rfl | h
    · exact hk
    · cases h
theorem fresh {H : Hp} {p : Addr} {o : HO} (n : H p = none) : upd H p o p = some o := upd_same
theorem keep {H : Hp} {p l : Addr} {o u : HO} (n : H p = none) (h : H l = some o) : upd H p u l = some o := same_upd n _ _ h
theorem But.back {a l : Addr} {H H' : Hp} (b : But a H H') (s : Src H' a) (n : H' l = none) : H l = none := by
  cases e : H l with
  | none => rfl
  | some o =>
    have hn : l ≠ a := fun z => by
      obtain ⟨_, _, _, _, _, e1, _⟩ := s
      rw [z, e1] at n
      cases n
    rw [b _ _ hn e] at n
    cases n
/-- steps that were made since H0 -/
def Acc (cs : List Nat) (H0 H : Hp) (xs : List V) (sts : List Step) : Prop := Same H0 H ∧ Paired (fun x st => StepAt H x st) xs sts ∧ ∀ st ∈ sts, Step.ok cs st = true
theorem Acc.nil (cs : List Nat) (H : Hp) : Acc cs H H [] [] := ⟨Same.refl H, .nil, fun _ h => nomatch h⟩
section
variable {cs : List Nat} {H0 H : Hp} {xs : List V} {sts : List Step}
theorem Acc.new {p : Addr} {o : HO} (h : Acc cs H0 H xs sts) (n : H p = none) : Acc cs H0 (upd H p o) xs sts := ⟨h.1.trans (same_upd n), steps_tups (Same.tups (same_upd n)) h.2.1, h.2.2⟩
theorem Acc.step {p : Addr} {st : Step} (h : Acc cs H0 H xs sts) (n : H p = none) (hk : st.ok cs = true) : Acc cs H0 (upd H p (.tup st.vals)) (xs ++ [.ref p]) (sts ++ [st]) := by
  have h' := h.new (o := .tup st.vals) n
  refine ⟨h'.1, h'.2.1.snoc ⟨p, rfl, upd_same⟩, fun s hs => ?_⟩
  rcases List.mem_append.mp hs with q | q
  · exact h.2.2 s q
  · rcases List.mem_cons.mp q with rfl | q
    · exact hk
    · cases q
theorem Acc.drop (h : Acc cs H0 H xs sts) : Acc cs H0 H [] [] := ⟨h.1, .nil, fun _ h => nomatch h⟩
theorem Acc.lst {l : Addr} {ys : List V} {o : HO} (h : Acc cs H0 H xs sts) (hl : H l = some (.lst ys)) (n : H0 l = none) : Acc cs H0 (upd H l o) xs sts := ⟨fun b u e => by
  rw [upd_ne (ne_of_none e n)]
  exact h.1 b u e, steps_tups (tups_lst hl) h.2.1, h.2.2⟩
theorem Acc.stl {l : Addr} {n : Nat} (h : Acc cs H0 H xs sts) (hl : H l = some (.lst xs)) (h1 : 1 ≤ sts.length) (h2 : sts.length ≤ n) : StL H l cs n := ⟨xs, sts, hl, h.2.1, h.2.2, h1, h2⟩
end
section
variable {P : Program} {w : World} {K : PySem.W.Frag} {mg : Str → Option Value} {base : Heap}
def spPlan : Sp := fun vs H Q _ => ∃ a : Addr, vs = [.ref a, .int 4] ∧ Src H a ∧ ∀ H' v cs sts, Src H' a → But a H H' → cs ∈ menus → PrgAt H' v cs sts → (∀ st ∈ sts, Step.ok cs st = true) → sts.length ≤ 8 → Q v H'
abbrev nm__law_plan : List Str := ["_law_source_here", "_law_wide", "_law_letters", "_law_steps_in", "_law_lap", "_law_turn", "_law_a", "_law_b", "_law_c", "_law_n", "_law_way", "_law_k"]
theorem sc__law_plan : FnScope nm__law_plan ["_law_source_here", "_law_wide"] (defScope (topS 26)) := ⟨rfl, rfl, rfl, by decide +kernel, rfl, by decide +kernel, by decide +kernel⟩
theorem c__law_plan (D : Df K mg "_law_plan" 26 ["_law_source_here", "_law_wide"]) (T : Txt K mg) (c__law_pick : C8.Cal P w K mg base 1 "_law_pick" spPick []) (c__law_any : C8.Cal P w K mg base 2 "_law_any" spAny []) (c__law_step : C8.Cal P w K mg base 4 "_law_step" spStep []) : C8.Cal P w K mg base 5 "_law_plan" spPlan [] := by
  refine D.cal sc__law_plan (fun vs H Q E h => ?_) (fun f cdv A outer s H vs Q E hr h => ?_)
  · obtain ⟨a, rfl, _⟩ := h
    rfl
  · obtain ⟨a, rfl, hs, q⟩ := h
    have nd := sc__law_plan.nd
    have tl : PSs (cxOf C8.CX0 P w K mg base nm__law_plan "_law_plan" (defScope (topS 26)) f cdv A outer s H E).nox ((defBody (topS 26)).drop 5) (fun D σ H' => ∃ cs l x4 x5 x6 x7 x8 x9 x10 x11, σ = [some (.ref a), some (.int 4), some (.str (nmS cs)), some (.ref l), x4, x5, x6, x7, x8, x9, x10, x11] ∧
        cs ∈ menus ∧ Src H' a ∧ StL H' l cs 5 ∧ H l = none ∧ But a H H' ∧ ∀ H'' v sts, Src H'' a → But a H H'' → PrgAt H'' v cs sts → (∀ st ∈ sts, Step.ok cs st = true) → sts.length ≤ 8 → D.rt v H'') := by
      refine PSs.imp (pss_cons (ps_for PassesOwn.never rfl (pi_range1 (by rfl) T.z_range (pa_cons (C8.pe_c c__law_pick hr (by decide) (by rfl) (pa_cons (pv 0) (pa_cons pe_int pa_nil))) pa_nil)) (pg_name (i := 4) nd rfl (.inl rfl))
(pss_one (ps_expr (pe_bm PySem.F.plainAttrs_list PySem.F.slot_list_append PySem.F.type_list_append mt_append (pv 3) (pa_cons (C8.pe_c c__law_step hr (by decide) (by rfl) (pa_cons (pv 0) (pa_cons (pv 2) pa_nil))) pa_nil)))))
(pss_cons (ps_set (i := 5) nd rfl (.inl rfl) (C8.pe_c c__law_pick hr (by decide) (by rfl) (pa_cons (pv 0) (pa_cons (pe_callB call_len_seq (by rfl) T.z_len (by decide +kernel) (pa_cons (pv 3) pa_nil)) pa_nil))))
(pss_one (ps_ret (pe_tup (pa_cons (pv 2) (pa_cons (pe_callTy call_tuple_of (by rfl) T.z_tuple (by decide +kernel) (pa_cons (pe_op op_cat (pe_slice sl_list (pv 3) (po_some (pv 5)) po_none) (pe_slice sl_list (pv 3) po_none (po_some (pv 5)))) pa_nil)) pa_nil))))))) ?_
      rintro D σ H1 ⟨cs, l, x4, x5, x6, x7, x8, x9, x10, x11, rfl, hcs, s1, hst, nl, b1, q⟩
      obtain ⟨c0, c4⟩ := menu_pos cs hcs
      refine ⟨.ref a, rfl, a, 4, rfl, s1, by decide, by decide, fun H2 r s2 b2 r0 r1 => ?_⟩
      obtain ⟨j, rfl, hj⟩ := idx_nat r0 r1
      have lne : ∀ {H' : Hp}, Src H' a → StL H' l cs (5 + 4) → l ≠ a := fun h1 h2 z => by
        obtain ⟨_, _, _, _, _, e1, _⟩ := h1
        obtain ⟨_, _, e2, _⟩ := h2
        rw [z, e1] at e2
        cases e2
      refine ⟨(j : Int), rfl, by omega, by omega, for_range (n := j) (fun i σ H' => ∃ x4, σ = [some (.ref a), some (.int 4), some (.str (nmS cs)), some (.ref l), x4, x5, x6, x7, x8, x9, x10, x11] ∧ Src H' a ∧ StL H' l cs (5 + i) ∧ But a H H') ?_ ?_ ?_⟩
      · exact ⟨x4, rfl, s2, (hst.but (lne s1 (hst.mono (by omega))) b2 (s1.tups b2)).mono (by omega), b1.trans b2⟩
      · rintro i σ H' hi ⟨x4, rfl, s', ⟨xs, sts, hl, hp, ho, hn1, hn⟩, b'⟩
        have nla : l ≠ a := lne s' ⟨xs, sts, hl, hp, ho, hn1, by omega⟩
        refine ⟨.ref l, rfl, .inl ⟨rfl, xs, SqL.of hl⟩, .ref a, rfl, _, rfl, a, cs, rfl, s', c0, by omega, fun H3 v st s3 b3 hv hk => ?_⟩
        have hl3 := b3 _ _ nla hl
        have t3 := s'.tups b3
        have hlen := paired_len hp
        refine ⟨l, xs, v, rfl, rfl, hl3, small1000 (by omega), ?_⟩
        obtain ⟨p, ys, rfl⟩ := stL_hd hp hn1
        exact ⟨_, rfl, s3.lst hl3, StL.more hl3 (steps_tups t3 hp) ho hn hv hk, (b'.trans b3).new nl⟩
      · rintro σ H' ⟨x4, rfl, s', ⟨xs, sts, hl, hp, ho, hn1, hn⟩, b'⟩
        have nla : l ≠ a := lne s' ⟨xs, sts, hl, hp, ho, hn1, by omega⟩
        have hlen := paired_len hp
        refine ⟨.ref a, rfl, .ref l, rfl, l, xs, rfl, .inl (SqL.of hl), a, ((xs.length : Nat) : Int), rfl, s', by omega, by omega, fun H3 r s3 b3 r0 r1 => ?_⟩
        obtain ⟨k, rfl, hk⟩ := idx_nat r0 r1
        have hl3 := b3 _ _ nla hl
        have hp3 := steps_tups (s'.tups b3) hp
        refine ⟨_, rfl, .ref l, rfl, .int (k : Int), rfl, (k : Int), rfl, l, xs, rfl, SqL.of hl3, fun p1 n1 => ?_⟩
        rw [cut_drop]
        have e1 := same_upd (o := .lst (xs.drop k)) n1
        refine ⟨.ref l, rfl, .int (k : Int), rfl, (k : Int), rfl, l, xs, rfl, SqL.of (e1 _ _ hl3), fun p2 n2 => ?_⟩
        rw [cut_take]
        have e2 := same_upd (o := .lst (xs.take k)) n2
        refine ⟨p1, p2, _, _, rfl, rfl, e2 _ _ upd_same, upd_same, ?_, fun p3 n3 => ?_⟩
        · rw [List.length_drop, List.length_take]
          exact Nat.le_of_lt (small1000 (by omega))
        have e3 := same_upd (o := .lst (xs.drop k ++ xs.take k)) n3
        refine ⟨p3, _, rfl, .inl ⟨SqL.of upd_same, fun p4 n4 => ?_⟩⟩
        have e4 := same_upd (o := .tup (xs.drop k ++ xs.take k)) n4
        refine ⟨(by show 2 ≤ sizeLine; decide), fun p5 n5 => ?_⟩
        have e5 := same_upd (o := .tup [.str (nmS cs), .ref p4]) n5
        have e := (((e1.trans e2).trans e3).trans e4).trans e5
        have hfin := steps_tups (Same.tups e) (paired_app (paired_drop k hp3) (paired_take k hp3))
        refine q _ _ (sts.drop k ++ sts.take k) (s3.same e) ((b'.trans b3).trans (But.of e)) ⟨p5, p4, _, rfl, upd_same, e5 _ _ upd_same, hfin⟩ (fun st hst => ?_) ?_
        · rcases List.mem_append.mp hst with h | h
          · exact ho st (List.mem_of_mem_drop h)
          · exact ho st (List.mem_of_mem_take h)
        · rw [List.length_append, List.length_drop, List.length_take]
          omega
    refine ⟨_, (pss_cons (ps_set (i := 2) nd rfl (.inl rfl) (pe_slice sl_str (C8.pe_c c__law_any hr (by decide) (by rfl) (pa_cons (pv 0) (pa_cons (pe_lst (pa_cons pe_str (pa_cons pe_str (pa_cons pe_str (pa_cons pe_str (pa_cons pe_str (pa_cons pe_str (pa_cons pe_str (pa_cons pe_str pa_nil))))))))) pa_nil))) po_none (po_some (pv 1))))
(pss_cons (ps_par3 (i := 6) (j := 7) (l := 8) (by rfl) nd rfl rfl rfl (by decide) (by decide) (by decide) rfl rfl rfl (pa_cons (pe_ix ix_str (pv 2) pe_int (fun _ _ => rfl)) (pa_cons (pe_ix ix_str (pv 2) pe_ng (fun _ _ => rfl)) (pa_cons (pe_ix ix_str (pv 2) (pe_op op_fdiv (pe_callB call_len_str (by rfl) T.z_len (by decide +kernel) (pa_cons (pv 2) pa_nil)) pe_int) (fun _ _ => rfl)) pa_nil))) (by rfl))
(pss_cons (ps_par3 (i := 9) (j := 10) (l := 11) (by rfl) nd rfl rfl rfl (by decide) (by decide) (by decide) rfl rfl rfl (pa_cons (C8.pe_c c__law_pick hr (by decide) (by rfl) (pa_cons (pv 0) (pa_cons pe_int pa_nil))) (pa_cons (C8.pe_c c__law_pick hr (by decide) (by rfl) (pa_cons (pv 0) (pa_cons pe_int pa_nil))) (pa_cons (pe_op op_add pe_int (C8.pe_c c__law_pick hr (by decide) (by rfl) (pa_cons (pv 0) (pa_cons pe_int pa_nil)))) pa_nil))) (by rfl))
(pss_cons (ps_set (i := 3) nd rfl (.inl rfl) (pe_lst (pa_cons (pe_tup (pa_cons pe_str (pa_cons (pv 6) (pa_cons (pv 9) (pa_cons (pv 9) pa_nil))))) pa_nil)))
(pss_cons (ps_if (pt_cmpR op_eq (pv 10) pe_int (nomark _))
(pss_one (ps_set (i := 3) nd rfl (.inl rfl) (pe_op op_cat (pv 3) (pe_lst (pa_cons (pe_tup (pa_cons pe_str (pa_cons (pv 7) (pa_cons (pv 6) (pa_cons (pv 11) pa_nil))))) (pa_cons (pe_tup (pa_cons pe_str (pa_cons (pv 6) (pa_cons (pv 7) (pa_cons pe_non (pa_cons (pe_op op_add pe_int (pv 9)) pa_nil)))))) pa_nil))))))
(pss_one (ps_if (pt_cmpR op_eq (pv 10) pe_int (nomark _))
(pss_one (ps_set (i := 3) nd rfl (.inl rfl) (pe_op op_cat (pv 3) (pe_lst (pa_cons (pe_tup (pa_cons pe_str (pa_cons (pv 6) (pa_cons (pv 6) (pa_cons (pv 11) pa_nil))))) (pa_cons (pe_tup (pa_cons pe_str (pa_cons (pv 7) (pa_cons (pv 6) (pa_cons pe_int (pa_cons pe_int pa_nil)))))) (pa_cons (pe_tup (pa_cons pe_str (pa_cons (pv 8) (pa_cons (pv 6) (pa_cons pe_int (pa_cons pe_non (pa_cons pe_ng (pa_cons pe_int pa_nil)))))))) pa_nil)))))))
(pss_one (ps_if (pt_cmpR op_eq (pv 10) pe_int (nomark _))
(pss_cons (ps_set (i := 3) nd rfl (.inl rfl) (pe_lst (pa_cons (pe_tup (pa_cons pe_str (pa_cons (pv 6) (pa_cons pe_int (pa_cons pe_int pa_nil))))) (pa_cons (pe_tup (pa_cons pe_str (pa_cons (pv 8) (pa_cons (pv 6) (pa_cons pe_int pa_nil))))) (pa_cons (pe_tup (pa_cons pe_str (pa_cons (pv 7) (pa_cons pe_int (pa_cons pe_int pa_nil))))) (pa_cons (pe_tup (pa_cons pe_str (pa_cons (pv 7) (pa_cons (pv 6) (pa_cons pe_non (pa_cons pe_non pa_nil)))))) pa_nil))))))
(pss_one (ps_expr (pe_bm PySem.F.plainAttrs_list PySem.F.slot_list_append PySem.F.type_list_append mt_append (pv 3) (pa_cons (pe_tup (pa_cons pe_str (pa_cons (pv 7) (pa_cons (pv 8) (pa_cons pe_non (pa_cons pe_non pa_nil)))))) pa_nil)))))
(pss_one (ps_if (pt_cmpR op_eq (pv 10) pe_int (nomark _))
(pss_one (ps_set (i := 3) nd rfl (.inl rfl) (pe_op op_cat (pv 3) (pe_lst (pa_cons (pe_tup (pa_cons pe_str (pa_cons (pv 6) (pa_cons (pv 7) (pa_cons (pe_op op_sub pe_int (pv 11)) pa_nil))))) (pa_cons (pe_tup (pa_cons pe_str (pa_cons (pv 7) (pa_cons (pv 6) (pa_cons (pe_op op_sub pe_int (pv 11)) pa_nil))))) (pa_cons (pe_tup (pa_cons pe_str (pa_cons (pv 7) (pa_cons pe_int (pa_cons (pe_ifExp (pt_cmpR op_eq (pv 9) pe_int (nomark _)) pe_non pe_int) pa_nil))))) pa_nil)))))))
pss_nil)))))))
tl))))), ?_⟩
    refine ⟨.ref a, rfl, (by show 8 ≤ sizeLine; decide), fun m nm => ?_⟩
    have hm := same_upd (o := .lst (menu0.map fun cs => V.str (nmS cs))) nm
    refine ⟨a, .ref m, rfl, hs.same hm, .inr ⟨m, menu0.map fun cs => V.str (nmS cs), rfl, upd_same, (by decide), (by decide), fun H1 x s1 b1 hx => ?_⟩⟩
    obtain ⟨cs0, hcs0, rfl⟩ := List.mem_map.mp hx
    have hc5 := menu0_len cs0 hcs0
    refine ⟨.int 4, rfl, 4, rfl, nmS cs0, rfl, Nat.le_of_lt (small1000 (by show cs0.length ≤ 1000; omega)), ?_⟩
    rw [cutS4]
    have hcs : cs0.take 4 ∈ menus := List.mem_map.mpr ⟨cs0, hcs0, rfl⟩
    generalize cs0.take 4 = cs at hcs ⊢
    obtain ⟨c0, c4⟩ := menu_pos cs hcs
    have b := (But.of (a := a) hm).trans b1
    -- a, b, c
    have i0 : atI (nmS cs).cps.toList 0 = some (cs[0]'c0) := atI_nat (j := 0) (by simp)
    have i1 : ∃ y ∈ cs, atI (nmS cs).cps.toList (-1) = some y := by
      rw [nmS_list]
      exact ⟨_, List.getElem_mem _, atI_last c0⟩
    have i2 : atI (nmS cs).cps.toList (((nmS cs).length : Int) / 2) = some (cs[cs.length / 2]'(by omega)) := by
      rw [nmS_list]
      have e : ((nmS cs).length : Int) / 2 = ((cs.length / 2 : Nat) : Int) := by
        show ((cs.length : Nat) : Int) / 2 = _
        omega
      rw [e]
      exact atI_nat (List.getElem?_eq_getElem _)
    obtain ⟨y, hy, i1⟩ := i1
    have hx0 : cs[0]'c0 ∈ cs := List.getElem_mem _
    have hz : cs[cs.length / 2]'(by omega) ∈ cs := List.getElem_mem _
    generalize cs[0]'c0 = x at i0 hx0
    generalize cs[cs.length / 2]'(by omega) = z at i2 hz
    have zl : (nmS cs).length ≤ sizeLine := Nat.le_of_lt (small1000 (by show cs.length ≤ 1000; omega))
    refine ⟨_, rfl, nmS cs, 0, x, rfl, rfl, zl, i0, _, rfl, nmS cs, -1, y, rfl, rfl, zl, i1, _, rfl, _, rfl, nmS cs, rfl, zl, _, 2, rfl, rfl, ⟨by decide, by decide⟩, nmS cs, _, z, rfl, rfl, zl, i2, _, _, _, rfl, ?_⟩
    have cx := List.contains_iff_mem.mpr hx0
    have cy := List.contains_iff_mem.mpr hy
    have cz := List.contains_iff_mem.mpr hz
    refine ⟨.ref a, rfl, a, 5, rfl, s1, by decide, by decide, fun H2 n s2 b2 n0 n5 => ?_⟩
    refine ⟨.ref a, rfl, a, 5, rfl, s2, by decide, by decide, fun H3 way s3 b3 w0 w5 => ?_⟩
    refine ⟨.ref a, rfl, a, 3, rfl, s3, by decide, by decide, fun H4 k s4 b4 k0 k3 => ?_⟩
    have b := ((b.trans b2).trans b3).trans b4
    refine ⟨1, k, rfl, rfl, _, _, _, rfl, ?_⟩
    have q : ∀ H'' v sts, Src H'' a → But a H H'' → PrgAt H'' v cs sts → (∀ st ∈ sts, Step.ok cs st = true) → sts.length ≤ 8 → Q v H'' := fun H'' v sts h1 h2 h3 h4 h5 => q H'' v cs sts h1 h2 hcs h3 h4 h5
    refine ⟨_, rfl, _, rfl, _, rfl, (by show 4 ≤ sizeLine; decide), fun p0 n0' => ?_⟩
    have A0 := (Acc.nil cs H4).step n0' (st := .is x (some n, some n)) (by simp only [Step.ok, smB, okRg, smE, cx, cy, cz, Bool.true_and, Bool.and_true, Bool.and_eq_true, decide_eq_true_eq] <;> omega)
    refine ⟨(by show 1 ≤ sizeLine; decide), fun l nl => ?_⟩
    have A1 := A0.new nl (o := .lst [.ref p0])
    have hl := fresh nl (o := .lst [.ref p0])
    refine ⟨.int way, rfl, rfl, _, rfl, ite2 (fun _ => ?_) (fun _ => ?_)⟩
    · skip
      refine ⟨_, rfl, _, rfl, _, rfl, _, rfl, (by show 4 ≤ sizeLine; decide), fun p1 n1 => ?_⟩
      have A1x := A1.step n1 (st := .plus y x (1 + k)) (by simp only [Step.ok, smB, okRg, smE, cx, cy, cz, Bool.true_and, Bool.and_true, Bool.and_eq_true, decide_eq_true_eq] <;> omega)
      refine ⟨_, rfl, _, rfl, _, rfl, _, _, rfl, rfl, (by show 5 ≤ sizeLine; decide), fun p2 n2 => ?_⟩
      have A2x := A1x.step n2 (st := .within x y (none, some (6 + n))) (by simp only [Step.ok, smB, okRg, smE, cx, cy, cz, Bool.true_and, Bool.and_true, Bool.and_eq_true, decide_eq_true_eq] <;> omega)
      refine ⟨(by show 2 ≤ sizeLine; decide), fun m nm => ?_⟩
      have Am := A2x.new nm (o := .lst [.ref p1, .ref p2])
      refine ⟨l, m, _, _, rfl, rfl, keep nm (keep n2 (keep n1 (hl))), upd_same, (by show 3 ≤ sizeLine; decide), fun r nr => ?_⟩
      have Ar := Am.new nr (o := .lst ([.ref p0] ++ [.ref p1, .ref p2]))
      exact ⟨cs, r, _, _, _, _, _, _, _, _, rfl, hcs, s4.same Ar.1, Ar.stl upd_same (by simp) (by simp), b.back s4 (Same.none Am.1 nr), b.trans (But.of Ar.1), q⟩
    refine ⟨.int way, rfl, rfl, _, rfl, ite2 (fun _ => ?_) (fun _ => ?_)⟩
    · skip
      refine ⟨_, rfl, _, rfl, _, rfl, _, rfl, (by show 4 ≤ sizeLine; decide), fun p1 n1 => ?_⟩
      have A1x := A1.step n1 (st := .plus x x (1 + k)) (by simp only [Step.ok, smB, okRg, smE, cx, cy, cz, Bool.true_and, Bool.and_true, Bool.and_eq_true, decide_eq_true_eq] <;> omega)
      refine ⟨_, rfl, _, rfl, (by show 5 ≤ sizeLine; decide), fun p2 n2 => ?_⟩
      have A2x := A1x.step n2 (st := .within y x (some 2, some 9)) (by simp only [Step.ok, smB, okRg, smE, cx, cy, cz, Bool.true_and, Bool.and_true, Bool.and_eq_true, decide_eq_true_eq] <;> omega)
      refine ⟨_, rfl, _, rfl, (by show 7 ≤ sizeLine; decide), fun p3 n3 => ?_⟩
      have A3x := A2x.step n3 (st := .when z x (some 8, none) (some (-1), some 1)) (by simp only [Step.ok, smB, okRg, smE, cx, cy, cz, Bool.true_and, Bool.and_true, Bool.and_eq_true, decide_eq_true_eq] <;> omega)
      refine ⟨(by show 3 ≤ sizeLine; decide), fun m nm => ?_⟩
      have Am := A3x.new nm (o := .lst [.ref p1, .ref p2, .ref p3])
      refine ⟨l, m, _, _, rfl, rfl, keep nm (keep n3 (keep n2 (keep n1 (hl)))), upd_same, (by show 4 ≤ sizeLine; decide), fun r nr => ?_⟩
      have Ar := Am.new nr (o := .lst ([.ref p0] ++ [.ref p1, .ref p2, .ref p3]))
      exact ⟨cs, r, _, _, _, _, _, _, _, _, rfl, hcs, s4.same Ar.1, Ar.stl upd_same (by simp) (by simp), b.back s4 (Same.none Am.1 nr), b.trans (But.of Ar.1), q⟩
    refine ⟨.int way, rfl, rfl, _, rfl, ite2 (fun _ => ?_) (fun _ => ?_)⟩
    · have A0' := A1.drop
      refine ⟨_, rfl, (by show 4 ≤ sizeLine; decide), fun p1 n1 => ?_⟩
      have A1x := A0'.step n1 (st := .is x (some 5, some 5)) (by simp only [Step.ok, smB, okRg, smE, cx, cy, cz, Bool.true_and, Bool.and_true, Bool.and_eq_true, decide_eq_true_eq] <;> omega)
      refine ⟨_, rfl, _, rfl, (by show 4 ≤ sizeLine; decide), fun p2 n2 => ?_⟩
      have A2x := A1x.step n2 (st := .plus z x 2) (by simp only [Step.ok, smB, okRg, smE, cx, cy, cz, Bool.true_and, Bool.and_true, Bool.and_eq_true, decide_eq_true_eq] <;> omega)
      refine ⟨_, rfl, (by show 4 ≤ sizeLine; decide), fun p3 n3 => ?_⟩
      have A3x := A2x.step n3 (st := .is y (some 0, some 0)) (by simp only [Step.ok, smB, okRg, smE, cx, cy, cz, Bool.true_and, Bool.and_true, Bool.and_eq_true, decide_eq_true_eq] <;> omega)
      refine ⟨_, rfl, _, rfl, (by show 5 ≤ sizeLine; decide), fun p4 n4 => ?_⟩
      have A4x := A3x.step n4 (st := .within y x (none, none)) (by simp only [Step.ok, smB, okRg, smE, cx, cy, cz, Bool.true_and, Bool.and_true, Bool.and_eq_true, decide_eq_true_eq] <;> omega)
      refine ⟨(by show 4 ≤ sizeLine; decide), fun m nm => ?_⟩
      have Am := A4x.new nm (o := .lst [.ref p1, .ref p2, .ref p3, .ref p4])
      refine ⟨_, rfl, .inl ⟨rfl, _, SqL.of (fresh nm)⟩, _, rfl, _, rfl, (by show 5 ≤ sizeLine; decide), fun p5 n5 => ?_⟩
      have A5x := Am.step n5 (st := .within y z (none, none)) (by simp only [Step.ok, smB, okRg, smE, cx, cy, cz, Bool.true_and, Bool.and_true, Bool.and_eq_true, decide_eq_true_eq] <;> omega)
      have hm5 := keep (u := .tup (Step.vals (.within y z (none, none)))) n5 (fresh nm (o := .lst [.ref p1, .ref p2, .ref p3, .ref p4]))
      have nm4 := Same.none A4x.1 nm
      refine ⟨m, _, _, rfl, rfl, hm5, (by show 4 < sizeLine; decide), ?_⟩
      have Af := A5x.lst hm5 nm4 (o := .lst ([.ref p1, .ref p2, .ref p3, .ref p4] ++ [.ref p5]))
      exact ⟨cs, m, _, _, _, _, _, _, _, _, rfl, hcs, s4.same Af.1, Af.stl upd_same (by simp) (by simp), b.back s4 nm4, b.trans (But.of Af.1), q⟩
    refine ⟨.int way, rfl, rfl, _, rfl, ite2 (fun _ => ?_) (fun _ => ?_)⟩
    · skip
      refine ⟨_, rfl, _, rfl, _, rfl, _, rfl, _, _, rfl, rfl, (by show 4 ≤ sizeLine; decide), fun p1 n1 => ?_⟩
      have A1x := A1.step n1 (st := .plus x y (0 - (1 + k))) (by simp only [Step.ok, smB, okRg, smE, cx, cy, cz, Bool.true_and, Bool.and_true, Bool.and_eq_true, decide_eq_true_eq] <;> omega)
      refine ⟨_, rfl, _, rfl, _, rfl, _, _, rfl, rfl, (by show 4 ≤ sizeLine; decide), fun p2 n2 => ?_⟩
      have A2x := A1x.step n2 (st := .plus y x (0 - (1 + k))) (by simp only [Step.ok, smB, okRg, smE, cx, cy, cz, Bool.true_and, Bool.and_true, Bool.and_eq_true, decide_eq_true_eq] <;> omega)
      refine ⟨_, rfl, _, rfl, rfl, _, rfl, ite2 (fun _ => ?_) (fun _ => ?_)⟩
      · refine ⟨(by show 4 ≤ sizeLine; decide), fun p3 n3 => ?_⟩
        have A3x := A2x.step n3 (st := .is y (some 3, none)) (by simp only [Step.ok, smB, okRg, smE, cx, cy, cz, Bool.true_and, Bool.and_true, Bool.and_eq_true, decide_eq_true_eq] <;> omega)
        refine ⟨(by show 3 ≤ sizeLine; decide), fun m nm => ?_⟩
        have Am := A3x.new nm (o := .lst [.ref p1, .ref p2, .ref p3])
        refine ⟨l, m, _, _, rfl, rfl, keep nm (keep n3 (keep n2 (keep n1 (hl)))), upd_same, (by show 4 ≤ sizeLine; decide), fun r nr => ?_⟩
        have Ar := Am.new nr (o := .lst ([.ref p0] ++ [.ref p1, .ref p2, .ref p3]))
        exact ⟨cs, r, _, _, _, _, _, _, _, _, rfl, hcs, s4.same Ar.1, Ar.stl upd_same (by simp) (by simp), b.back s4 (Same.none Am.1 nr), b.trans (But.of Ar.1), q⟩
      · refine ⟨(by show 4 ≤ sizeLine; decide), fun p3 n3 => ?_⟩
        have A3x := A2x.step n3 (st := .is y (some 3, some 4)) (by simp only [Step.ok, smB, okRg, smE, cx, cy, cz, Bool.true_and, Bool.and_true, Bool.and_eq_true, decide_eq_true_eq] <;> omega)
        refine ⟨(by show 3 ≤ sizeLine; decide), fun m nm => ?_⟩
        have Am := A3x.new nm (o := .lst [.ref p1, .ref p2, .ref p3])
        refine ⟨l, m, _, _, rfl, rfl, keep nm (keep n3 (keep n2 (keep n1 (hl)))), upd_same, (by show 4 ≤ sizeLine; decide), fun r nr => ?_⟩
        have Ar := Am.new nr (o := .lst ([.ref p0] ++ [.ref p1, .ref p2, .ref p3]))
        exact ⟨cs, r, _, _, _, _, _, _, _, _, rfl, hcs, s4.same Ar.1, Ar.stl upd_same (by simp) (by simp), b.back s4 (Same.none Am.1 nr), b.trans (But.of Ar.1), q⟩
    exact ⟨cs, l, _, _, _, _, _, _, _, _, rfl, hcs, s4.same A1.1, A1.stl hl (by simp) (by simp), b.back s4 (Same.none A0.1 nl), b.trans (But.of A1.1), q⟩
end
end EC

set_option maxHeartbeats 4000000
/-! E13: _law_has, _law_has_some, _law_all_in, _law_due -/
namespace EC
open PySem PySem.Spec PyProof.Rows L2
/-- v lies in the range -/
def loB : Option Int → Int → Bool
  | none, _ => true
  | some l, v => decide (l ≤ v)
def hiB : Option Int → Int → Bool
  | none, _ => true
  | some h, v => decide (v ≤ h)
def hasB (r : Rg) (v : Int) : Bool := loB r.1 v && hiB r.2 v
/-- the ints from -90 on, i of them, that p takes -/
def winI (p : Int → Bool) (i : Nat) : List Int := ((List.range i).map fun j : Nat => (-90 : Int) + (j : Int)).filter p
def winL (p : Int → Bool) : List Int := winI p 181
theorem winI_len (p : Int → Bool) (i : Nat) : (winI p i).length ≤ i := by
  refine Nat.le_trans (List.length_filter_le _ _) ?_
  rw [List.length_map, List.length_range]
  exact Nat.le_refl _
theorem winI_more (p : Int → Bool) (i : Nat) : winI p (i + 1) = winI p i ++ (if p (-90 + (i : Int)) = true then [-90 + (i : Int)] else []) := by
  unfold winI
  rw [List.range_succ, List.map_append, List.filter_append]
  congr 1
  by_cases h : p (-90 + (i : Int)) = true
  · rw [if_pos h]
    simp [h]
  · rw [if_neg h]
    simp [h]
/-- a turn of a list over the window -/
def WinP (H : Hp) (D : Addr) (p : Int → Bool) (i : Nat) (H' : Hp) : Prop := Same H H' ∧ H' D = some (.lst ((winI p i).map V.int))
theorem WinP.start {H : Hp} {D : Addr} {p : Int → Bool} (n : H D = none) : WinP H D p 0 (upd H D (.lst [])) := ⟨same_upd n, by rw [upd_same]; rfl⟩
theorem WinP.keep {H H' H'' : Hp} {D : Addr} {p : Int → Bool} {i : Nat} (h : WinP H D p i H') (e : Same H' H'') : WinP H D p i H'' := ⟨h.1.trans e, e _ _ h.2⟩
theorem WinP.yes {H H' : Hp} {D : Addr} {p : Int → Bool} {i : Nat} (h : WinP H D p i H') (n : H D = none) (hi : i < 181) (e : p (-90 + (i : Int)) = true) :
    ∃ acc, H' D = some (.lst acc) ∧ acc.length < sizeLine ∧ WinP H D p (i + 1) (upd H' D (.lst (acc ++ [V.int (-90 + (i : Int))]))) := by
  refine ⟨_, h.2, ?_, fun b o q => ?_, ?_⟩
  · rw [List.length_map]
    exact small1000 (Nat.le_trans (winI_len p i) (by omega))
  · rw [upd_ne (ne_of_none q n)]
    exact h.1 b o q
  · rw [upd_same, winI_more, if_pos e, List.map_append]
    rfl
theorem WinP.no {H H' : Hp} {D : Addr} {p : Int → Bool} {i : Nat} (h : WinP H D p i H') (e : ¬ p (-90 + (i : Int)) = true) : WinP H D p (i + 1) H' := by
  refine ⟨h.1, ?_⟩
  rw [winI_more, if_neg e, List.append_nil]
  exact h.2
section
variable {P : Program} {w : World} {K : PySem.W.Frag} {mg : Str → Option Value} {base : Heap}
/-! ### _law_has -/
def spHas : Sp := fun vs H Q _ => ∃ v1 v r, vs = [v1, .int v] ∧ RgAt H v1 r ∧ Q (.bl (hasB r v)) H
abbrev nm__law_has : List Str := ["_law_range_in", "_law_v"]
theorem sc__law_has : FnScope nm__law_has ["_law_range_in", "_law_v"] (defScope (topS 28)) := ⟨rfl, rfl, rfl, by decide +kernel, rfl, by decide +kernel, by decide +kernel⟩
theorem c__law_has (D : Df K mg "_law_has" 28 ["_law_range_in", "_law_v"]) : C8.Cal P w K mg base 1 "_law_has" spHas [] := by
  refine D.cal sc__law_has (fun vs H Q E h => ?_) (fun f cdv A outer s H vs Q E hr h => ?_)
  · obtain ⟨v1, v, r, rfl, _⟩ := h
    rfl
  · obtain ⟨v1, v, ⟨l, u⟩, rfl, ⟨a, rfl, ha⟩, q⟩ := h
    refine ⟨_, (pss_one (ps_ret (pe_and (pe_or (pe_cmp (pc_isN (pe_ix ix_tup (pv 0) pe_int (fun _ _ => rfl)))) (pe_one (pe_cmpR op_le (pe_ix ix_tup (pv 0) pe_int (fun _ _ => rfl)) (pv 1) (nomark _)))) (pe_one (pe_or (pe_cmp (pc_isN (pe_ix ix_tup (pv 0) pe_int (fun _ _ => rfl)))) (pe_one (pe_cmpR op_le (pv 1) (pe_ix ix_tup (pv 0) pe_int (fun _ _ => rfl)) (nomark _)))))))), ?_⟩
    refine ⟨.ref a, rfl, a, _, 0, oV l, rfl, rfl, SqT.of ha, atI_nat (j := 0) rfl, ?_⟩
    cases l with
    | none =>
      have q : Q (.bl (hiB u v)) H := q
      refine ⟨_, rfl, iteT ⟨_, rfl, iteT ⟨.ref a, rfl, a, _, 1, oV u, rfl, rfl, SqT.of ha, atI_nat (j := 1) rfl, ?_⟩⟩⟩
      cases u with
      | none => exact ⟨_, rfl, iteT q⟩
      | some u => exact ⟨_, rfl, iteF ⟨.int v, rfl, .ref a, rfl, a, _, 1, .int u, rfl, rfl, SqT.of ha, atI_nat (j := 1) rfl, v, u, rfl, rfl, q⟩⟩
    | some l =>
      have q : Q (.bl (decide (l ≤ v) && hiB u v)) H := q
      refine ⟨_, rfl, iteF ⟨.ref a, rfl, a, _, 0, .int l, rfl, rfl, SqT.of ha, atI_nat (j := 0) rfl, .int v, rfl, l, v, rfl, rfl, _, rfl, ite2 (fun e => ?_) (fun e => ?_)⟩⟩
      · rw [show decide (l ≤ v) = true from e, Bool.true_and] at q
        refine ⟨.ref a, rfl, a, _, 1, oV u, rfl, rfl, SqT.of ha, atI_nat (j := 1) rfl, ?_⟩
        cases u with
        | none => exact ⟨_, rfl, iteT q⟩
        | some u => exact ⟨_, rfl, iteF ⟨.int v, rfl, .ref a, rfl, a, _, 1, .int u, rfl, rfl, SqT.of ha, atI_nat (j := 1) rfl, v, u, rfl, rfl, q⟩⟩
      · rw [show decide (l ≤ v) = false from Bool.eq_false_iff.mpr e, Bool.false_and] at q
        exact q
/-! ### _law_has_some -/
def spHasSome : Sp := fun vs H Q _ => ∃ v1 v2 r m, vs = [v1, v2] ∧ RgAt H v1 r ∧ RgAt H v2 m ∧ ∀ H', Same H H' → Q (.bl (!(winL fun v => hasB r v && hasB m v).isEmpty)) H'
theorem eqv_nil (ns : List Int) : (!PyData.eqv (.list (ns.map PyData.int)) (.list [])) = !ns.isEmpty := by
  cases ns <;> rfl
abbrev nm__law_has_some : List Str := ["_law_one", "_law_other", "_law_v"]
theorem sc__law_has_some : FnScope nm__law_has_some ["_law_one", "_law_other"] (defScope (topS 29)) := ⟨rfl, rfl, rfl, by decide +kernel, rfl, by decide +kernel, by decide +kernel⟩
theorem c__law_has_some (D : Df K mg "_law_has_some" 29 ["_law_one", "_law_other"]) (T : Txt K mg) (c__law_has : C8.Cal P w K mg base 1 "_law_has" spHas []) : C8.Cal P w K mg base 2 "_law_has_some" spHasSome [] := by
  refine D.cal sc__law_has_some (fun vs H Q E h => ?_) (fun f cdv A outer s H vs Q E hr h => ?_)
  · obtain ⟨v1, v2, r, m, rfl, _⟩ := h
    rfl
  · obtain ⟨v1, v2, r, m, rfl, h1, h2, q⟩ := h
    have nd := sc__law_has_some.nd
    refine ⟨_, (pss_one (ps_ret (pe_cmpR (op_neD hr.units) (pe_lc (own := [("_law_v", 2)]) (g := gName 2) rfl nd (pi_range2 (by rfl) T.z_range (pa_cons (pe_un un_neg pe_int) (pa_cons pe_int pa_nil))) (blkOk_by (own := [("_law_v", 2)]) (N := nm__law_has_some) (sc := defScope (topS 29)) (by decide +kernel)) (fun _ _ _ _ _ => pg_name (i := 2) nd rfl (.inl rfl)) (fun _ _ _ _ _ => pts_one (PW.pt (pw_and (pt_val (C8.pe_c c__law_has hr (by decide) (by rfl) (pa_cons (pv 0) (pa_cons (pv 2) pa_nil)))) (pw_and1 (pt_val (C8.pe_c c__law_has hr (by decide) (by rfl) (pa_cons (pv 1) (pa_cons (pv 2) pa_nil)))))))) (fun _ _ _ _ _ => (pv 2))) (pe_lst pa_nil) (nomark _)))), ?_⟩
    refine ⟨90, rfl, -90, 91, rfl, ⟨by decide, by decide, by decide, by decide⟩, fun D nD => ?_⟩
    refine lc_range (lo := -90) (n := 181) (WinP H D fun v => hasB r v && hasB m v) (WinP.start nD) (fun i H' hi hP => ?_) (fun H' hP => ?_)
    · have t := Same.tups hP.1
      refine ⟨rfl, v1, rfl, _, rfl, v1, _, r, rfl, h1.tups t, _, rfl, ite2 (fun e => ?_) (fun e => ?_)⟩
      · refine ⟨v2, rfl, _, rfl, v2, _, m, rfl, h2.tups t, _, rfl, ite2 (fun e2 => ⟨_, rfl, hP.yes nD hi ?_⟩) (fun e2 => hP.no ?_)⟩
        · show (hasB r _ && hasB m _) = true
          rw [e, e2]
          rfl
        · show ¬ (hasB r _ && hasB m _) = true
          rw [e, Bool.true_and]
          exact e2
      · refine hP.no ?_
        show ¬ (hasB r _ && hasB m _) = true
        rw [Bool.eq_false_iff.mpr e, Bool.false_and]
        exact Bool.false_ne_true
    · refine ⟨(by show 0 ≤ sizeLine; decide), fun p np => ?_⟩
      refine ⟨_, _, .lst (SqL.of (keep np hP.2)) (dp_ints _), .lst (SqL.of upd_same) .nil, PySem.W.shaped_ints _, rfl, ?_⟩
      have q' := q _ (hP.1.trans (same_upd (o := .lst []) np))
      rw [eqv_nil]
      exact q'
/-! ### _law_all_in -/
def allIn (own : Nat → Option Rg) : Step → List Int
  | .is _ r => winL (hasB r)
  | .plus _ b c => match own b with
    | none => []
    | some o => winL fun v => hasB o (v - c)
  | .within _ b r => match own b with
    | none => []
    | some o => winL fun v => hasB o v && hasB r v
  | .when _ b r m => match own b with
    | none => []
    | some o => if (winL fun v => hasB o v && hasB r v).isEmpty = true then [] else winL (hasB m)
section
variable {own : Nat → Option Rg} {a b : Nat} {c : Int} {r m o : Rg}
theorem allIn_p0 (h : own b = none) : allIn own (.plus a b c) = [] := by
  show (match own b with | none => [] | some o => winL fun v => hasB o (v - c)) = []
  rw [h]
theorem allIn_p1 (h : own b = some o) : allIn own (.plus a b c) = winL fun v => hasB o (v - c) := by
  show (match own b with | none => [] | some o => winL fun v => hasB o (v - c)) = _
  rw [h]
theorem allIn_w0 (h : own b = none) : allIn own (.within a b r) = [] := by
  show (match own b with | none => [] | some o => winL fun v => hasB o v && hasB r v) = []
  rw [h]
theorem allIn_w1 (h : own b = some o) : allIn own (.within a b r) = winL fun v => hasB o v && hasB r v := by
  show (match own b with | none => [] | some o => winL fun v => hasB o v && hasB r v) = _
  rw [h]
theorem allIn_n0 (h : own b = none) : allIn own (.when a b r m) = [] := by
  show (match own b with | none => [] | some o => if (winL fun v => hasB o v && hasB r v).isEmpty = true then [] else winL (hasB m)) = []
  rw [h]
theorem allIn_n1 (h : own b = some o) : allIn own (.when a b r m) = if (winL fun v => hasB o v && hasB r v).isEmpty = true then [] else winL (hasB m) := by
  show (match own b with | none => [] | some o => if (winL fun v => hasB o v && hasB r v).isEmpty = true then [] else winL (hasB m)) = _
  rw [h]
end
/-- a slice without an upper end -/
theorem slN {K : PySem.W.Frag} {σ : L2.St} {H : Hp} {a : Addr} {lo : Option Int} {Q : VK} (h : rSlA K (.ref a) lo none H Q) : tNoPart σ H fun u H3 => rSlA K (.ref a) lo u H3 Q := h
/-- the law's own ranges, by letter -/
def FndAt (H : Hp) (f : Addr) (cs : List Nat) (own : Nat → Option Rg) : Prop := ∃ kvs, H f = some (.dK kvs) ∧ ∀ c ∈ cs, ∃ v, valV kvs (.inr (ch c)) = some v ∧ ORgAt H v (own c)
theorem FndAt.same {H H' : Hp} {f : Addr} {cs : List Nat} {own : Nat → Option Rg} (e : Same H H') (h : FndAt H f cs own) : FndAt H' f cs own := by
  obtain ⟨kvs, h1, h2⟩ := h
  refine ⟨kvs, e _ _ h1, fun c hc => ?_⟩
  obtain ⟨v, q1, q2⟩ := h2 c hc
  exact ⟨v, q1, ORgAt.tups (Same.tups e) q2⟩
theorem fget {H : Hp} {f : Addr} {kvs : List (Key × V)} {z : Str} {v : V} (h : H f = some (.dK kvs)) (e : valV kvs (.inr z) = some v) : DGet H f (.str z) (some v) := .inl ⟨kvs, .inr z, .inl h, rfl, e.symm⟩
theorem cut2n (a b c d : V) : cutV [a, b, c, d] (some 2) none = [c, d] := rfl
theorem cut3n (a b c d e : V) : cutV [a, b, c, d, e] (some 3) none = [d, e] := rfl
theorem cut5n (a b c d e f g : V) : cutV [a, b, c, d, e, f, g] (some 5) none = [f, g] := rfl
theorem n2n : ¬ (HT.sIx 4 0 (some 2) = 0 ∧ HT.sIx 4 4 none = 4) := by decide
theorem n3n : ¬ (HT.sIx 5 0 (some 3) = 0 ∧ HT.sIx 5 5 none = 5) := by decide
theorem n5n : ¬ (HT.sIx 7 0 (some 5) = 0 ∧ HT.sIx 7 7 none = 7) := by decide
def spAllIn : Sp := fun vs H Q _ => ∃ v1 f cs own st, vs = [v1, .ref f] ∧ StepAt H v1 st ∧ FndAt H f cs own ∧ Step.srcIn cs st ∧ ∀ H' p, Same H H' → H p = none → H' p = some (.lst ((allIn own st).map V.int)) → Q (.ref p) H'
abbrev nm__law_all_in : List Str := ["_law_step_in", "_law_found", "_law_own", "_law_v"]
theorem sc__law_all_in : FnScope nm__law_all_in ["_law_step_in", "_law_found"] (defScope (topS 30)) := ⟨rfl, rfl, rfl, by decide +kernel, rfl, by decide +kernel, by decide +kernel⟩
theorem c__law_all_in (D : Df K mg "_law_all_in" 30 ["_law_step_in", "_law_found"]) (T : Txt K mg) (c__law_has : C8.Cal P w K mg base 1 "_law_has" spHas []) (c__law_has_some : C8.Cal P w K mg base 2 "_law_has_some" spHasSome []) : C8.Cal P w K mg base 3 "_law_all_in" spAllIn [] := by
  refine D.cal sc__law_all_in (fun vs H Q E h => ?_) (fun fa cdv A outer s H vs Q E hr h => ?_)
  · obtain ⟨v1, f, cs, own, st, rfl, _⟩ := h
    rfl
  · obtain ⟨v1, f, cs, own, st, rfl, h1, h2, h3, q⟩ := h
    have nd := sc__law_all_in.nd
    have hu := hu_of hr
    refine ⟨_, (pss_cons (ps_if (pt_cmpR op_eq (pe_ix (r := rIxT K) ix_tup (pv 0) pe_int (fun _ _ => rfl)) pe_str (nomark _))
(pss_one (ps_ret (pe_lc (own := [("_law_v", 3)]) (g := gName 3) rfl nd (pi_range2 (by rfl) T.z_range (pa_cons (pe_un un_neg pe_int) (pa_cons pe_int pa_nil))) (blkOk_by (own := [("_law_v", 3)]) (N := nm__law_all_in) (sc := defScope (topS 30)) (by decide +kernel)) (fun _ _ _ _ _ => pg_name (i := 3) nd rfl (.inl rfl)) (fun _ _ _ _ _ => pts_one (pt_val (C8.pe_c c__law_has hr (by decide) (by rfl) (pa_cons (pe_slice (r := rSlA K) sl_tupA (pv 0) (po_some pe_int) po_none) (pa_cons (pv 3) pa_nil))))) (fun _ _ _ _ _ => (pv 3)))))
pss_nil)
(pss_cons (ps_set (i := 2) nd rfl (.inr rfl) (pe_dget hu (pv 1) (pe_ix (r := rIxT K) ix_tup (pv 0) pe_int (fun _ _ => rfl)) (fun _ _ => rfl)))
(pss_cons (ps_if (pt_cmp (pc_isN (pv 2)))
(pss_one (ps_ret (pe_lst pa_nil)))
pss_nil)
(pss_cons (ps_if (pt_cmpR op_eq (pe_ix (r := rIxT K) ix_tup (pv 0) pe_int (fun _ _ => rfl)) pe_str (nomark _))
(pss_one (ps_ret (pe_lc (own := [("_law_v", 3)]) (g := gName 3) rfl nd (pi_range2 (by rfl) T.z_range (pa_cons (pe_un un_neg pe_int) (pa_cons pe_int pa_nil))) (blkOk_by (own := [("_law_v", 3)]) (N := nm__law_all_in) (sc := defScope (topS 30)) (by decide +kernel)) (fun _ _ _ _ _ => pg_name (i := 3) nd rfl (.inl rfl)) (fun _ _ _ _ _ => pts_one (pt_val (C8.pe_c c__law_has hr (by decide) (by rfl) (pa_cons (pv 2) (pa_cons (pe_op op_sub (pv 3) (pe_ix (r := rIxT K) ix_tup (pv 0) pe_int (fun _ _ => rfl))) pa_nil))))) (fun _ _ _ _ _ => (pv 3)))))
pss_nil)
(pss_cons (ps_if (pt_cmpR op_eq (pe_ix (r := rIxT K) ix_tup (pv 0) pe_int (fun _ _ => rfl)) pe_str (nomark _))
(pss_one (ps_ret (pe_lc (own := [("_law_v", 3)]) (g := gName 3) rfl nd (pi_range2 (by rfl) T.z_range (pa_cons (pe_un un_neg pe_int) (pa_cons pe_int pa_nil))) (blkOk_by (own := [("_law_v", 3)]) (N := nm__law_all_in) (sc := defScope (topS 30)) (by decide +kernel)) (fun _ _ _ _ _ => pg_name (i := 3) nd rfl (.inl rfl)) (fun _ _ _ _ _ => pts_one (PW.pt (pw_and (pt_val (C8.pe_c c__law_has hr (by decide) (by rfl) (pa_cons (pv 2) (pa_cons (pv 3) pa_nil)))) (pw_and1 (pt_val (C8.pe_c c__law_has hr (by decide) (by rfl) (pa_cons (pe_slice (r := rSlA K) sl_tupA (pv 0) (po_some pe_int) po_none) (pa_cons (pv 3) pa_nil)))))))) (fun _ _ _ _ _ => (pv 3)))))
pss_nil)
(pss_one (ps_ret (pe_ifExp (pt_val (C8.pe_c c__law_has_some hr (by decide) (by rfl) (pa_cons (pv 2) (pa_cons (pe_slice (r := rSlA K) sl_tupA (pv 0) (po_some pe_int) (po_some pe_int)) pa_nil)))) (pe_lc (own := [("_law_v", 3)]) (g := gName 3) rfl nd (pi_range2 (by rfl) T.z_range (pa_cons (pe_un un_neg pe_int) (pa_cons pe_int pa_nil))) (blkOk_by (own := [("_law_v", 3)]) (N := nm__law_all_in) (sc := defScope (topS 30)) (by decide +kernel)) (fun _ _ _ _ _ => pg_name (i := 3) nd rfl (.inl rfl)) (fun _ _ _ _ _ => pts_one (pt_val (C8.pe_c c__law_has hr (by decide) (by rfl) (pa_cons (pe_slice (r := rSlA K) sl_tupA (pv 0) (po_some pe_int) po_none) (pa_cons (pv 3) pa_nil))))) (fun _ _ _ _ _ => (pv 3))) (pe_lst pa_nil))))))))), ?_⟩
    obtain ⟨p, rfl, hp⟩ := h1
    obtain ⟨kvs, hf, hk⟩ := h2
    cases st with
    | is a r =>
      obtain ⟨l, u⟩ := r
      refine ⟨.ref p, rfl, p, _, 0, _, rfl, rfl, SqT.of hp, atI_nat (j := 0) rfl, rfl, _, rfl, ?_⟩
      rw [d_is_is]
      refine iteT ⟨90, rfl, -90, 91, rfl, ⟨by decide, by decide, by decide, by decide⟩, fun D nD => ?_⟩
      refine lc_range (lo := -90) (n := 181) (WinP H D (hasB (l, u))) (WinP.start nD) (fun i H' hi hP => ?_) (fun H' hP => q H' D hP.1 nD hP.2)
      refine ⟨rfl, .ref p, rfl, 2, rfl, slN (slA (hP.1 _ _ hp) n2n (cut2n _ _ _ _) fun p' np => ?_)⟩
      have hP' := hP.keep (same_upd (o := .tup [oV l, oV u]) np)
      exact ⟨_, rfl, .ref p', _, (l, u), rfl, ⟨p', rfl, upd_same⟩, _, rfl, ite2 (fun e => ⟨_, rfl, hP'.yes nD hi e⟩) (fun e => hP'.no e)⟩
    | plus a b c =>
      obtain ⟨v, hv, ho⟩ := hk b h3
      refine ⟨.ref p, rfl, p, _, 0, _, rfl, rfl, SqT.of hp, atI_nat (j := 0) rfl, rfl, _, rfl, ?_⟩
      rw [d_pl_is]
      refine iteF ⟨.ref f, rfl, .ref p, rfl, p, _, 2, _, rfl, rfl, SqT.of hp, atI_nat (j := 2) rfl, f, v, rfl, fget hf hv, ?_⟩
      cases hob : own b with
      | none =>
        rw [hob] at ho
        obtain rfl : v = .non := ho
        refine ⟨_, rfl, _, rfl, iteT ⟨(by show 0 ≤ sizeLine; decide), fun p' np => q _ p' (same_upd np) np ?_⟩⟩
        rw [upd_same, allIn_p0 hob]
        rfl
      | some o =>
        rw [hob] at ho
        obtain ⟨po, rfl, hpo⟩ := ho
        refine ⟨_, rfl, _, rfl, iteF ⟨.ref p, rfl, p, _, 0, _, rfl, rfl, SqT.of hp, atI_nat (j := 0) rfl, rfl, _, rfl, ?_⟩⟩
        rw [d_pl_pl]
        have eA : allIn own (.plus a b c) = winL fun v => hasB o (v - c) := allIn_p1 hob
        rw [eA] at q
        refine iteT ⟨90, rfl, -90, 91, rfl, ⟨by decide, by decide, by decide, by decide⟩, fun D nD => ?_⟩
        refine lc_range (lo := -90) (n := 181) (WinP H D fun v => hasB o (v - c)) (WinP.start nD) (fun i H' hi hP => ?_) (fun H' hP => q H' D hP.1 nD hP.2)
        refine ⟨rfl, .ref po, rfl, _, rfl, .ref p, rfl, p, _, 3, _, rfl, rfl, SqT.of (hP.1 _ _ hp), atI_nat (j := 3) rfl, _, c, rfl, rfl, ?_⟩
        exact ⟨.ref po, _, o, rfl, ⟨po, rfl, hP.1 _ _ hpo⟩, _, rfl, ite2 (fun e => ⟨_, rfl, hP.yes nD hi e⟩) (fun e => hP.no e)⟩
    | within a b r =>
      obtain ⟨l, u⟩ := r
      obtain ⟨v, hv, ho⟩ := hk b h3
      refine ⟨.ref p, rfl, p, _, 0, _, rfl, rfl, SqT.of hp, atI_nat (j := 0) rfl, rfl, _, rfl, ?_⟩
      rw [d_wi_is]
      refine iteF ⟨.ref f, rfl, .ref p, rfl, p, _, 2, _, rfl, rfl, SqT.of hp, atI_nat (j := 2) rfl, f, v, rfl, fget hf hv, ?_⟩
      cases hob : own b with
      | none =>
        rw [hob] at ho
        obtain rfl : v = .non := ho
        refine ⟨_, rfl, _, rfl, iteT ⟨(by show 0 ≤ sizeLine; decide), fun p' np => q _ p' (same_upd np) np ?_⟩⟩
        rw [upd_same, allIn_w0 hob]
        rfl
      | some o =>
        rw [hob] at ho
        obtain ⟨po, rfl, hpo⟩ := ho
        refine ⟨_, rfl, _, rfl, iteF ⟨.ref p, rfl, p, _, 0, _, rfl, rfl, SqT.of hp, atI_nat (j := 0) rfl, rfl, _, rfl, ?_⟩⟩
        rw [d_wi_pl]
        refine iteF ⟨.ref p, rfl, p, _, 0, _, rfl, rfl, SqT.of hp, atI_nat (j := 0) rfl, rfl, _, rfl, ?_⟩
        rw [d_wi_wi]
        have eA : allIn own (.within a b (l, u)) = winL fun v => hasB o v && hasB (l, u) v := allIn_w1 hob
        rw [eA] at q
        refine iteT ⟨90, rfl, -90, 91, rfl, ⟨by decide, by decide, by decide, by decide⟩, fun D nD => ?_⟩
        refine lc_range (lo := -90) (n := 181) (WinP H D fun v => hasB o v && hasB (l, u) v) (WinP.start nD) (fun i H' hi hP => ?_) (fun H' hP => q H' D hP.1 nD hP.2)
        refine ⟨rfl, .ref po, rfl, _, rfl, .ref po, _, o, rfl, ⟨po, rfl, hP.1 _ _ hpo⟩, _, rfl, ite2 (fun e => ?_) (fun e => ?_)⟩
        · refine ⟨.ref p, rfl, 3, rfl, slN (slA (hP.1 _ _ hp) n3n (cut3n _ _ _ _ _) fun p' np => ?_)⟩
          have hP' := hP.keep (same_upd (o := .tup [oV l, oV u]) np)
          refine ⟨_, rfl, .ref p', _, (l, u), rfl, ⟨p', rfl, upd_same⟩, _, rfl, ite2 (fun e2 => ⟨_, rfl, hP'.yes nD hi ?_⟩) (fun e2 => hP'.no ?_)⟩
          · show (hasB o _ && hasB (l, u) _) = true
            rw [e, e2]
            rfl
          · show ¬ (hasB o _ && hasB (l, u) _) = true
            rw [e, Bool.true_and]
            exact e2
        · refine hP.no ?_
          show ¬ (hasB o _ && hasB (l, u) _) = true
          rw [Bool.eq_false_iff.mpr e, Bool.false_and]
          exact Bool.false_ne_true
    | when a b r m =>
      obtain ⟨l, u⟩ := r
      obtain ⟨ml, mu⟩ := m
      obtain ⟨v, hv, ho⟩ := hk b h3
      refine ⟨.ref p, rfl, p, _, 0, _, rfl, rfl, SqT.of hp, atI_nat (j := 0) rfl, rfl, _, rfl, ?_⟩
      rw [d_wh_is]
      refine iteF ⟨.ref f, rfl, .ref p, rfl, p, _, 2, _, rfl, rfl, SqT.of hp, atI_nat (j := 2) rfl, f, v, rfl, fget hf hv, ?_⟩
      cases hob : own b with
      | none =>
        rw [hob] at ho
        obtain rfl : v = .non := ho
        refine ⟨_, rfl, _, rfl, iteT ⟨(by show 0 ≤ sizeLine; decide), fun p' np => q _ p' (same_upd np) np ?_⟩⟩
        rw [upd_same, allIn_n0 hob]
        rfl
      | some o =>
        rw [hob] at ho
        obtain ⟨po, rfl, hpo⟩ := ho
        refine ⟨_, rfl, _, rfl, iteF ⟨.ref p, rfl, p, _, 0, _, rfl, rfl, SqT.of hp, atI_nat (j := 0) rfl, rfl, _, rfl, ?_⟩⟩
        rw [d_wh_pl]
        refine iteF ⟨.ref p, rfl, p, _, 0, _, rfl, rfl, SqT.of hp, atI_nat (j := 0) rfl, rfl, _, rfl, ?_⟩
        rw [d_wh_wi]
        have eA : allIn own (.when a b (l, u) (ml, mu)) = if (winL fun v => hasB o v && hasB (l, u) v).isEmpty = true then [] else winL (hasB (ml, mu)) := allIn_n1 hob
        rw [eA] at q
        refine iteF ⟨.ref po, rfl, .ref p, rfl, 3, rfl, 5, rfl, slA hp n357 (cut357 _ _ _ _ _ _ _) fun p' np => ?_⟩
        have sm := same_upd (o := .tup [oV l, oV u]) np
        refine ⟨.ref po, .ref p', o, (l, u), rfl, ⟨po, rfl, sm _ _ hpo⟩, ⟨p', rfl, upd_same⟩, fun H1 sm1 => ?_⟩
        have sm2 := sm.trans sm1
        refine ⟨_, rfl, ite2 (fun e => ?_) (fun e => ?_)⟩
        · rw [if_neg (by rw [Bool.not_eq_true' .. |>.mp e]; exact Bool.false_ne_true)] at q
          refine ⟨90, rfl, -90, 91, rfl, ⟨by decide, by decide, by decide, by decide⟩, fun D nD => ?_⟩
          refine lc_range (lo := -90) (n := 181) (WinP H1 D (hasB (ml, mu))) (WinP.start nD) (fun i H' hi hP => ?_) (fun H' hP => q H' D (sm2.trans hP.1) (Same.none sm2 nD) hP.2)
          refine ⟨rfl, .ref p, rfl, 5, rfl, slN (slA (hP.1 _ _ (sm2 _ _ hp)) n5n (cut5n _ _ _ _ _ _ _) fun p'' np' => ?_)⟩
          have hP' := hP.keep (same_upd (o := .tup [oV ml, oV mu]) np')
          exact ⟨_, rfl, .ref p'', _, (ml, mu), rfl, ⟨p'', rfl, upd_same⟩, _, rfl, ite2 (fun e => ⟨_, rfl, hP'.yes nD hi e⟩) (fun e => hP'.no e)⟩
        · rw [if_pos (by cases hb : (winL fun v => hasB o v && hasB (l, u) v).isEmpty with
                         | true => rfl
                         | false => exact absurd (by rw [hb]; rfl) e)] at q
          exact ⟨(by show 0 ≤ sizeLine; decide), fun p'' np' => q _ p'' (sm2.trans (same_upd np')) (Same.none sm2 np') (by rw [upd_same]; rfl)⟩
end
end EC

set_option maxHeartbeats 4000000
/-! E14: _law_due -/
namespace EC
open PySem PySem.Spec PyProof.Rows L2
def dueStep (own : Nat → Option Rg) (c : Nat) (acc : List Int) (st : Step) : List Int := if st.tgt = c then acc ++ allIn own st else acc
def dueL (own : Nat → Option Rg) (sts : List Step) (c : Nat) : List Int := sts.foldl (dueStep own c) []
/-- what the law makes of the ints that may come in -/
def DueIs (l : List Int) (o : Option Rg) : Prop := (l = [] ∧ o = none) ∨ ∃ m M, m ∈ l ∧ (∀ y ∈ l, m ≤ y) ∧ M ∈ l ∧ (∀ y ∈ l, y ≤ M) ∧ o = some (if m = -90 then none else some m, if M = 90 then none else some M)
theorem winL_len (p : Int → Bool) : (winL p).length ≤ 181 := winI_len p 181
theorem allIn_len (own : Nat → Option Rg) (st : Step) : (allIn own st).length ≤ 181 := by
  cases st with
  | is a r => exact winL_len _
  | plus a b c =>
    cases h : own b with
    | none => rw [allIn_p0 h]; exact Nat.zero_le _
    | some o => rw [allIn_p1 h]; exact winL_len _
  | within a b r =>
    cases h : own b with
    | none => rw [allIn_w0 h]; exact Nat.zero_le _
    | some o => rw [allIn_w1 h]; exact winL_len _
  | when a b r m =>
    cases h : own b with
    | none => rw [allIn_n0 h]; exact Nat.zero_le _
    | some o =>
      rw [allIn_n1 h]
      split
      · exact Nat.zero_le _
      · exact winL_len _
theorem due_len (own : Nat → Option Rg) (c : Nat) : ∀ (sts : List Step) (acc : List Int), (sts.foldl (dueStep own c) acc).length ≤ acc.length + 181 * sts.length
  | [], acc => by simp
  | st :: sts, acc => by
    have h := due_len own c sts (dueStep own c acc st)
    have h2 : (dueStep own c acc st).length ≤ acc.length + 181 := by
      unfold dueStep
      split
      · rw [List.length_append]
        have := allIn_len own st
        omega
      · omega
    rw [List.foldl_cons, List.length_cons]
    omega
theorem eqv_nil' (ns : List Int) : PyData.eqv (.list (ns.map PyData.int)) (.list []) = ns.isEmpty := by
  cases ns <;> rfl
section
variable {P : Program} {w : World} {K : PySem.W.Frag} {mg : Str → Option Value} {base : Heap}
def spDue : Sp := fun vs H Q _ => ∃ v1 f cs sts own c, vs = [v1, .ref f, .str (ch c)] ∧ PrgAt H v1 cs sts ∧ FndAt H f cs own ∧ (∀ st ∈ sts, Step.srcIn cs st) ∧ sts.length ≤ 8 ∧ ∀ H' v o, Same H H' → DueIs (dueL own sts c) o → ORgAt H' v o → Q v H'
abbrev nm__law_due : List Str := ["_law_plan_here", "_law_found", "_law_letter", "_law_some", "_law_step_in", "_law_least", "_law_most_in"]
theorem sc__law_due : FnScope nm__law_due ["_law_plan_here", "_law_found", "_law_letter"] (defScope (topS 31)) := ⟨rfl, rfl, rfl, by decide +kernel, rfl, by decide +kernel, by decide +kernel⟩
theorem c__law_due (D : Df K mg "_law_due" 31 ["_law_plan_here", "_law_found", "_law_letter"]) (T : Txt K mg) (c__law_all_in : C8.Cal P w K mg base 3 "_law_all_in" spAllIn []) : C8.Cal P w K mg base 4 "_law_due" spDue [] := by
  refine D.cal sc__law_due (fun vs H Q E h => ?_) (fun fa cdv A outer s H vs Q E hr h => ?_)
  · obtain ⟨v1, f, cs, sts, own, c, rfl, _⟩ := h
    rfl
  · obtain ⟨v1, f, cs, sts, own, c, rfl, h1, h2, h3, h4, q⟩ := h
    have nd := sc__law_due.nd
    refine ⟨_, (pss_cons (ps_set (i := 3) nd rfl (.inl rfl) (pe_lst pa_nil))
(pss_cons (ps_for PassesOwn.never rfl (pi_tup (pe_ix ix_tup (pv 0) pe_int (fun _ _ => rfl))) (pg_name (i := 4) nd rfl (.inl rfl))
(pss_one (ps_if (pt_cmpR op_eq (pe_ix ix_tup (pv 4) pe_int (fun _ _ => rfl)) (pv 2) (nomark _))
(pss_one (ps_set (i := 3) nd rfl (.inl rfl) (pe_op op_cat (pv 3) (C8.pe_c c__law_all_in hr (by decide) (by rfl) (pa_cons (pv 4) (pa_cons (pv 1) pa_nil))))))
pss_nil)))
(pss_cons (ps_if (pt_cmpR (op_eqD hr.units) (pv 3) (pe_lst pa_nil) (nomark _))
(pss_one (ps_ret pe_non))
pss_nil)
(pss_cons (ps_par (i := 5) (j := 6) (by rfl) nd rfl rfl (by decide) rfl rfl (pa_cons (pe_callB (cr_min rfl) (by rfl) T.z_min (by decide +kernel) (pa_cons (pv 3) pa_nil)) (pa_cons (pe_callB (cr_max rfl) (by rfl) T.z_max (by decide +kernel) (pa_cons (pv 3) pa_nil)) pa_nil)) (by rfl))
(pss_one (ps_ret (pe_tup (pa_cons (pe_ifExp (pt_cmpR op_eq (pv 5) (pe_un un_neg pe_int) (nomark _)) pe_non (pv 5)) (pa_cons (pe_ifExp (pt_cmpR op_eq (pv 6) pe_int (nomark _)) pe_non (pv 6)) pa_nil))))))))), ?_⟩
    obtain ⟨a, sa, xs, rfl, ha, hsa, hx⟩ := id h1
    have hxl := paired_len hx
    refine ⟨(by show 0 ≤ sizeLine; decide), fun l0 nl0 => ?_⟩
    have e0 := same_upd (o := .lst []) nl0
    refine ⟨.ref a, rfl, a, _, 1, _, rfl, rfl, SqT.of (e0 _ _ ha), atI_nat (j := 1) rfl, sa, rfl, ⟨xs, SqT.of (e0 _ _ hsa)⟩, ?_⟩
    refine for_tup (xs := xs) (fun i σ H' => ∃ l y4, σ = [some (.ref a), some (.ref f), some (.str (ch c)), some (.ref l), y4, none, none] ∧ Same H H' ∧ H' l = some (.lst (((sts.take i).foldl (dueStep own c) []).map V.int))) ⟨l0, none, rfl, e0, upd_same⟩ (fun i σ H' _ hP => ?_) (fun i x σ H' hi hP => ?_) (fun σ H' hP => ?_)
    · obtain ⟨_, _, _, sm, _⟩ := hP
      exact SqT.of (sm _ _ hsa)
    · obtain ⟨l, y4, rfl, sm, hl⟩ := hP
      obtain ⟨st, hst, hat⟩ := paired_at hx hi
      have hat' := hat.tups (Same.tups sm)
      obtain ⟨p, rfl, hp⟩ := id hat'
      have hmem : st ∈ sts := List.mem_of_getElem? hst
      refine ⟨.ref p, rfl, p, _, 1, _, rfl, rfl, SqT.of hp, atI_nat (j := 1) st.at1, .str (ch c), rfl, rfl, _, rfl, ?_⟩
      rw [ch_eq]
      have ef : (sts.take (i + 1)).foldl (dueStep own c) [] = dueStep own c ((sts.take i).foldl (dueStep own c) []) st := by
        rw [take_more hst, List.foldl_append]
        rfl
      refine ite2 (fun e => ?_) (fun e => ?_)
      · have et : st.tgt = c := of_decide_eq_true e
        refine ⟨.ref l, rfl, .ref p, rfl, .ref f, rfl, .ref p, f, cs, own, st, rfl, hat', h2.same sm, h3 st hmem, fun H2 p2 sm2 np2 hp2 => ?_⟩
        refine ⟨l, p2, _, _, rfl, rfl, sm2 _ _ hl, hp2, ?_, fun r nr => ?_⟩
        · rw [List.length_map, List.length_map]
          have k1 := due_len own c (sts.take i) []
          have k2 := allIn_len own st
          have k3 : (sts.take i).length ≤ 8 := by rw [List.length_take]; omega
          have k4 : ([] : List Int).length = 0 := rfl
          rw [sizeLine_eq]
          omega
        · refine ⟨r, some (.ref p), rfl, (sm.trans sm2).trans (same_upd nr), ?_⟩
          rw [upd_same, ef]
          unfold dueStep
          rw [if_pos et, List.map_append]
      · have et : ¬ st.tgt = c := fun z => e (decide_eq_true z)
        refine ⟨l, some (.ref p), rfl, sm, ?_⟩
        rw [ef]
        unfold dueStep
        rw [if_neg et]
        exact hl
    · obtain ⟨l, y4, rfl, sm, hl⟩ := hP
      have e1 : sts.take xs.length = sts := List.take_of_length_le (Nat.le_of_eq hxl.symm)
      rw [e1] at hl
      change H' l = some (.lst ((dueL own sts c).map V.int)) at hl
      generalize dueL own sts c = ns at hl q
      refine ⟨.ref l, rfl, (by show 0 ≤ sizeLine; decide), fun p np => ?_⟩
      have sm1 := sm.trans (same_upd (o := .lst []) np)
      have hl1 := keep (u := .lst []) np hl
      refine ⟨.list (ns.map PyData.int), .list [], .lst (SqL.of hl1) (dp_ints ns), .lst (SqL.of upd_same) .nil, PySem.W.shaped_ints ns, rfl, _, rfl, ?_⟩
      rw [eqv_nil']
      cases hn : ns with
      | nil => exact iteT (q _ .non none sm1 (.inl ⟨hn, rfl⟩) rfl)
      | cons n0 nr =>
        rw [← hn]
        have hpos : 0 < ns.length := by rw [hn]; exact Nat.succ_pos _
        have hem : ns.isEmpty = false := by rw [hn]; rfl
        rw [hem]
        refine iteF ⟨.ref l, rfl, l, ns, rfl, SqL.of hl1, hpos, fun m hm1 hm2 => ⟨.ref l, rfl, l, ns, rfl, SqL.of hl1, hpos, fun M hM1 hM2 => ⟨_, _, rfl, ?_⟩⟩⟩
        have fin : ∀ x y : V, x = oV (if m = -90 then none else some m) → y = oV (if M = 90 then none else some M) → ∀ p2, upd H' p (.lst []) p2 = none → Q (.ref p2) (upd (upd H' p (.lst [])) p2 (.tup [x, y])) := fun x y hx hy p2 np2 => by
          rw [hx, hy]
          exact q _ (.ref p2) _ (sm1.trans (same_upd np2)) (.inr ⟨m, M, hm1, hm2, hM1, hM2, rfl⟩) ⟨p2, rfl, upd_same⟩
        have i1 : ∀ {z k : Int}, decide (V.int z = V.int k) = true → z = k := fun h => V.int.inj (of_decide_eq_true h)
        have i2 : ∀ {z k : Int}, ¬ decide (V.int z = V.int k) = true → ¬ z = k := fun h e => h (decide_eq_true (congrArg V.int e))
        refine ⟨.int m, rfl, 90, rfl, rfl, _, rfl, ite2 (fun e => ?_) (fun e => ?_)⟩
        · refine ⟨.int M, rfl, rfl, _, rfl, ite2 (fun e2 => ?_) (fun e2 => ?_)⟩
          · exact ⟨(by show 2 ≤ sizeLine; decide), fun p2 np2 => fin .non .non (by rw [if_pos (i1 e)]; rfl) (by rw [if_pos (i1 e2)]; rfl) p2 np2⟩
          · exact ⟨_, rfl, (by show 2 ≤ sizeLine; decide), fun p2 np2 => fin .non (.int M) (by rw [if_pos (i1 e)]; rfl) (by rw [if_neg (i2 e2)]; rfl) p2 np2⟩
        · refine ⟨.int m, rfl, .int M, rfl, rfl, _, rfl, ite2 (fun e2 => ?_) (fun e2 => ?_)⟩
          · exact ⟨(by show 2 ≤ sizeLine; decide), fun p2 np2 => fin (.int m) .non (by rw [if_neg (i2 e)]; rfl) (by rw [if_pos (i1 e2)]; rfl) p2 np2⟩
          · exact ⟨_, rfl, (by show 2 ≤ sizeLine; decide), fun p2 np2 => fin (.int m) (.int M) (by rw [if_neg (i2 e)]; rfl) (by rw [if_neg (i2 e2)]; rfl) p2 np2⟩
end
end EC

set_option maxHeartbeats 4000000
/-! E15: the plain law: what is due is what comes in -/
namespace EC
open PySem PySem.Spec PyProof.Rows L2
/-- ends in order, within thirty -/
def lov (r : Rg) : Int := match r.1 with
  | none => -90
  | some l => l
def hiv (r : Rg) : Int := match r.2 with
  | none => 90
  | some h => h
def Nice (r : Rg) : Prop := (∀ l, r.1 = some l → -30 ≤ l ∧ l ≤ 30) ∧ (∀ h, r.2 = some h → -30 ≤ h ∧ h ≤ 30) ∧ okR r = true
theorem mem_win {p : Int → Bool} {v : Int} : v ∈ winL p ↔ (-90 ≤ v ∧ v ≤ 90) ∧ p v = true := by
  unfold winL winI
  rw [List.mem_filter, List.mem_map]
  constructor
  · rintro ⟨⟨j, hj, rfl⟩, h⟩
    rw [List.mem_range] at hj
    exact ⟨by omega, h⟩
  · rintro ⟨⟨h1, h2⟩, h⟩
    exact ⟨⟨(v + 90).toNat, by rw [List.mem_range]; omega, by omega⟩, h⟩
/-- o's ints are l -/
def Made (o : Option Rg) (l : List Int) : Prop := (o = none ∧ l = []) ∨ ∃ r, o = some r ∧ Nice r ∧ ∀ v, v ∈ l ↔ (-90 ≤ v ∧ v ≤ 90) ∧ hasB r v = true
/-- o spans l -/
def Span (o : Option Rg) (l : List Int) : Prop := (o = none ∧ l = []) ∨ ∃ r, o = some r ∧ Nice r ∧ lov r ∈ l ∧ hiv r ∈ l ∧ ∀ y ∈ l, lov r ≤ y ∧ y ≤ hiv r
theorem Made.span {o : Option Rg} {l : List Int} (h : Made o l) : Span o l := by
  rcases h with h | ⟨⟨lo, hi⟩, rfl, ⟨n1, n2, n3⟩, h⟩
  · exact .inl h
  · refine .inr ⟨(lo, hi), rfl, ⟨n1, n2, n3⟩, ?_⟩
    cases lo with
    | none => cases hi with
      | none =>
        refine ⟨(h _).mpr ⟨by decide, rfl⟩, (h _).mpr ⟨by decide, rfl⟩, fun y hy => ?_⟩
        exact ((h y).mp hy).1
      | some u =>
        have b := n2 u rfl
        refine ⟨(h _).mpr ⟨(show (-90 : Int) ≤ -90 ∧ (-90 : Int) ≤ 90 by decide), ?_⟩, (h _).mpr ⟨?_, ?_⟩, fun y hy => ?_⟩
        · show (true && decide ((-90 : Int) ≤ u)) = true
          rw [Bool.true_and, decide_eq_true_eq]; omega
        · show -90 ≤ u ∧ u ≤ 90
          omega
        · show (true && decide (u ≤ u)) = true
          rw [Bool.true_and, decide_eq_true_eq]; omega
        · obtain ⟨h1, h2⟩ := (h y).mp hy
          have h2 : (true && decide (y ≤ u)) = true := h2
          rw [Bool.true_and, decide_eq_true_eq] at h2
          exact ⟨h1.1, h2⟩
    | some l0 => cases hi with
      | none =>
        have b := n1 l0 rfl
        refine ⟨(h _).mpr ⟨?_, ?_⟩, (h _).mpr ⟨(show (-90 : Int) ≤ 90 ∧ (90 : Int) ≤ 90 by decide), ?_⟩, fun y hy => ?_⟩
        · show -90 ≤ l0 ∧ l0 ≤ 90
          omega
        · show (decide (l0 ≤ l0) && true) = true
          rw [Bool.and_true, decide_eq_true_eq]; omega
        · show (decide (l0 ≤ 90) && true) = true
          rw [Bool.and_true, decide_eq_true_eq]; omega
        · obtain ⟨h1, h2⟩ := (h y).mp hy
          have h2 : (decide (l0 ≤ y) && true) = true := h2
          rw [Bool.and_true, decide_eq_true_eq] at h2
          exact ⟨h2, h1.2⟩
      | some u =>
        have b := n1 l0 rfl
        have b2 := n2 u rfl
        have b3 : decide (l0 ≤ u) = true := n3
        rw [decide_eq_true_eq] at b3
        refine ⟨(h _).mpr ⟨?_, ?_⟩, (h _).mpr ⟨?_, ?_⟩, fun y hy => ?_⟩
        · show -90 ≤ l0 ∧ l0 ≤ 90
          omega
        · show (decide (l0 ≤ l0) && decide (l0 ≤ u)) = true
          rw [Bool.and_eq_true, decide_eq_true_eq, decide_eq_true_eq]; omega
        · show -90 ≤ u ∧ u ≤ 90
          omega
        · show (decide (l0 ≤ u) && decide (u ≤ u)) = true
          rw [Bool.and_eq_true, decide_eq_true_eq, decide_eq_true_eq]; omega
        · obtain ⟨h1, h2⟩ := (h y).mp hy
          have h2 : (decide (l0 ≤ y) && decide (y ≤ u)) = true := h2
          rw [Bool.and_eq_true, decide_eq_true_eq, decide_eq_true_eq] at h2
          exact h2
theorem Span.join {f g : Option Rg} {k l : List Int} (h1 : Span f k) (h2 : Span g l) : Span (joinR f g) (k ++ l) := by
  rcases h1 with ⟨rfl, rfl⟩ | ⟨⟨a, b⟩, rfl, ⟨n1, n2, n3⟩, p1, p2, p3⟩
  · exact h2
  · rcases h2 with ⟨rfl, rfl⟩ | ⟨⟨c, d⟩, rfl, ⟨m1, m2, m3⟩, q1, q2, q3⟩
    · rw [List.append_nil]
      exact .inr ⟨(a, b), rfl, ⟨n1, n2, n3⟩, p1, p2, p3⟩
    · have lo : (∀ x, jL a c = some x → -30 ≤ x ∧ x ≤ 30) ∧ lov (jL a c, jH b d) ∈ k ++ l ∧ lov (jL a c, jH b d) ≤ lov (a, b) ∧ lov (jL a c, jH b d) ≤ lov (c, d) := by
        cases a with
        | none =>
          refine ⟨fun x e => (by cases e), List.mem_append_left _ p1, ?_, ?_⟩
          · exact Int.le_refl _
          · cases c with
            | none => exact Int.le_refl _
            | some c =>
              have z := m1 c rfl
              show (-90 : Int) ≤ c
              omega
        | some a =>
          have z1 := n1 a rfl
          cases c with
          | none =>
            refine ⟨fun x e => (by cases e), List.mem_append_right _ q1, ?_, Int.le_refl _⟩
            show (-90 : Int) ≤ a
            omega
          | some c =>
            have z := m1 c rfl
            by_cases hc : c < a
            · have e : jL (some a) (some c) = some c := if_pos hc
              rw [e]
              refine ⟨fun x e => (by cases e; exact z), List.mem_append_right _ q1, ?_, Int.le_refl _⟩
              show c ≤ a
              omega
            · have e : jL (some a) (some c) = some a := if_neg hc
              rw [e]
              refine ⟨fun x e => (by cases e; exact z1), List.mem_append_left _ p1, Int.le_refl _, ?_⟩
              show a ≤ c
              omega
      have hi : (∀ x, jH b d = some x → -30 ≤ x ∧ x ≤ 30) ∧ hiv (jL a c, jH b d) ∈ k ++ l ∧ hiv (a, b) ≤ hiv (jL a c, jH b d) ∧ hiv (c, d) ≤ hiv (jL a c, jH b d) := by
        cases b with
        | none =>
          refine ⟨fun x e => (by cases e), List.mem_append_left _ p2, Int.le_refl _, ?_⟩
          cases d with
          | none => exact Int.le_refl _
          | some d =>
            have z := m2 d rfl
            show d ≤ (90 : Int)
            omega
        | some b =>
          have z1 := n2 b rfl
          cases d with
          | none =>
            refine ⟨fun x e => (by cases e), List.mem_append_right _ q2, ?_, Int.le_refl _⟩
            show b ≤ (90 : Int)
            omega
          | some d =>
            have z := m2 d rfl
            by_cases hc : b < d
            · have e : jH (some b) (some d) = some d := if_pos hc
              rw [e]
              refine ⟨fun x e => (by cases e; exact z), List.mem_append_right _ q2, ?_, Int.le_refl _⟩
              show b ≤ d
              omega
            · have e : jH (some b) (some d) = some b := if_neg hc
              rw [e]
              refine ⟨fun x e => (by cases e; exact z1), List.mem_append_left _ p2, Int.le_refl _, ?_⟩
              show d ≤ b
              omega
      obtain ⟨l1, l2, l3, l4⟩ := lo
      obtain ⟨u1, u2, u3, u4⟩ := hi
      have pq := p3 _ p2
      refine .inr ⟨(jL a c, jH b d), rfl, ⟨l1, u1, ?_⟩, l2, u2, fun y hy => ?_⟩
      · generalize jL a c = x at l3
        generalize jH b d = y at l3 u3
        cases x with
        | none => cases y <;> rfl
        | some x => cases y with
          | none => rfl
          | some y =>
            show decide (x ≤ y) = true
            rw [decide_eq_true_eq]
            have e1 : x ≤ lov (a, b) := l3
            have e2 : hiv (a, b) ≤ y := u3
            omega
      · rcases List.mem_append.mp hy with h | h
        · have := p3 y h
          omega
        · have := q3 y h
          omega
theorem span_due {o d : Option Rg} {l : List Int} (h : Span o l) (hd : DueIs l d) : d = o := by
  rcases h with ⟨rfl, rfl⟩ | ⟨⟨a, b⟩, rfl, ⟨n1, n2, n3⟩, p1, p2, p3⟩
  · rcases hd with ⟨_, h⟩ | ⟨m, M, hm, _⟩
    · exact h
    · cases hm
  · rcases hd with ⟨rfl, _⟩ | ⟨m, M, hm1, hm2, hM1, hM2, rfl⟩
    · cases p1
    · have e1 : m = lov (a, b) := by
        have := hm2 _ p1
        have := (p3 _ hm1).1
        omega
      have e2 : M = hiv (a, b) := by
        have := hM2 _ p2
        have := (p3 _ hM1).2
        omega
      have k1 : (if m = -90 then none else some m) = a := by
        rw [e1]
        cases a with
        | none => rfl
        | some a =>
          have z := n1 a rfl
          have hne : ¬ lov (some a, b) = -90 := by
            show ¬ a = -90
            omega
          rw [if_neg hne]
          rfl
      have k2 : (if M = 90 then none else some M) = b := by
        rw [e2]
        cases b with
        | none => rfl
        | some b =>
          have z := n2 b rfl
          have hne : ¬ hiv (a, some b) = 90 := by
            show ¬ b = 90
            omega
          rw [if_neg hne]
          rfl
      rw [k1, k2]
/-! ### a step's ints -/
theorem smB_iff {r : Rg} : smB r = true ↔ (∀ l, r.1 = some l → -20 ≤ l ∧ l ≤ 20) ∧ (∀ h, r.2 = some h → -20 ≤ h ∧ h ≤ 20) ∧ okR r = true := by
  obtain ⟨a, b⟩ := r
  constructor
  · intro h
    have h : (okRg (some (a, b)) && (smE a && smE b)) = true := h
    rw [Bool.and_eq_true, Bool.and_eq_true] at h
    obtain ⟨h1, h2, h3⟩ := h
    refine ⟨fun l e => ?_, fun u e => ?_, ?_⟩
    · cases e
      have h2 : (decide (-20 ≤ l) && decide (l ≤ 20)) = true := h2
      rw [Bool.and_eq_true, decide_eq_true_eq, decide_eq_true_eq] at h2
      exact h2
    · cases e
      have h3 : (decide (-20 ≤ u) && decide (u ≤ 20)) = true := h3
      rw [Bool.and_eq_true, decide_eq_true_eq, decide_eq_true_eq] at h3
      exact h3
    · cases a <;> cases b <;> first | rfl | exact h1
  · rintro ⟨h1, h2, h3⟩
    show (okRg (some (a, b)) && (smE a && smE b)) = true
    rw [Bool.and_eq_true, Bool.and_eq_true]
    refine ⟨?_, ?_, ?_⟩
    · cases a <;> cases b <;> first | rfl | exact h3
    · cases a with
      | none => rfl
      | some a =>
        show (decide (-20 ≤ a) && decide (a ≤ 20)) = true
        rw [Bool.and_eq_true, decide_eq_true_eq, decide_eq_true_eq]
        exact h1 a rfl
    · cases b with
      | none => rfl
      | some b =>
        show (decide (-20 ≤ b) && decide (b ≤ 20)) = true
        rw [Bool.and_eq_true, decide_eq_true_eq, decide_eq_true_eq]
        exact h2 b rfl
theorem smB.nice {r : Rg} (h : smB r = true) : Nice r := by
  obtain ⟨h1, h2, h3⟩ := smB_iff.mp h
  exact ⟨fun l e => (by have := h1 l e; omega), fun l e => (by have := h2 l e; omega), h3⟩
theorem loB_s {a c : Option Int} {v : Int} : loB (sL a c) v = (loB a v && loB c v) := by
  cases a with
  | none => rfl
  | some a => cases c with
    | none => exact (Bool.and_true _).symm
    | some c =>
      show loB (if a < c then some c else some a) v = (decide (a ≤ v) && decide (c ≤ v))
      by_cases h : a < c
      · rw [if_pos h]
        show decide (c ≤ v) = _
        by_cases h2 : c ≤ v
        · rw [decide_eq_true h2, decide_eq_true (show a ≤ v by omega)]; rfl
        · rw [decide_eq_false h2, Bool.and_false]
      · rw [if_neg h]
        show decide (a ≤ v) = _
        by_cases h2 : a ≤ v
        · rw [decide_eq_true h2, decide_eq_true (show c ≤ v by omega)]; rfl
        · rw [decide_eq_false h2, Bool.false_and]
theorem hiB_s {a c : Option Int} {v : Int} : hiB (sH a c) v = (hiB a v && hiB c v) := by
  cases a with
  | none => rfl
  | some a => cases c with
    | none => exact (Bool.and_true _).symm
    | some c =>
      show hiB (if c < a then some c else some a) v = (decide (v ≤ a) && decide (v ≤ c))
      by_cases h : c < a
      · rw [if_pos h]
        show decide (v ≤ c) = _
        by_cases h2 : v ≤ c
        · rw [decide_eq_true h2, decide_eq_true (show v ≤ a by omega)]; rfl
        · rw [decide_eq_false h2, Bool.and_false]
      · rw [if_neg h]
        show decide (v ≤ a) = _
        by_cases h2 : v ≤ a
        · rw [decide_eq_true h2, decide_eq_true (show v ≤ c by omega)]; rfl
        · rw [decide_eq_false h2, Bool.false_and]
theorem has_met {o r : Rg} {v : Int} : hasB (metR o r) v = (hasB o v && hasB r v) := by
  show (loB (sL o.1 r.1) v && hiB (sH o.2 r.2) v) = ((loB o.1 v && hiB o.2 v) && (loB r.1 v && hiB r.2 v))
  rw [loB_s, hiB_s]
  cases loB o.1 v <;> cases loB r.1 v <;> cases hiB o.2 v <;> cases hiB r.2 v <;> rfl
theorem sL_or {a c x : Option Int} (h : sL a c = x) : x = a ∨ x = c := by
  subst h
  cases a with
  | none => exact .inr rfl
  | some a => cases c with
    | none => exact .inl rfl
    | some c =>
      show (if a < c then some c else some a) = some a ∨ (if a < c then some c else some a) = some c
      split
      · exact .inr rfl
      · exact .inl rfl
theorem sH_or {a c x : Option Int} (h : sH a c = x) : x = a ∨ x = c := by
  subst h
  cases a with
  | none => exact .inr rfl
  | some a => cases c with
    | none => exact .inl rfl
    | some c =>
      show (if c < a then some c else some a) = some a ∨ (if c < a then some c else some a) = some c
      split
      · exact .inr rfl
      · exact .inl rfl
theorem met_small {o r : Rg} (ho : smB o = true) (hr : smB r = true) (hk : okR (metR o r) = true) : smB (metR o r) = true := by
  obtain ⟨o1, o2, _⟩ := smB_iff.mp ho
  obtain ⟨r1, r2, _⟩ := smB_iff.mp hr
  refine smB_iff.mpr ⟨fun l e => ?_, fun l e => ?_, hk⟩
  · rcases sL_or (show sL o.1 r.1 = some l from e) with h | h
    · exact o1 l h.symm
    · exact r1 l h.symm
  · rcases sH_or (show sH o.2 r.2 = some l from e) with h | h
    · exact o2 l h.symm
    · exact r2 l h.symm
theorem met_empty {o r : Rg} (hk : ¬ okR (metR o r) = true) : (winL fun v => hasB o v && hasB r v) = [] := by
  cases e : winL fun v => hasB o v && hasB r v with
  | nil => rfl
  | cons v l =>
    have hv : v ∈ winL fun v => hasB o v && hasB r v := by rw [e]; exact List.mem_cons_self
    have h2 := (mem_win.mp hv).2
    have h2 : (hasB o v && hasB r v) = true := h2
    rw [← has_met] at h2
    generalize metR o r = g at h2 hk
    obtain ⟨a, b⟩ := g
    cases a with
    | none => cases b <;> exact absurd rfl hk
    | some a => cases b with
      | none => exact absurd rfl hk
      | some b =>
        have h2 : (decide (a ≤ v) && decide (v ≤ b)) = true := h2
        rw [Bool.and_eq_true, decide_eq_true_eq, decide_eq_true_eq] at h2
        exact absurd (show decide (a ≤ b) = true from decide_eq_true (by omega)) hk
theorem made_win {r : Rg} (h : Nice r) : Made (some r) (winL (hasB r)) := .inr ⟨r, rfl, h, fun v => mem_win⟩
theorem made_met {o r : Rg} (ho : smB o = true) (hr : smB r = true) : Made (sharedR o r) (winL fun v => hasB o v && hasB r v) := by
  unfold sharedR
  by_cases hk : okR (metR o r) = true
  · rw [if_pos hk]
    refine .inr ⟨metR o r, rfl, smB.nice (met_small ho hr hk), fun v => ?_⟩
    rw [mem_win, has_met]
  · rw [if_neg hk]
    exact .inl ⟨rfl, met_empty hk⟩
theorem shift_nice {o : Rg} {c : Int} (ho : smB o = true) (h1 : -10 ≤ c) (h2 : c ≤ 10) : Nice (shiftR o c) := by
  obtain ⟨o1, o2, o3⟩ := smB_iff.mp ho
  obtain ⟨a, b⟩ := o
  refine ⟨fun l e => ?_, fun l e => ?_, ?_⟩
  · cases a with
    | none => cases e
    | some a =>
      have := o1 a rfl
      have e : some (a + c) = some l := e
      cases e
      omega
  · cases b with
    | none => cases e
    | some b =>
      have := o2 b rfl
      have e : some (b + c) = some l := e
      cases e
      omega
  · cases a with
    | none => cases b <;> rfl
    | some a => cases b with
      | none => rfl
      | some b =>
        have o3 : decide (a ≤ b) = true := o3
        rw [decide_eq_true_eq] at o3
        show decide (a + c ≤ b + c) = true
        rw [decide_eq_true_eq]
        omega
theorem has_shift {o : Rg} {c v : Int} : hasB (shiftR o c) v = hasB o (v - c) := by
  obtain ⟨a, b⟩ := o
  show (loB (a.map (· + c)) v && hiB (b.map (· + c)) v) = (loB a (v - c) && hiB b (v - c))
  have e1 : loB (a.map (· + c)) v = loB a (v - c) := by
    cases a with
    | none => rfl
    | some a =>
      show decide (a + c ≤ v) = decide (a ≤ v - c)
      by_cases h : a + c ≤ v
      · rw [decide_eq_true h, decide_eq_true (by omega)]
      · rw [decide_eq_false h, decide_eq_false (by omega)]
  have e2 : hiB (b.map (· + c)) v = hiB b (v - c) := by
    cases b with
    | none => rfl
    | some a =>
      show decide (v ≤ a + c) = decide (v - c ≤ a)
      by_cases h : v ≤ a + c
      · rw [decide_eq_true h, decide_eq_true (by omega)]
      · rw [decide_eq_false h, decide_eq_false (by omega)]
  rw [e1, e2]
theorem made_step {cs : List Nat} {own : Nat → Option Rg} {st : Step} (ho : ∀ b r, own b = some r → smB r = true) (hk : st.ok cs = true) : Made (st.came own) (allIn own st) := by
  cases st with
  | is a r =>
    have hk : (cs.contains a && smB r) = true := hk
    rw [Bool.and_eq_true] at hk
    exact made_win (smB.nice hk.2)
  | plus a b c =>
    have hk : (cs.contains a && (cs.contains b && (decide (-10 ≤ c) && decide (c ≤ 10)))) = true := hk
    rw [Bool.and_eq_true, Bool.and_eq_true, Bool.and_eq_true, decide_eq_true_eq, decide_eq_true_eq] at hk
    show Made ((own b).map fun o => shiftR o c) _
    cases h : own b with
    | none => rw [allIn_p0 h]; exact .inl ⟨rfl, rfl⟩
    | some o =>
      rw [allIn_p1 h]
      refine .inr ⟨shiftR o c, rfl, shift_nice (ho b o h) hk.2.2.1 hk.2.2.2, fun v => ?_⟩
      rw [mem_win, has_shift]
  | within a b r =>
    have hk : (cs.contains a && (cs.contains b && smB r)) = true := hk
    rw [Bool.and_eq_true, Bool.and_eq_true] at hk
    show Made ((own b).bind fun o => sharedR o r) _
    cases h : own b with
    | none => rw [allIn_w0 h]; exact .inl ⟨rfl, rfl⟩
    | some o =>
      rw [allIn_w1 h]
      exact made_met (ho b o h) hk.2.2
  | when a b r m =>
    have hk : (cs.contains a && (cs.contains b && (smB r && smB m))) = true := hk
    rw [Bool.and_eq_true, Bool.and_eq_true, Bool.and_eq_true] at hk
    show Made ((own b).bind fun o => (sharedR o r).bind fun _ => some m) _
    cases h : own b with
    | none => rw [allIn_n0 h]; exact .inl ⟨rfl, rfl⟩
    | some o =>
      rw [allIn_n1 h]
      rcases (made_met (ho b o h) hk.2.2.1).span with ⟨e1, e2⟩ | ⟨g, e1, _, e2, _, _⟩
      · rw [e2]
        show Made ((sharedR o r).bind fun _ => some m) _
        rw [e1]
        exact .inl ⟨rfl, rfl⟩
      · show Made ((sharedR o r).bind fun _ => some m) _
        rw [e1, if_neg (fun z => by rw [List.isEmpty_iff] at z; rw [z] at e2; cases e2)]
        exact made_win (smB.nice hk.2.2.2)
theorem span_fold {cs : List Nat} {rs : List (Option Rg)} {c : Nat} (ho : ∀ b r, ownR cs rs b = some r → smB r = true) : ∀ (sts : List Step) (f : Option Rg) (acc : List Int), (∀ st ∈ sts, Step.ok cs st = true) → Span f acc → Span (sts.foldl (comeStep cs rs c) f) (sts.foldl (dueStep (ownR cs rs) c) acc)
  | [], f, acc, _, h => h
  | st :: sts, f, acc, hk, h => by
    rw [List.foldl_cons, List.foldl_cons]
    refine span_fold ho sts _ _ (fun s hs => hk s (List.mem_cons_of_mem _ hs)) ?_
    unfold comeStep dueStep
    by_cases e : st.tgt = c
    · rw [if_pos e, if_pos e]
      exact h.join (made_step ho (hk st List.mem_cons_self)).span
    · rw [if_neg e, if_neg e]
      exact h
/-- the law's answer is the program's -/
theorem due_comes {cs : List Nat} {rs : List (Option Rg)} {c : Nat} {sts : List Step} {d : Option Rg} (ho : ∀ b r, ownR cs rs b = some r → smB r = true) (hk : ∀ st ∈ sts, Step.ok cs st = true) (hd : DueIs (dueL (ownR cs rs) sts c) d) : d = comesIn cs rs sts c :=
  span_due (span_fold ho sts none [] hk (.inl ⟨rfl, rfl⟩)) hd
end EC

set_option maxHeartbeats 4000000
/-! E16: rules of my own: repr of data, a tuple times one, a call by keywords alone, a def that needs no guard -/
namespace EC
open PySem PySem.Spec PyProof.Rows L2
/-! ### repr -/
def rReprD (K : PySem.W.Frag) : List V → Hp → VK → Prop := fun xs H Q => ∃ (a : Addr) (d : PyData), xs = [.ref a] ∧ Dp K H (.ref a) d ∧ d.showable = true ∧ d.hasDict = false ∧ d.depth ≤ 60 ∧ d.shown.length ≤ sizeLine ∧ Q (.str d.shown) H
theorem call_reprD {X : Cx} (hg : X.A.guards = some []) (hu : X.A.units + 64 < cLine) : CallR X (.builtin "repr") (rReprD X.K) := by
  intro pins s σ H xs us Q I r h
  obtain ⟨a, d, rfl, hd, h1, h2, h3, h4, q⟩ := h
  obtain rfl : us = [.ref a] := Vals.ref1 r
  obtain ⟨as, rd⟩ := Dp.reads I d (.ref a) (.ref a) hd rfl
  exact repr_of_reads' (h₀ := s.heap) rd h1 (fun z => by rw [h2] at z; cases z) hg (by omega) (fun b o e => e) (fun h' u tk k => ⟨.str d.shown, H, I.kept k, ⟨_, rfl⟩, q⟩) h4
/-! ### t * 1 -/
theorem tuple_mul1 (l : Addr) (items : Array Value) (n : Nat) (dd : Option Addr) (sl : Array (Option Value)) (u : Tok) :
    Meets (Builtin.«tuple.__mul__» ⟨[.ref l, .int 1 u], []⟩) (fun _ R s => s.heap.get? l = some { cls := .type "tuple", dict := dd, data := .seq items n, slots := sl } ∧ R (.ok (.ret (Value.ref l))) s) :=
  .of_wp fun prog w A R s h => by
    obtain ⟨hp, g, d, tk, os⟩ := s
    obtain ⟨hl, h⟩ := h
    have f1 := AutoSeq1.idx_int
    wp_walk using wpAny_loadPart' hl
    exact ⟨_, rfl, h⟩
/-- times one: the tuple itself; more: a new tuple -/
def rRep1 (K : PySem.W.Frag) : R2 := fun x y H Q => ∃ l xs, x = .ref l ∧ y = .int 1 ∧ SqT K H l xs ∧ Q (.ref l) H
theorem op_rep1 {X : Cx} : OpR X (binaryOp .Mult) (rRep1 X.K) := by
  intro pins s σ H x y v u Q I rx ry h
  obtain ⟨l, xs, rfl, rfl, hT, q⟩ := h
  cases rx
  obtain ⟨t, rfl⟩ := ry
  obtain ⟨its, r, ⟨⟨cls, dd, data, sl⟩, ho, hc, n, hd⟩, hs⟩ := I.tuple hT
  simp only at hc hd
  subst hc hd
  exact wpAny_binaryOp_repeat_ref (T := "tuple") (U := "int") (by decide) ⟨_, ho, rfl⟩ (fun s' => typeIs_int s' 1 t) noFill_tuple_mul F.fills_int_mul F.slot_int_rmul repeat_tuple F.slot_int_index.lookup
    (call_meets F.slot_int_rmul (typeIs_int s 1 t) F.entry_int_rmul (F.args_int_rmul_2 _ _) (int_rmul_tuple 1 t l its.toArray n dd sl)
      ⟨ho, rfl, ⟨_, ho, rfl⟩, call_meets F.slot_tuple_mul ⟨_, ho, rfl⟩ F.entry_tuple_mul (F.args_tuple_mul_2 _ _) (tuple_mul1 l its.toArray n dd sl t) ⟨ho, .ref l, H, I, rfl, q⟩⟩)
def rRepN (K : PySem.W.Frag) : R2 := fun x y H Q => rRepT K x y H Q ∨ rRep1 K x y H Q
theorem op_repN {X : Cx} : OpR X (binaryOp .Mult) (rRepN X.K) := op_repT.or op_rep1
/-- (v,) * n, n from one on -/
theorem rep_one {K : PySem.W.Frag} {H : Hp} {l : Addr} {v : V} {n : Nat} {Q : VK} (hl : H l = some (.tup [v])) (h1 : 1 ≤ n) (h2 : n ≤ 1000) (q : ∀ H' p, Same H H' → H' p = some (.tup (List.replicate n v)) → Q (.ref p) H') : rRepN K (.ref l) (.int (n : Int)) H Q := by
  by_cases e : n = 1
  · subst e
    exact .inr ⟨l, [v], rfl, rfl, SqT.of hl, q H l (Same.refl H) hl⟩
  · refine .inl ⟨l, (n : Int), [v], rfl, rfl, SqT.of hl, by simp, by omega, by omega, (by show 1 ≤ 1000; decide), fun p np => q _ p (same_upd np) ?_⟩
    rw [upd_same, Int.toNat_natCast]
    congr 2
    clear e h1 h2 q
    induction n with
    | zero => rfl
    | succ n ih =>
      rw [List.replicate_succ, List.replicate_succ, List.flatten_cons, ih]
      rfl
/-! ### f(k = v, ..) -/
section
variable {X : Cx} {CX : CXT} {k : Nat} {f : Addr} {fd : FuncData} {ps ks : List Str} {sp : Sp} {E : XK} {x : Str} {p pos : Pos} {kws : List Keyword} {tk : TA} {g : List Value → List Value → List Value} {gV : List V → List V → List V}
theorem pe_callK0 (F : FnOk X.prog X.w X.K X.mg X.base CX k f fd ps sp) (hr : Room k X.A) (hg : Gl X x) (hm : X.mg x = some (.ref f)) (hk : PySem.W.keepIn X.K (.ref f) = true) (hb : KBinds X.K fd ps ks g gV) (hx : Passes CX X E) (hkw : PK X kws tk)
    (hall : (backToKw pos (keywordEach kws X.env)).all (·.1.isSome) = true := by rfl)
    (hks : (backToKw pos (keywordEach kws X.env)).filterMap (·.1) = ks := by rfl)
    (hdb : (x == ("__debug__" : Str)) = false := by decide)
    (hpl : ((backTo pos (starEach [] X.env)).any (·.1) || (backToKw pos (keywordEach kws X.env)).any (·.1.isNone)) = false := by rfl) :
    PE X (.Call (.Name x p) [] kws pos) (tCallK sp gV E tNil tk) := ⟨fun pins s σ H Q I h => by
  refine wpAny_Call_Name_kw (ld_glob I hg hm (PySem.W.callWith_KW0 (h₀ := X.base) I.ok.mod.kin hk hall (thn (hkw.run pos pins s σ H _ I h) fun ws s2 ⟨zs, H2, I2, rz, q2⟩ => ⟨I2.kIn, ?_⟩) hpl) hdb)
  rw [hks]
  exact run_fnk (us := []) (vs := []) F hr hb hx I2 .nil rz q2⟩
end
/-! ### a def that wants no guard around it -/
structure FnG (P : Program) (w : World) (K : PySem.W.Frag) (mg : Str → Option Value) (base : Heap) (k : Nat) (f : Addr) (fd : FuncData) (ps : List Str) (sp : Sp) : Prop where
  len : ∀ vs H Q E, sp vs H Q E → vs.length = ps.length
  go : ∀ (A : Around) (outer : List Env) (s : Shared) (H : Hp) (args : Args) (us : List Value) (vs : List V) (Q : VK) (E : XK), A.guards = some [] → Room k A → Env0 P w K mg base A outer s H → BindsTo s fd args (ps.zip us) → Vals vs us → sp vs H Q E →
    codeAny (model P w) A (.call (.ref f) args) (CR C8.CX0 outer P w H s Q E) s
theorem FnG.of {P : Program} {w : World} {K : PySem.W.Frag} {mg : Str → Option Value} {base : Heap} {k : Nat} {f : Addr} {fd : FuncData} {N ps : List Str} {sp : Sp} {x : Str} {i : Nat} (F : FunD K x x (defArgs (topS i)) (defBody (topS i)) (defScope (topS i)) [] [] f fd) (S : FnScope N ps (defScope (topS i)))
    (cda : Addr → Prop) (hc : ∀ cdv, (∃ oc od dV kV doc pm an ct osl, K.lookup f = some ⟨oc, od, .func (PySem.W.fnOf x x (defArgs (topS i)) (defBody (topS i)) (defScope (topS i)) dV kV doc pm an cdv ct), osl⟩) → ∃ c, cdv = .ref c ∧ cda c) (len : ∀ vs H Q E, sp vs H Q E → vs.length = ps.length)
    (hbody : ∀ (c : Addr) (A : Around) (outer : List Env) (s : Shared) (H : Hp) (vs : List V) (Q : VK) (E : XK), cda c → A.guards = some [] → Room k (A.deeper (envOfC x (defScope (topS i)) s.heap.objs.size f (.ref c))) → sp vs H Q E →
      ∃ t, PSs (cxOf C8.CX0 P w K mg base N x (defScope (topS i)) f (.ref c) A outer s H E).nox (defBody (topS i)) t ∧ t { nx := fun _ H' => Q .non H', rt := Q } (start N vs) H) : FnG P w K mg base (k + 1) f fd ps sp := by
  obtain ⟨oc, od, dV, kV, doc, pm, an, cdv, ct, osl, rfl, lk, hcd, _, _⟩ := F.ex
  obtain ⟨c, rfl, hc⟩ := hc cdv ⟨_, _, _, _, _, _, _, _, _, lk⟩
  refine ⟨len, fun A outer s H args us vs Q E hg hr e0 hb r h => LamX.run_ofS lk hcd S hr e0 hb r (len vs H Q E h) fun hr' => ?_⟩
  obtain ⟨t, h1, h2⟩ := hbody c A outer s H vs Q E hc hg hr' h
  exact ⟨t, h1.nox, h2⟩
section
variable {X : Cx} {k : Nat} {f : Addr} {fd : FuncData} {ps : List Str} {sp : Sp} {x : Str} {p pos : Pos} {e : Expr} {es : List Expr} {t : TA}
theorem pe_callG (F : FnG X.prog X.w X.K X.mg X.base k f fd ps sp) (hG : X.A.guards = some []) (hr : Room k X.A) (hg : Gl X x) (hm : X.mg x = some (.ref f)) (hk : PySem.W.keepIn X.K (.ref f) = true) (hb : L2.Binds X.K fd ps []) (ha : PA X (e :: es) t)
    (hdb : (x == ("__debug__" : Str)) = false := by decide)
    (he : starEach (e :: es) X.env = (false, eval e X.env) :: starEach es X.env := by rfl)
    (hpl : (backTo pos (starEach es X.env)).any (·.1) = false := by rfl) : PE X (.Call (.Name x p) (e :: es) [] pos) (tCall sp [] C8.E0 t) := ⟨fun pins s σ H Q I h => by
  refine wpAny_Call_Name_kw (ld_glob I hg hm (PySem.W.callWith_K (h₀ := X.base) I.ok.mod.kin hk (thn (ha.run pos pins s σ H _ I h) fun us s1 ⟨vs, H1, I1, r, q⟩ => ⟨I1.kIn, ?_⟩) he hpl) hdb)
  have q : sp vs H1 Q C8.E0 := by
    have z : sp (vs ++ []) H1 Q C8.E0 := q
    rw [List.append_nil] at z
    exact z
  have hl : us.length = ps.length := by rw [← r.length]; exact F.len _ _ _ _ q
  have b := hb s1 us I1.kIn (by rw [List.append_nil]; exact hl)
  rw [List.append_nil] at b
  refine wpAny_call (codeAny_mono (F.go X.A X.stack s1 H1 ⟨us, []⟩ us vs Q C8.E0 hG hr I1.env0 b r q) fun res s' hq => ?_)
  cases res with
  | error e => exact (show False from hq).elim
  | ok fl => cases fl with
    | ret u => exact I1.after hq
    | _ => exact (show False from hq).elim⟩
end
end EC

set_option maxHeartbeats 4000000
/-! E17: _law_refused_right: what stands, the odd ones -/
namespace EC
open PySem PySem.Spec PyProof.Rows L2 LamX
/-! ### all but tables stays -/
theorem extN_tups {H H' : Hp} (e : ExtN H H') : Tups H H' := fun b xs h => e b _ h (fun ps z => by cases z)
theorem extN_lst {H H' : Hp} (e : ExtN H H') {b : Addr} {xs : List V} (h : H b = some (.lst xs)) : H' b = some (.lst xs) := e b _ h (fun ps z => by cases z)
theorem extN_dk {H H' : Hp} (e : ExtN H H') {b : Addr} {kvs : List (Key × V)} (h : H b = some (.dK kvs)) : H' b = some (.dK kvs) := e b _ h (fun ps z => by cases z)
theorem ArgAt.ext {H H' : Hp} {v : V} {g : Arg} (e : ExtN H H') (h : ArgAt H v g) : ArgAt H' v g := by
  cases g with
  | sc u => exact h
  | lst =>
    obtain ⟨a, xs, e1, e2⟩ := h
    exact ⟨a, xs, e1, extN_lst e e2⟩
  | tup xs =>
    obtain ⟨a, e1, e2, e3⟩ := h
    exact ⟨a, e1, extN_tups e _ _ e2, e3⟩
theorem Arg2At.ext {H H' : Hp} {v : V} {g : Arg2} (e : ExtN H H') (h : Arg2At H v g) : Arg2At H' v g := by
  cases g with
  | sc u => exact h
  | lst =>
    obtain ⟨a, xs, e1, e2⟩ := h
    exact ⟨a, xs, e1, extN_lst e e2⟩
  | tup gs =>
    obtain ⟨a, xs, e1, e2, e3⟩ := h
    exact ⟨a, xs, e1, extN_tups e _ _ e2, paired_imp e3 fun x g q => q.ext e⟩
theorem PrgHd.ext {H H' : Hp} {v : V} {n : Str} (e : ExtN H H') (h : PrgHd H v n) : PrgHd H' v n := by
  obtain ⟨a, st, e1, e2⟩ := h
  exact ⟨a, st, e1, extN_tups e _ _ e2⟩
theorem Odd.ext {H H' : Hp} {v : V} (e : ExtN H H') (h : Odd H v) : Odd H' v := by
  rcases h with h | ⟨a, rfl, ⟨xs, h⟩ | ⟨xs, h⟩⟩
  · exact .inl h
  · exact .inr ⟨a, rfl, .inl ⟨xs, extN_tups e _ _ h⟩⟩
  · exact .inr ⟨a, rfl, .inr ⟨xs, extN_lst e h⟩⟩
/-! ### what is refused -/
def Bad (H : Hp) (n : Nat) (v : V) : Prop := ∃ g, Arg2At H v g ∧ rngsB n g = false
def BadN (H : Hp) (names : Str) (v : V) : Prop := Odd H v ∧ strLen v ≤ 1000 ∧ (letB v && inB names v) = false
theorem Bad.ext {H H' : Hp} {n : Nat} {v : V} (e : ExtN H H') (h : Bad H n v) : Bad H' n v := by
  obtain ⟨g, h1, h2⟩ := h
  exact ⟨g, h1.ext e, h2⟩
theorem BadN.ext {H H' : Hp} {n : Str} {v : V} (e : ExtN H H') (h : BadN H n v) : BadN H' n v := ⟨h.1.ext e, h.2⟩
theorem all_app {α : Type} {F : α → Prop} {xs ys : List α} (h : ∀ x ∈ xs, F x) (k : ∀ x ∈ ys, F x) : ∀ x ∈ xs ++ ys, F x := fun x hx => (List.mem_append.mp hx).elim (h x) (k x)
theorem all_one {α : Type} {F : α → Prop} {y : α} (h : F y) : ∀ x ∈ [y], F x := fun x hx => by
  rcases List.mem_cons.mp hx with rfl | hx
  · exact h
  · cases hx
/-- n times the same -/
theorem paired_rep {H : Hp} {v : V} {g : Arg} (h : ArgAt H v g) : ∀ n : Nat, Paired (fun x g => ArgAt H x g) (List.replicate n v) (List.replicate n g)
  | 0 => .nil
  | n + 1 => .cons h (paired_rep h n)
theorem bad_rep {H : Hp} {p : Addr} {v : V} {g : Arg} {n : Nat} (hp : H p = some (.tup (List.replicate n v))) (h : ArgAt H v g) (hg : okG g = false) (hn : 1 ≤ n) : Bad H n (.ref p) := by
  refine ⟨.tup (List.replicate n g), ⟨p, _, rfl, hp, paired_rep h n⟩, ?_⟩
  show ((List.replicate n g).length == n && (List.replicate n g).all okG) = false
  cases n with
  | zero => cases hn
  | succ n => rw [List.replicate_succ, List.all_cons, hg, Bool.false_and, Bool.and_false]
/-- the ranges as they were handed, n of them, at b -/
def TolN (H : Hp) (b : Addr) (n : Nat) : Prop := ∃ ys gs, H b = some (.tup ys) ∧ Paired (fun x g => ArgAt H x g) ys gs ∧ ys.length = n
theorem TolN.same {H H' : Hp} {b : Addr} {n : Nat} (e : Same H H') (h : TolN H b n) : TolN H' b n := by
  obtain ⟨ys, gs, h1, h2, h3⟩ := h
  exact ⟨ys, gs, e _ _ h1, paired_imp h2 fun x g q => q.same e, h3⟩
/-- an odd value in place of the ranges -/
def tBad (b : Addr) (n : Nat) : TE := fun σ H Q => σ[1]? = some (some (.ref b)) ∧ TolN H b n ∧ ∀ H' v, Same H H' → Bad H' n v → Q v H'
/-- an odd value in place of the name -/
def tBadN (v1 : V) (cs : List Nat) : TE := fun σ H Q => σ[0]? = some (some v1) ∧ PrgHd H v1 (nmS cs) ∧ ∀ H' v, Same H H' → BadN H' (nmS cs) v → Q v H'
theorem menu_y : ∀ cs ∈ menus, inB (nmS cs) (.str "y") = false := by decide +kernel
theorem menu_up : ∀ cs ∈ menus, ∀ c ∈ cs, (letB (.str (Txt.upper (ch c)))) = false ∧ strLen (.str (Txt.upper (ch c))) ≤ 1000 := by decide +kernel
end EC

set_option maxHeartbeats 4000000
/-! E18: _law_refused_right: the walk -/
namespace EC
open PySem PySem.Spec PyProof.Rows L2 LamX
section
variable {H : Hp} {n : Nat}
theorem bad_sc {v : V} (h : scB v = true) : Bad H n v := ⟨.sc v, ⟨rfl, h⟩, rfl⟩
theorem bad_lst {p : Addr} {xs : List V} (h : H p = some (.lst xs)) : Bad H n (.ref p) := ⟨.lst, ⟨p, xs, rfl, h⟩, rfl⟩
theorem bad_len {p : Addr} {xs : List V} {gs : List Arg} (h : H p = some (.tup xs)) (k : Paired (fun x g => ArgAt H x g) xs gs) (e : xs.length ≠ n) : Bad H n (.ref p) := by
  refine ⟨.tup gs, ⟨p, xs, rfl, h, k⟩, ?_⟩
  show (gs.length == n && gs.all okG) = false
  have hl := paired_len k
  rw [beq_eq_false_iff_ne.mpr (show gs.length ≠ n by omega), Bool.false_and]
theorem bad_one {p : Addr} {v : V} (h : H p = some (.tup [v])) (hs : scB v = true) (ho : okG (.sc v) = false) : Bad H n (.ref p) := by
  refine ⟨.tup [.sc v], ⟨p, _, rfl, h, .cons ⟨rfl, hs⟩ .nil⟩, ?_⟩
  show ([Arg.sc v].length == n && (okG (.sc v) && true)) = false
  rw [ho, Bool.false_and, Bool.and_false]
theorem tup_at {xs : List V} {p : Addr} (h : H p = some (.tup xs)) (hs : ∀ x ∈ xs, scB x = true) : ArgAt H (.ref p) (.tup xs) := ⟨p, rfl, h, hs⟩
theorem sl1 {ys : List V} (h : 1 ≤ ys.length) : ¬ (HT.sIx ys.length 0 (some 1) = 0 ∧ HT.sIx ys.length ys.length none = ys.length) := fun z => by
  have e : HT.sIx ys.length 0 (some 1) = min 1 ys.length := HT.sIx_nat _ _ 1
  have z1 := z.1
  rw [e] at z1
  omega
end
/-- the code object's lambda, by name -/
def lamQ : Str := "_law_refused_right.<locals>.<lambda>"
/-- one that was heard to be refused -/
def IsNo (H : Hp) (wd : Str) (x : V) : Prop := ∃ a, x = .ref a ∧ H a = some (.tup [.str "no", .str wd, .int (-1)])
theorem IsNo.ext {H H' : Hp} {wd : Str} {x : V} (e : ExtN H H') (h : IsNo H wd x) : IsNo H' wd x := by
  obtain ⟨a, rfl, h⟩ := h
  exact ⟨a, rfl, extN_tups e _ _ h⟩
/-- a list of them is being made at D -/
def Hears (PT : Addr) (H0 : Hp) (D : Addr) (wd : Str) (i : Nat) (H : Hp) : Prop := ExtN H0 H ∧ Tabs [(PT, lamQ)] H ∧ ∃ acc, H D = some (.lst acc) ∧ acc.length = i ∧ ∀ x ∈ acc, IsNo H wd x
theorem Hears.start {PT : Addr} {H0 : Hp} {D : Addr} {wd : Str} (n : H0 D = none) (t : Tabs [(PT, lamQ)] H0) : Hears PT H0 D wd 0 (upd H0 D (.lst [])) := ⟨ExtN.of (same_upd n), t.ext (same_upd n), [], upd_same, rfl, fun _ h => nomatch h⟩
theorem Hears.more {PT : Addr} {H0 H H' : Hp} {D : Addr} {wd : Str} {i : Nat} {x : V} (h : Hears PT H0 D wd i H) (n : H0 D = none) (hi : i ≤ 100) (e : ExtN H H') (t : Tabs [(PT, lamQ)] H') (hx : IsNo H' wd x) :
    ∃ acc, H' D = some (.lst acc) ∧ acc.length < sizeLine ∧ Hears PT H0 D wd (i + 1) (upd H' D (.lst (acc ++ [x]))) := by
  obtain ⟨h1, h2, acc, h3, h4, h5⟩ := h
  have hD := extN_lst e h3
  have up : ExtN H0 (upd H' D (.lst (acc ++ [x]))) := fun b o q z => by
    rw [upd_ne (ne_of_none q n)]
    exact e b o (h1 b o q z) z
  have upt : Tups H' (upd H' D (.lst (acc ++ [x]))) := tups_lst hD
  have no : ∀ y, IsNo H' wd y → IsNo (upd H' D (.lst (acc ++ [x]))) wd y := fun y hy => by
    obtain ⟨a, rfl, k⟩ := hy
    exact ⟨a, rfl, upt _ _ k⟩
  refine ⟨acc, hD, small1000 (by omega), up, fun p hp => ?_, acc ++ [x], upd_same, by rw [List.length_append]; simp; omega, all_app (fun y hy => no y ((h5 y hy).ext e)) (all_one (no x hx))⟩
  obtain ⟨ps, t1, t2, t3⟩ := t p hp
  refine ⟨ps, by rw [upd_ne (fun z => by rw [z, hD] at t1; cases t1)]; exact t1, t2, fun pos cv hc => ?_⟩
  obtain ⟨c, k1, k2⟩ := t3 pos cv hc
  refine ⟨c, k1, ?_⟩
  rw [upd_ne (fun z => by
    rw [z, hD] at k2
    have z2 := Option.some.inj k2
    unfold CodeO at z2
    cases z2)]
  exact k2
/-- the data that these are -/
def noD (wd : Str) : PyData := .tuple [.str "no", .str wd, .int (-1)]
theorem no_dp {K : PySem.W.Frag} {H : Hp} {wd : Str} {x : V} (h : IsNo H wd x) : Dp K H x (noD wd) := by
  obtain ⟨a, rfl, k⟩ := h
  exact .tup (SqT.of k) (.cons (.str _) (.cons (.str _) (.cons (.int _) .nil)))
theorem no_all {K : PySem.W.Frag} {H : Hp} {wd : Str} : ∀ {xs : List V}, (∀ x ∈ xs, IsNo H wd x) → DpAll K H xs (List.replicate xs.length (noD wd))
  | [], _ => .nil
  | x :: xs, h => .cons (no_dp (h x List.mem_cons_self)) (no_all fun y hy => h y (List.mem_cons_of_mem _ hy))
theorem dp_app {K : PySem.W.Frag} {H : Hp} : ∀ {xs ys : List V} {ds es : List PyData}, DpAll K H xs ds → DpAll K H ys es → DpAll K H (xs ++ ys) (ds ++ es)
  | _, _, _, _, .nil, h => h
  | _, _, _, _, .cons f t, h => .cons f (dp_app t h)
def refD : PyData := .list (List.replicate 12 (noD "ranges") ++ List.replicate 8 (noD "name"))
theorem refD_ok : refD.showable = true ∧ refD.hasDict = false ∧ refD.depth ≤ 60 ∧ refD.shown.length ≤ sizeLine := by
  refine ⟨by decide +kernel, by decide +kernel, by decide +kernel, ?_⟩
  rw [sizeLine_eq]
  decide +kernel
end EC

set_option maxHeartbeats 8000000
/-! E19: _law_refused_right: its promise -/
namespace EC
open PySem PySem.Spec PyProof.Rows L2 LamX
section
variable {P : Program} {w : World} {K : PySem.W.Frag} {mg : Str → Option Value} {base : Heap} {C fI : Addr}
theorem badN_sc {H : Hp} {names : Str} {v : V} (h : scB v = true) (h2 : strLen v ≤ 1000) (h3 : letB v = false) : BadN H names v := ⟨.inl h, h2, by rw [h3, Bool.false_and]⟩
theorem nm_size {cs : List Nat} {n : Nat} (hn : cs.length = n) (n4 : n ≤ 4) : (nmS cs).length ≤ sizeLine := Nat.le_of_lt (small1000 (by show cs.length ≤ 1000; omega))
theorem at0 {cs : List Nat} {y : Nat} (h : cs[0]? = some y) : atI (nmS cs).cps.toList 0 = some y := by
  rw [nmS_list]
  exact atI_nat (j := 0) h
theorem badN_len {cs : List Nat} {n : Nat} (hn : cs.length = n) (n4 : n ≤ 4) : (nmS cs).length + ("y" : Str).length ≤ sizeLine := Nat.le_of_lt (small1000 (by
  have e : ("y" : Str).length = 1 := by decide +kernel
  show cs.length + ("y" : Str).length ≤ 1000
  omega))
theorem badN_two {H : Hp} {cs : List Nat} {n : Nat} (hn : cs.length = n) (n1 : 1 ≤ n) (n4 : n ≤ 4) : BadN H (nmS cs) (.str (nmS cs ++ ("y" : Str))) := by
  have e : ("y" : Str).length = 1 := by decide +kernel
  have e2 : (nmS cs ++ ("y" : Str)).length = cs.length + 1 := by
    show ((nmS cs).cps ++ ("y" : Str).cps).size = _
    rw [Array.size_append]
    show cs.length + ("y" : Str).length = _
    rw [e]
  refine badN_sc rfl (by show (nmS cs ++ ("y" : Str)).length ≤ 1000; omega) ?_
  show ((nmS cs ++ ("y" : Str)).length == 1 && _) = false
  rw [beq_eq_false_iff_ne.mpr (by omega), Bool.false_and]
theorem rep_flat {x : V} : ∀ n : Nat, (List.replicate n [x]).flatten = List.replicate n x
  | 0 => rfl
  | n + 1 => by
    rw [List.replicate_succ, List.replicate_succ, List.flatten_cons, rep_flat n]
    rfl
theorem no_all' {K : PySem.W.Frag} {H : Hp} {wd : Str} {xs : List V} {n : Nat} (h : ∀ x ∈ xs, IsNo H wd x) (hl : xs.length = n) : DpAll K H xs (List.replicate n (noD wd)) := by
  subst hl
  exact no_all h
/-- a def that may be called by its name and its address -/
structure DfA (K : PySem.W.Frag) (mg : Str → Option Value) (x : Str) (i : Nat) (ps : List Str) (f : Addr) (fd : FuncData) : Prop where
  fn : FunD K x x (defArgs (topS i)) (defBody (topS i)) (defScope (topS i)) [] [] f fd
  gm : mg x = some (.ref f)
  bd : L2.Binds K fd ps []
def spRef (C PT : Addr) : Sp := fun vs H Q _ => ∃ v1 b cs sts rs, vs = [v1, .ref b] ∧ PrgAt H v1 cs sts ∧ cs ∈ menus ∧ TolAt H (.ref b) rs ∧ rs.length = cs.length ∧ (∀ r ∈ rs, okRg r = true) ∧ Tabs [(PT, lamQ)] H ∧ ∀ H', ExtN H H' → Tabs [(PT, lamQ)] H' → Q (.bl true) H'
abbrev nm__law_refused_right : List Str := ["_law_plan_here", "_law_told", "_law_odds", "_law_heard_here", "_law_some", "_law_odd"]
theorem sc__law_refused_right : FnScope nm__law_refused_right ["_law_plan_here", "_law_told"] (defScope (topS 32)) := ⟨rfl, rfl, rfl, by decide +kernel, rfl, by decide +kernel, by decide +kernel⟩
theorem c_refused {c PT f fh fi : Addr} {fd fdh fdi : FuncData} (D : DfA K mg "_law_refused_right" 32 ["_law_plan_here", "_law_told"] f fd) (Dh : DfA K mg "_law_heard" 27 ["_law_ask"] fh fdh) (Di : DfA K mg "incoming_ranges" 19 ["program", "ranges", "name"] fi fdi) (T : Txt K mg) (N : NuTxt P K mg C fI)
    (GI : FnOk P w K mg base (L2.CX P w) 7 fi fdi ["program", "ranges", "name"] (spIn C)) (TB : TabB base mg c PT)
    (hc : ∀ cdv, (∃ oc od dV kV doc pm an ct osl, K.lookup f = some ⟨oc, od, .func (PySem.W.fnOf "_law_refused_right" "_law_refused_right" (defArgs (topS 32)) (defBody (topS 32)) (defScope (topS 32)) dV kV doc pm an cdv ct), osl⟩) → ∃ c', cdv = .ref c' ∧ c' = c) :
    FnG P w K mg base 10 f fd ["_law_plan_here", "_law_told"] (spRef C PT) := by
  obtain ⟨och, odh, dVh, kVh, doch, pmh, anh, cdh, cth, oslh, rfl, lkh, hch, _, _⟩ := Dh.fn.ex
  refine FnG.of (N := nm__law_refused_right) D.fn sc__law_refused_right (fun c' => c' = c) hc (fun vs H Q E h => ?_) (fun c' A outer s H vs Q E hcc hG hr h => ?_)
  · obtain ⟨v1, b, cs, sts, rs, rfl, _⟩ := h
    rfl
  subst hcc
  obtain ⟨v1, b, cs, sts, rs, rfl, h1, hcs, h2, hl, ho, hT, q⟩ := h
  have nd := sc__law_refused_right.nd
  have hG : (A.deeper (envOfC "_law_refused_right" (defScope (topS 32)) s.heap.objs.size f (.ref c'))).guards = some [] := hG
  have hl1 := menu_pos cs hcs
  generalize hn : cs.length = n at hl hl1
  have n1 : 1 ≤ n := hl1.1
  have n4 : n ≤ 4 := hl1.2
  obtain ⟨y0, hc0⟩ : ∃ y, cs[0]? = some y := ⟨cs[0]'(by omega), List.getElem?_eq_getElem (by omega)⟩
  refine ⟨_, (pss_cons (ps_set (i := 2) nd rfl (.inl rfl) (pe_lst
    (pa_cons (PE.imp (t' := tBad b n) pe_non (fun σ H Q h => h.2.2 H .non (Same.refl H) (bad_sc rfl)))
    (pa_cons (PE.imp (t' := tBad b n) (pe_callTy call_list_of (by rfl) T.z_list (by decide +kernel) (pa_cons (pv 1) pa_nil)) (fun σ H Q h => by
      obtain ⟨g, ⟨ys, gs, hb, hp, rfl⟩, q⟩ := h
      exact ⟨.ref b, g, b, ys, rfl, .inr (SqT.of hb), fun p np => q _ _ (same_upd np) (bad_lst upd_same)⟩))
    (pa_cons (PE.imp (t' := tBad b n) (pe_op op_catA (pv 1) (pe_tup (pa_cons pe_non pa_nil))) (fun σ H Q h => by
      obtain ⟨g, ⟨ys, gs, hb, hp, rfl⟩, q⟩ := h
      refine ⟨.ref b, g, (by show 1 ≤ sizeLine; decide), fun p np => catA (keep np hb) upd_same (fun z => by rw [z] at n1; cases n1) (by simp) (by show ys.length + 1 ≤ 1000; omega) fun p3 np3 => ?_⟩
      have sm := (same_upd (o := .tup [V.non]) np).trans (same_upd (o := .tup (ys ++ [V.non])) np3)
      exact q _ _ sm (bad_len upd_same (paired_app (paired_imp hp fun x g k => k.same sm) (.cons ⟨rfl, rfl⟩ .nil : Paired (fun x g => ArgAt _ x g) [V.non] [Arg.sc .non])) (by simp))))
    (pa_cons (PE.imp (t' := tBad b n) (pe_slice sl_tupA (pv 1) (po_some pe_int) po_none) (fun σ H Q h => by
      obtain ⟨g, ⟨ys, gs, hb, hp, rfl⟩, q⟩ := h
      refine ⟨.ref b, g, 1, rfl, slN (slA hb (sl1 n1) (cut_drop ys 1) fun p np => ?_)⟩
      have sm := same_upd (o := .tup (ys.drop 1)) np
      exact q _ _ sm (bad_len upd_same (paired_imp (paired_drop 1 hp) fun x g k => k.same sm) (by rw [List.length_drop]; omega))))
    (pa_cons (PE.imp (t' := tBad b n) (pe_op op_repN (pe_tup (pa_cons pe_int pa_nil)) (pe_callB call_len_seq (by rfl) T.z_len (by decide +kernel) (pa_cons (pv 1) pa_nil))) (fun σ H Q h => by
      obtain ⟨g, ⟨ys, gs, hb, hp, rfl⟩, q⟩ := h
      exact ⟨(by show 1 ≤ sizeLine; decide), fun p np => ⟨.ref b, g, b, ys, rfl, .inr (SqT.of (keep np hb)), rep_one upd_same n1 (by omega) fun H' p' sm hp' => q _ _ ((same_upd np).trans sm) (bad_rep hp' (g := .sc (.int 1)) ⟨rfl, rfl⟩ rfl n1)⟩⟩))
    (pa_cons (PE.imp (t' := tBad b n) (pe_op op_repN (pe_tup (pa_cons (pe_tup (pa_cons pe_int (pa_cons pe_int pa_nil))) pa_nil)) (pe_callB call_len_seq (by rfl) T.z_len (by decide +kernel) (pa_cons (pv 1) pa_nil))) (fun σ H Q h => by
      obtain ⟨g, ⟨ys, gs, hb, hp, rfl⟩, q⟩ := h
      exact ⟨(by show 2 ≤ sizeLine; decide), fun p0 np0 => ⟨(by show 1 ≤ sizeLine; decide), fun p np => ⟨.ref b, g, b, ys, rfl, .inr (SqT.of (keep np (keep np0 hb))), rep_one upd_same n1 (by omega) fun H' p' sm hp' => q _ _ (((same_upd np0).trans (same_upd np)).trans sm)
        (bad_rep hp' (tup_at (xs := [.int 3, .int 2]) (sm _ _ (keep np upd_same)) (by intro x hx; simp at hx; rcases hx with rfl | rfl <;> rfl)) rfl n1)⟩⟩⟩))
    (pa_cons (PE.imp (t' := tBad b n) (pe_tup (pa_cons pe_bl pa_nil)) (fun σ H Q h => by
      obtain ⟨g, ⟨ys, gs, hb, hp, rfl⟩, q⟩ := h
      exact ⟨(by show 1 ≤ sizeLine; decide), fun p np => q _ _ (same_upd np) (bad_one (v := .bl true) upd_same rfl rfl)⟩))
    (pa_cons (PE.imp (t' := tBad b n) pe_str (fun σ H Q h => h.2.2 H _ (Same.refl H) (bad_sc rfl))) pa_nil))))))))))
(pss_cons (ps_set (i := 2) nd rfl (.inl rfl) (pe_op op_cat (pv 2) (pe_lst
    (pa_cons (PE.imp (t' := tBad b n) (pe_op op_repN (pe_tup (pa_cons (pe_tup pa_nil) pa_nil)) (pe_callB call_len_seq (by rfl) T.z_len (by decide +kernel) (pa_cons (pv 1) pa_nil))) (fun σ H Q h => by
      obtain ⟨g, ⟨ys, gs, hb, hp, rfl⟩, q⟩ := h
      exact ⟨(by show 0 ≤ sizeLine; decide), fun p0 np0 => ⟨(by show 1 ≤ sizeLine; decide), fun p np => ⟨.ref b, g, b, ys, rfl, .inr (SqT.of (keep np (keep np0 hb))), rep_one upd_same n1 (by omega) fun H' p' sm hp' => q _ _ (((same_upd np0).trans (same_upd np)).trans sm)
        (bad_rep hp' (tup_at (xs := []) (sm _ _ (keep np upd_same)) (by intro x hx; cases hx)) rfl n1)⟩⟩⟩))
    (pa_cons (PE.imp (t' := tBad b n) (pe_op op_repN (pe_tup (pa_cons (pe_lst (pa_cons pe_int (pa_cons pe_int pa_nil))) pa_nil)) (pe_callB call_len_seq (by rfl) T.z_len (by decide +kernel) (pa_cons (pv 1) pa_nil))) (fun σ H Q h => by
      obtain ⟨g, ⟨ys, gs, hb, hp, rfl⟩, q⟩ := h
      exact ⟨(by show 2 ≤ sizeLine; decide), fun p0 np0 => ⟨(by show 1 ≤ sizeLine; decide), fun p np => ⟨.ref b, g, b, ys, rfl, .inr (SqT.of (keep np (keep np0 hb))), rep_one upd_same n1 (by omega) fun H' p' sm hp' => q _ _ (((same_upd np0).trans (same_upd np)).trans sm)
        (bad_rep hp' (g := .lst) ⟨p0, _, rfl, sm _ _ (keep np upd_same)⟩ rfl n1)⟩⟩⟩))
    (pa_cons (PE.imp (t' := tBad b n) (pe_op op_repN (pe_tup (pa_cons (pe_tup (pa_cons pe_int (pa_cons pe_bl pa_nil))) pa_nil)) (pe_callB call_len_seq (by rfl) T.z_len (by decide +kernel) (pa_cons (pv 1) pa_nil))) (fun σ H Q h => by
      obtain ⟨g, ⟨ys, gs, hb, hp, rfl⟩, q⟩ := h
      exact ⟨(by show 2 ≤ sizeLine; decide), fun p0 np0 => ⟨(by show 1 ≤ sizeLine; decide), fun p np => ⟨.ref b, g, b, ys, rfl, .inr (SqT.of (keep np (keep np0 hb))), rep_one upd_same n1 (by omega) fun H' p' sm hp' => q _ _ (((same_upd np0).trans (same_upd np)).trans sm)
        (bad_rep hp' (tup_at (xs := [.int 0, .bl true]) (sm _ _ (keep np upd_same)) (by intro x hx; simp at hx; rcases hx with rfl | rfl <;> rfl)) rfl n1)⟩⟩⟩))
    (pa_cons (PE.imp (t' := tBad b n) (pe_op op_repN (pe_tup (pa_cons (pe_tup (pa_cons pe_int (pa_cons pe_int (pa_cons pe_int pa_nil)))) pa_nil)) (pe_callB call_len_seq (by rfl) T.z_len (by decide +kernel) (pa_cons (pv 1) pa_nil))) (fun σ H Q h => by
      obtain ⟨g, ⟨ys, gs, hb, hp, rfl⟩, q⟩ := h
      exact ⟨(by show 3 ≤ sizeLine; decide), fun p0 np0 => ⟨(by show 1 ≤ sizeLine; decide), fun p np => ⟨.ref b, g, b, ys, rfl, .inr (SqT.of (keep np (keep np0 hb))), rep_one upd_same n1 (by omega) fun H' p' sm hp' => q _ _ (((same_upd np0).trans (same_upd np)).trans sm)
        (bad_rep hp' (tup_at (xs := [.int 0, .int 0, .int 0]) (sm _ _ (keep np upd_same)) (by intro x hx; simp at hx; rcases hx with rfl | rfl | rfl <;> rfl)) rfl n1)⟩⟩⟩)) pa_nil)))))))
(pss_cons (ps_setLc (i := 3) (own := [("_law_odd", 5)]) (g := gName 5) rfl nd rfl rfl (sw_true rfl rfl rfl (by decide +kernel)) (pi_list (pv 2)) (blkOk_by (own := [("_law_odd", 5)]) (N := nm__law_refused_right) (sc := defScope (topS 32)) (by decide +kernel)) (fun _ _ _ _ _ => pg_name (i := 5) nd rfl (.inr rfl)) (fun _ _ _ _ _ => pts_nil) (fun _ _ _ _ _ =>
    (pe_lamcall (T := [(PT, lamQ)]) (Ng := nm__law_heard) (TT := TTheard C) (k := 7) (t := fun E => tCallS (spIn C) (WE fun cls d _ H => E cls d H) (tCons (tVar 0) (tCons (tVar 5) (tCons (tC .non) tNil)))) (by rfl) Dh.gm Dh.fn.kp lkh hch Dh.bd sc__law_heard rfl (.inl rfl) (heard_gives N) TB rfl (by exact List.mem_cons_self) (fun p hp _ => by rcases List.mem_cons.mp hp with rfl | hp; rfl; cases hp) hr (lamS_by (by rfl)) rfl (fun _ _ _ _ _ => rfl)
      (fun A outer s H E f c' hr2 => pe_callS GI hr2 (by rfl) Di.gm Di.fn.kp Di.bd (fun σ => passAt (takes_of rfl rfl rfl rfl) σ) (pa_cons (pv 0) (pa_cons (pv 5) (pa_cons pe_non pa_nil)))))))
(pss_cons (ps_set (i := 4) nd rfl (.inl rfl) (pe_lst
    (pa_cons (PE.imp (t' := tBadN v1 cs) pe_non (fun σ H Q h => h.2.2 H .non (Same.refl H) (badN_sc rfl (by decide) rfl)))
    (pa_cons (PE.imp (t' := tBadN v1 cs) pe_str (fun σ H Q h => h.2.2 H _ (Same.refl H) (badN_sc rfl (by decide +kernel) (by decide +kernel))))
    (pa_cons (PE.imp (t' := tBadN v1 cs) pe_str (fun σ H Q h => h.2.2 H _ (Same.refl H) ⟨.inl rfl, by decide +kernel, by rw [menu_y cs hcs, Bool.and_false]⟩))
    (pa_cons (PE.imp (t' := tBadN v1 cs) (pe_op op_add_str (pe_ix ix_tup (pv 0) pe_int (fun _ _ => rfl)) pe_str) (fun σ H Q h => by
      obtain ⟨g, ⟨a, st, rfl, ha⟩, q⟩ := h
      exact ⟨_, g, a, _, 0, _, rfl, rfl, SqT.of ha, atI_nat (j := 0) rfl, _, _, rfl, rfl, badN_len hn n4, q _ _ (Same.refl H) (badN_two hn n1 n4)⟩))
    (pa_cons (PE.imp (t' := tBadN v1 cs) (pe_tup (pa_cons (pe_ix ix_str (pe_ix ix_tup (pv 0) pe_int (fun _ _ => rfl)) pe_int (fun _ _ => rfl)) pa_nil)) (fun σ H Q h => by
      obtain ⟨g, ⟨a, st, rfl, ha⟩, q⟩ := h
      exact ⟨_, g, a, _, 0, _, rfl, rfl, SqT.of ha, atI_nat (j := 0) rfl, nmS cs, 0, _, rfl, rfl, nm_size hn n4, at0 hc0, (by show 1 ≤ sizeLine; decide), fun p np => q _ _ (same_upd np) ⟨.inr ⟨p, rfl, .inl ⟨_, upd_same⟩⟩, Nat.zero_le _, rfl⟩⟩))
    (pa_cons (PE.imp (t' := tBadN v1 cs) pe_int (fun σ H Q h => h.2.2 H _ (Same.refl H) (badN_sc rfl (by decide) rfl)))
    (pa_cons (PE.imp (t' := tBadN v1 cs) (pe_upper (pe_ix ix_str (pe_ix ix_tup (pv 0) pe_int (fun _ _ => rfl)) pe_int (fun _ _ => rfl))) (fun σ H Q h => by
      obtain ⟨g, ⟨a, st, rfl, ha⟩, q⟩ := h
      exact ⟨_, g, a, _, 0, _, rfl, rfl, SqT.of ha, atI_nat (j := 0) rfl, nmS cs, 0, _, rfl, rfl, nm_size hn n4, at0 hc0, ⟨_, rfl⟩, _, rfl, rfl, (by show 1 ≤ 5592405; decide), q _ _ (Same.refl H) (badN_sc rfl (menu_up cs hcs _ (List.mem_of_getElem? hc0)).2 (menu_up cs hcs _ (List.mem_of_getElem? hc0)).1)⟩))
    (pa_cons (PE.imp (t' := tBadN v1 cs) (pe_lst (pa_cons (pe_ix ix_str (pe_ix ix_tup (pv 0) pe_int (fun _ _ => rfl)) pe_int (fun _ _ => rfl)) pa_nil)) (fun σ H Q h => by
      obtain ⟨g, ⟨a, st, rfl, ha⟩, q⟩ := h
      exact ⟨_, g, a, _, 0, _, rfl, rfl, SqT.of ha, atI_nat (j := 0) rfl, nmS cs, 0, _, rfl, rfl, nm_size hn n4, at0 hc0, (by show 1 ≤ sizeLine; decide), fun p np => q _ _ (same_upd np) ⟨.inr ⟨p, rfl, .inr ⟨_, upd_same⟩⟩, Nat.zero_le _, rfl⟩⟩)) pa_nil))))))))))
(pss_cons (ps_set (i := 3) nd rfl (.inl rfl) (pe_op op_cat (pv 3) (pe_lc (own := [("_law_odd", 5)]) (g := gName 5) rfl nd (pi_list (pv 4)) (blkOk_by (own := [("_law_odd", 5)]) (N := nm__law_refused_right) (sc := defScope (topS 32)) (by decide +kernel)) (fun _ _ _ _ _ => pg_name (i := 5) nd rfl (.inr rfl)) (fun _ _ _ _ _ => pts_nil) (fun _ _ _ _ _ =>
    (pe_lamcall (T := [(PT, lamQ)]) (Ng := nm__law_heard) (TT := TTheard C) (k := 7) (t := fun E => tCallS (spIn C) (WE fun cls d _ H => E cls d H) (tCons (tVar 0) (tCons (tVar 1) (tCons (tVar 5) tNil)))) (by rfl) Dh.gm Dh.fn.kp lkh hch Dh.bd sc__law_heard rfl (.inl rfl) (heard_gives N) TB rfl (by exact List.mem_cons_self) (fun p hp _ => by rcases List.mem_cons.mp hp with rfl | hp; rfl; cases hp) hr (lamS_by (by rfl)) rfl (fun _ _ _ _ _ => rfl)
      (fun A outer s H E f c' hr2 => pe_callS GI hr2 (by rfl) Di.gm Di.fn.kp Di.bd (fun σ => passAt (takes_of rfl rfl rfl rfl) σ) (pa_cons (pv 0) (pa_cons (pv 1) (pa_cons (pv 5) pa_nil)))))))))
(pss_one (ps_ret (pe_cmpR op_eq (pe_callB (call_reprD hG hr.units) (by rfl) T.z_repr (by decide +kernel) (pa_cons (pv 3) pa_nil)) (pe_callB (call_reprD hG hr.units) (by rfl) T.z_repr (by decide +kernel) (pa_cons (pe_op op_cat (pe_op op_rep (pe_lst (pa_cons (pe_tup (pa_cons pe_str (pa_cons pe_str (pa_cons pe_ng pa_nil)))) pa_nil)) (pe_callB call_len_seq (by rfl) T.z_len (by decide +kernel) (pa_cons (pv 2) pa_nil))) (pe_op op_rep (pe_lst (pa_cons (pe_tup (pa_cons pe_str (pa_cons pe_str (pa_cons pe_ng pa_nil)))) pa_nil)) (pe_callB call_len_seq (by rfl) T.z_len (by decide +kernel) (pa_cons (pv 4) pa_nil)))) pa_nil)) (nomark _))))))))), ?_⟩
  have hN : TolN H b n := by
    obtain ⟨b', ys, e, hb, hp⟩ := h2.arg
    cases e
    exact ⟨ys, _, hb, hp, by rw [paired_len hp, List.length_map, hl]⟩
  have hd := h1.hd
  have S0 := Same.refl H
  refine ⟨rfl, hN.same S0, fun H1 x1 s1 b1 => ?_⟩
  have S1 := S0.trans s1
  have B1 : ∀ x ∈ [x1], Bad H1 n x := all_one b1
  refine ⟨rfl, hN.same S1, fun H2 x2 s2 b2 => ?_⟩
  have S2 := S1.trans s2
  have B2 : ∀ x ∈ [x1, x2], Bad H2 n x := all_app (fun x h => (B1 x h).ext (ExtN.of s2)) (all_one b2)
  refine ⟨rfl, hN.same S2, fun H3 x3 s3 b3 => ?_⟩
  have S3 := S2.trans s3
  have B3 : ∀ x ∈ [x1, x2, x3], Bad H3 n x := all_app (fun x h => (B2 x h).ext (ExtN.of s3)) (all_one b3)
  refine ⟨rfl, hN.same S3, fun H4 x4 s4 b4 => ?_⟩
  have S4 := S3.trans s4
  have B4 : ∀ x ∈ [x1, x2, x3, x4], Bad H4 n x := all_app (fun x h => (B3 x h).ext (ExtN.of s4)) (all_one b4)
  refine ⟨rfl, hN.same S4, fun H5 x5 s5 b5 => ?_⟩
  have S5 := S4.trans s5
  have B5 : ∀ x ∈ [x1, x2, x3, x4, x5], Bad H5 n x := all_app (fun x h => (B4 x h).ext (ExtN.of s5)) (all_one b5)
  refine ⟨rfl, hN.same S5, fun H6 x6 s6 b6 => ?_⟩
  have S6 := S5.trans s6
  have B6 : ∀ x ∈ [x1, x2, x3, x4, x5, x6], Bad H6 n x := all_app (fun x h => (B5 x h).ext (ExtN.of s6)) (all_one b6)
  refine ⟨rfl, hN.same S6, fun H7 x7 s7 b7 => ?_⟩
  have S7 := S6.trans s7
  have B7 : ∀ x ∈ [x1, x2, x3, x4, x5, x6, x7], Bad H7 n x := all_app (fun x h => (B6 x h).ext (ExtN.of s7)) (all_one b7)
  refine ⟨rfl, hN.same S7, fun H8 x8 s8 b8 => ?_⟩
  have S8 := S7.trans s8
  have B8 : ∀ x ∈ [x1, x2, x3, x4, x5, x6, x7, x8], Bad H8 n x := all_app (fun x h => (B7 x h).ext (ExtN.of s8)) (all_one b8)
  refine ⟨(by show 8 ≤ sizeLine; decide), fun l nl => ?_⟩
  have s9 := same_upd (o := .lst [x1, x2, x3, x4, x5, x6, x7, x8]) nl
  have hl9 := fresh nl (o := .lst [x1, x2, x3, x4, x5, x6, x7, x8])
  have S9 := S8.trans s9
  have B9 : ∀ x ∈ [x1, x2, x3, x4, x5, x6, x7, x8], Bad _ n x := fun x h => (B8 x h).ext (ExtN.of s9)
  refine ⟨.ref l, rfl, ?_⟩
  refine ⟨rfl, hN.same S9, fun H10 x10 s10 b10 => ?_⟩
  have S10 := S9.trans s10
  have B10 : ∀ x ∈ [x10], Bad H10 n x := all_one b10
  refine ⟨rfl, hN.same S10, fun H11 x11 s11 b11 => ?_⟩
  have S11 := S10.trans s11
  have B11 : ∀ x ∈ [x10, x11], Bad H11 n x := all_app (fun x h => (B10 x h).ext (ExtN.of s11)) (all_one b11)
  refine ⟨rfl, hN.same S11, fun H12 x12 s12 b12 => ?_⟩
  have S12 := S11.trans s12
  have B12 : ∀ x ∈ [x10, x11, x12], Bad H12 n x := all_app (fun x h => (B11 x h).ext (ExtN.of s12)) (all_one b12)
  refine ⟨rfl, hN.same S12, fun H13 x13 s13 b13 => ?_⟩
  have S13 := S12.trans s13
  have B13 : ∀ x ∈ [x10, x11, x12, x13], Bad H13 n x := all_app (fun x h => (B12 x h).ext (ExtN.of s13)) (all_one b13)
  refine ⟨(by show 4 ≤ sizeLine; decide), fun m nm => ?_⟩
  have s14 := same_upd (o := .lst [x10, x11, x12, x13]) nm
  have hl14 := s14 _ _ (s13 _ _ (s12 _ _ (s11 _ _ (s10 _ _ hl9))))
  refine ⟨l, m, _, _, rfl, rfl, hl14, upd_same, (by show 12 ≤ sizeLine; decide), fun r nr => ?_⟩
  have s15 := same_upd (o := .lst ([x1, x2, x3, x4, x5, x6, x7, x8] ++ [x10, x11, x12, x13])) nr
  have hr15 := fresh nr (o := .lst ([x1, x2, x3, x4, x5, x6, x7, x8] ++ [x10, x11, x12, x13]))
  have S15 := (S13.trans s14).trans s15
  have T15 : ∀ x ∈ [x1, x2, x3, x4, x5, x6, x7, x8] ++ [x10, x11, x12, x13], Bad _ n x := all_app (fun x h => (B9 x h).ext (ExtN.of (((((s10.trans s11).trans s12).trans s13).trans s14).trans s15))) (fun x h => (B13 x h).ext (ExtN.of (s14.trans s15)))
  have xl : ([x1, x2, x3, x4, x5, x6, x7, x8] ++ [x10, x11, x12, x13]).length = 12 := rfl
  have t15 := hT.ext S15
  generalize [x1, x2, x3, x4, x5, x6, x7, x8] ++ [x10, x11, x12, x13] = xs at hr15 T15 xl S15 t15 ⊢
  refine ⟨.ref r, rfl, r, rfl, ⟨_, SqL.of hr15⟩, fun D nD => ?_⟩
  refine lc_list (K := K) (a := r) (xs := xs) (fun i H1 => Hears PT _ D "ranges" i H1 ∧ i ≤ 12) ⟨Hears.start nD t15, by omega⟩ (fun i H1 _ hP => SqL.of (extN_lst hP.1.1 hr15)) (fun i x G1 hi hP => ?_) (fun G1 hP => ?_)
  · have hx : x ∈ xs := List.mem_of_getElem? hi
    have hi12 : i < 12 := by
      have := (List.getElem?_eq_some_iff.mp hi).1
      omega
    obtain ⟨hP, _⟩ := hP
    refine ⟨rfl, hP.2.1, fun G2 e2 t2 => ?_⟩
    obtain ⟨g, g1, g2⟩ := (T15 x hx).ext (hP.1.trans e2)
    refine ⟨v1, rfl, x, rfl, .inr (.inl ⟨v1, x, .non, nmS cs, g, rfl, (hd.same S15).ext (hP.1.trans e2), (by show cs.length ≤ 1000; omega), g1, (by show rngsB cs.length g = false; rw [hn]; exact g2), fun G3 d sm nd => ⟨rfl, d, "ranges", rfl, upd_same, fun p np => ?_⟩⟩)⟩
    have e3 := (sm.trans (same_upd (o := .xd (nuF "ranges")) nd)).trans (same_upd (o := .tup [.str "no", .str "ranges", .int (-1)]) np)
    obtain ⟨acc, a1, a2, a3⟩ := hP.more nD (by omega) (e2.trans (ExtN.of e3)) (t2.ext e3) ⟨p, rfl, upd_same⟩
    exact ⟨acc, a1, a2, a3, by omega⟩
  · obtain ⟨hP, _⟩ := hP
    rw [xl] at hP
    obtain ⟨hE, hTb, acc, hacc, hal, hno⟩ := hP
    have hr20 := extN_lst hE hr15
    have hd20 := (hd.same S15).ext hE
    have S20 := Same.refl G1
    refine ⟨rfl, hd20.ext (ExtN.of S20), fun H21 x21 s21 b21 => ?_⟩
    have S21 := S20.trans s21
    have B21 : ∀ x ∈ [x21], BadN H21 (nmS cs) x := all_one b21
    refine ⟨rfl, hd20.ext (ExtN.of S21), fun H22 x22 s22 b22 => ?_⟩
    have S22 := S21.trans s22
    have B22 : ∀ x ∈ [x21, x22], BadN H22 (nmS cs) x := all_app (fun x h => (B21 x h).ext (ExtN.of s22)) (all_one b22)
    refine ⟨rfl, hd20.ext (ExtN.of S22), fun H23 x23 s23 b23 => ?_⟩
    have S23 := S22.trans s23
    have B23 : ∀ x ∈ [x21, x22, x23], BadN H23 (nmS cs) x := all_app (fun x h => (B22 x h).ext (ExtN.of s23)) (all_one b23)
    refine ⟨rfl, hd20.ext (ExtN.of S23), fun H24 x24 s24 b24 => ?_⟩
    have S24 := S23.trans s24
    have B24 : ∀ x ∈ [x21, x22, x23, x24], BadN H24 (nmS cs) x := all_app (fun x h => (B23 x h).ext (ExtN.of s24)) (all_one b24)
    refine ⟨rfl, hd20.ext (ExtN.of S24), fun H25 x25 s25 b25 => ?_⟩
    have S25 := S24.trans s25
    have B25 : ∀ x ∈ [x21, x22, x23, x24, x25], BadN H25 (nmS cs) x := all_app (fun x h => (B24 x h).ext (ExtN.of s25)) (all_one b25)
    refine ⟨rfl, hd20.ext (ExtN.of S25), fun H26 x26 s26 b26 => ?_⟩
    have S26 := S25.trans s26
    have B26 : ∀ x ∈ [x21, x22, x23, x24, x25, x26], BadN H26 (nmS cs) x := all_app (fun x h => (B25 x h).ext (ExtN.of s26)) (all_one b26)
    refine ⟨rfl, hd20.ext (ExtN.of S26), fun H27 x27 s27 b27 => ?_⟩
    have S27 := S26.trans s27
    have B27 : ∀ x ∈ [x21, x22, x23, x24, x25, x26, x27], BadN H27 (nmS cs) x := all_app (fun x h => (B26 x h).ext (ExtN.of s27)) (all_one b27)
    refine ⟨rfl, hd20.ext (ExtN.of S27), fun H28 x28 s28 b28 => ?_⟩
    have S28 := S27.trans s28
    have B28 : ∀ x ∈ [x21, x22, x23, x24, x25, x26, x27, x28], BadN H28 (nmS cs) x := all_app (fun x h => (B27 x h).ext (ExtN.of s28)) (all_one b28)
    refine ⟨(by show 8 ≤ sizeLine; decide), fun l2 nl2 => ?_⟩
    have s29 := same_upd (o := .lst [x21, x22, x23, x24, x25, x26, x27, x28]) nl2
    have hl29 := fresh nl2 (o := .lst [x21, x22, x23, x24, x25, x26, x27, x28])
    have S29 := S28.trans s29
    have T29 : ∀ x ∈ [x21, x22, x23, x24, x25, x26, x27, x28], BadN _ (nmS cs) x := fun x h => (B28 x h).ext (ExtN.of s29)
    have zl : ([x21, x22, x23, x24, x25, x26, x27, x28]).length = 8 := rfl
    have t29 := hTb.ext S29
    generalize [x21, x22, x23, x24, x25, x26, x27, x28] = zs at hl29 T29 zl S29 t29 ⊢
    refine ⟨.ref D, rfl, .ref l2, rfl, l2, rfl, ⟨_, SqL.of hl29⟩, fun D2 nD2 => ?_⟩
    refine lc_list (K := K) (a := l2) (xs := zs) (fun i H1 => Hears PT _ D2 "name" i H1 ∧ i ≤ 8) ⟨Hears.start nD2 t29, by omega⟩ (fun i H1 _ hP => SqL.of (extN_lst hP.1.1 hl29)) (fun i x G2 hi hP => ?_) (fun G2 hP => ?_)
    · have hx : x ∈ zs := List.mem_of_getElem? hi
      have hi8 : i < 8 := by
        have := (List.getElem?_eq_some_iff.mp hi).1
        omega
      obtain ⟨hP, _⟩ := hP
      refine ⟨rfl, hP.2.1, fun G3 e3 t3 => ?_⟩
      have hb := (T29 x hx).ext (hP.1.trans e3)
      have eA := (((ExtN.of S15).trans hE).trans (ExtN.of S29)).trans (hP.1.trans e3)
      have tol := h2.tups (extN_tups eA)
      refine ⟨v1, rfl, .ref b, rfl, x, rfl, .inr (.inr ⟨v1, .ref b, x, nmS cs, .tup (rs.map argOf), rfl, hd.ext eA, (by show cs.length ≤ 1000; omega), tol.arg, rngs_ok (by show rs.length = cs.length; omega) ho, fun H' sm => hb.1.ext (ExtN.of sm), hb.2.1, hb.2.2, fun G4 d sm nd => ⟨rfl, d, "name", rfl, upd_same, fun p np => ?_⟩⟩)⟩
      have e4 := (sm.trans (same_upd (o := .xd (nuF "name")) nd)).trans (same_upd (o := .tup [.str "no", .str "name", .int (-1)]) np)
      obtain ⟨acc, a1, a2, a3⟩ := hP.more nD2 (by omega) (e3.trans (ExtN.of e4)) (t3.ext e4) ⟨p, rfl, upd_same⟩
      exact ⟨acc, a1, a2, a3, by omega⟩
    · obtain ⟨hP, _⟩ := hP
      rw [zl] at hP
      obtain ⟨hE2, hTb2, acc2, hacc2, hal2, hno2⟩ := hP
      have e29 := (ExtN.of S29).trans hE2
      refine ⟨D, D2, _, _, rfl, rfl, extN_lst e29 hacc, hacc2, (by rw [hal, hal2]; decide), fun r2 nr2 => ?_⟩
      have q1 := same_upd (o := .lst (acc ++ acc2)) nr2
      refine ⟨.ref r2, rfl, r2, refD, rfl, .lst (SqL.of upd_same) (dp_app (no_all' (fun x h => (hno x h).ext (e29.trans (ExtN.of q1))) hal) (no_all' (fun x h => (hno2 x h).ext (ExtN.of q1)) hal2)), refD_ok.1, refD_ok.2.1, refD_ok.2.2.1, refD_ok.2.2.2, ?_⟩
      have hr30 := q1 _ _ (extN_lst e29 hr20)
      have hl30 := q1 _ _ (extN_lst hE2 hl29)
      refine ⟨(by show 3 ≤ sizeLine; decide), fun p1 n1' => ?_⟩
      have q2 := same_upd (o := .tup [.str "no", .str "ranges", .int (-1)]) n1'
      have no1 : IsNo _ "ranges" (.ref p1) := ⟨p1, rfl, fresh n1' (o := .tup [.str "no", .str "ranges", .int (-1)])⟩
      refine ⟨(by show 1 ≤ sizeLine; decide), fun l3 n3 => ?_⟩
      have q3 := same_upd (o := .lst [.ref p1]) n3
      refine ⟨.ref r, rfl, r, xs, rfl, .inl (SqL.of (q3 _ _ (q2 _ _ hr30))), l3, _, _, rfl, rfl, upd_same, by omega, by omega, (by rw [xl]; show 1 * 12 ≤ sizeLine; decide), fun l4 n4' => ?_⟩
      rw [show Int.toNat ((xs.length : Nat) : Int) = 12 by rw [xl]; rfl, rep_flat]
      have q4 := same_upd (o := .lst (List.replicate 12 (.ref p1))) n4'
      refine ⟨(by show 3 ≤ sizeLine; decide), fun p2 n2' => ?_⟩
      have q5 := same_upd (o := .tup [.str "no", .str "name", .int (-1)]) n2'
      have no2 : IsNo _ "name" (.ref p2) := ⟨p2, rfl, fresh n2' (o := .tup [.str "no", .str "name", .int (-1)])⟩
      refine ⟨(by show 1 ≤ sizeLine; decide), fun l5 n5 => ?_⟩
      have q6 := same_upd (o := .lst [.ref p2]) n5
      refine ⟨.ref l2, rfl, l2, zs, rfl, .inl (SqL.of (q6 _ _ (q5 _ _ (q4 _ _ (q3 _ _ (q2 _ _ hl30)))))), l5, _, _, rfl, rfl, upd_same, by omega, by omega, (by rw [zl]; show 1 * 8 ≤ sizeLine; decide), fun l6 n6 => ?_⟩
      rw [show Int.toNat ((zs.length : Nat) : Int) = 8 by rw [zl]; rfl, rep_flat]
      have q7 := same_upd (o := .lst (List.replicate 8 (.ref p2))) n6
      refine ⟨l4, l6, _, _, rfl, rfl, q7 _ _ (q6 _ _ (q5 _ _ upd_same)), upd_same, (by rw [List.length_replicate, List.length_replicate]; decide), fun r3 n7 => ?_⟩
      have q8 := same_upd (o := .lst (List.replicate 12 (.ref p1) ++ List.replicate 8 (.ref p2))) n7
      have k1 := (((((q3.trans q4).trans q5).trans q6).trans q7).trans q8)
      have k2 := (q6.trans q7).trans q8
      refine ⟨r3, refD, rfl, .lst (SqL.of upd_same) (dp_app (no_all' (fun x h => by rw [List.eq_of_mem_replicate h]; exact no1.ext (ExtN.of k1)) List.length_replicate) (no_all' (fun x h => by rw [List.eq_of_mem_replicate h]; exact no2.ext (ExtN.of k2)) List.length_replicate)), refD_ok.1, refD_ok.2.1, refD_ok.2.2.1, refD_ok.2.2.2, rfl, ?_⟩
      have k3 := (q1.trans q2).trans k1
      have fin := q _ ((((ExtN.of S15).trans hE).trans e29).trans (ExtN.of k3)) (hTb2.ext k3)
      have one : decide (V.str refD.shown = V.str refD.shown) = true := decide_eq_true rfl
      rw [← one] at fin
      exact fin
end
end EC

set_option maxHeartbeats 4000000
/-! E20: walks over a text; the data that are shown; what the dict holds -/
namespace EC
open PySem PySem.Spec PyProof.Rows L2 LamX
/-! ### for c in text -/
theorem for_str {x : Str} {g : TG} {tb : TS} {D : Ends} {σ : L2.St} {H : Hp} (Pv : Nat → L2.St → Hp → Prop) (h0 : Pv 0 σ H)
    (hs : ∀ (i c : Nat) (σ : L2.St) (H : Hp), x.cps[i]? = some c → Pv i σ H → g (.str ⟨#[c]⟩) σ H fun σ2 H2 => tb { D with nx := Pv (i + 1), ct := Pv (i + 1), bk := D.nx } σ2 H2) (hd : ∀ σ H, Pv x.cps.size σ H → D.nx σ H) :
    ∃ W : Nat → Nat → L2.St → Hp → Prop, (∃ m, W 0 m σ H) ∧ ∀ i m σ H, W i m σ H →
      ((Its x).stop i H ∧ D.nx σ H) ∨ ((Its x).go i H ∧ ∃ N : L2.St → Hp → Prop, (∀ σ' H', N σ' H' → ∃ m', m' < m ∧ W (i + 1) m' σ' H') ∧ ∀ v H', (Its x).yld i H v H' → g v σ H' fun σ2 H2 => tb { D with nx := N, ct := N, bk := D.nx } σ2 H2) := by
  refine ⟨fun i m σ H => i + m = x.cps.size ∧ Pv i σ H, ⟨x.cps.size, Nat.zero_add _, h0⟩, ?_⟩
  rintro i m σ H ⟨e, hp⟩
  by_cases hi : i < x.cps.size
  · refine .inr ⟨hi, Pv (i + 1), fun σ' H' hN => ⟨m - 1, by omega, by omega, hN⟩, ?_⟩
    rintro v H' ⟨rfl, c, hc, rfl⟩
    exact hs i c σ H' hc hp
  · have ei : i = x.cps.size := by omega
    subst ei
    exact .inl ⟨Nat.le_refl _, hd σ H hp⟩
/-- [.. for c in text] -/
theorem lc_str {x : Str} {g : TG} {tt : TT} {te : TE} {vs : List Nat} {σ : L2.St} {H1 : Hp} {D : Addr} {Qd : Hp → Prop} (Pv : Nat → Hp → Prop) (h0 : Pv 0 (upd H1 D (.lst [])))
    (hs : ∀ (i c : Nat) (H : Hp), x.cps[i]? = some c → Pv i H → g (.str ⟨#[c]⟩) (wipe σ vs) H fun σ2 H2 => wipe σ2 vs = wipe σ vs ∧ tt σ2 H2 fun b H3 =>
      if b = true then te σ2 H3 fun y H4 => ∃ acc, H4 D = some (.lst acc) ∧ acc.length < sizeLine ∧ Pv (i + 1) (upd H4 D (.lst (acc ++ [y]))) else Pv (i + 1) H3) (hd : ∀ H, Pv x.cps.size H → Qd H) :
    ∃ W : Nat → Nat → Hp → Prop, (∃ m, W 0 m (upd H1 D (.lst []))) ∧ ∀ i m H, W i m H →
      ((Its x).stop i H ∧ Qd H) ∨ ((Its x).go i H ∧ ∃ Nx : Hp → Prop, (∀ H', Nx H' → ∃ m', m' < m ∧ W (i + 1) m' H') ∧ ∀ y H', (Its x).yld i H y H' → g y (wipe σ vs) H' fun σ2 H2 => wipe σ2 vs = wipe σ vs ∧ tt σ2 H2 fun b H3 =>
        if b = true then te σ2 H3 fun y H4 => ∃ acc, H4 D = some (.lst acc) ∧ acc.length < sizeLine ∧ Nx (upd H4 D (.lst (acc ++ [y]))) else Nx H3) := by
  refine ⟨fun i m H => i + m = x.cps.size ∧ Pv i H, ⟨x.cps.size, Nat.zero_add _, h0⟩, ?_⟩
  rintro i m H ⟨e, hp⟩
  by_cases hi : i < x.cps.size
  · refine .inr ⟨hi, Pv (i + 1), fun H' hN => ⟨m - 1, by omega, by omega, hN⟩, ?_⟩
    rintro v H' ⟨rfl, c, hc, rfl⟩
    exact hs i c H' hc hp
  · have ei : i = x.cps.size := by omega
    subst ei
    exact .inl ⟨Nat.le_refl _, hd H hp⟩
/-! ### the data of a range -/
def oD : Option Int → PyData
  | none => .none
  | some i => .int i
def rD : Option Rg → PyData
  | none => .none
  | some r => .tuple [oD r.1, oD r.2]
def pairD (r : Option Rg) : PyData := .list [rD r, rD r]
theorem oD_dp {K : PySem.W.Frag} {H : Hp} (o : Option Int) : Dp K H (oV o) (oD o) := by
  cases o with
  | none => exact .non
  | some i => exact .int i
theorem rD_dp {K : PySem.W.Frag} {H : Hp} {v : V} {r : Option Rg} (h : ORgAt H v r) : Dp K H v (rD r) := by
  cases r with
  | none =>
    obtain rfl : v = .non := h
    exact .non
  | some r =>
    obtain ⟨a, rfl, ha⟩ := h
    exact .tup (SqT.of ha) (.cons (oD_dp _) (.cons (oD_dp _) .nil))
def Fit (d : PyData) : Prop := d.showable = true ∧ d.hasDict = false ∧ d.depth ≤ 60 ∧ d.shown.length ≤ sizeLine
theorem ints_ok : ((List.range 61).all fun i : Nat => decide ((PyData.shown (.int ((i : Int) - 30))).length ≤ 13) && decide (((i : Int) - 30).natAbs.log2 < 1920)) = true := by decide +kernel
theorem int_ok {i : Int} (h : -30 ≤ i ∧ i ≤ 30) : decide ((PyData.shown (.int i)).length ≤ 13) = true ∧ decide (i.natAbs.log2 < 1920) = true := by
  have k := List.all_eq_true.mp ints_ok (i + 30).toNat (List.mem_range.mpr (by omega))
  have e : (((i + 30).toNat : Nat) : Int) - 30 = i := by omega
  rw [e, Bool.and_eq_true] at k
  exact k
theorem oD_ok {o : Option Int} (h : ∀ l, o = some l → -30 ≤ l ∧ l ≤ 30) : (oD o).showable = true ∧ (oD o).intsShort 13 = true ∧ (oD o).canLay0 = true ∧ (oD o).hasDict = false ∧ (oD o).depth ≤ 1 ∧ (oD o).weight ≤ 3000 := by
  cases o with
  | none => exact ⟨rfl, rfl, rfl, rfl, by decide +kernel, by decide +kernel⟩
  | some i =>
    obtain ⟨k1, k2⟩ := int_ok (h i rfl)
    refine ⟨?_, ?_, ?_, ?_, ?_, ?_⟩
    · show PyData.showable (.int i) = true
      unfold PyData.showable
      exact k2
    · show PyData.intsShort 13 (.int i) = true
      unfold PyData.intsShort
      exact k1
    · show PyData.canLay0 (.int i) = true
      simp [PyData.canLay0]
    · show PyData.hasDict (.int i) = false
      simp [PyData.hasDict]
    · show PyData.depth (.int i) ≤ 1
      simp [PyData.depth]
    · show PyData.weight (.int i) ≤ 3000
      have k3 := of_decide_eq_true k2
      simp [PyData.weight]
      split <;> omega
theorem fit_nice {o : Option Rg} (h : ∀ r, o = some r → Nice r) : Fit (pairD o) := by
  have key : (rD o).showable = true ∧ (rD o).intsShort 13 = true ∧ (rD o).canLay0 = true ∧ (rD o).hasDict = false ∧ (rD o).depth ≤ 10 ∧ (rD o).weight ≤ 10000 := by
    cases o with
    | none => exact ⟨rfl, rfl, rfl, rfl, by decide +kernel, by decide +kernel⟩
    | some r =>
      obtain ⟨n1, n2, _⟩ := h r rfl
      obtain ⟨a1, a2, a3, a4, a5, a6⟩ := oD_ok n1
      obtain ⟨b1, b2, b3, b4, b5, b6⟩ := oD_ok n2
      refine ⟨?_, ?_, ?_, ?_, ?_, ?_⟩
      · simp [rD, PyData.showable, PyData.showableAll, a1, b1]
      · simp [rD, PyData.intsShort, PyData.intsShortAll, a2, b2]
      · simp [rD, PyData.canLay0, PyData.canLayAll0, a3, b3]
      · simp [rD, PyData.hasDict, PyData.hasDictAll, a4, b4]
      · simp [rD, PyData.depth, PyData.depthAll]
        omega
      · simp [rD, PyData.weight, PyData.weightAll]
        omega
  obtain ⟨a1, a2, a3, a4, a5, a6⟩ := key
  have hd : (pairD o).depth ≤ 20 := by
    simp [pairD, PyData.depth, PyData.depthAll]
    omega
  have hw : (pairD o).weight ≤ 2 ^ 20 := by
    have e : (2 : Nat) ^ 20 = 1048576 := by decide
    rw [e]
    simp [pairD, PyData.weight, PyData.weightAll]
    omega
  refine ⟨?_, ?_, by omega, ?_⟩
  · simp [pairD, PyData.showable, PyData.showableAll, a1]
  · simp [pairD, PyData.hasDict, PyData.hasDictAll, a4]
  · have hl : PyData.layable0 (pairD o) = true := by
      show ((pairD o).canLay0 && decide ((pairD o).depth ≤ 64) && decide ((pairD o).weight ≤ 2 ^ 20)) = true
      rw [decide_eq_true (show (pairD o).depth ≤ 64 by omega), decide_eq_true hw]
      simp [pairD, PyData.canLay0, PyData.canLayAll0, a3]
    have hs : (pairD o).intsShort 13 = true := by simp [pairD, PyData.intsShort, PyData.intsShortAll, a2]
    have := PyProof.Rows.shown_le13 hl hs
    rw [sizeLine_eq]
    omega
theorem comes_nice {cs : List Nat} {rs : List (Option Rg)} {c : Nat} {sts : List Step} (ho : ∀ b r, ownR cs rs b = some r → smB r = true) (hk : ∀ st ∈ sts, Step.ok cs st = true) : ∀ r, comesIn cs rs sts c = some r → Nice r := fun r e => by
  have h : Span (comesIn cs rs sts c) _ := span_fold ho sts none [] hk (.inl ⟨rfl, rfl⟩)
  rcases h with ⟨h, _⟩ | ⟨g, h, k, _⟩
  · rw [e] at h
    cases h
  · rw [e] at h
    cases h
    exact k
/-! ### the dict of the law's own ranges -/
theorem key_eq {c d : Nat} : ((.inr (ch c) : Key) = .inr (ch d)) ↔ c = d := by
  constructor
  · intro h
    have e := congrArg Str.cps (Sum.inr.inj h)
    have e2 : [c] = [d] := congrArg Array.toList e
    exact List.head_eq_of_cons_eq e2
  · rintro rfl
    rfl
theorem atc_snoc {α : Type} : ∀ {cs : List Nat} {ys : List α} {d : Nat} {y : α} {c : Nat}, cs.length = ys.length → d ∉ cs → atc (cs ++ [d]) (ys ++ [y]) c = if c = d then some y else atc cs ys c
  | [], [], d, y, c, _, _ => by
    show (if d = c then some y else atc [] [] c) = _
    by_cases h : d = c
    · rw [if_pos h, if_pos h.symm]
    · rw [if_neg h, if_neg (Ne.symm h)]
  | a :: cs, b :: ys, d, y, c, hl, hn => by
    have ih := atc_snoc (cs := cs) (ys := ys) (d := d) (y := y) (c := c) (Nat.succ.inj hl) (fun z => hn (List.mem_cons_of_mem _ z))
    show (if a = c then some b else atc (cs ++ [d]) (ys ++ [y]) c) = if c = d then some y else (if a = c then some b else atc cs ys c)
    by_cases h : a = c
    · have hcd : ¬ c = d := fun z => hn (by rw [← z, ← h]; exact List.mem_cons_self)
      rw [if_pos h, if_neg hcd, if_pos h]
    · rw [if_neg h, ih, if_neg h]
  | [], _ :: _, _, _, _, hl, _ => nomatch hl
  | _ :: _, [], _, _, _, hl, _ => nomatch hl
theorem atc_at {α : Type} : ∀ {cs : List Nat} {ys : List α} {i c : Nat} {y : α}, cs.Nodup → cs[i]? = some c → ys[i]? = some y → atc cs ys c = some y
  | [], _, _, _, _, _, h, _ => by simp at h
  | _ :: _, [], _, _, _, _, _, h => by simp at h
  | a :: cs, b :: ys, 0, c, y, _, h, k => by
    simp at h k
    subst h k
    exact if_pos rfl
  | a :: cs, b :: ys, i + 1, c, y, hn, h, k => by
    have hm : c ∈ cs := List.mem_of_getElem? (by simpa using h)
    have hne : a ≠ c := fun z => (List.nodup_cons.mp hn).1 (by rw [z]; exact hm)
    exact (if_neg hne).trans (atc_at (List.nodup_cons.mp hn).2 (by simpa using h) (by simpa using k))
theorem menu_nd : ∀ cs ∈ menus, cs.Nodup := by decide +kernel
theorem menu_ok : ∀ cs ∈ menus, ∀ c ∈ cs, (letB (.str (ch c)) && inB (nmS cs) (.str (ch c))) = true := by decide +kernel
/-- the dict at f, filled for these letters -/
def Filled (H : Hp) (f : Addr) (cs : List Nat) (ys : List V) (rs : List (Option Rg)) : Prop := ∃ kvs, H f = some (.dK kvs) ∧ kvs.length ≤ cs.length ∧ (∀ c, valV kvs (.inr (ch c)) = atc cs ys c) ∧ Paired (fun y r => ORgAt H y r) ys rs ∧ cs.length = ys.length ∧ ∀ r ∈ rs, ∀ g, r = some g → smB g = true
end EC

set_option maxHeartbeats 8000000
/-! E21: law -/
namespace EC
open PySem PySem.Spec PyProof.Rows L2 LamX
/-! ### what the steps of the law keep -/
theorem Src.ext {a : Addr} {H H' : Hp} (e : ExtN H H') (h : Src H a) : Src H' a := by
  obtain ⟨ca, ns, sp, r, c, h1, h2⟩ := h
  exact ⟨ca, ns, sp, r, c, extN_dk e h1, extN_lst e h2⟩
/-- a store into a dict beside the source -/
theorem Src.dk {a f : Addr} {H : Hp} {kvs : List (Key × V)} {o : HO} (h : Src H a) (hf : H f = some (.dK kvs)) (n : f ≠ a) : Src (upd H f o) a := by
  obtain ⟨ca, ns, sp, r, c, h1, h2⟩ := h
  exact ⟨ca, ns, sp, r, c, by rw [upd_ne (Ne.symm n)]; exact h1, by rw [upd_ne (fun z => by rw [z, hf] at h2; cases h2)]; exact h2⟩
theorem Tabs.nd {T : List (Addr × Str)} {H H' : Hp} (t : Tabs T H) (e : ∀ b o, H b = some o → (∀ kvs, o ≠ .dK kvs) → H' b = some o) : Tabs T H' := fun p hp => by
  obtain ⟨ps, h1, h2, h3⟩ := t p hp
  refine ⟨ps, e _ _ h1 (fun kvs z => by cases z), h2, fun pos cv hc => ?_⟩
  obtain ⟨c, k1, k2⟩ := h3 pos cv hc
  exact ⟨c, k1, e _ _ k2 (fun kvs z => by unfold CodeO at z; cases z)⟩
theorem Tabs.but {T : List (Addr × Str)} {a : Addr} {H H' : Hp} (t : Tabs T H) (s : Src H a) (b : But a H H') : Tabs T H' := Tabs.nd t fun c o h n => b c o (fun z => by
  obtain ⟨_, _, _, _, _, h1, _⟩ := s
  rw [z, h1] at h
  exact n _ (Option.some.inj h).symm) h
theorem Tabs.dk {T : List (Addr × Str)} {f : Addr} {H : Hp} {kvs : List (Key × V)} {o : HO} (t : Tabs T H) (hf : H f = some (.dK kvs)) : Tabs T (upd H f o) := Tabs.nd t fun c u h n => by
  rw [upd_ne (fun z => by
    rw [z, hf] at h
    exact n _ (Option.some.inj h).symm)]
  exact h
theorem tups_dk {H : Hp} {f : Addr} {kvs : List (Key × V)} {o : HO} (h : H f = some (.dK kvs)) : Tups H (upd H f o) := fun b ys e => by
  rw [upd_ne (fun z => by rw [z, h] at e; cases e)]
  exact e
theorem tol_tups {H H' : Hp} {ys : List V} {rs : List (Option Rg)} (e : Tups H H') (h : Paired (fun y r => ORgAt H y r) ys rs) : Paired (fun y r => ORgAt H' y r) ys rs := paired_imp h fun y r q => ORgAt.tups e q
theorem Filled.but {H H' : Hp} {a f : Addr} {cs : List Nat} {ys : List V} {rs : List (Option Rg)} (h : Filled H f cs ys rs) (n : f ≠ a) (b : But a H H') (t : Tups H H') : Filled H' f cs ys rs := by
  obtain ⟨kvs, h1, h2, h3, h4, h5, h6⟩ := h
  exact ⟨kvs, b _ _ n h1, h2, h3, tol_tups t h4, h5, h6⟩
theorem Filled.put {H : Hp} {f : Addr} {cs : List Nat} {ys : List V} {rs : List (Option Rg)} {c : Nat} {y : V} {r : Option Rg} (h : Filled H f cs ys rs) (n : c ∉ cs) (hy : ORgAt H y r) (hb : ∀ g, r = some g → smB g = true) :
    ∃ kvs, H f = some (.dK kvs) ∧ kvs.length ≤ cs.length ∧ Filled (upd H f (.dK (putK kvs (.inr (ch c)) y))) f (cs ++ [c]) (ys ++ [y]) (rs ++ [r]) := by
  obtain ⟨kvs, h1, h2, h3, h4, h5, h6⟩ := h
  have e := tups_dk (o := .dK (putK kvs (.inr (ch c)) y)) h1
  refine ⟨kvs, h1, h2, _, upd_same, ?_, fun d => ?_, (tol_tups e h4).snoc (ORgAt.tups e hy), by simp [h5], fun s hs g hg => ?_⟩
  · have hk : valV kvs (.inr (ch c)) = none := by
      rw [h3]
      have key : ∀ (cs : List Nat) (ys : List V), c ∉ cs → atc cs ys c = none := by
        intro cs
        induction cs with
        | nil => intro ys _; cases ys <;> rfl
        | cons a cs ih =>
          intro ys hn
          cases ys with
          | nil => rfl
          | cons b ys =>
            have h1 : a ≠ c := fun z => hn (by rw [z]; exact List.mem_cons_self)
            exact (if_neg h1).trans (ih ys fun z => hn (List.mem_cons_of_mem _ z))
      exact key cs ys n
    rw [putK_new y hk, List.length_append, List.length_append]
    exact Nat.add_le_add_right h2 1
  · rw [valV_put, h3, atc_snoc h5 n]
    by_cases hd : d = c
    · rw [if_pos (key_eq.mpr hd), if_pos hd]
    · rw [if_neg (fun z => hd (key_eq.mp z)), if_neg hd]
  · rcases List.mem_append.mp hs with k | k
    · exact h6 s k g hg
    · rcases List.mem_cons.mp k with rfl | k
      · exact hb g hg
      · cases k
theorem Filled.nil {H : Hp} {f : Addr} (h : H f = some (.dK [])) : Filled H f [] [] [] := ⟨[], h, Nat.le_refl _, fun c => rfl, .nil, rfl, fun _ h => nomatch h⟩
theorem Filled.own {H : Hp} {f : Addr} {cs : List Nat} {ys : List V} {rs : List (Option Rg)} (h : Filled H f cs ys rs) : FndAt H f cs (ownR cs rs) := by
  obtain ⟨kvs, h1, h2, h3, h4, h5, h6⟩ := h
  refine ⟨kvs, h1, fun c hc => ?_⟩
  obtain ⟨y, r, e1, e2, e3⟩ := atc_paired h4 h5 hc
  refine ⟨y, (h3 c).trans e1, ?_⟩
  unfold ownR
  rw [e2]
  exact e3
theorem Filled.small {H : Hp} {f : Addr} {cs : List Nat} {ys : List V} {rs : List (Option Rg)} (h : Filled H f cs ys rs) : ∀ b r, ownR cs rs b = some r → smB r = true := by
  obtain ⟨kvs, h1, h2, h3, h4, h5, h6⟩ := h
  intro b r e
  unfold ownR at e
  have key : ∀ (cs : List Nat) (rs : List (Option Rg)), (∀ r ∈ rs, ∀ g, r = some g → smB g = true) → ∀ o, atc cs rs b = some o → ∀ g, o = some g → smB g = true := by
    intro cs
    induction cs with
    | nil => intro rs _ o h; cases rs <;> cases h
    | cons d cs ih =>
      intro rs hr o h
      cases rs with
      | nil => cases h
      | cons r0 rs =>
        have h : (if d = b then some r0 else atc cs rs b) = some o := h
        by_cases hd : d = b
        · rw [if_pos hd] at h
          cases h
          exact hr _ List.mem_cons_self
        · rw [if_neg hd] at h
          exact ih rs (fun r hr' => hr r (List.mem_cons_of_mem _ hr')) o h
  cases ha : atc cs rs b with
  | none => rw [ha] at e; cases e
  | some o =>
    rw [ha] at e
    exact key cs rs h6 o ha r e
theorem ok_src {cs : List Nat} {st : Step} (h : st.ok cs = true) : st.srcIn cs := by
  cases st with
  | is a r => exact True.intro
  | plus a b c =>
    have h : (cs.contains a && (cs.contains b && (decide (-10 ≤ c) && decide (c ≤ 10)))) = true := h
    rw [Bool.and_eq_true, Bool.and_eq_true] at h
    exact List.contains_iff_mem.mp h.2.1
  | within a b r =>
    have h : (cs.contains a && (cs.contains b && smB r)) = true := h
    rw [Bool.and_eq_true, Bool.and_eq_true] at h
    exact List.contains_iff_mem.mp h.2.1
  | when a b r m =>
    have h : (cs.contains a && (cs.contains b && (smB r && smB m))) = true := h
    rw [Bool.and_eq_true, Bool.and_eq_true] at h
    exact List.contains_iff_mem.mp h.2.1
theorem smB_ok {o : Option Rg} (h : ∀ g, o = some g → smB g = true) : okRg o = true := by
  cases o with
  | none => rfl
  | some g =>
    have k : (okRg (some g) && (smE g.1 && smE g.2)) = true := h g rfl
    rw [Bool.and_eq_true] at k
    exact k.1
/-! ### the keyword call -/
def kwI {α : Type} (us ws : List α) : List α := match us, ws with
  | [], [n, r, p] => [p, r, n]
  | _, _ => []
section
variable {P : Program} {w : World} {K : PySem.W.Frag} {mg : Str → Option Value} {base : Heap} {C fI : Addr}
theorem kw_binds {f : Addr} {fd : FuncData} (F : FunD K "incoming_ranges" "incoming_ranges" (defArgs (topS 19)) (defBody (topS 19)) (defScope (topS 19)) [] [] f fd) : KBinds K fd ["program", "ranges", "name"] ["name", "ranges", "program"] kwI kwI := by
  obtain ⟨oc, od, dV, kV, doc, pm, an, cdv, ct, osl, rfl, lk, hcd, hD, hK⟩ := F.ex
  obtain rfl : dV = .none := by
    rcases hD with ⟨_, h⟩ | ⟨h, _⟩
    · exact h
    · exact absurd rfl h
  refine ⟨fun s us ws _ hl => ?_, fun {vs us zs ws} r1 r2 => ?_⟩
  · match us, ws, hl with
    | [], [n, r, p], _ => exact .of_eq rfl
    | [], [], h => cases h
    | [], [_], h => cases h
    | [], [_, _], h => cases h
    | [], _ :: _ :: _ :: _ :: _, h => cases h
    | _ :: _, _, h => cases h
  · cases r1 with
    | cons a b => exact .nil
    | nil =>
      cases r2 with
      | nil => exact .nil
      | cons a1 r2 => cases r2 with
        | nil => exact .nil
        | cons a2 r2 => cases r2 with
          | nil => exact .nil
          | cons a3 r2 => cases r2 with
            | nil => exact .cons a3 (.cons a2 (.cons a1 .nil))
            | cons a4 r2 => exact .nil
end
end EC

set_option maxHeartbeats 8000000
/-! E22: law, its promise -/
namespace EC
open PySem PySem.Spec PyProof.Rows L2 LamX
section
variable {P : Program} {w : World} {K : PySem.W.Frag} {mg : Str → Option Value} {base : Heap} {C fI : Addr}
theorem nd_take : ∀ {cs : List Nat} {i c : Nat}, cs.Nodup → cs[i]? = some c → c ∉ cs.take i
  | [], i, c, _, h => by simp at h
  | a :: cs, 0, c, _, _ => by simp
  | a :: cs, i + 1, c, hn, h => fun z => by
    have hm : cs[i]? = some c := by simpa using h
    rw [List.take_succ_cons] at z
    rcases List.mem_cons.mp z with e | e
    · exact (List.nodup_cons.mp hn).1 (by rw [← e]; exact List.mem_of_getElem? hm)
    · exact nd_take (List.nodup_cons.mp hn).2 hm e
theorem passC {X : Cx} : Passes (L2.CX X.prog X.w) X C8.E0 := fun _ _ _ _ _ _ _ ⟨_, _, _, _, _, _, _, _, _, _, _, _, z⟩ => z.elim
def spLaw (K : PySem.W.Frag) (PT : Addr) : Sp := fun vs H Q _ => ∃ (s : Addr) (ns : List Int), vs = [.ref s] ∧ SqL K H s (ns.map V.int) ∧ ns.length ≤ 63 ∧ Tabs [(PT, lamQ)] H ∧ ∀ H', Q (.bl true) H'
abbrev nm_law : List Str := ["_law_script", "_law_source_here", "_law_lap", "_law_letter", "_law_told", "_law_plan_here", "_law_found", "_law_due_here", "_law_some"]
theorem sc_law : FnScope nm_law ["_law_script"] (defScope (topS 33)) := ⟨rfl, rfl, rfl, by decide +kernel, rfl, by decide +kernel, by decide +kernel⟩
theorem c_law {PT f fr fi : Addr} {fd fdr fdi : FuncData} (D : DfA K mg "law" 33 ["_law_script"] f fd) (Dr : DfA K mg "_law_refused_right" 32 ["_law_plan_here", "_law_told"] fr fdr) (Di : DfA K mg "incoming_ranges" 19 ["program", "ranges", "name"] fi fdi) (T : Txt K mg)
    (c__law_source : C8.Cal P w K mg base 1 "_law_source" (spSource K) []) (c__law_pick : C8.Cal P w K mg base 1 "_law_pick" spPick []) (c__law_range : C8.Cal P w K mg base 3 "_law_range" spRng []) (c__law_plan : C8.Cal P w K mg base 5 "_law_plan" spPlan []) (c__law_due : C8.Cal P w K mg base 4 "_law_due" spDue [])
    (GI : FnOk P w K mg base (L2.CX P w) 7 fi fdi ["program", "ranges", "name"] (spIn C)) (GR : FnG P w K mg base 10 fr fdr ["_law_plan_here", "_law_told"] (spRef C PT))
    (hc : ∀ cdv, (∃ oc od dV kV doc pm an ct osl, K.lookup f = some ⟨oc, od, .func (PySem.W.fnOf "law" "law" (defArgs (topS 33)) (defBody (topS 33)) (defScope (topS 33)) dV kV doc pm an cdv ct), osl⟩) → ∃ c', cdv = .ref c' ∧ True) :
    FnG P w K mg base 11 f fd ["_law_script"] (spLaw K PT) := by
  refine FnG.of (N := nm_law) D.fn sc_law (fun c' => True) hc (fun vs H Q E h => ?_) (fun c' A outer s H vs Q E _ hG hr h => ?_)
  · obtain ⟨s, ns, rfl, _⟩ := h
    rfl
  obtain ⟨sc, ns, rfl, hs, hn, hT, q⟩ := h
  have nd := sc_law.nd
  have hu := hu_of hr
  have hG : (A.deeper (envOfC "law" (defScope (topS 33)) s.heap.objs.size f (.ref c'))).guards = some [] := hG
  have KB := kw_binds Di.fn
  refine ⟨_, (pss_cons (ps_set (i := 1) nd rfl (.inl rfl) (C8.pe_c c__law_source hr (by decide) (by rfl) (pa_cons (pv 0) pa_nil)))
(pss_cons (ps_for PassesOwn.never rfl (pi_range1 (by rfl) T.z_range (pa_cons pe_int pa_nil)) (pg_name (i := 2) nd rfl (.inl rfl))
(pss_cons (ps_asg (pe_tup (pa_cons (C8.pe_c c__law_plan hr (by decide) (by rfl) (pa_cons (pv 1) (pa_cons pe_int pa_nil))) (pa_cons pe_dnewK pa_nil))) (pg_tup rfl (pgs_cons (pg_name (i := 5) nd rfl (.inl rfl)) (pgs_cons (pg_name (i := 6) nd rfl (.inr rfl)) pgs_nil))))
(pss_cons (ps_for PassesOwn.never rfl (pi_str (pe_ix ix_tup (pv 5) pe_int (fun _ _ => rfl))) (pg_name (i := 3) nd rfl (.inl rfl))
(pss_one (ps_dput hu (pv 6) (pv 3) (pe_ifExp (pt_cmpR op_eq (C8.pe_c c__law_pick hr (by decide) (by rfl) (pa_cons (pv 1) (pa_cons pe_int pa_nil))) pe_int (nomark _)) pe_non (C8.pe_c c__law_range hr (by decide) (by rfl) (pa_cons (pv 1) pa_nil))) rfl)))
(pss_cons (ps_set (i := 4) nd rfl (.inl rfl) (pe_callTy call_tuple_of (by rfl) T.z_tuple (by decide +kernel) (pa_cons (pe_lc (own := [("_law_letter", 3)]) (g := gName 3) rfl nd (pi_str (pe_ix ix_tup (pv 5) pe_int (fun _ _ => rfl))) (blkOk_by (own := [("_law_letter", 3)]) (N := nm_law) (sc := defScope (topS 33)) (by decide +kernel)) (fun _ _ _ _ _ => pg_name (i := 3) nd rfl (.inl rfl)) (fun _ _ _ _ _ => pts_nil) (fun _ _ _ _ _ => (pe_dget hu (pv 6) (pv 3) (fun _ _ => rfl)))) pa_nil)))
(pss_cons (ps_for PassesOwn.never rfl (pi_str (pe_ix ix_tup (pv 5) pe_int (fun _ _ => rfl))) (pg_name (i := 3) nd rfl (.inl rfl))
(pss_cons (ps_set (i := 7) nd rfl (.inl rfl) (C8.pe_c c__law_due hr (by decide) (by rfl) (pa_cons (pv 5) (pa_cons (pv 6) (pa_cons (pv 3) pa_nil)))))
(pss_cons (ps_set (i := 8) nd rfl (.inl rfl) (pe_lst (pa_cons (pe_call GI (hr.mono (by decide)) (by rfl) Di.gm Di.fn.kp Di.bd .nil passC (pa_cons (pv 5) (pa_cons (pv 4) (pa_cons (pv 3) pa_nil)))) (pa_cons (pe_callK0 GI (hr.mono (by decide)) (by rfl) Di.gm Di.fn.kp KB passC (pk_cons (pv 3) (pk_cons (pv 4) (pk_cons (pv 5) pk_nil)))) pa_nil))))
(pss_one (ps_if (pt_cmpR op_ne (pe_callB (call_reprD hG hr.units) (by rfl) T.z_repr (by decide +kernel) (pa_cons (pv 8) pa_nil)) (pe_callB (call_reprD hG hr.units) (by rfl) T.z_repr (by decide +kernel) (pa_cons (pe_lst (pa_cons (pv 7) (pa_cons (pv 7) pa_nil))) pa_nil)) (nomark _))
(pss_one (ps_ret pe_bl))
pss_nil)))))
(pss_one (ps_if (pt_not (pt_val (pe_callG GR hG hr (by rfl) Dr.gm Dr.fn.kp Dr.bd (pa_cons (pv 5) (pa_cons (pv 4) pa_nil)))))
(pss_one (ps_ret pe_bl))
pss_nil)))))))
(pss_one (ps_ret pe_bl)))), ?_⟩
  refine ⟨.ref sc, rfl, sc, ns, rfl, hs, hn, fun H1 a sm na hsrc => ?_⟩
  refine ⟨3, rfl, by decide, by decide, for_range (n := 3) (fun i σ H' => ∃ x2 x3 x4 x5 x6 x7 x8, σ = [some (.ref sc), some (.ref a), x2, x3, x4, x5, x6, x7, x8] ∧ Src H' a ∧ Tabs [(PT, lamQ)] H') ⟨_, _, _, _, _, _, _, rfl, hsrc, hT.ext sm⟩ ?_ ?_⟩
  · rintro i σ H' _ ⟨x2, x3, x4, x5, x6, x7, x8, rfl, hs', ht⟩
    refine ⟨.ref a, rfl, a, rfl, hs', fun H2 v cs sts s2 b2 hcs hp hok h8 => ?_⟩
    refine fun fa nfa => ⟨(by show 2 ≤ sizeLine; decide), fun tp ntp => ⟨tp, _, rfl, SqT.of upd_same, rfl, _, _, rfl, _, _, rfl, rfl, ?_⟩⟩
    obtain ⟨hd1, hd4⟩ := menu_pos cs hcs
    have hnd := menu_nd cs hcs
    have nfs : fa ≠ a := Ne.symm (by
      obtain ⟨_, _, _, _, _, e1, _⟩ := s2
      exact ne_of_none e1 nfa)
    have g1 := (same_upd (o := .dK []) nfa).trans (same_upd (o := .tup [v, .ref fa]) ntp)
    have sG := s2.same g1
    have tG := (Tabs.but ht hs' b2).ext g1
    have pG := hp.tups (Same.tups g1)
    have fG := Filled.nil (keep (u := .tup [v, .ref fa]) ntp (fresh nfa (o := .dK [])))
    generalize upd (upd H2 fa (.dK [])) tp (.tup [v, .ref fa]) = G at sG tG pG fG ⊢
    clear g1 hp s2 b2 nfa ntp ht hs' H2
    obtain ⟨pa, sa, xs, rfl, hpa, hsa, hx⟩ := id pG
    -- the law's own ranges
    refine ⟨.ref pa, rfl, pa, _, 0, _, rfl, rfl, SqT.of hpa, atI_nat (j := 0) rfl, nmS cs, rfl, for_str (x := nmS cs) (fun i σ H' => ∃ x2 x3 x4 x7 x8 ys rs, σ = [some (.ref sc), some (.ref a), x2, x3, x4, some (.ref pa), some (.ref fa), x7, x8] ∧ Src H' a ∧ Tabs [(PT, lamQ)] H' ∧ PrgAt H' (.ref pa) cs sts ∧ Filled H' fa (cs.take i) ys rs) ⟨_, _, _, _, _, [], [], rfl, sG, tG, pG, fG⟩ ?_ ?_⟩
    · rintro i c σ H3 hc ⟨x2, x3, x4, x7, x8, ys, rs, rfl, s3, t3, p3, f3⟩
      have hc' : cs[i]? = some c := by simpa using hc
      have nin : c ∉ cs.take i := nd_take hnd hc'
      have tk : cs.take (i + 1) = cs.take i ++ [c] := take_more hc'
      have done : ∀ (H4 : Hp) (y : V) (r : Option Rg), Src H4 a → But a H3 H4 → ORgAt H4 y r → (∀ g, r = some g → smB g = true) →
          ∃ kvs, H4 fa = some (.dK kvs) ∧ kvs.length < sizeLine ∧ ∃ ys' rs', Src (upd H4 fa (.dK (putK kvs (.inr (ch c)) y))) a ∧ Tabs [(PT, lamQ)] (upd H4 fa (.dK (putK kvs (.inr (ch c)) y))) ∧ PrgAt (upd H4 fa (.dK (putK kvs (.inr (ch c)) y))) (.ref pa) cs sts ∧ Filled (upd H4 fa (.dK (putK kvs (.inr (ch c)) y))) fa (cs.take (i + 1)) ys' rs' := by
        intro H4 y r s4 b4 hy hb
        have u4 := s3.tups b4
        obtain ⟨kvs, k1, k2, k3⟩ := (f3.but nfs b4 u4).put nin hy hb
        have hlen : (cs.take i).length ≤ 4 := by rw [List.length_take]; omega
        refine ⟨kvs, k1, small1000 (by omega), ys ++ [y], rs ++ [r], s4.dk k1 nfs, Tabs.dk (Tabs.but t3 s3 b4) k1, (p3.tups u4).tups (tups_dk k1), ?_⟩
        rw [tk]
        exact k3
      refine ⟨.ref a, rfl, a, 5, rfl, s3, by decide, by decide, fun H4 r s4 b4 _ _ => ?_⟩
      refine ⟨rfl, _, rfl, ite2 (fun _ => ?_) (fun _ => ?_)⟩
      · obtain ⟨kvs, k1, k2, ys', rs', z1, z2, z3, z4⟩ := done H4 .non none s4 b4 rfl (fun g h => by cases h)
        exact ⟨.ref fa, rfl, .str (ch c), rfl, fa, _, rfl, DPut.k (k := .inr (ch c)) k1 k2, _, _, _, _, _, ys', rs', rfl, z1, z2, z3, z4⟩
      · refine ⟨.ref a, rfl, a, rfl, s4, fun H5 y g s5 b5 hy hg => ?_⟩
        obtain ⟨kvs, k1, k2, ys', rs', z1, z2, z3, z4⟩ := done H5 y (some g) s5 (b4.trans b5) hy (fun g' h => by cases h; exact hg)
        exact ⟨.ref fa, rfl, .str (ch c), rfl, fa, _, rfl, DPut.k (k := .inr (ch c)) k1 k2, _, _, _, _, _, ys', rs', rfl, z1, z2, z3, z4⟩
    · rintro σ H3 ⟨x2, x3, x4, x7, x8, ys, rs, rfl, s3, t3, p3, f3⟩
      have hsz : (nmS cs).cps.size = cs.length := by simp
      rw [hsz, List.take_of_length_le (Nat.le_refl _)] at f3
      have fnd := f3.own
      have small := f3.small
      obtain ⟨kvs, hf, hk1, hk2, hyr, hcy, hrs⟩ := f3
      obtain ⟨pa2, sa2, xs2, e1, hpa3, hsa3, hx3⟩ := id p3
      cases e1
      have hat : ∀ {i c : Nat}, (nmS cs).cps[i]? = some c → cs[i]? = some c := fun h => by simpa using h
      -- told
      refine ⟨.ref pa, rfl, pa, _, 0, _, rfl, rfl, SqT.of hpa3, atI_nat (j := 0) rfl, nmS cs, rfl, fun D nD => ?_⟩
      refine lc_str (x := nmS cs) (fun i H' => Same H3 H' ∧ H' D = some (.lst (ys.take i))) ⟨same_upd nD, upd_same⟩ (fun i c H4 hc hP => ?_) (fun H4 hP => ?_)
      · have hc' := hat hc
        have hi : i < cs.length := (List.getElem?_eq_some_iff.mp hc').1
        have hy : ys[i]? = some (ys[i]'(by omega)) := List.getElem?_eq_getElem (by omega)
        have hv := (hk2 c).trans (atc_at hnd hc' hy)
        refine ⟨rfl, .ref fa, rfl, .str (ch c), rfl, fa, _, rfl, fget (hP.1 _ _ hf) hv, _, hP.2, ?_, fun b o e => ?_, ?_⟩
        · rw [List.length_take]
          exact small1000 (by omega)
        · rw [upd_ne (ne_of_none e nD)]
          exact hP.1 _ _ e
        · rw [upd_same, take_more hy]
      obtain ⟨sm4, hD⟩ := hP
      rw [hsz, List.take_of_length_le (by omega)] at hD
      refine ⟨D, ys, rfl, .inl ⟨SqL.of hD, fun t nt => ?_⟩⟩
      have g4 := sm4.trans (same_upd (o := .tup ys) nt)
      have s4 := s3.same g4
      have t4 := t3.ext g4
      have p4 := p3.tups (Same.tups g4)
      have fnd4 := fnd.same g4
      have tol4 : TolAt (upd H4 t (.tup ys)) (.ref t) rs := ⟨t, ys, rfl, upd_same, tol_tups (Same.tups g4) hyr⟩
      have hpa4 := g4 _ _ hpa3
      generalize upd H4 t (.tup ys) = G4 at s4 t4 p4 fnd4 tol4 hpa4 ⊢
      have hlen : cs.length = rs.length := hcy.trans (paired_len hyr)
      have srcs : ∀ st ∈ sts, Step.srcIn cs st := fun st h => ok_src (hok st h)
      have okr : ∀ r ∈ rs, okRg r = true := fun r h => smB_ok (hrs r h)
      -- the letters
      refine ⟨.ref pa, rfl, pa, _, 0, _, rfl, rfl, SqT.of hpa4, atI_nat (j := 0) rfl, nmS cs, rfl, for_str (x := nmS cs) (fun i σ H' => ∃ x2 x3 x7 x8, σ = [some (.ref sc), some (.ref a), x2, x3, some (.ref t), some (.ref pa), some (.ref fa), x7, x8] ∧ Same G4 H') ⟨_, _, _, _, rfl, Same.refl G4⟩ ?_ ?_⟩
      · rintro i c σ H5 hc ⟨x2, x3, x7, x8, rfl, sm5⟩
        have hcm : c ∈ cs := List.mem_of_getElem? (hat hc)
        refine ⟨.ref pa, rfl, .ref fa, rfl, .str (ch c), rfl, .ref pa, fa, cs, sts, ownR cs rs, c, rfl, p4.tups (Same.tups sm5), fnd4.same sm5, srcs, h8, fun H6 v o sm6 hd hv => ?_⟩
        obtain rfl : o = comesIn cs rs sts c := due_comes small hok hd
        have sm56 := sm5.trans sm6
        refine ⟨.ref pa, rfl, .ref t, rfl, .str (ch c), rfl, .inl ⟨.ref pa, .ref t, cs, rs, sts, c, rfl, p4.tups (Same.tups sm56), tol4.tups (Same.tups sm56), hlen, by omega, srcs, okr, menu_ok cs hcs c hcm, fun H7 v1 sm7 hv1 => ?_⟩⟩
        have sm57 := sm56.trans sm7
        refine ⟨.str (ch c), rfl, .ref t, rfl, .ref pa, rfl, .inl ⟨.ref pa, .ref t, cs, rs, sts, c, rfl, p4.tups (Same.tups sm57), tol4.tups (Same.tups sm57), hlen, by omega, srcs, okr, menu_ok cs hcs c hcm, fun H8 v2 sm8 hv2 => ?_⟩⟩
        refine ⟨(by show 2 ≤ sizeLine; decide), fun l nl => ?_⟩
        have q1 := same_upd (o := .lst [v1, v2]) nl
        obtain ⟨f1, f2, f3, f4⟩ := fit_nice (comes_nice (c := c) small hok)
        refine ⟨.ref l, rfl, l, pairD (comesIn cs rs sts c), rfl, .lst (SqL.of upd_same) (.cons (rD_dp (ORgAt.tups (Same.tups (sm8.trans q1)) hv1)) (.cons (rD_dp (ORgAt.tups (Same.tups q1) hv2)) .nil)), f1, f2, f3, f4, ?_⟩
        refine ⟨v, rfl, v, rfl, (by show 2 ≤ sizeLine; decide), fun l2 nl2 => ?_⟩
        have q2 := same_upd (o := .lst [v, v]) nl2
        have hv' := ORgAt.tups (Same.tups (((sm7.trans sm8).trans q1).trans q2)) hv
        refine ⟨l2, pairD (comesIn cs rs sts c), rfl, .lst (SqL.of upd_same) (.cons (rD_dp hv') (.cons (rD_dp hv') .nil)), f1, f2, f3, f4, rfl, _, rfl, ite2 (fun e => ?_) (fun _ => ?_)⟩
        · have e : (!decide (V.str (pairD (comesIn cs rs sts c)).shown = V.str (pairD (comesIn cs rs sts c)).shown)) = true := e
          rw [decide_eq_true rfl] at e
          cases e
        · exact ⟨_, _, _, _, rfl, (((sm57.trans sm8).trans q1).trans q2)⟩
      · rintro σ H5 ⟨x2, x3, x7, x8, rfl, sm5⟩
        refine ⟨.ref pa, rfl, .ref t, rfl, .ref pa, t, cs, sts, rs, rfl, p4.tups (Same.tups sm5), hcs, tol4.tups (Same.tups sm5), hlen.symm, okr, t4.ext sm5, fun H6 e6 t6 => ?_⟩
        exact ⟨true, rfl, iteF ⟨_, _, _, _, _, _, _, rfl, (s4.same sm5).ext e6, t6⟩⟩
  · rintro σ H' ⟨x2, x3, x4, x5, x6, x7, x8, rfl, hs', ht⟩
    exact q H'
end
end EC

set_option maxHeartbeats 8000000
/-! E23: the end: from the law's promise to the row -/
namespace EC
open PySem PySem.Spec PyProof.Rows L2 LamX
abbrev tab0 : Obj := { cls := .none, data := .fields #[] }
abbrev lstO (vs : List Value) : Obj := { cls := .type "list", data := .seq vs.toArray }
/-- what is tracked at the law's call: the table, and the script where the written part does not hold it -/
def entryH (K : PySem.W.Frag) (PT a : Addr) (vs : List Value) (ns : List Int) : Hp := fun b => if b = PT then some (.tbl #[]) else if b = a ∧ K.lookup a = none then some (.frz (lstO vs) (.lst (ns.map V.int))) else none
section
variable {P : Program} {w : World} {K : PySem.W.Frag} {PT a : Addr} {vs : List Value} {ns : List Int} {h : Heap}
theorem entry_tab : entryH K PT a vs ns PT = some (.tbl #[]) := if_pos rfl
theorem entry_of {b : Addr} {u : HO} (e : entryH K PT a vs ns b = some u) : (b = PT ∧ u = .tbl #[]) ∨ (b = a ∧ K.lookup a = none ∧ u = .frz (lstO vs) (.lst (ns.map V.int))) := by
  unfold entryH at e
  split at e
  · rename_i q
    exact .inl ⟨q, (Option.some.inj e).symm⟩
  · split at e
    · rename_i q
      exact .inr ⟨q.1, q.2, (Option.some.inj e).symm⟩
    · cases e
theorem entry_script (ne : a ≠ PT) (hk : K.lookup a = none) : entryH K PT a vs ns a = some (.frz (lstO vs) (.lst (ns.map V.int))) := (if_neg ne).trans (if_pos ⟨rfl, hk⟩)
theorem entry_free {b : Addr} {o : Obj} (hT : h.get? PT = some tab0) (ha : h.get? a = some (lstO vs)) (e : h.get? b = some o) (n1 : o ≠ tab0) (n2 : o ≠ lstO vs) : entryH K PT a vs ns b = none := by
  cases q : entryH K PT a vs ns b with
  | none => rfl
  | some u =>
    rcases entry_of q with ⟨rfl, _⟩ | ⟨rfl, _, _⟩
    · rw [hT] at e
      exact absurd (Option.some.inj e).symm n1
    · rw [ha] at e
      exact absurd (Option.some.inj e).symm n2
theorem entry_in {b : Addr} {o : Obj} (nT : K.lookup PT = none) (e : K.lookup b = some o) : entryH K PT a vs ns b = none := by
  cases q : entryH K PT a vs ns b with
  | none => rfl
  | some u =>
    rcases entry_of q with ⟨rfl, _⟩ | ⟨rfl, k, _⟩
    · rw [nT] at e; cases e
    · rw [k] at e; cases e
theorem entry_ok (hT : h.get? PT = some tab0) (ha : h.get? a = some (lstO vs)) (rv : Vals (ns.map V.int) vs) (hl : ns.length ≤ sizeLine) : HOk P w (entryH K PT a vs ns) h := fun b u e => by
  rcases entry_of e with ⟨rfl, rfl⟩ | ⟨rfl, _, rfl⟩
  · exact hT
  · exact ⟨ha, by rw [List.length_map]; exact hl, vs, _, rv, ha⟩
end
theorem law_callG {P : Program} {w : World} {K : PySem.W.Frag} {mg mb : Str → Option Value} {k : Nat} {fa a c PT : Addr} {fd : FuncData} {x : Str} {sp : Sp} {s₁ : Shared} {vs : List Value} {ns : List Int} (KX : K.In s₁.heap) (hns : s₁.heap.Ns mainGlobals mg) (hb : s₁.heap.Ns builtinsNs mb)
    (hbb : ∀ x : Str, x ≠ "__name__" → mb x = bootBuiltins x) (hlim : s₁.heap.NoLimit) (hg : s₁.gens = #[]) (hT : s₁.heap.get? PT = some tab0) (nT : K.lookup PT = none) (C : PySem.W.CodeHd s₁.heap c PT)
    (hbm : ∃ (bm : Addr) (ob : Obj), mg "__builtins__" = some (.ref bm) ∧ bm ≠ builtinsNs ∧ s₁.heap.get? bm = some ob ∧ ob.cls = .type "module" ∧ ob.dict = some builtinsNs ∧ ob.data = .plain) (ha : s₁.heap.get? a = some (lstO vs)) (hi : IntsAre vs ns) (hl : ns.length ≤ sizeLine) (hr : Room k callerA)
    (F : ∀ base : Heap, K.In base → base.Ns mainGlobals mg → TabB base mg c PT → FnG P w K mg base k fa fd [x] sp) (hbind : ∀ (s : Shared) (u : Value), BindsTo s fd ⟨[u], []⟩ [(x, u)])
    (hsp : ∀ H : Hp, H PT = some (.tbl #[]) → SqL K H a (ns.map V.int) → sp [.ref a] H (fun v _ => v = .bl true) fun _ _ _ => False) :
    codeAny (model P w) callerA (.call (.ref fa) ⟨[.ref a], []⟩) (fun r s' => r = .ok (.ret (.bool true)) ∧ OldK s₁.heap s'.heap ∧ s'.os = s₁.os ∧ AllBare s'.gens) s₁ := by
  have rv := vals_ints hi
  have ne : a ≠ PT := fun z => by rw [z, hT] at ha; cases ha
  have hS : SqL K (entryH K PT a vs ns) a (ns.map V.int) := by
    cases hk : K.lookup a with
    | none => exact .inl (.inr ⟨_, entry_script ne hk⟩)
    | some o =>
      have e := KX a o hk
      rw [ha] at e
      cases e
      exact .inr ⟨_, vs.toArray, _, hk, rfl, rfl, rfl, (by rw [List.size_toArray, hi.length]; exact hl), (by simpa using rv)⟩
  have lay : ∀ {b : Addr} {o : Obj}, s₁.heap.get? b = some o → o ≠ tab0 → o ≠ lstO vs → (hidT s₁.heap (entryH K PT a vs ns)).get? b = some o := fun e n1 n2 => hidT_get e (entry_free hT ha e n1 n2)
  have names : ∀ {b : Addr} {m : Str → Option Value}, s₁.heap.Ns b m → (hidT s₁.heap (entryH K PT a vs ns)).Ns b m := fun ⟨o, es, ep, e, d, r⟩ => ⟨o, es, ep, lay e (fun z => by rw [z] at d; cases d) (fun z => by rw [z] at d; cases d), d, r⟩
  have KB : K.In (hidT s₁.heap (entryH K PT a vs ns)) := fun b o e => hidT_get (KX b o e) (entry_in nT e)
  have hM : L2.Mod K mg (hidT s₁.heap (entryH K PT a vs ns)) := ⟨KB, names hns, ⟨mb, names hb, hbb⟩, hlim.elim fun mc q => ⟨mc, names q.1, q.2⟩⟩
  have TB : TabB (hidT s₁.heap (entryH K PT a vs ns)) mg c PT := by
    refine ⟨?_, ?_, fun z => ?_⟩
    · obtain ⟨o, us, file, tf, flags, tg, inF, text, tt, e1, r1, r2, r3, rest⟩ := C
      refine ⟨o, us, file, tf, flags, tg, inF, text, tt, lay e1 (fun z => ?_) (fun z => ?_), r1, r2, r3, rest⟩
      · rw [z] at r2
        cases r2
        simp at r3
      · rw [z] at r2
        cases r2
    · obtain ⟨bm, ob, b1, b2, b3, b4, b5, b6⟩ := hbm
      refine ⟨bm, ob, b1, b2, fun z => ?_, fun z => ?_, lay b3 (fun z => by rw [z] at b6; cases b6) (fun z => by rw [z] at b6; cases b6), b4, b5, b6⟩
      · obtain ⟨o, es, ep, e, d, _⟩ := hns
        rw [← z, b3] at e
        cases e
        rw [b6] at d
        cases d
      · rw [z, hT] at b3
        cases b3
        cases b6
    · obtain ⟨o, es, ep, e, d, _⟩ := hns
      rw [z, hT] at e
      cases e
      cases d
  have e0 : Env0 P w K mg (hidT s₁.heap (entryH K PT a vs ns)) callerA [] s₁ (entryH K PT a vs ns) := ⟨rfl, hM, fun b o e => of_hidT e, Nat.le_of_eq (hidT_size _ _), trivial, (fun b hb => nomatch hb), entry_ok hT ha rv hl, .of_eq hg⟩
  refine codeAny_mono ((F _ KB (names hns) TB).go callerA [] s₁ (entryH K PT a vs ns) ⟨[.ref a], []⟩ [.ref a] [.ref a] _ _ rfl hr e0 (hbind s₁ (.ref a)) (.cons rfl .nil) (hsp _ entry_tab hS)) fun r s' h => ?_
  cases r with
  | error e => exact (show False from h).elim
  | ok fl => cases fl with
    | ret u =>
      obtain ⟨v, H', os, bare, un, hok', r', q⟩ := h
      obtain rfl : v = .bl true := q
      obtain rfl : u = Value.bool true := r'
      obtain ⟨more, hm⟩ := un.tbls PT #[] entry_tab
      have grown : s'.heap.get? PT = some { cls := .none, data := .fields (#[] ++ more) } := hok' PT _ hm
      have kept : ∀ b o, b ≠ PT → s₁.heap.get? b = some o → s'.heap.get? b = some o := fun b o nb e => by
        cases z : entryH K PT a vs ns b with
        | none => exact un.keep b o e z (fun m => nomatch m) (fun m => nomatch m)
        | some u =>
          rcases entry_of z with ⟨k, _⟩ | ⟨rfl, _, rfl⟩
          · exact absurd k nb
          · have z2 := hok' b _ (un.frzs b (lstO vs) _ z)
            rw [e.symm.trans ha]
            exact z2.1
      refine ⟨rfl, ⟨fun b o e => ?_, fun b o e => ?_⟩, os, bare⟩
      · by_cases hbp : b = PT
        · subst hbp
          cases hT.symm.trans e
          exact .inr (.inl ⟨(C.tab hT).isCodeTable, rfl, #[], more, rfl, grown⟩)
        · exact .inl (kept b o hbp e)
      · by_cases hbp : b = PT
        · exact ⟨_, by rw [hbp]; exact grown⟩
        · exact ⟨o, kept b o hbp e⟩
    | _ => exact (show False from h).elim
end EC

set_option maxHeartbeats 8000000
/-! E24: all promises from the facts -/
namespace EC
open PySem PySem.Spec PyProof.Rows L2 LamX
section
variable {P : Program} {w : World} {K : PySem.W.Frag} {mg : Str → Option Value} {base h : Heap} {C fI : Addr}
theorem dfa_of {x : Str} {i : Nat} {ps : List Str} {f : Addr} {oc kV dc pm cd ct : Value} {od an : Option Addr} {sl : Array (Option Value)} (X : K.In h) (G : h.Ns mainGlobals mg) (a : PySem.W.nsIn K mainGlobals x = some (some (.ref f)))
    (l : K.lookup f = some ⟨oc, od, .func (PySem.W.fnOf x x (defArgs (topS i)) (defBody (topS i)) (defScope (topS i)) .none kV dc pm an cd ct), sl⟩) (c : PySem.W.codeIn K cd x = true) (k : PySem.W.keepIn K (.ref f) = true)
    (hb : ∀ (kV dc pm : Value) (an : Option Addr) (cd ct : Value) (us : List Value), us.length = ps.length → bindArgs (PySem.W.fnOf x x (defArgs (topS i)) (defBody (topS i)) (defScope (topS i)) .none kV dc pm an cd ct) ⟨us, []⟩ = pure (ps.zip us)) :
    DfA K mg x i ps f (PySem.W.fnOf x x (defArgs (topS i)) (defBody (topS i)) (defScope (topS i)) .none kV dc pm an cd ct) := by
  have F : FunD K x x (defArgs (topS i)) (defBody (topS i)) (defScope (topS i)) [] [] f (PySem.W.fnOf x x (defArgs (topS i)) (defBody (topS i)) (defScope (topS i)) .none kV dc pm an cd ct) := ⟨⟨oc, od, .none, kV, dc, pm, an, cd, ct, sl, rfl, l, c, .inl ⟨rfl, rfl⟩, .inl rfl⟩, k⟩
  exact ⟨F, PySem.W.mg_of X G a, F.bindsN hb⟩
theorem DfA.df {x : Str} {i : Nat} {ps : List Str} {f : Addr} {fd : FuncData} (D : DfA K mg x i ps f fd) : Df K mg x i ps := ⟨f, fd, D.fn, D.gm, D.bd⟩
theorem code_of {f c : Addr} {x : Str} {pa : Arguments} {b : List Stmt} {sc : Scope} {oc dV kV dc pm ct : Value} {od an : Option Addr} {sl : Array (Option Value)} (l : K.lookup f = some ⟨oc, od, .func (PySem.W.fnOf x x pa b sc dV kV dc pm an (.ref c) ct), sl⟩) :
    ∀ cdv, (∃ oc od dV kV doc pm an ct osl, K.lookup f = some ⟨oc, od, .func (PySem.W.fnOf x x pa b sc dV kV doc pm an cdv ct), osl⟩) → ∃ c', cdv = .ref c' ∧ c' = c := by
  rintro cdv ⟨_, _, _, _, _, _, _, _, _, e⟩
  have z := Option.some.inj (l.symm.trans e)
  have y : Value.ref c = cdv := congrArg (fun o : Obj => match o.data with | .func fd => fd.code | _ => .none) z
  exact ⟨c, y.symm, rfl⟩
/-- an error of the class at S is what «except S» names -/
theorem exm_self {K : PySem.W.Frag} {S : Addr} (h1 : PySem.W.subIn K (.ref S) (.type "BaseException") = some true) (h2 : PySem.W.isClsIn K S = true) (h3 : PySem.W.typeIn K (.ref S) = some (.type "type")) (h4 : PySem.W.subIn K (.ref S) (.ref S) = some true) :
    PySem.W.exmOne K (.ref S) (.ref S) = some true := by
  have e1 : (PySem.W.subIn K (.ref S) (.type "BaseException") == some true) = true := by rw [h1] <;> rfl
  have e2 : ((PySem.W.clsIn K S).isSome && PySem.W.typeIn K (.ref S) == some (.type "type")) = true := by
    have h2' : (PySem.W.clsIn K S).isSome = true := h2
    rw [h2', h3] <;> rfl
  show (if (PySem.W.subIn K (.ref S) (.type "BaseException") == some true) = true then (if ((PySem.W.clsIn K S).isSome && PySem.W.typeIn K (.ref S) == some (.type "type")) = true then PySem.W.subIn K (.ref S) (.ref S) else none) else none) = some true
  rw [if_pos e1, if_pos e2]
  exact h4
theorem nu_of {nm q : Str} {Nc : Addr} {bs : List Value} {sn : List Str} {sub : List Value} {ab : Bool} {col : Option Bool} {dd : Option Addr} {m0 m1 m2 m3 m5 : Option Value} {r1 r2 : Addr} {oc kV doc pm ct : Value} {od an : Option Addr} {cda cc : Addr} {osl ccs csl : Array (Option Value)} {ccl cl : Value} {cdd cld : Option Addr} {vs : Array Value} {file : Str} {tf : Tok}
    (X : K.In h) (G : h.Ns mainGlobals mg) (aC : PySem.W.nsIn K mainGlobals "NotUsable" = some (some (.ref C))) (zs : PySem.W.nsIn K mainGlobals "super" = some none)
    (xL : K.lookup C = some (excClassObj nm q C Nc bs [.ref r1, .ref r2, .type "ValueError", .type "Exception", .type "BaseException", .type "object"] true sn sub ab col dd m0 m1 m2 m3 m5 "ValueError.__new__"))
    (sa : PySem.W.findIn K (.ref C) "__setattr__" = some (some (.builtin "object.__setattr__"))) (ga : PySem.W.findIn K (.ref C) "__getattribute__" = some (some (.builtin "BaseException.__getattribute__"))) (gg : PySem.W.findIn K (.ref C) "__getattr__" = some none)
    (nW : PySem.W.findIn K (.ref C) "word" = some none) (nA : PySem.W.findIn K (.ref C) "at" = some none) (iC : PySem.W.findIn K (.ref C) "__init__" = some (some (.ref fI))) (tC : PySem.W.typeIn K (.ref fI) = some (.type "function")) (kC : PySem.W.keepIn K (.ref C) = true)
    (exC : PySem.W.subIn K (.ref C) (.type "BaseException") = some true) (exV : PySem.W.subIn K (.ref C) (.type "ValueError") = some true) (tyC : PySem.W.typeIn K (.ref C) = some (.type "type")) (hdC : PySem.W.hasDictIn K C = true) (isC : PySem.W.isClsIn K C = true) (sC : PySem.W.subIn K (.ref C) (.ref C) = some true)
    (mro : PySem.W.mroIn K C (.ref C) = some true) (sup : PySem.W.ks_superIn K C C "__init__" = some (some (.builtin "ValueError.__init__"))) (tp : PySem.W.nsIn K cStatics "thirdparty.any" = some none) (ntop : (P.main.scope.names.lookup ("super" : Str)).isSome = false)
    (lI : K.lookup fI = some ⟨oc, od, .func (PySem.W.ksFn "__init__" "NotUsable.__init__" (defArgs sNI) (defBody sNI) (defScope sNI) .none kV doc pm an (.ref cda) ct cc), osl⟩) (cI : PySem.W.codeIn K (.ref cda) "NotUsable.__init__" = true)
    (lcda : K.lookup cda = some ⟨ccl, cdd, .fields vs, ccs⟩) (hvs : vs[2]? = some (.str file tf)) (hfile : ((P.main.file : Str) == file) = true) (lcc : K.lookup cc = some ⟨cl, cld, .cell (some (.ref C)), csl⟩) : NuTxt P K mg C fI :=
  { gC := PySem.W.mg_of X G aC, zs := PySem.W.mg_none_of X G zs, cls := ⟨nm, q, Nc, bs, _, sn, sub, ab, col, dd, m0, m1, m2, m3, m5, xL, by rfl⟩, sa := sa, ga := ga, gg := gg, noW := nW, noA := nA, iC := iC, tC := tC, kC := kC, exC := exC, exV := exV, tyC := tyC, hdC := hdC, te := exm_self exC isC tyC sC, mro := mro, sup := sup, tp := tp, ntop := ntop,
    fn := ⟨oc, od, kV, doc, pm, an, cda, ct, cc, osl, ccl, cdd, vs, ccs, file, tf, cl, cld, csl, lI, cI, lcda, hvs, hfile, lcc⟩ }
theorem txt_of {t : Tok} (X : K.In h) (G : h.Ns mainGlobals mg) (gL : PySem.W.nsIn K mainGlobals "LETTERS" = some (some (.str "abcdefghijklmnopqrstuvwxyz" t)))
    (z : ∀ x ∈ (["isinstance", "int", "bool", "str", "tuple", "list", "len", "all", "zip", "range", "min", "max", "repr"] : List Str), PySem.W.nsIn K mainGlobals x = some none) : Txt K mg := by
  have n : ∀ x ∈ (["isinstance", "int", "bool", "str", "tuple", "list", "len", "all", "zip", "range", "min", "max", "repr"] : List Str), mg x = none := fun x hx => PySem.W.mg_none_of X G (z x hx)
  exact ⟨⟨t, PySem.W.mg_of X G gL⟩, n _ (by decide +kernel), n _ (by decide +kernel), n _ (by decide +kernel), n _ (by decide +kernel), n _ (by decide +kernel), n _ (by decide +kernel), n _ (by decide +kernel), n _ (by decide +kernel), n _ (by decide +kernel), n _ (by decide +kernel), n _ (by decide +kernel), n _ (by decide +kernel), n _ (by decide +kernel)⟩
theorem all_law {c PT f5 f6 f9 f10 f11 f12 f13 f14 f15 f16 f17 f18 f19 f21 f22 f23 f24 f25 f26 f27 f28 f29 f30 f31 f32 f33 : Addr} {d5 d6 d9 d10 d11 d12 d13 d14 d15 d16 d17 d18 d19 d21 d22 d23 d24 d25 d26 d27 d28 d29 d30 d31 d32 d33 : FuncData}
    (D5 : DfA K mg "is_integer" 5 ["thing"] f5 d5)
    (D6 : DfA K mg "is_end" 6 ["thing"] f6 d6)
    (D9 : DfA K mg "is_letter" 9 ["thing"] f9 d9)
    (D10 : DfA K mg "is_range" 10 ["thing"] f10 d10)
    (D11 : DfA K mg "is_name_of" 11 ["program", "thing"] f11 d11)
    (D12 : DfA K mg "are_ranges_of" 12 ["program", "thing"] f12 d12)
    (D13 : DfA K mg "range_at" 13 ["names", "ranges", "name"] f13 d13)
    (D14 : DfA K mg "joined" 14 ["one", "other"] f14 d14)
    (D15 : DfA K mg "shared" 15 ["one", "other"] f15 d15)
    (D16 : DfA K mg "shifted_range" 16 ["one", "by"] f16 d16)
    (D17 : DfA K mg "came_by" 17 ["program", "ranges", "step"] f17 d17)
    (D18 : DfA K mg "comes_in" 18 ["program", "ranges", "name"] f18 d18)
    (D19 : DfA K mg "incoming_ranges" 19 ["program", "ranges", "name"] f19 d19)
    (D21 : DfA K mg "_law_source" 21 ["_law_script"] f21 d21)
    (D22 : DfA K mg "_law_pick" 22 ["_law_source_here", "_law_many"] f22 d22)
    (D23 : DfA K mg "_law_any" 23 ["_law_source_here", "_law_some"] f23 d23)
    (D24 : DfA K mg "_law_range" 24 ["_law_source_here"] f24 d24)
    (D25 : DfA K mg "_law_step" 25 ["_law_source_here", "_law_letters"] f25 d25)
    (D26 : DfA K mg "_law_plan" 26 ["_law_source_here", "_law_wide"] f26 d26)
    (D27 : DfA K mg "_law_heard" 27 ["_law_ask"] f27 d27)
    (D28 : DfA K mg "_law_has" 28 ["_law_range_in", "_law_v"] f28 d28)
    (D29 : DfA K mg "_law_has_some" 29 ["_law_one", "_law_other"] f29 d29)
    (D30 : DfA K mg "_law_all_in" 30 ["_law_step_in", "_law_found"] f30 d30)
    (D31 : DfA K mg "_law_due" 31 ["_law_plan_here", "_law_found", "_law_letter"] f31 d31)
    (D32 : DfA K mg "_law_refused_right" 32 ["_law_plan_here", "_law_told"] f32 d32)
    (D33 : DfA K mg "law" 33 ["_law_script"] f33 d33)
    (T : Txt K mg) (N : NuTxt P K mg C fI) (TB : TabB base mg c PT)
    (h32 : (∀ cdv, (∃ oc od dV kV doc pm an ct osl, K.lookup f32 = some ⟨oc, od, .func (PySem.W.fnOf "_law_refused_right" "_law_refused_right" (defArgs (topS 32)) (defBody (topS 32)) (defScope (topS 32)) dV kV doc pm an cdv ct), osl⟩) → ∃ c', cdv = .ref c' ∧ c' = c))
    (h33 : (∀ cdv, (∃ oc od dV kV doc pm an ct osl, K.lookup f33 = some ⟨oc, od, .func (PySem.W.fnOf "law" "law" (defArgs (topS 33)) (defBody (topS 33)) (defScope (topS 33)) dV kV doc pm an cdv ct), osl⟩) → ∃ c', cdv = .ref c' ∧ True)) :
    FnG P w K mg base 11 f33 d33 ["_law_script"] (spLaw K PT) := by
  have k_is_integer := c_is_integer (P := P) (w := w) (base := base) D5.df T
  have k_is_end := c_is_end (P := P) (w := w) (base := base) D6.df T k_is_integer
  have k_is_letter := c_is_letter (P := P) (w := w) (base := base) D9.df T
  have k_is_range := c_is_range (P := P) (w := w) (base := base) D10.df T k_is_integer k_is_end
  have k_is_name_of := c_is_name_of (P := P) (w := w) (base := base) D11.df T k_is_letter
  have k_are_ranges_of := c_are_ranges_of (P := P) (w := w) (base := base) D12.df T k_is_range
  have k_range_at := c_range_at (P := P) (w := w) (base := base) D13.df T
  have k_joined := c_joined (P := P) (w := w) (base := base) D14.df 
  have k_shared := c_shared (P := P) (w := w) (base := base) D15.df k_is_range
  have k_shifted_range := c_shifted_range (P := P) (w := w) (base := base) D16.df 
  have k_came_by := c_came_by (P := P) (w := w) (base := base) D17.df k_range_at k_shifted_range k_shared
  have k_comes_in := c_comes_in (P := P) (w := w) (base := base) D18.df k_joined k_came_by
  have k__law_source := c__law_source (P := P) (w := w) (base := base) D21.df T
  have k__law_pick := c__law_pick (P := P) (w := w) (base := base) D22.df T
  have k__law_any := c__law_any (P := P) (w := w) (base := base) D23.df T k__law_pick
  have k__law_range := c__law_range (P := P) (w := w) (base := base) D24.df k__law_pick k__law_any
  have k__law_step := c__law_step (P := P) (w := w) (base := base) D25.df k__law_pick k__law_any k__law_range
  have k__law_plan := c__law_plan (P := P) (w := w) (base := base) D26.df T k__law_pick k__law_any k__law_step
  have k__law_has := c__law_has (P := P) (w := w) (base := base) D28.df 
  have k__law_has_some := c__law_has_some (P := P) (w := w) (base := base) D29.df T k__law_has
  have k__law_all_in := c__law_all_in (P := P) (w := w) (base := base) D30.df T k__law_has k__law_has_some
  have k__law_due := c__law_due (P := P) (w := w) (base := base) D31.df T k__law_all_in
  have GI := c_incoming (P := P) (w := w) (base := base) D19.fn N k_are_ranges_of k_is_name_of k_comes_in
  have GR := c_refused (w := w) D32 D27 D19 T N GI TB h32
  exact c_law D33 D32 D19 T k__law_source k__law_pick k__law_range k__law_plan k__law_due GI GR h33
theorem law_end {mb : Str → Option Value} {fa a c c33 PT f5 f6 f9 f10 f11 f12 f13 f14 f15 f16 f17 f18 f19 f21 f22 f23 f24 f25 f26 f27 f28 f29 f30 f31 f32 f33 : Addr} {d5 d6 d9 d10 d11 d12 d13 d14 d15 d16 d17 d18 d19 d21 d22 d23 d24 d25 d26 d27 d28 d29 d30 d31 d32 d33 : FuncData} {s₁ : Shared} {vs : List Value} {ns : List Int} {oc32 dV32 kV32 dc32 pm32 ct32 oc33 dV33 kV33 dc33 pm33 ct33 : Value} {od32 an32 od33 an33 : Option Addr} {sl32 sl33 : Array (Option Value)}
    (KX : K.In s₁.heap) (hns : s₁.heap.Ns mainGlobals mg) (hb : s₁.heap.Ns builtinsNs mb) (hbb : ∀ x : Str, x ≠ "__name__" → mb x = bootBuiltins x) (hlim : s₁.heap.NoLimit) (hg : s₁.gens = #[]) (hT : PySem.W.CodeHd s₁.heap c PT ∧ s₁.heap.get? PT = some tab0) (nT : K.lookup PT = none)
    (hbm : ∃ (bm : Addr) (ob : Obj), mg "__builtins__" = some (.ref bm) ∧ bm ≠ builtinsNs ∧ s₁.heap.get? bm = some ob ∧ ob.cls = .type "module" ∧ ob.dict = some builtinsNs ∧ ob.data = .plain) (ha : s₁.heap.get? a = some (lstO vs)) (hi : IntsAre vs ns) (hl : ns.length ≤ 63) (hmg : mg "law" = some (.ref fa))
    (D5 : DfA K mg "is_integer" 5 ["thing"] f5 d5)
    (D6 : DfA K mg "is_end" 6 ["thing"] f6 d6)
    (D9 : DfA K mg "is_letter" 9 ["thing"] f9 d9)
    (D10 : DfA K mg "is_range" 10 ["thing"] f10 d10)
    (D11 : DfA K mg "is_name_of" 11 ["program", "thing"] f11 d11)
    (D12 : DfA K mg "are_ranges_of" 12 ["program", "thing"] f12 d12)
    (D13 : DfA K mg "range_at" 13 ["names", "ranges", "name"] f13 d13)
    (D14 : DfA K mg "joined" 14 ["one", "other"] f14 d14)
    (D15 : DfA K mg "shared" 15 ["one", "other"] f15 d15)
    (D16 : DfA K mg "shifted_range" 16 ["one", "by"] f16 d16)
    (D17 : DfA K mg "came_by" 17 ["program", "ranges", "step"] f17 d17)
    (D18 : DfA K mg "comes_in" 18 ["program", "ranges", "name"] f18 d18)
    (D19 : DfA K mg "incoming_ranges" 19 ["program", "ranges", "name"] f19 d19)
    (D21 : DfA K mg "_law_source" 21 ["_law_script"] f21 d21)
    (D22 : DfA K mg "_law_pick" 22 ["_law_source_here", "_law_many"] f22 d22)
    (D23 : DfA K mg "_law_any" 23 ["_law_source_here", "_law_some"] f23 d23)
    (D24 : DfA K mg "_law_range" 24 ["_law_source_here"] f24 d24)
    (D25 : DfA K mg "_law_step" 25 ["_law_source_here", "_law_letters"] f25 d25)
    (D26 : DfA K mg "_law_plan" 26 ["_law_source_here", "_law_wide"] f26 d26)
    (D27 : DfA K mg "_law_heard" 27 ["_law_ask"] f27 d27)
    (D28 : DfA K mg "_law_has" 28 ["_law_range_in", "_law_v"] f28 d28)
    (D29 : DfA K mg "_law_has_some" 29 ["_law_one", "_law_other"] f29 d29)
    (D30 : DfA K mg "_law_all_in" 30 ["_law_step_in", "_law_found"] f30 d30)
    (D31 : DfA K mg "_law_due" 31 ["_law_plan_here", "_law_found", "_law_letter"] f31 d31)
    (D32 : DfA K mg "_law_refused_right" 32 ["_law_plan_here", "_law_told"] f32 d32)
    (D33 : DfA K mg "law" 33 ["_law_script"] f33 d33)
    (T : Txt K mg) (N : NuTxt P K mg C fI)
    (l32 : K.lookup f32 = some ⟨oc32, od32, .func (PySem.W.fnOf "_law_refused_right" "_law_refused_right" (defArgs (topS 32)) (defBody (topS 32)) (defScope (topS 32)) dV32 kV32 dc32 pm32 an32 (.ref c) ct32), sl32⟩)
    (l33 : K.lookup f33 = some ⟨oc33, od33, .func (PySem.W.fnOf "law" "law" (defArgs (topS 33)) (defBody (topS 33)) (defScope (topS 33)) dV33 kV33 dc33 pm33 an33 (.ref c33) ct33), sl33⟩) :
    codeAny (model P w) callerA (.call (.ref fa) ⟨[.ref a], []⟩) (fun r s' => r = .ok (.ret (.bool true)) ∧ OldK s₁.heap s'.heap ∧ s'.os = s₁.os ∧ AllBare s'.gens) s₁ := by
  cases hmg.symm.trans D33.gm
  refine law_callG (k := 11) KX hns hb hbb hlim hg hT.2 nT hT.1 hbm ha hi (Nat.le_of_lt (small1000 (by omega))) ⟨rfl, by decide, by decide⟩ (fun base KB GB TB => all_law D5 D6 D9 D10 D11 D12 D13 D14 D15 D16 D17 D18 D19 D21 D22 D23 D24 D25 D26 D27 D28 D29 D30 D31 D32 D33 T N TB (code_of l32) (fun cdv e => ?_)) (fun s u => D33.fn.bindsA (ps := ["_law_script"]) (fun _ _ _ _ _ _ us hl => match us, hl with | [_], _ => rfl) s [u] rfl) (fun H hH hS => ⟨a, ns, rfl, hS, hl, ?_, fun _ => rfl⟩)
  · obtain ⟨c', e1, _⟩ := code_of l33 cdv e
    exact ⟨c', e1, True.intro⟩
  · intro p hp
    rcases List.mem_cons.mp hp with rfl | hp
    · exact TabS.nil hH
    · cases hp
end
theorem walkG {l : PySem.W.OpenLaw} {n : Nat} {q : Program} {loose : List Str} {XP : (Str → Option Value) → Heap → Prop} {YP : World → Heap → Prop} {d : DefRec} (hn : l.most = some n) (hdf : d.params.defaults = []) (hdn : d.name = ("law" : Str))
    (F : ∀ (w : World) (s₁ : Shared) (mg mb : Str → Option Value) (fa a : Addr) (vs : List Value) (ns : List Int) (loose' : List Str) (mean : ExcName → Option Value), Top q loose' mean mg mb s₁.heap → YP w s₁.heap → mg "law" = some (.ref fa) → s₁.heap.get? a = some (lstO vs) → IntsAre vs ns → ns.length ≤ n → s₁.gens = #[] →
      codeAny (model l.prog w) callerA (.call (.ref fa) ⟨[.ref a], []⟩) (fun r s' => r = .ok (.ret (.bool true)) ∧ OldK s₁.heap s'.heap ∧ s'.os = s₁.os ∧ AllBare s'.gens) s₁) : PySem.W.WalkO q loose XP YP l.row.toRowW d [] (fun f vs => PySem.call f vs) :=
  Att.attach_callB hn hdf fun w s₀ s₁ mg mb fa o pm cd doc a vs ns G Y ho hd hcd hmg hobj hints hlen hbits hg => F w s₁ mg mb fa a vs ns _ _ G.T Y (hdn ▸ hmg) hobj hints hlen hg
end EC

set_option maxHeartbeats 0
open PySem PySem.W PyProof.Rows
theorem PySem.Challenge.cw_endclimbs_k66_whole_what_comes_in_holds : PySem.Challenge.rw_endclimbs_k66_whole_what_comes_in.Holds := by
  w_on; o_law; k_head; (case hw => w_witness2)
  k_fill
  refine EC.walkG (n := 63) rfl rfl rfl fun w s₁ mg mb fa a vs ns loose' mean Tp Y hmg hobj hints hlen hg => ?_
  have KX := PySem.W.km_in_of Y
  refine' EC.law_end KX Tp.g Tp.b Tp.builtins Tp.nolimit hg ⟨PySem.W.codeHd_of_K KX ?chd, PySem.W.km_tabs_of Y _ List.mem_cons_self⟩ ?nT Tp.bmain hobj hints hlen hmg
    (EC.dfa_of KX Tp.g ?a5 ?l5 ?c5 ?k5 fun _ _ _ _ _ _ us hl => match us, hl with | [_], _ => rfl)
    (EC.dfa_of KX Tp.g ?a6 ?l6 ?c6 ?k6 fun _ _ _ _ _ _ us hl => match us, hl with | [_], _ => rfl)
    (EC.dfa_of KX Tp.g ?a9 ?l9 ?c9 ?k9 fun _ _ _ _ _ _ us hl => match us, hl with | [_], _ => rfl)
    (EC.dfa_of KX Tp.g ?a10 ?l10 ?c10 ?k10 fun _ _ _ _ _ _ us hl => match us, hl with | [_], _ => rfl)
    (EC.dfa_of KX Tp.g ?a11 ?l11 ?c11 ?k11 fun _ _ _ _ _ _ us hl => match us, hl with | [_, _], _ => rfl)
    (EC.dfa_of KX Tp.g ?a12 ?l12 ?c12 ?k12 fun _ _ _ _ _ _ us hl => match us, hl with | [_, _], _ => rfl)
    (EC.dfa_of KX Tp.g ?a13 ?l13 ?c13 ?k13 fun _ _ _ _ _ _ us hl => match us, hl with | [_, _, _], _ => rfl)
    (EC.dfa_of KX Tp.g ?a14 ?l14 ?c14 ?k14 fun _ _ _ _ _ _ us hl => match us, hl with | [_, _], _ => rfl)
    (EC.dfa_of KX Tp.g ?a15 ?l15 ?c15 ?k15 fun _ _ _ _ _ _ us hl => match us, hl with | [_, _], _ => rfl)
    (EC.dfa_of KX Tp.g ?a16 ?l16 ?c16 ?k16 fun _ _ _ _ _ _ us hl => match us, hl with | [_, _], _ => rfl)
    (EC.dfa_of KX Tp.g ?a17 ?l17 ?c17 ?k17 fun _ _ _ _ _ _ us hl => match us, hl with | [_, _, _], _ => rfl)
    (EC.dfa_of KX Tp.g ?a18 ?l18 ?c18 ?k18 fun _ _ _ _ _ _ us hl => match us, hl with | [_, _, _], _ => rfl)
    (EC.dfa_of KX Tp.g ?a19 ?l19 ?c19 ?k19 fun _ _ _ _ _ _ us hl => match us, hl with | [_, _, _], _ => rfl)
    (EC.dfa_of KX Tp.g ?a21 ?l21 ?c21 ?k21 fun _ _ _ _ _ _ us hl => match us, hl with | [_], _ => rfl)
    (EC.dfa_of KX Tp.g ?a22 ?l22 ?c22 ?k22 fun _ _ _ _ _ _ us hl => match us, hl with | [_, _], _ => rfl)
    (EC.dfa_of KX Tp.g ?a23 ?l23 ?c23 ?k23 fun _ _ _ _ _ _ us hl => match us, hl with | [_, _], _ => rfl)
    (EC.dfa_of KX Tp.g ?a24 ?l24 ?c24 ?k24 fun _ _ _ _ _ _ us hl => match us, hl with | [_], _ => rfl)
    (EC.dfa_of KX Tp.g ?a25 ?l25 ?c25 ?k25 fun _ _ _ _ _ _ us hl => match us, hl with | [_, _], _ => rfl)
    (EC.dfa_of KX Tp.g ?a26 ?l26 ?c26 ?k26 fun _ _ _ _ _ _ us hl => match us, hl with | [_, _], _ => rfl)
    (EC.dfa_of KX Tp.g ?a27 ?l27 ?c27 ?k27 fun _ _ _ _ _ _ us hl => match us, hl with | [_], _ => rfl)
    (EC.dfa_of KX Tp.g ?a28 ?l28 ?c28 ?k28 fun _ _ _ _ _ _ us hl => match us, hl with | [_, _], _ => rfl)
    (EC.dfa_of KX Tp.g ?a29 ?l29 ?c29 ?k29 fun _ _ _ _ _ _ us hl => match us, hl with | [_, _], _ => rfl)
    (EC.dfa_of KX Tp.g ?a30 ?l30 ?c30 ?k30 fun _ _ _ _ _ _ us hl => match us, hl with | [_, _], _ => rfl)
    (EC.dfa_of KX Tp.g ?a31 ?l31 ?c31 ?k31 fun _ _ _ _ _ _ us hl => match us, hl with | [_, _, _], _ => rfl)
    (EC.dfa_of KX Tp.g ?a32 ?l32 ?c32 ?k32 fun _ _ _ _ _ _ us hl => match us, hl with | [_, _], _ => rfl)
    (EC.dfa_of KX Tp.g ?a33 ?l33 ?c33 ?k33 fun _ _ _ _ _ _ us hl => match us, hl with | [_], _ => rfl)
    (EC.txt_of KX Tp.g ?gL ?gz)
    (EC.nu_of KX Tp.g ?u_aC ?u_zs ?u_xL ?u_sa ?u_ga ?u_gg ?u_nW ?u_nA ?u_iC ?u_tC ?u_kC ?u_exC ?u_exV ?u_tyC ?u_hdC ?u_isC ?u_sC ?u_mro ?u_sup ?u_tp ?u_ntop ?u_lI ?u_cI ?u_lcda ?u_hvs ?u_hfile ?u_lcc)
    ?l32 ?l33
  (case a5 => k_is); (case l5 => k_is); (case c5 => k_is); (case k5 => k_is)
  (case a6 => k_is); (case l6 => k_is); (case c6 => k_is); (case k6 => k_is)
  (case a9 => k_is); (case l9 => k_is); (case c9 => k_is); (case k9 => k_is)
  (case a10 => k_is); (case l10 => k_is); (case c10 => k_is); (case k10 => k_is)
  (case a11 => k_is); (case l11 => k_is); (case c11 => k_is); (case k11 => k_is)
  (case a12 => k_is); (case l12 => k_is); (case c12 => k_is); (case k12 => k_is)
  (case a13 => k_is); (case l13 => k_is); (case c13 => k_is); (case k13 => k_is)
  (case a14 => k_is); (case l14 => k_is); (case c14 => k_is); (case k14 => k_is)
  (case a15 => k_is); (case l15 => k_is); (case c15 => k_is); (case k15 => k_is)
  (case a16 => k_is); (case l16 => k_is); (case c16 => k_is); (case k16 => k_is)
  (case a17 => k_is); (case l17 => k_is); (case c17 => k_is); (case k17 => k_is)
  (case a18 => k_is); (case l18 => k_is); (case c18 => k_is); (case k18 => k_is)
  (case a19 => k_is); (case l19 => k_is); (case c19 => k_is); (case k19 => k_is)
  (case a21 => k_is); (case l21 => k_is); (case c21 => k_is); (case k21 => k_is)
  (case a22 => k_is); (case l22 => k_is); (case c22 => k_is); (case k22 => k_is)
  (case a23 => k_is); (case l23 => k_is); (case c23 => k_is); (case k23 => k_is)
  (case a24 => k_is); (case l24 => k_is); (case c24 => k_is); (case k24 => k_is)
  (case a25 => k_is); (case l25 => k_is); (case c25 => k_is); (case k25 => k_is)
  (case a26 => k_is); (case l26 => k_is); (case c26 => k_is); (case k26 => k_is)
  (case a27 => k_is); (case l27 => k_is); (case c27 => k_is); (case k27 => k_is)
  (case a28 => k_is); (case l28 => k_is); (case c28 => k_is); (case k28 => k_is)
  (case a29 => k_is); (case l29 => k_is); (case c29 => k_is); (case k29 => k_is)
  (case a30 => k_is); (case l30 => k_is); (case c30 => k_is); (case k30 => k_is)
  (case a31 => k_is); (case l31 => k_is); (case c31 => k_is); (case k31 => k_is)
  (case a32 => k_is); (case l32 => k_is); (case c32 => k_is); (case k32 => k_is)
  (case a33 => k_is); (case l33 => k_is); (case c33 => k_is); (case k33 => k_is)
  (case gL => k_is)
  case gz =>
    intro x hx
    rcases List.mem_cons.mp hx with rfl | hx
    · k_is
    rcases List.mem_cons.mp hx with rfl | hx
    · k_is
    rcases List.mem_cons.mp hx with rfl | hx
    · k_is
    rcases List.mem_cons.mp hx with rfl | hx
    · k_is
    rcases List.mem_cons.mp hx with rfl | hx
    · k_is
    rcases List.mem_cons.mp hx with rfl | hx
    · k_is
    rcases List.mem_cons.mp hx with rfl | hx
    · k_is
    rcases List.mem_cons.mp hx with rfl | hx
    · k_is
    rcases List.mem_cons.mp hx with rfl | hx
    · k_is
    rcases List.mem_cons.mp hx with rfl | hx
    · k_is
    rcases List.mem_cons.mp hx with rfl | hx
    · k_is
    rcases List.mem_cons.mp hx with rfl | hx
    · k_is
    rcases List.mem_cons.mp hx with rfl | hx
    · k_is
    cases hx
  (case u_aC => k_is)
  (case u_zs => k_is)
  (case u_xL => k_is)
  (case u_sa => k_is)
  (case u_ga => k_is)
  (case u_gg => k_is)
  (case u_nW => k_is)
  (case u_nA => k_is)
  (case u_iC => k_is)
  (case u_tC => k_is)
  (case u_kC => k_is)
  (case u_exC => k_is)
  (case u_exV => k_is)
  (case u_tyC => k_is)
  (case u_hdC => k_is)
  (case u_isC => k_is)
  (case u_sC => k_is)
  (case u_mro => k_is)
  (case u_sup => kernel_rfl)
  (case u_tp => k_is)
  (case u_ntop => decide +kernel)
  (case u_lI => k_is)
  (case u_cI => k_is)
  (case u_lcda => k_is)
  (case u_hvs => rfl)
  (case u_hfile => decide +kernel)
  (case u_lcc => k_is)
  (case chd => kernel_rfl)
  (case nT => kernel_rfl)
