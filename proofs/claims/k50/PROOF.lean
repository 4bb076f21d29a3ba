import PyProof.Rows.All
import Wide.All
import OpenK.AllK
import Wide.FinOn
import HandS.ForMost
import HandS.IsInst
import HandS.TupAny
import HandS.Strs
import HandS.SetFor
import HandS.Zip
import HandS.Walk
import HandS.Codes
import KE.GoesEnum
import PySem.Challenge.RW_latekinds_k50_whole_what_any_rows_tell
set_option Elab.async false
set_option linter.all false
set_option maxRecDepth 100000
set_option maxHeartbeats 3900000
namespace K50
open PySem PySem.Spec PyProof.Rows L2 RZ
/-! ### the text by places -/
def topS (i : Nat) : Stmt := PySem.Challenge.pw_latekinds_k50_whole_what_any_rows_tell.main.body.getD i (.Pass ⟨0, 0, 0, 0⟩)
abbrev sInt : Stmt := topS 5
abbrev sWithin : Stmt := topS 6
abbrev sTriple : Stmt := topS 7
abbrev sChkKind : Stmt := topS 8
abbrev sGiven : Stmt := topS 10
abbrev sForm : Stmt := topS 11
abbrev sChkSch : Stmt := topS 12
abbrev sTold : Stmt := topS 13
abbrev sChkKinds : Stmt := topS 15
abbrev sToldLot : Stmt := topS 16
abbrev sLotOf : Stmt := topS 17
abbrev sCommon : Stmt := topS 18
abbrev sMeet : Stmt := topS 19
abbrev sHand : Stmt := topS 21
abbrev sDraw : Stmt := topS 22
abbrev sIs : Stmt := topS 23
abbrev sParents : Stmt := topS 24
abbrev sSheet : Stmt := topS 25
abbrev sDealt : Stmt := topS 26
abbrev sRight : Stmt := topS 27
abbrev sAny : Stmt := topS 28
abbrev sSaid : Stmt := topS 29
abbrev sBent : Stmt := topS 30
abbrev sLaw : Stmt := topS 31
/-! ### heaps -/
theorem same_upd {H : Hp} {p : Addr} (o : HO) (h : H p = none) : Same H (upd H p o) := fun b u e => by
  rw [upd_ne (ne_of_none e h)]
  exact e
theorem same_tup {H H' : Hp} {K : PySem.W.Frag} {a : Addr} {xs : List V} (e : Same H H') (h : H a = some (.tup xs)) : SqT K H' a xs := .inl (.inl (e _ _ h))
theorem mem_snoc {α : Type} {x y : α} {l : List α} (h : x ∈ l ++ [y]) : x ∈ l ∨ x = y := (List.mem_append.mp h).imp id List.mem_singleton.mp
theorem len_snoc {α : Type} (l : List α) (x : α) : (l ++ [x]).length = l.length + 1 := by simp
theorem in_app {α : Type} {x : α} {l m : List α} (h : x ∈ l ++ m) : x ∈ l ∨ x ∈ m := List.mem_append.mp h
theorem of_pair {α : Type} {x y z : α} (h : x ∈ [y, z]) : x = y ∨ x = z := (List.mem_cons.mp h).imp id List.mem_singleton.mp
theorem two_le : (2 : Nat) ≤ sizeLine := by decide
theorem small {m : Nat} (few : m ≤ 1000) : m ≤ sizeLine := Nat.le_of_lt (small1000 few)
/-! ### a scheme -/
abbrev Kd := Int × Int × List Int
/-- the triple of a kind stands at t -/
def RowAt (H : Hp) (x : V) (d : Kd) : Prop := ∃ t r, x = .ref t ∧ H t = some (.tup [.int d.1, .int d.2.1, .ref r]) ∧ H r = some (.tup (d.2.2.map V.int))
theorem RowAt.same {H H' : Hp} {x : V} {d : Kd} (s : Same H H') (h : RowAt H x d) : RowAt H' x d := by
  obtain ⟨t, r, e, h1, h2⟩ := h
  exact ⟨t, r, e, s _ _ h1, s _ _ h2⟩
def SchAt (H : Hp) (p : Addr) (ds : List Kd) : Prop := ∃ xs, H p = some (.tup xs) ∧ Paired (RowAt H) xs ds
theorem Paired.imp {α β : Type} {F G : α → β → Prop} (f : ∀ a b, F a b → G a b) : ∀ {l : List α} {m : List β}, Paired F l m → Paired G l m
  | _, _, .nil => .nil
  | _, _, .cons r t => .cons (f _ _ r) (Paired.imp f t)
theorem SchAt.same {H H' : Hp} {p : Addr} {ds : List Kd} (s : Same H H') (h : SchAt H p ds) : SchAt H' p ds := by
  obtain ⟨xs, h1, h2⟩ := h
  exact ⟨xs, s _ _ h1, Paired.imp (fun _ _ => RowAt.same s) h2⟩
theorem Paired.at {α β : Type} {F : α → β → Prop} : ∀ {l : List α} {m : List β} {i : Nat} {b : β}, Paired F l m → m[i]? = some b → ∃ a, l[i]? = some a ∧ F a b
  | _, _, _, _, .nil, q => nomatch (List.getElem?_nil.symm.trans q)
  | _, _, 0, _, .cons f _, q => Option.some.inj q ▸ ⟨_, rfl, f⟩
  | _, _, i + 1, _, .cons _ t, e => by
    obtain ⟨a, h1, h2⟩ := Paired.at (i := i) t (by simpa using e)
    exact ⟨a, by simpa using h1, h2⟩
theorem Paired.atL {α β : Type} {F : α → β → Prop} : ∀ {l : List α} {m : List β} {i : Nat} {a : α}, Paired F l m → l[i]? = some a → ∃ b, m[i]? = some b ∧ F a b
  | _, _, _, _, .nil, q => nomatch (List.getElem?_nil.symm.trans q)
  | _, _, 0, _, .cons f _, q => Option.some.inj q ▸ ⟨_, rfl, f⟩
  | _, _, i + 1, _, .cons _ t, e => by
    obtain ⟨b, h1, h2⟩ := Paired.atL (i := i) t (by simpa using e)
    exact ⟨b, by simpa using h1, h2⟩
/-- whether a scheme says that x is a p -/
def sayB (ds : List Kd) (x p : Nat) : Bool := match ds[x]?, ds[p]? with
  | some dx, some dp => decide (dp.1 < (dx.2.2.length : Int)) && decide (dp.2.1 ≤ dx.2.2.getD dp.1.toNat 0)
  | _, _ => false
def OkKd (d : Kd) : Prop := 0 ≤ d.1 ∧ d.2.2.length ≤ 1000
section
variable {mg : Str → Option Value} {base : Heap} {P : Program} {w : World} {K : PySem.W.Frag}
/-! ### is_integer -/
theorem scInt : FnScope ["thing"] ["thing"] (defScope sInt) := ⟨rfl, rfl, rfl, by decide +kernel, rfl, by decide +kernel, by decide +kernel⟩
def spInt : Sp := fun vs H Q _ => ∃ i : Int, vs = [.int i] ∧ Q (.bl true) H
theorem ok_int {f : Addr} {fd : FuncData} (F : Fun K "is_integer" "is_integer" sInt f fd) (mi : mg "isinstance" = none) (mt : mg "int" = none) (mb : mg "bool" = none) : FnOk P w K mg base CX0 1 f fd ["thing"] spInt := by
  refine F.ok scInt (fun vs H Q E h => ?_) (fun cdv A outer s H vs Q E hr h => ?_)
  · obtain ⟨i, rfl, _⟩ := h
    rfl
  obtain ⟨i, rfl, q⟩ := h
  refine ⟨_, pss_one (ps_ret (pe_and (pe_callB call_isi rfl mi boot_isinstance (pa_cons (pv 0) (pa_cons (pe_bltn (v := .ty "int") rfl mt boot_int rfl) pa_nil)))
    (pe_one (pe_not (pe_callB call_isi rfl mi boot_isinstance (pa_cons (pv 0) (pa_cons (pe_bltn (v := .ty "bool") rfl mb boot_bool rfl) pa_nil))))))), ?_⟩
  refine ⟨_, rfl, _, _, _, _, true, rfl, .ty "int", .base (.int i), kit_ty (by decide +kernel), true, rfl, iteT ?_⟩
  refine ⟨_, rfl, _, _, _, _, false, rfl, .ty "bool", .base (.int i), kit_ty (by decide +kernel), false, rfl, ?_⟩
  exact q
/-! ### is_within -/
theorem scWithin : FnScope ["thing", "least", "most"] ["thing", "least", "most"] (defScope sWithin) := ⟨rfl, rfl, rfl, by decide +kernel, rfl, by decide +kernel, by decide +kernel⟩
def spWithin : Sp := fun vs H Q _ => ∃ t a b : Int, vs = [.int t, .int a, .int b] ∧ a ≤ t ∧ t ≤ b ∧ Q (.bl true) H
theorem ok_within {f g : Addr} {fd gd : FuncData} (F : Fun K "is_within" "is_within" sWithin f fd) (G : FnOk P w K mg base CX0 1 g gd ["thing"] spInt) (bG : Binds K gd ["thing"] []) (kG : PySem.W.keepIn K (.ref g) = true) (mG : mg "is_integer" = some (.ref g)) :
    FnOk P w K mg base CX0 2 f fd ["thing", "least", "most"] spWithin := by
  refine F.ok scWithin (fun vs H Q E h => ?_) (fun cdv A outer s H vs Q E hr h => ?_)
  · obtain ⟨t, a, b, rfl, _⟩ := h
    rfl
  obtain ⟨t, a, b, rfl, h1, h2, q⟩ := h
  refine ⟨_, pss_one (ps_ret (pe_and (pe_call G hr rfl mG kG bG .nil pass0 (pa_cons (pv 0) pa_nil)) (pe_one (pe_chain op_le op_le (pv 1) (pv 0) (pv 2))))), ?_⟩
  refine ⟨_, rfl, t, rfl, true, rfl, iteT ?_⟩
  refine ⟨_, rfl, _, rfl, _, _, rfl, rfl, true, congrArg V.bl (decide_eq_true h1), iteT ?_⟩
  refine ⟨_, rfl, t, b, rfl, rfl, ?_⟩
  show Q (.bl (decide (t ≤ b))) H
  rw [decide_eq_true h2]
  exact q
/-! ### is_triple -/
theorem scTriple : FnScope ["thing"] ["thing"] (defScope sTriple) := ⟨rfl, rfl, rfl, by decide +kernel, rfl, by decide +kernel, by decide +kernel⟩
def spTriple : Sp := fun vs H Q _ => ∃ (t : Addr) (x y z : V), vs = [.ref t] ∧ H t = some (.tup [x, y, z]) ∧ Q (.bl true) H
theorem ok_triple {f : Addr} {fd : FuncData} (F : Fun K "is_triple" "is_triple" sTriple f fd) (mi : mg "isinstance" = none) (mt : mg "tuple" = none) (ml : mg "len" = none) : FnOk P w K mg base CX0 1 f fd ["thing"] spTriple := by
  refine F.ok scTriple (fun vs H Q E h => ?_) (fun cdv A outer s H vs Q E hr h => ?_)
  · obtain ⟨t, x, y, z, rfl, _⟩ := h
    rfl
  obtain ⟨t, x, y, z, rfl, ht, q⟩ := h
  refine ⟨_, pss_one (ps_ret (pe_and (pe_callB call_isi rfl mi boot_isinstance (pa_cons (pv 0) (pa_cons (pe_bltn (v := .ty "tuple") rfl mt (by decide +kernel) rfl) pa_nil)))
    (pe_one (pe_cmpR op_eq (pe_callB call_len_seq rfl ml PySem.boot_len (pa_cons (pv 0) pa_nil)) pe_int (nomark _))))), ?_⟩
  refine ⟨_, rfl, _, _, _, _, true, rfl, .ty "tuple", .base (.tup ht), kit_ty (by decide +kernel), true, rfl, iteT ?_⟩
  refine ⟨_, rfl, t, _, rfl, .inr (SqT.of ht), rfl, ?_⟩
  exact q
/-! ### check_kind_of -/
theorem scChkKind : FnScope ["thing", "many"] ["thing", "many"] (defScope sChkKind) := ⟨rfl, rfl, rfl, by decide +kernel, rfl, by decide +kernel, by decide +kernel⟩
def spChkKind : Sp := fun vs H Q _ => ∃ t m : Int, vs = [.int t, .int m] ∧ 0 ≤ t ∧ t < m ∧ Q .non H
theorem ok_chkkind {f g : Addr} {fd gd : FuncData} (F : Fun K "check_kind_of" "check_kind_of" sChkKind f fd) (G : FnOk P w K mg base CX0 2 g gd ["thing", "least", "most"] spWithin) (bG : Binds K gd ["thing", "least", "most"] []) (kG : PySem.W.keepIn K (.ref g) = true) (mG : mg "is_within" = some (.ref g)) :
    FnOk P w K mg base CX0 3 f fd ["thing", "many"] spChkKind := by
  refine F.ok scChkKind (fun vs H Q E h => ?_) (fun cdv A outer s H vs Q E hr h => ?_)
  · obtain ⟨t, m, rfl, _⟩ := h
    rfl
  obtain ⟨t, m, rfl, h1, h2, q⟩ := h
  refine ⟨_, pss_one (ps_if (pt_not (pt_val (pe_call G hr rfl mG kG bG .nil pass0 (pa_cons (pv 0) (pa_cons pe_int (pa_cons (pe_op op_sub (pv 1) pe_int) pa_nil)))))) (pss_one ps_never) pss_nil), ?_⟩
  refine ⟨_, rfl, _, rfl, _, _, rfl, rfl, t, 0, m - 1, rfl, h1, by omega, true, rfl, ?_⟩
  exact iteF q
end
end K50
namespace K50
open PySem PySem.Spec PyProof.Rows L2 RZ
/-- a new object of ours is written -/
theorem same_set {H H1 : Hp} {D : Addr} {o : HO} (s : Same H H1) (n : H D = none) : Same H (upd H1 D o) := fun b u e => by
  rw [upd_ne (ne_of_none e n)]
  exact s _ _ e
theorem rep_succ (i : Nat) (x : V) : List.replicate i x ++ [x] = List.replicate (i + 1) x := List.replicate_succ'.symm
theorem rep_all (i : Nat) : ((List.replicate i true).all id) = true := by
  induction i with
  | zero => rfl
  | succ n ih => rw [List.replicate_succ, List.all_cons, ih] <;> rfl
theorem at0 {x : V} {xs : List V} : atI (x :: xs) 0 = some x := atI_nat (j := 0) rfl
theorem at1 {x y : V} {xs : List V} : atI (x :: y :: xs) 1 = some y := atI_nat (j := 1) rfl
theorem at2 {x y z : V} {xs : List V} : atI (x :: y :: z :: xs) 2 = some z := atI_nat (j := 2) rfl
section
variable {mg : Str → Option Value} {base : Heap} {P : Program} {w : World} {K : PySem.W.Frag}
/-! ### is_given -/
theorem scGiven : FnScope ["thing", "entry"] ["thing"] (defScope sGiven) := ⟨rfl, rfl, rfl, by decide +kernel, rfl, by decide +kernel, by decide +kernel⟩
def spGiven : Sp := fun vs H Q _ => ∃ (x : V) (d : Kd), vs = [x] ∧ RowAt H x d ∧ OkKd d ∧ ∀ H', Same H H' → Q (.bl true) H'
theorem ok_given {f g1 g2 : Addr} {fd gd1 gd2 : FuncData} (F : Fun K "is_given" "is_given" sGiven f fd) (G1 : FnOk P w K mg base CX0 1 g1 gd1 ["thing"] spTriple) (b1 : Binds K gd1 ["thing"] []) (k1 : PySem.W.keepIn K (.ref g1) = true) (m1 : mg "is_triple" = some (.ref g1))
    (G2 : FnOk P w K mg base CX0 1 g2 gd2 ["thing"] spInt) (b2 : Binds K gd2 ["thing"] []) (k2 : PySem.W.keepIn K (.ref g2) = true) (m2 : mg "is_integer" = some (.ref g2)) (mi : mg "isinstance" = none) (mt : mg "tuple" = none) (ma : mg "all" = none) :
    FnOk P w K mg base CX0 2 f fd ["thing"] spGiven := by
  refine F.ok scGiven (fun vs H Q E h => ?_) (fun cdv A outer s H vs Q E hr h => ?_)
  · obtain ⟨x, d, rfl, _⟩ := h
    rfl
  obtain ⟨x, ⟨sl, nu, ro⟩, rfl, ⟨t, r, rfl, ht, hro⟩, hok, q⟩ := h
  have h0 : 0 ≤ sl := hok.1
  have hlen : ro.length ≤ 1000 := hok.2
  refine ⟨_, pss_cons (ps_if (PW.pt (pw_or (pt_not (pt_val (pe_call G1 hr rfl m1 k1 b1 .nil pass0 (pa_cons (pv 0) pa_nil))))
      (pw_or (pt_not (pt_val (pe_call G2 hr rfl m2 k2 b2 .nil pass0 (pa_cons (pe_ix ix_tup (pv 0) pe_int (fun _ _ => rfl)) pa_nil))))
      (pw_or (pt_cmpR op_lt (pe_ix ix_tup (pv 0) pe_int (fun _ _ => rfl)) pe_int (nomark _))
      (pw_or1 (pt_not (pt_val (pe_call G2 hr rfl m2 k2 b2 .nil pass0 (pa_cons (pe_ix ix_tup (pv 0) pe_int (fun _ _ => rfl)) pa_nil))))))))) (pss_one ps_never) pss_nil)
    (pss_one (ps_ret (pe_and (pe_callB call_isi rfl mi boot_isinstance (pa_cons (pe_ix ix_tup (pv 0) pe_int (fun _ _ => rfl)) (pa_cons (pe_bltn (v := .ty "tuple") rfl mt (by decide +kernel) rfl) pa_nil)))
      (pe_one (pe_callB (cr_all rfl) rfl ma (by decide +kernel) (pa_cons (pe_lc (own := [("entry", 1)]) (g := gName 1) (tt := tYes) rfl scGiven.nd (pi_tup (pe_ix ix_tup (pv 0) pe_int (fun _ _ => rfl))) (blkOk_by (own := [("entry", 1)]) (N := ["thing", "entry"]) (sc := defScope sGiven) (by decide +kernel))
        (fun _ _ _ _ _ => pg_name (i := 1) scGiven.nd rfl (Or.inl rfl)) (fun _ _ _ _ _ => pts_nil) (fun _ _ _ _ _ => pe_call G2 hr rfl m2 k2 b2 .nil pass0 (pa_cons (pv 1) pa_nil))) pa_nil)))))), ?_⟩
  refine ⟨_, rfl, t, _, _, _, rfl, ht, true, rfl, iteF ?_⟩
  refine ⟨_, rfl, t, _, 0, _, rfl, rfl, SqT.of ht, at0, sl, rfl, true, rfl, iteF ?_⟩
  refine ⟨_, rfl, t, _, 0, _, rfl, rfl, SqT.of ht, at0, sl, 0, rfl, rfl, false, congrArg V.bl (decide_eq_false (by omega)), iteF ?_⟩
  refine ⟨_, rfl, t, _, 1, _, rfl, rfl, SqT.of ht, at1, nu, rfl, true, rfl, iteF ?_⟩
  refine ⟨_, rfl, t, _, 2, _, rfl, rfl, SqT.of ht, at2, _, _, _, _, true, rfl, .ty "tuple", .base (.tup hro), kit_ty (by decide +kernel), true, rfl, iteT ?_⟩
  refine ⟨_, rfl, t, _, 2, _, rfl, rfl, SqT.of ht, at2, r, rfl, ⟨_, SqT.of hro⟩, fun D nD => ?_⟩
  refine lc_tup (K := K) (xs := ro.map V.int) (fun i H1 => Same H H1 ∧ H1 D = some (.lst (List.replicate i (.bl true)))) ⟨same_upd _ nD, upd_same⟩ (fun i H1 _ hp => same_tup hp.1 hro) (fun i x H1 hx hp => ?_) (fun H1 hp => ?_)
  · have hi : i < (ro.map V.int).length := (List.getElem?_eq_some_iff.mp hx).1
    rw [List.length_map] at hi
    obtain ⟨z, hz, rfl⟩ : ∃ z, ro[i]? = some z ∧ V.int z = x := by
      rw [List.getElem?_map] at hx
      cases e : ro[i]? with
      | none => rw [e] at hx; cases hx
      | some z => rw [e] at hx; exact ⟨z, rfl, Option.some.inj hx⟩
    refine ⟨rfl, ?_⟩
    refine ⟨_, rfl, z, rfl, _, hp.2, ?_, same_set hp.1 nD, ?_⟩
    · rw [List.length_replicate]
      exact small1000 (by omega)
    · rw [upd_same, rep_succ]
  · refine ⟨D, List.replicate ro.length true, rfl, SqL.of ?_, ?_⟩
    · rw [hp.2, List.map_replicate, List.length_map]
    · rw [rep_all]
      exact q H1 hp.1
/-! ### has_form -/
def OkSch (ds : List Kd) : Prop := ds.length ≤ 1000 ∧ ∀ d ∈ ds, OkKd d
theorem scForm : FnScope ["thing", "item"] ["thing"] (defScope sForm) := ⟨rfl, rfl, rfl, by decide +kernel, rfl, by decide +kernel, by decide +kernel⟩
def spForm : Sp := fun vs H Q _ => ∃ (p : Addr) (ds : List Kd), vs = [.ref p] ∧ SchAt H p ds ∧ OkSch ds ∧ ∀ H', Same H H' → Q (.bl true) H'
theorem ok_form {f g1 : Addr} {fd gd1 : FuncData} (F : Fun K "has_form" "has_form" sForm f fd) (G1 : FnOk P w K mg base CX0 2 g1 gd1 ["thing"] spGiven) (b1 : Binds K gd1 ["thing"] []) (k1 : PySem.W.keepIn K (.ref g1) = true) (m1 : mg "is_given" = some (.ref g1))
    (mi : mg "isinstance" = none) (mt : mg "tuple" = none) (ma : mg "all" = none) : FnOk P w K mg base CX0 3 f fd ["thing"] spForm := by
  refine F.ok scForm (fun vs H Q E h => ?_) (fun cdv A outer s H vs Q E hr h => ?_)
  · obtain ⟨p, ds, rfl, _⟩ := h
    rfl
  obtain ⟨p, ds, rfl, ⟨xs, hp, hxs⟩, ⟨hl, hok⟩, q⟩ := h
  refine ⟨_, pss_one (ps_ret (pe_and (pe_callB call_isi rfl mi boot_isinstance (pa_cons (pv 0) (pa_cons (pe_bltn (v := .ty "tuple") rfl mt (by decide +kernel) rfl) pa_nil)))
      (pe_one (pe_callB (cr_all rfl) rfl ma (by decide +kernel) (pa_cons (pe_lc (own := [("item", 1)]) (g := gName 1) (tt := tYes) rfl scForm.nd (pi_tup (pv 0)) (blkOk_by (own := [("item", 1)]) (N := ["thing", "item"]) (sc := defScope sForm) (by decide +kernel))
        (fun _ _ _ _ _ => pg_name (i := 1) scForm.nd rfl (Or.inl rfl)) (fun _ _ _ _ _ => pts_nil) (fun _ _ _ _ _ => pe_call G1 hr rfl m1 k1 b1 .nil pass0 (pa_cons (pv 1) pa_nil))) pa_nil))))), ?_⟩
  refine ⟨_, rfl, _, _, _, _, true, rfl, .ty "tuple", .base (.tup hp), kit_ty (by decide +kernel), true, rfl, iteT ?_⟩
  refine ⟨_, rfl, p, rfl, ⟨_, SqT.of hp⟩, fun D nD => ?_⟩
  have hxl : xs.length = ds.length := Paired.length hxs
  refine lc_tup (K := K) (xs := xs) (fun i H1 => Same H H1 ∧ H1 D = some (.lst (List.replicate i (.bl true)))) ⟨same_upd _ nD, upd_same⟩ (fun i H1 _ hq => same_tup hq.1 hp) (fun i x H1 hx hq => ?_) (fun H1 hq => ?_)
  · have hi : i < xs.length := (List.getElem?_eq_some_iff.mp hx).1
    obtain ⟨d, hd, hrow⟩ := Paired.atL hxs hx
    refine ⟨rfl, ?_⟩
    refine ⟨_, rfl, x, d, rfl, hrow.same hq.1, hok d (List.mem_of_getElem? hd), fun H2 s2 => ?_⟩
    refine ⟨_, s2 _ _ hq.2, ?_, same_set (hq.1.trans s2) nD, ?_⟩
    · rw [List.length_replicate]
      exact small1000 (by omega)
    · rw [upd_same, rep_succ]
  · refine ⟨D, List.replicate xs.length true, rfl, SqL.of ?_, ?_⟩
    · rw [hq.2, List.map_replicate]
    · rw [rep_all]
      exact q H1 hq.1
/-! ### check_scheme -/
theorem scChkSch : FnScope ["thing"] ["thing"] (defScope sChkSch) := ⟨rfl, rfl, rfl, by decide +kernel, rfl, by decide +kernel, by decide +kernel⟩
def spChkSch : Sp := fun vs H Q _ => ∃ (p : Addr) (ds : List Kd), vs = [.ref p] ∧ SchAt H p ds ∧ OkSch ds ∧ ∀ H', Same H H' → Q .non H'
theorem ok_chksch {f g1 : Addr} {fd gd1 : FuncData} (F : Fun K "check_scheme" "check_scheme" sChkSch f fd) (G1 : FnOk P w K mg base CX0 3 g1 gd1 ["thing"] spForm) (b1 : Binds K gd1 ["thing"] []) (k1 : PySem.W.keepIn K (.ref g1) = true) (m1 : mg "has_form" = some (.ref g1)) :
    FnOk P w K mg base CX0 4 f fd ["thing"] spChkSch := by
  refine F.ok scChkSch (fun vs H Q E h => ?_) (fun cdv A outer s H vs Q E hr h => ?_)
  · obtain ⟨p, ds, rfl, _⟩ := h
    rfl
  obtain ⟨p, ds, rfl, h1, h2, q⟩ := h
  refine ⟨_, pss_one (ps_if (pt_not (pt_val (pe_call G1 hr rfl m1 k1 b1 .nil pass0 (pa_cons (pv 0) pa_nil)))) (pss_one ps_never) pss_nil), ?_⟩
  refine ⟨_, rfl, p, ds, rfl, h1, h2, fun H1 s1 => ⟨true, rfl, iteF ?_⟩⟩
  exact q H1 s1
/-! ### told, and the law's own -/
theorem atI_list {xs : List V} {i : Int} {v : V} (h : 0 ≤ i) (e : xs[i.toNat]? = some v) : atI xs i = some v := by
  have q : atI xs ((i.toNat : Nat) : Int) = some v := atI_nat e
  rwa [Int.toNat_of_nonneg h] at q
def spTold : Sp := fun vs H Q _ => ∃ (p : Addr) (ds : List Kd) (x y : Nat), vs = [.ref p, .int x, .int y] ∧ SchAt H p ds ∧ OkSch ds ∧ x < ds.length ∧ y < ds.length ∧ Q (.bl (sayB ds x y)) H
theorem sch_at {H : Hp} {p : Addr} {ds : List Kd} {x : Nat} (h : SchAt H p ds) (hx : x < ds.length) : ∃ xs t r, H p = some (.tup xs) ∧ atI xs x = some (.ref t) ∧ H t = some (.tup [.int ds[x].1, .int ds[x].2.1, .ref r]) ∧ H r = some (.tup (ds[x].2.2.map V.int)) := by
  obtain ⟨xs, h1, h2⟩ := h
  obtain ⟨v, e, t, r, rfl, ht, hr⟩ := Paired.at h2 (List.getElem?_eq_getElem hx)
  exact ⟨xs, t, r, h1, atI_nat e, ht, hr⟩
theorem say_eq {ds : List Kd} {x y : Nat} (hx : x < ds.length) (hy : y < ds.length) : sayB ds x y = (decide (ds[y].1 < (ds[x].2.2.length : Int)) && decide (ds[y].2.1 ≤ ds[x].2.2.getD ds[y].1.toNat 0)) := by
  unfold sayB
  rw [List.getElem?_eq_getElem hx, List.getElem?_eq_getElem hy]
theorem scTold : FnScope ["scheme", "x", "p", "slot", "number", "row", "entries"] ["scheme", "x", "p"] (defScope sTold) := ⟨rfl, rfl, rfl, by decide +kernel, rfl, by decide +kernel, by decide +kernel⟩
theorem told_end {ro : List Int} {sl nu : Int} {c : Bool} {Q : Bool → Prop} (h0 : 0 ≤ sl) (hc : c = (decide (sl < (ro.length : Int)) && decide (nu ≤ ro.getD sl.toNat 0))) (q : Q c) :
    ∃ k : Bool, V.bl (decide (sl < (((ro.map V.int).length : Nat) : Int))) = V.bl k ∧ (if k = true then ∃ v, atI (ro.map V.int) sl = some (.int v) ∧ Q (decide (nu ≤ v)) else Q false) := by
  subst hc
  refine ⟨_, rfl, ?_⟩
  rw [List.length_map]
  by_cases h : sl < (ro.length : Int)
  · rw [decide_eq_true h, Bool.true_and] at q
    rw [decide_eq_true h]
    have hn : sl.toNat < ro.length := by omega
    refine iteT ⟨ro[sl.toNat], atI_list h0 ?_, ?_⟩
    · rw [List.getElem?_map, List.getElem?_eq_getElem hn] <;> rfl
    · rwa [List.getD_eq_getElem?_getD, List.getElem?_eq_getElem hn, Option.getD_some] at q
  · rw [decide_eq_false h, Bool.false_and] at q
    rw [decide_eq_false h]
    exact iteF q
theorem ok_told {f : Addr} {fd : FuncData} (F : Fun K "told" "told" sTold f fd) (ml : mg "len" = none) : FnOk P w K mg base CX0 1 f fd ["scheme", "x", "p"] spTold := by
  refine F.ok scTold (fun vs H Q E h => ?_) (fun cdv A outer s H vs Q E hr h => ?_)
  · obtain ⟨p, ds, x, y, rfl, _⟩ := h
    rfl
  obtain ⟨p, ds, x, y, rfl, hs, ⟨hl, hok⟩, hx, hy, q⟩ := h
  refine ⟨_, pss_cons (ps_asg (pe_ix ix_tup (pv 0) (pv 2) (fun _ _ => rfl)) (pg_tup rfl (pgs_cons (pg_name (i := 3) scTold.nd rfl (Or.inl rfl)) (pgs_cons (pg_name (i := 4) scTold.nd rfl (Or.inl rfl)) (pgs_cons (pg_name (i := 5) scTold.nd rfl (Or.inl rfl)) pgs_nil)))))
    (pss_cons (ps_set (i := 6) scTold.nd rfl (Or.inl rfl) (pe_ix ix_tup (pe_ix ix_tup (pv 0) (pv 1) (fun _ _ => rfl)) pe_int (fun _ _ => rfl)))
    (pss_one (ps_ret (pe_and (pe_cmpR op_lt (pv 3) (pe_callB call_len_seq rfl ml PySem.boot_len (pa_cons (pv 6) pa_nil)) (nomark _))
      (pe_one (pe_cmpR op_ge (pe_ix ix_tup (pv 6) (pv 3) (fun _ _ => rfl)) (pv 4) (nomark _))))))), ?_⟩
  obtain ⟨xs, t, r, hp, ex, ht, hr'⟩ := sch_at hs hy
  obtain ⟨xs2, t2, r2, hp2, ex2, ht2, hr2⟩ := sch_at hs hx
  refine ⟨_, rfl, _, rfl, p, xs, y, _, rfl, rfl, SqT.of hp, ex, ?_⟩
  refine ⟨t, _, rfl, SqT.of ht, rfl, _, _, rfl, _, _, rfl, _, _, rfl, rfl, ?_⟩
  refine ⟨_, rfl, _, rfl, p, xs2, x, _, rfl, rfl, SqT.of hp2, ex2, t2, _, 2, _, rfl, rfl, SqT.of ht2, at2, ?_⟩
  refine ⟨_, rfl, _, rfl, r2, _, rfl, .inr (SqT.of hr2), _, _, rfl, rfl, ?_⟩
  have h0 : 0 ≤ ds[y].1 := (hok _ (List.getElem_mem hy)).1
  obtain ⟨k, ek, h⟩ := told_end (Q := fun b => Q (.bl b) H) h0 (say_eq hx hy) q
  refine ⟨k, ek, ?_⟩
  cases k with
  | false => exact h
  | true =>
    obtain ⟨v, ev, h⟩ := h
    exact ⟨_, rfl, _, rfl, r2, _, _, _, rfl, rfl, SqT.of hr2, ev, _, rfl, _, _, rfl, rfl, h⟩
theorem scSaid : FnScope ["_law_scheme", "_law_x", "_law_p", "_law_slot", "_law_number", "_law_row", "_law_entries"] ["_law_scheme", "_law_x", "_law_p"] (defScope sSaid) := ⟨rfl, rfl, rfl, by decide +kernel, rfl, by decide +kernel, by decide +kernel⟩
theorem ok_said {f : Addr} {fd : FuncData} (F : Fun K "_law_said" "_law_said" sSaid f fd) (ml : mg "len" = none) : FnOk P w K mg base CX0 1 f fd ["_law_scheme", "_law_x", "_law_p"] spTold := by
  refine F.ok scSaid (fun vs H Q E h => ?_) (fun cdv A outer s H vs Q E hr h => ?_)
  · obtain ⟨p, ds, x, y, rfl, _⟩ := h
    rfl
  obtain ⟨p, ds, x, y, rfl, hs, ⟨hl, hok⟩, hx, hy, q⟩ := h
  refine ⟨_, pss_cons (ps_asg (pe_ix ix_tup (pv 0) (pv 2) (fun _ _ => rfl)) (pg_tup rfl (pgs_cons (pg_name (i := 3) scSaid.nd rfl (Or.inl rfl)) (pgs_cons (pg_name (i := 4) scSaid.nd rfl (Or.inl rfl)) (pgs_cons (pg_name (i := 5) scSaid.nd rfl (Or.inl rfl)) pgs_nil)))))
    (pss_cons (ps_set (i := 6) scSaid.nd rfl (Or.inl rfl) (pe_ix ix_tup (pe_ix ix_tup (pv 0) (pv 1) (fun _ _ => rfl)) pe_int (fun _ _ => rfl)))
    (pss_one (ps_ret (pe_and (pe_cmpR op_lt (pv 3) (pe_callB call_len_seq rfl ml PySem.boot_len (pa_cons (pv 6) pa_nil)) (nomark _))
      (pe_one (pe_cmpR op_ge (pe_ix ix_tup (pv 6) (pv 3) (fun _ _ => rfl)) (pv 4) (nomark _))))))), ?_⟩
  obtain ⟨xs, t, r, hp, ex, ht, hr'⟩ := sch_at hs hy
  obtain ⟨xs2, t2, r2, hp2, ex2, ht2, hr2⟩ := sch_at hs hx
  refine ⟨_, rfl, _, rfl, p, xs, y, _, rfl, rfl, SqT.of hp, ex, ?_⟩
  refine ⟨t, _, rfl, SqT.of ht, rfl, _, _, rfl, _, _, rfl, _, _, rfl, rfl, ?_⟩
  refine ⟨_, rfl, _, rfl, p, xs2, x, _, rfl, rfl, SqT.of hp2, ex2, t2, _, 2, _, rfl, rfl, SqT.of ht2, at2, ?_⟩
  refine ⟨_, rfl, _, rfl, r2, _, rfl, .inr (SqT.of hr2), _, _, rfl, rfl, ?_⟩
  have h0 : 0 ≤ ds[y].1 := (hok _ (List.getElem_mem hy)).1
  obtain ⟨k, ek, h⟩ := told_end (Q := fun b => Q (.bl b) H) h0 (say_eq hx hy) q
  refine ⟨k, ek, ?_⟩
  cases k with
  | false => exact h
  | true =>
    obtain ⟨v, ev, h⟩ := h
    exact ⟨_, rfl, _, rfl, r2, _, _, _, rfl, rfl, SqT.of hr2, ev, _, rfl, _, _, rfl, rfl, h⟩
end
end K50
namespace K50
open PySem PySem.Spec PyProof.Rows L2 RZ
section
variable {mg : Str → Option Value} {base : Heap} {P : Program} {w : World} {K : PySem.W.Frag}
theorem SchAt.len {H : Hp} {p : Addr} {ds : List Kd} (h : SchAt H p ds) : ∃ xs, H p = some (.tup xs) ∧ xs.length = ds.length := by
  obtain ⟨xs, h1, h2⟩ := h
  exact ⟨xs, h1, Paired.length h2⟩
abbrev vN (n : Nat) : V := .int n
/-! ### check_kinds -/
theorem scChkKinds : FnScope ["scheme", "some", "thing"] ["scheme", "some"] (defScope sChkKinds) := ⟨rfl, rfl, rfl, by decide +kernel, rfl, by decide +kernel, by decide +kernel⟩
def spChkKinds : Sp := fun vs H Q _ => ∃ (p q : Addr) (ds : List Kd) (ks : List Nat), vs = [.ref p, .ref q] ∧ SchAt H p ds ∧ OkSch ds ∧ H q = some (.tup (ks.map vN)) ∧ (∀ k ∈ ks, k < ds.length) ∧ ∀ H', Same H H' → Q .non H'
theorem ok_chkkinds {f g1 g2 : Addr} {fd gd1 gd2 : FuncData} (F : Fun K "check_kinds" "check_kinds" sChkKinds f fd) (G1 : FnOk P w K mg base CX0 4 g1 gd1 ["thing"] spChkSch) (b1 : Binds K gd1 ["thing"] []) (k1 : PySem.W.keepIn K (.ref g1) = true) (m1 : mg "check_scheme" = some (.ref g1))
    (G2 : FnOk P w K mg base CX0 4 g2 gd2 ["thing", "many"] spChkKind) (b2 : Binds K gd2 ["thing", "many"] []) (k2 : PySem.W.keepIn K (.ref g2) = true) (m2 : mg "check_kind_of" = some (.ref g2)) (ml : mg "len" = none) :
    FnOk P w K mg base CX0 5 f fd ["scheme", "some"] spChkKinds := by
  refine F.ok scChkKinds (fun vs H Q E h => ?_) (fun cdv A outer s H vs Q E hr h => ?_)
  · obtain ⟨p, q, ds, ks, rfl, _⟩ := h
    rfl
  obtain ⟨p, q, ds, ks, rfl, hs, hok, hq, hks, fin⟩ := h
  refine ⟨_, pss_cons (ps_expr (pe_call G1 hr rfl m1 k1 b1 .nil pass0 (pa_cons (pv 0) pa_nil)))
    (pss_one (ps_for PassesOwn.never rfl (pi_tup (pv 1)) (pg_name (i := 2) scChkKinds.nd rfl (Or.inl rfl))
      (pss_one (ps_expr (pe_call G2 hr rfl m2 k2 b2 .nil pass0 (pa_cons (pv 2) (pa_cons (pe_callB call_len_seq rfl ml PySem.boot_len (pa_cons (pv 0) pa_nil)) pa_nil))))))), ?_⟩
  refine ⟨_, rfl, p, ds, rfl, hs, hok, fun H1 s1 => ?_⟩
  obtain ⟨xs, hp, hxl⟩ := hs.len
  refine ⟨_, rfl, q, rfl, ⟨_, same_tup s1 hq⟩, for_tup (K := K) (xs := ks.map vN) (fun i σ H2 => ∃ y, σ = [some (.ref p), some (.ref q), y] ∧ Same H H2) ⟨none, rfl, s1⟩ (fun i σ H2 _ h => ?_) (fun i x σ H2 hx h => ?_) (fun σ H2 h => ?_)⟩
  · obtain ⟨y, _, s2⟩ := h
    exact same_tup s2 hq
  · obtain ⟨y, rfl, s2⟩ := h
    obtain ⟨k, hk, rfl⟩ : ∃ k, ks[i]? = some k ∧ vN k = x := by
      rw [List.getElem?_map] at hx
      cases e : ks[i]? with
      | none => rw [e] at hx; cases hx
      | some z => rw [e] at hx; exact ⟨z, rfl, Option.some.inj hx⟩
    have hlt := hks k (List.mem_of_getElem? hk)
    refine ⟨_, rfl, _, rfl, p, xs, rfl, .inr (same_tup s2 hp), k, _, rfl, Int.natCast_nonneg k, ?_, ?_⟩
    · rw [hxl]
      exact Int.ofNat_lt.mpr hlt
    · exact ⟨_, rfl, s2⟩
  · obtain ⟨y, rfl, s2⟩ := h
    exact fin H2 s2
/-! ### told_lot -/
def lotL (ds : List Kd) (ks : List Nat) : List Nat := (List.range ds.length).filter fun p => ks.all fun x => sayB ds x p
theorem scToldLot : FnScope ["scheme", "some", "p", "x"] ["scheme", "some"] (defScope sToldLot) := ⟨rfl, rfl, rfl, by decide +kernel, rfl, by decide +kernel, by decide +kernel⟩
def spToldLot : Sp := fun vs H Q _ => ∃ (p q : Addr) (ds : List Kd) (ks : List Nat), vs = [.ref p, .ref q] ∧ SchAt H p ds ∧ OkSch ds ∧ H q = some (.tup (ks.map vN)) ∧ ks.length ≤ 1000 ∧ (∀ k ∈ ks, k < ds.length) ∧
  ∀ H' r, Same H H' → H r = none → H' r = some (.tup ((lotL ds ks).map vN)) → Q (.ref r) H'
theorem filter_step {f : Nat → Bool} {n : Nat} : ((List.range (n + 1)).filter f) = if f n = true then (List.range n).filter f ++ [n] else (List.range n).filter f := by
  rw [List.range_succ, List.filter_append]
  cases e : f n with
  | true => simp [e]
  | false => simp [e]
theorem ok_toldlot {f g1 : Addr} {fd gd1 : FuncData} (F : Fun K "told_lot" "told_lot" sToldLot f fd) (G1 : FnOk P w K mg base CX0 1 g1 gd1 ["scheme", "x", "p"] spTold) (b1 : Binds K gd1 ["scheme", "x", "p"] []) (k1 : PySem.W.keepIn K (.ref g1) = true) (m1 : mg "told" = some (.ref g1))
    (ml : mg "len" = none) (mr : mg "range" = none) (ma : mg "all" = none) (mt : mg "tuple" = none) :
    FnOk P w K mg base CX0 2 f fd ["scheme", "some"] spToldLot := by
  refine F.ok scToldLot (fun vs H Q E h => ?_) (fun cdv A outer s H vs Q E hr h => ?_)
  · obtain ⟨p, q, ds, ks, rfl, _⟩ := h
    rfl
  obtain ⟨p, q, ds, ks, rfl, hs, hok, hq, hkl, hks, fin⟩ := h
  refine ⟨_, pss_one (ps_ret (pe_callTy call_tuple_of rfl mt (by decide +kernel) (pa_cons (pe_lc (own := [("p", 2)]) (g := gName 2) (tt := tB (tCB (rAll K) (tCons (tLc (iTup K (tVar 1)) (gName 3) tYes (tCall spTold [] E0 (tCons (tVar 0) (tCons (tVar 3) (tCons (tVar 2) tNil)))) [3]) tNil))) rfl scToldLot.nd
    (pi_range1 rfl mr (pa_cons (pe_callB call_len_seq rfl ml PySem.boot_len (pa_cons (pv 0) pa_nil)) pa_nil)) (blkOk_by (own := [("p", 2)]) (N := ["scheme", "some", "p", "x"]) (sc := defScope sToldLot) (by decide +kernel))
    (fun _ _ _ _ _ => pg_name (i := 2) scToldLot.nd rfl (Or.inr rfl))
    (fun _ _ _ _ _ => pts_one (pt_val (pe_callB (cr_all rfl) rfl ma (by decide +kernel) (pa_cons (pe_lc (own := [("x", 3)]) (g := gName 3) (tt := tYes) rfl scToldLot.nd (pi_tup (pv 1))
      (blkOk_by (own := [("x", 3)]) (N := ["scheme", "some", "p", "x"]) (sc := relS _ (defScope sToldLot)) (by decide +kernel))
      (fun _ _ _ _ _ => pg_name (i := 3) scToldLot.nd rfl (Or.inl rfl)) (fun _ _ _ _ _ => pts_nil) (fun _ _ _ _ _ => pe_call G1 hr rfl m1 k1 b1 .nil pass0 (pa_cons (pv 0) (pa_cons (pv 3) (pa_cons (pv 2) pa_nil))))) pa_nil))))
    (fun _ _ _ _ _ => pv 2)) pa_nil))), ?_⟩
  obtain ⟨xs, hp, hxl⟩ := hs.len
  refine ⟨_, rfl, p, xs, rfl, .inr (SqT.of hp), (xs.length : Int), rfl, by omega, ?_, fun D nD => ?_⟩
  · have := hok.1
    omega
  have key : ((xs.length : Int)).toNat = ds.length := by omega
  rw [key]
  refine lc_range (lo := 0) (n := ds.length) (fun i H1 => Same H H1 ∧ H1 D = some (.lst (((List.range i).filter fun p => ks.all fun x => sayB ds x p).map vN))) ⟨same_upd _ nD, upd_same⟩ (fun i H1 hi hp1 => ?_) (fun H1 h1 => ?_)
  · obtain ⟨s1, e1⟩ := hp1
    have hacc : ((List.range i).filter fun p => ks.all fun x => sayB ds x p).length ≤ i := Nat.le_trans (List.length_filter_le _ _) (Nat.le_of_eq List.length_range)
    have hl := hok.1
    rw [Int.zero_add]
    refine ⟨rfl, ?_⟩
    refine ⟨_, rfl, q, rfl, ⟨_, same_tup s1 hq⟩, fun D2 nD2 => ?_⟩
    refine lc_tup (K := K) (xs := ks.map vN) (fun j H2 => Same H1 H2 ∧ H2 D2 = some (.lst (((ks.take j).map fun x => sayB ds x i).map V.bl))) ⟨same_upd _ nD2, upd_same⟩ (fun j H2 _ h2 => same_tup (s1.trans h2.1) hq) (fun j x H2 hx h2 => ?_) (fun H2 h2 => ?_)
    · obtain ⟨k, hk, rfl⟩ : ∃ k, ks[j]? = some k ∧ vN k = x := by
        rw [List.getElem?_map] at hx
        cases e : ks[j]? with
        | none => rw [e] at hx; cases hx
        | some z => rw [e] at hx; exact ⟨z, rfl, Option.some.inj hx⟩
      have hlt := hks k (List.mem_of_getElem? hk)
      refine ⟨rfl, ?_⟩
      refine ⟨_, rfl, _, rfl, _, rfl, p, ds, k, i, rfl, hs.same (s1.trans h2.1), hok, hlt, hi, _, h2.2, ?_, same_set h2.1 nD2, ?_⟩
      · rw [List.length_map, List.length_map, List.length_take]
        exact small1000 (by omega)
      · rw [upd_same, List.take_add_one, hk, List.map_append, List.map_append]
        rfl
    · obtain ⟨s2, e2⟩ := h2
      rw [List.length_map, List.take_length] at e2
      refine ⟨D2, _, rfl, SqL.of e2, ?_⟩
      have ec : ((ks.map fun x => sayB ds x i).all id) = ks.all fun x => sayB ds x i := by
        rw [List.all_map]
        rfl
      rw [ec]
      refine ⟨_, rfl, ?_⟩
      refine ite2 (fun yes => ?_) (fun no => ?_)
      · refine ⟨_, rfl, _, s2 _ _ e1, ?_, same_set (s1.trans s2) nD, ?_⟩
        · rw [List.length_map]
          exact small1000 (by omega)
        · rw [upd_same, filter_step, if_pos yes, List.map_append]
          rfl
      · refine ⟨s1.trans s2, ?_⟩
        rw [s2 _ _ e1, filter_step, if_neg no]
  · obtain ⟨s1, e1⟩ := h1
    refine ⟨D, _, rfl, .inl ⟨SqL.of e1, fun r nr => ?_⟩⟩
    refine fin _ r (s1.trans (same_upd _ nr)) (s1.free nr) ?_
    rw [upd_same]
    rfl
end
end K50
namespace K50
open PySem PySem.Spec PyProof.Rows L2 RZ
theorem map_at {f : α → V} {ks : List α} {i : Nat} {x : V} (hx : (ks.map f)[i]? = some x) : ∃ k, ks[i]? = some k ∧ f k = x := by
  rw [List.getElem?_map] at hx
  cases e : ks[i]? with
  | none => rw [e] at hx; cases hx
  | some z => rw [e] at hx; exact ⟨z, rfl, Option.some.inj hx⟩
/-- zip of two tuples, as a walk -/
theorem walk_zt {K : PySem.W.Frag} {a b : Addr} {xs ys : List V} : Walk (ItzT K a b) (min xs.length ys.length) (fun H => SqT K H a xs ∧ SqT K H b ys) (YPair (fun i => xs[i]?) (fun i => ys[i]?)) where
  goes i H hi q := by
    obtain ⟨l, r⟩ := Nat.lt_min.mp hi
    exact ⟨_, _, _, _, q.1, q.2, List.getElem?_eq_getElem l, List.getElem?_eq_getElem r⟩
  stops H q := ⟨_, _, q.1, q.2, by omega⟩
  yields i H v H' _ q := fun ⟨T, x, y, e, n, eh, fx, fy⟩ => ⟨T, x, y, e, n, eh, fx _ q.1, fy _ q.2⟩
section
variable {mg : Str → Option Value} {base : Heap} {P : Program} {w : World} {K : PySem.W.Frag}
/-! ### lot_of, common -/
theorem scLotOf : FnScope ["scheme", "x"] ["scheme", "x"] (defScope sLotOf) := ⟨rfl, rfl, rfl, by decide +kernel, rfl, by decide +kernel, by decide +kernel⟩
def spLotOf : Sp := fun vs H Q _ => ∃ (p : Addr) (ds : List Kd) (x : Nat), vs = [.ref p, vN x] ∧ SchAt H p ds ∧ OkSch ds ∧ x < ds.length ∧ ∀ H' r, Same H H' → H r = none → H' r = some (.tup ((lotL ds [x]).map vN)) → Q (.ref r) H'
theorem ok_lotof {f g1 g2 : Addr} {fd gd1 gd2 : FuncData} (F : Fun K "lot_of" "lot_of" sLotOf f fd) (G1 : FnOk P w K mg base CX0 5 g1 gd1 ["scheme", "some"] spChkKinds) (b1 : Binds K gd1 ["scheme", "some"] []) (k1 : PySem.W.keepIn K (.ref g1) = true) (m1 : mg "check_kinds" = some (.ref g1))
    (G2 : FnOk P w K mg base CX0 5 g2 gd2 ["scheme", "some"] spToldLot) (b2 : Binds K gd2 ["scheme", "some"] []) (k2 : PySem.W.keepIn K (.ref g2) = true) (m2 : mg "told_lot" = some (.ref g2)) : FnOk P w K mg base CX0 6 f fd ["scheme", "x"] spLotOf := by
  refine F.ok scLotOf (fun vs H Q E h => ?_) (fun cdv A outer s H vs Q E hr h => ?_)
  · obtain ⟨p, ds, x, rfl, _⟩ := h
    rfl
  obtain ⟨p, ds, x, rfl, hs, hok, hx, fin⟩ := h
  refine ⟨_, pss_cons (ps_expr (pe_call G1 hr rfl m1 k1 b1 .nil pass0 (pa_cons (pv 0) (pa_cons (pe_tup (pa_cons (pv 1) pa_nil)) pa_nil))))
    (pss_one (ps_ret (pe_call G2 hr rfl m2 k2 b2 .nil pass0 (pa_cons (pv 0) (pa_cons (pe_tup (pa_cons (pv 1) pa_nil)) pa_nil))))), ?_⟩
  refine ⟨_, rfl, _, rfl, (by show 1 ≤ sizeLine; decide), fun t nt => ?_⟩
  have s1 := same_upd (H := H) (.tup [vN x]) nt
  have hm : ∀ k ∈ [x], k < ds.length := fun k hk => by
    rw [List.mem_singleton.mp hk]
    exact hx
  refine ⟨p, t, ds, [x], rfl, hs.same s1, hok, upd_same, hm, fun H2 s2 => ?_⟩
  refine ⟨_, rfl, _, rfl, (by show 1 ≤ sizeLine; decide), fun t2 nt2 => ?_⟩
  have s3 := same_upd (H := H2) (.tup [vN x]) nt2
  refine ⟨p, t2, ds, [x], rfl, hs.same (s1.trans (s2.trans s3)), hok, upd_same, (by show 1 ≤ 1000; decide), hm, fun H4 r s4 nr er => ?_⟩
  exact fin H4 r (s1.trans (s2.trans (s3.trans s4))) (Same.free (s1.trans (s2.trans s3)) nr) er
theorem scCommon : FnScope ["scheme", "x", "y"] ["scheme", "x", "y"] (defScope sCommon) := ⟨rfl, rfl, rfl, by decide +kernel, rfl, by decide +kernel, by decide +kernel⟩
def spCommon : Sp := fun vs H Q _ => ∃ (p : Addr) (ds : List Kd) (x y : Nat), vs = [.ref p, vN x, vN y] ∧ SchAt H p ds ∧ OkSch ds ∧ x < ds.length ∧ y < ds.length ∧ ∀ H' r, Same H H' → H r = none → H' r = some (.tup ((lotL ds [x, y]).map vN)) → Q (.ref r) H'
theorem ok_common {f g1 g2 : Addr} {fd gd1 gd2 : FuncData} (F : Fun K "common" "common" sCommon f fd) (G1 : FnOk P w K mg base CX0 5 g1 gd1 ["scheme", "some"] spChkKinds) (b1 : Binds K gd1 ["scheme", "some"] []) (k1 : PySem.W.keepIn K (.ref g1) = true) (m1 : mg "check_kinds" = some (.ref g1))
    (G2 : FnOk P w K mg base CX0 5 g2 gd2 ["scheme", "some"] spToldLot) (b2 : Binds K gd2 ["scheme", "some"] []) (k2 : PySem.W.keepIn K (.ref g2) = true) (m2 : mg "told_lot" = some (.ref g2)) : FnOk P w K mg base CX0 6 f fd ["scheme", "x", "y"] spCommon := by
  refine F.ok scCommon (fun vs H Q E h => ?_) (fun cdv A outer s H vs Q E hr h => ?_)
  · obtain ⟨p, ds, x, y, rfl, _⟩ := h
    rfl
  obtain ⟨p, ds, x, y, rfl, hs, hok, hx, hy, fin⟩ := h
  refine ⟨_, pss_cons (ps_expr (pe_call G1 hr rfl m1 k1 b1 .nil pass0 (pa_cons (pv 0) (pa_cons (pe_tup (pa_cons (pv 1) (pa_cons (pv 2) pa_nil))) pa_nil))))
    (pss_one (ps_ret (pe_call G2 hr rfl m2 k2 b2 .nil pass0 (pa_cons (pv 0) (pa_cons (pe_tup (pa_cons (pv 1) (pa_cons (pv 2) pa_nil))) pa_nil))))), ?_⟩
  refine ⟨_, rfl, _, rfl, _, rfl, (by show 2 ≤ sizeLine; decide), fun t nt => ?_⟩
  have s1 := same_upd (H := H) (.tup [vN x, vN y]) nt
  have hm : ∀ k ∈ [x, y], k < ds.length := fun k hk => by
    rcases List.mem_cons.mp hk with e | hk
    · rw [e]; exact hx
    · rw [List.mem_singleton.mp hk]; exact hy
  refine ⟨p, t, ds, [x, y], rfl, hs.same s1, hok, upd_same, hm, fun H2 s2 => ?_⟩
  refine ⟨_, rfl, _, rfl, _, rfl, (by show 2 ≤ sizeLine; decide), fun t2 nt2 => ?_⟩
  have s3 := same_upd (H := H2) (.tup [vN x, vN y]) nt2
  refine ⟨p, t2, ds, [x, y], rfl, hs.same (s1.trans (s2.trans s3)), hok, upd_same, (by show 2 ≤ 1000; decide), hm, fun H4 r s4 nr er => ?_⟩
  exact fin H4 r (s1.trans (s2.trans (s3.trans s4))) (Same.free (s1.trans (s2.trans s3)) nr) er
/-! ### meet -/
def minI (i j : Int) : Int := if j < i then j else i
def meetL (as bs : List Int) : List Int := List.zipWith minI as bs
theorem meet_step {as bs : List Int} {i : Nat} {x y : Int} (hx : as[i]? = some x) (hy : bs[i]? = some y) : (meetL as bs).take (i + 1) = (meetL as bs).take i ++ [minI x y] := by
  unfold meetL
  rw [List.take_add_one, List.getElem?_zipWith, hx, hy]
  rfl
theorem scMeet : FnScope ["scheme", "x", "y", "one", "other"] ["scheme", "x", "y"] (defScope sMeet) := ⟨rfl, rfl, rfl, by decide +kernel, rfl, by decide +kernel, by decide +kernel⟩
def spMeet : Sp := fun vs H Q _ => ∃ (p : Addr) (ds : List Kd) (x y : Nat) (dx dy : Kd), vs = [.ref p, vN x, vN y] ∧ SchAt H p ds ∧ OkSch ds ∧ ds[x]? = some dx ∧ ds[y]? = some dy ∧ ∀ H' r, Same H H' → H r = none → H' r = some (.tup ((meetL dx.2.2 dy.2.2).map V.int)) → Q (.ref r) H'
/-- the loop of the comprehension [min(one, other) for one, other in zip(..)], from slots σ0, the two names at i, j -/
theorem ok_meet {f g1 : Addr} {fd gd1 : FuncData} (F : Fun K "meet" "meet" sMeet f fd) (G1 : FnOk P w K mg base CX0 5 g1 gd1 ["scheme", "some"] spChkKinds) (b1 : Binds K gd1 ["scheme", "some"] []) (k1 : PySem.W.keepIn K (.ref g1) = true) (m1 : mg "check_kinds" = some (.ref g1))
    (mt : mg "tuple" = none) (mm : mg "min" = none) (mz : mg "zip" = none) : FnOk P w K mg base CX0 6 f fd ["scheme", "x", "y"] spMeet := by
  refine F.ok scMeet (fun vs H Q E h => ?_) (fun cdv A outer s H vs Q E hr h => ?_)
  · obtain ⟨p, ds, x, y, dx, dy, rfl, _⟩ := h
    rfl
  obtain ⟨p, ds, x, y, dx, dy, rfl, hs, hok, hx, hy, fin⟩ := h
  refine ⟨_, pss_cons (ps_expr (pe_call G1 hr rfl m1 k1 b1 .nil pass0 (pa_cons (pv 0) (pa_cons (pe_tup (pa_cons (pv 1) (pa_cons (pv 2) pa_nil))) pa_nil))))
    (pss_one (ps_ret (pe_callTy call_tuple_of rfl mt (by decide +kernel) (pa_cons (pe_lc (own := [("one", 3), ("other", 4)]) (g := gTup K 2 (gCons (gName 3) (gCons (gName 4) gNil))) (tt := tYes) rfl scMeet.nd
      (pi_zipA (by rfl) mz (pa_cons (pe_ix ix_tup (pe_ix ix_tup (pv 0) (pv 1) (fun _ _ => rfl)) pe_int (fun _ _ => rfl)) (pa_cons (pe_ix ix_tup (pe_ix ix_tup (pv 0) (pv 2) (fun _ _ => rfl)) pe_int (fun _ _ => rfl)) pa_nil)))
      (blkOk_by (own := [("one", 3), ("other", 4)]) (N := ["scheme", "x", "y", "one", "other"]) (sc := defScope sMeet) (by decide +kernel))
      (fun _ _ _ _ _ => pg_tup rfl (pgs_cons (pg_name (i := 3) scMeet.nd rfl (Or.inl rfl)) (pgs_cons (pg_name (i := 4) scMeet.nd rfl (Or.inl rfl)) pgs_nil))) (fun _ _ _ _ _ => pts_nil)
      (fun _ _ _ _ _ => pe_callB (call_min2 rfl) rfl mm (by decide +kernel) (pa_cons (pv 3) (pa_cons (pv 4) pa_nil)))) pa_nil)))), ?_⟩
  obtain ⟨hxl, ex⟩ := List.getElem?_eq_some_iff.mp hx
  obtain ⟨hyl, ey⟩ := List.getElem?_eq_some_iff.mp hy
  refine ⟨_, rfl, _, rfl, _, rfl, (by show 2 ≤ sizeLine; decide), fun t nt => ?_⟩
  have s1 := same_upd (H := H) (.tup [vN x, vN y]) nt
  have hm : ∀ k ∈ [x, y], k < ds.length := fun k hk => by
    rcases List.mem_cons.mp hk with e | hk
    · rw [e]; exact hxl
    · rw [List.mem_singleton.mp hk]; exact hyl
  refine ⟨p, t, ds, [x, y], rfl, hs.same s1, hok, upd_same, hm, fun H2 s2 => ?_⟩
  have s12 := s1.trans s2
  obtain ⟨xs1, t1, r1, hp1, e1, ht1, hr1⟩ := sch_at (hs.same s12) hxl
  obtain ⟨xs2, t2, r2, hp2, e2, ht2, hr2⟩ := sch_at (hs.same s12) hyl
  rw [ex] at ht1 hr1
  rw [ey] at ht2 hr2
  have lx : dx.2.2.length ≤ 1000 := (hok.2 dx (List.mem_of_getElem? hx)).2
  refine ⟨_, rfl, _, rfl, p, xs1, x, _, rfl, rfl, SqT.of hp1, e1, t1, _, 2, _, rfl, rfl, SqT.of ht1, at2, ?_⟩
  refine ⟨_, rfl, _, rfl, p, xs2, y, _, rfl, rfl, SqT.of hp2, e2, t2, _, 2, _, rfl, rfl, SqT.of ht2, at2, ?_⟩
  refine ⟨r1, r2, _, _, rfl, .inr ⟨SqT.of hr1, SqT.of hr2, fun D nD => ?_⟩⟩
  refine lc_it walk_zt (fun i H3 => Same H2 H3 ∧ H3 D = some (.lst (((meetL dx.2.2 dy.2.2).take i).map V.int))) ⟨same_upd _ nD, upd_same⟩ (fun i H3 _ h => ⟨same_tup h.1 hr1, same_tup h.1 hr2⟩) (fun i v H3 H4 hi h hv => ?_) (fun H3 h => ?_)
  · obtain ⟨T, u1, u2, rfl, nT, rfl, q1, q2⟩ := hv
    obtain ⟨s3, e3⟩ := h
    obtain ⟨z1, hz1, rfl⟩ := map_at q1
    obtain ⟨z2, hz2, rfl⟩ := map_at q2
    have s4 := same_upd (H := H3) (.tup [V.int z1, V.int z2]) nT
    refine ⟨T, _, rfl, SqT.of upd_same, rfl, _, _, rfl, _, _, rfl, rfl, ?_⟩
    refine ⟨rfl, ?_⟩
    refine ⟨_, rfl, _, rfl, z1, z2, rfl, _, s4 _ _ e3, ?_, same_set (s3.trans s4) nD, ?_⟩
    · rw [List.length_map] at hi
      rw [List.length_map, List.length_take (l := meetL dx.2.2 dy.2.2)]
      exact small1000 (by omega)
    · rw [upd_same, meet_step hz1 hz2, List.map_append]
      rfl
  · obtain ⟨s3, e3⟩ := h
    rw [List.length_map, List.length_map, List.take_of_length_le (by unfold meetL; rw [List.length_zipWith]; exact Nat.le_refl _)] at e3
    refine ⟨D, _, rfl, .inl ⟨SqL.of e3, fun r nr => ?_⟩⟩
    have s123 := s12.trans s3
    exact fin _ r (s123.trans (same_upd _ nr)) (s123.free nr) upd_same
/-! ### _law_is -/
theorem scIs : FnScope ["_law_told", "_law_due", "_law_one", "_law_two"] ["_law_told", "_law_due"] (defScope sIs) := ⟨rfl, rfl, rfl, by decide +kernel, rfl, by decide +kernel, by decide +kernel⟩
def spIs0 : Sp := fun vs H Q _ => ∃ i : Int, vs = [.int i, .int i] ∧ ∀ H', Same H H' → Q (.bl true) H'
theorem ok_is0 {f : Addr} {fd : FuncData} (F : Fun K "_law_is" "_law_is" sIs f fd) (mi : mg "isinstance" = none) (mt : mg "tuple" = none) (ml : mg "list" = none) (mb : mg "bool" = none) : FnOk P w K mg base CX0 1 f fd ["_law_told", "_law_due"] spIs0 := by
  refine F.ok scIs (fun vs H Q E h => ?_) (fun cdv A outer s H vs Q E hr h => ?_)
  · obtain ⟨i, rfl, _⟩ := h
    rfl
  obtain ⟨i, rfl, fin⟩ := h
  refine ⟨_, pss_cons (ps_if (pt_val (pe_callB call_isiT rfl mi boot_isinstance (pa_cons (pv 1) (pa_cons (pe_tup (pa_cons (pe_bltn (v := .ty "tuple") rfl mt (by decide +kernel) rfl) (pa_cons (pe_bltn (v := .ty "list") rfl ml (by decide +kernel) rfl) pa_nil))) pa_nil)))) pss_never pss_nil)
    (pss_one (ps_ret (pe_and (pe_cmpR op_eq (pe_callB call_isi rfl mi boot_isinstance (pa_cons (pv 0) (pa_cons (pe_bltn (v := .ty "bool") rfl mb boot_bool rfl) pa_nil))) (pe_callB call_isi rfl mi boot_isinstance (pa_cons (pv 1) (pa_cons (pe_bltn (v := .ty "bool") rfl mb boot_bool rfl) pa_nil))) (nomark _))
      (pe_one (pe_cmpR op_eq (pv 0) (pv 1) (nomark _)))))), ?_⟩
  refine ⟨_, rfl, small (by decide), fun tp np => ?_⟩
  have s1 := same_upd (H := H) (.tup [.ty "tuple", .ty "list"]) np
  refine ⟨_, tp, _, _, _, false, rfl, upd_same, .cons (.ty "tuple") (.cons (.ty "list") .nil), .base (.int i), kitAny_cons (b := false) (kit_ty (by decide +kernel)) (fun _ => kitAny_cons (b := false) (kit_ty (b := "list") (r := false) (by decide +kernel)) (fun _ => kitAny_nil) (fun z => nomatch z)) (fun z => nomatch z), false, rfl, iteF ?_⟩
  refine ⟨_, rfl, _, _, _, _, false, rfl, .ty "bool", .base (.int i), kit_ty (by decide +kernel), ?_⟩
  refine ⟨_, rfl, _, _, _, _, false, rfl, .ty "bool", .base (.int i), kit_ty (by decide +kernel), rfl, true, rfl, iteT ?_⟩
  refine ⟨_, rfl, _, rfl, rfl, ?_⟩
  show Q (.bl (decide (V.int i = V.int i))) _
  rw [decide_eq_true rfl]
  exact fin _ s1
def spIs1 : Sp := fun vs H Q _ => ∃ (a b : Addr) (ns : List Int), vs = [.ref a, .ref b] ∧ H a = some (.tup (ns.map V.int)) ∧ H b = some (.tup (ns.map V.int)) ∧ ns.length ≤ 1000 ∧ ∀ H', Same H H' → Q (.bl true) H'
theorem ok_is1 {f : Addr} {fd : FuncData} (F : Fun K "_law_is" "_law_is" sIs f fd) (b1 : Binds K fd ["_law_told", "_law_due"] []) (m1 : mg "_law_is" = some (.ref f)) (mi : mg "isinstance" = none) (mt : mg "tuple" = none) (ml : mg "list" = none) (mb : mg "bool" = none) (mn : mg "len" = none) (ma : mg "all" = none) (mz : mg "zip" = none) :
    FnOk P w K mg base CX0 2 f fd ["_law_told", "_law_due"] spIs1 := by
  have G1 : FnOk P w K mg base CX0 1 f fd ["_law_told", "_law_due"] spIs0 := ok_is0 F mi mt ml mb
  refine F.ok scIs (fun vs H Q E h => ?_) (fun cdv A outer s H vs Q E hr h => ?_)
  · obtain ⟨a, b, ns, rfl, _⟩ := h
    rfl
  obtain ⟨a, b, ns, rfl, ha, hb, hl, fin⟩ := h
  refine ⟨_, pss_cons (ps_if (pt_val (pe_callB call_isiT rfl mi boot_isinstance (pa_cons (pv 1) (pa_cons (pe_tup (pa_cons (pe_bltn (v := .ty "tuple") rfl mt (by decide +kernel) rfl) (pa_cons (pe_bltn (v := .ty "list") rfl ml (by decide +kernel) rfl) pa_nil))) pa_nil))))
      (pss_cons (ps_if (PW.pt (pw_or (pt_cmpR op_ne (pe_callB call_isi rfl mi boot_isinstance (pa_cons (pv 0) (pa_cons (pe_bltn (v := .ty "tuple") rfl mt (by decide +kernel) rfl) pa_nil))) (pe_callB call_isi rfl mi boot_isinstance (pa_cons (pv 1) (pa_cons (pe_bltn (v := .ty "tuple") rfl mt (by decide +kernel) rfl) pa_nil))) (nomark _))
          (pw_or1 (pt_not (pt_val (pe_callB call_isiT rfl mi boot_isinstance (pa_cons (pv 0) (pa_cons (pe_tup (pa_cons (pe_bltn (v := .ty "tuple") rfl mt (by decide +kernel) rfl) (pa_cons (pe_bltn (v := .ty "list") rfl ml (by decide +kernel) rfl) pa_nil))) pa_nil)))))))) pss_never pss_nil)
        (pss_one (ps_ret (pe_and (pe_cmpR op_eq (pe_callB call_len_seq rfl mn PySem.boot_len (pa_cons (pv 0) pa_nil)) (pe_callB call_len_seq rfl mn PySem.boot_len (pa_cons (pv 1) pa_nil)) (nomark _))
          (pe_one (pe_callB (cr_all rfl) rfl ma (by decide +kernel) (pa_cons (pe_lc (own := [("_law_one", 2), ("_law_two", 3)]) (g := gTup K 2 (gCons (gName 2) (gCons (gName 3) gNil))) (tt := tYes) rfl scIs.nd (pi_zipA (by rfl) mz (pa_cons (pv 0) (pa_cons (pv 1) pa_nil)))
            (blkOk_by (own := [("_law_one", 2), ("_law_two", 3)]) (N := ["_law_told", "_law_due", "_law_one", "_law_two"]) (sc := defScope sIs) (by decide +kernel))
            (fun _ _ _ _ _ => pg_tup rfl (pgs_cons (pg_name (i := 2) scIs.nd rfl (Or.inl rfl)) (pgs_cons (pg_name (i := 3) scIs.nd rfl (Or.inl rfl)) pgs_nil))) (fun _ _ _ _ _ => pts_nil)
            (fun _ _ _ _ _ => pe_call G1 hr rfl m1 F.kp b1 .nil pass0 (pa_cons (pv 2) (pa_cons (pv 3) pa_nil)))) pa_nil))))))) pss_nil)
    (pss_one ps_never), ?_⟩
  refine ⟨_, rfl, small (by decide), fun tp np => ?_⟩
  have s1 := same_upd (H := H) (.tup [.ty "tuple", .ty "list"]) np
  refine ⟨_, tp, _, _, _, true, rfl, upd_same, .cons (.ty "tuple") (.cons (.ty "list") .nil), .base (.tup (s1 _ _ hb)), kitAny_cons (b := true) (kit_ty (by decide +kernel)) (fun z => nomatch z) (fun _ => rfl), true, rfl, iteT ?_⟩
  refine ⟨_, rfl, _, _, _, _, true, rfl, .ty "tuple", .base (.tup (s1 _ _ ha)), kit_ty (by decide +kernel), ?_⟩
  refine ⟨_, rfl, _, _, _, _, true, rfl, .ty "tuple", .base (.tup (s1 _ _ hb)), kit_ty (by decide +kernel), rfl, false, rfl, iteF ?_⟩
  refine ⟨_, rfl, small (by decide), fun tp2 np2 => ?_⟩
  have s2 := s1.trans (same_upd (.tup [.ty "tuple", .ty "list"]) np2)
  refine ⟨_, tp2, _, _, _, true, rfl, upd_same, .cons (.ty "tuple") (.cons (.ty "list") .nil), .base (.tup (s2 _ _ ha)), kitAny_cons (b := true) (kit_ty (by decide +kernel)) (fun z => nomatch z) (fun _ => rfl), true, rfl, iteF ?_⟩
  refine ⟨_, rfl, a, _, rfl, .inr (same_tup s2 ha), _, rfl, b, _, rfl, .inr (same_tup s2 hb), rfl, true, congrArg V.bl (decide_eq_true rfl), iteT ?_⟩
  refine ⟨_, rfl, _, rfl, a, b, _, _, rfl, .inr ⟨same_tup s2 ha, same_tup s2 hb, fun D nD => ?_⟩⟩
  refine lc_it walk_zt (fun i H3 => Same H H3 ∧ H3 D = some (.lst (List.replicate i (.bl true)))) ⟨s2.trans (same_upd _ nD), upd_same⟩ (fun i H3 _ h => ⟨same_tup h.1 ha, same_tup h.1 hb⟩) (fun i v H3 H4 hi h hv => ?_) (fun H3 h => ?_)
  · obtain ⟨T, u1, u2, rfl, nT, rfl, q1, q2⟩ := hv
    obtain ⟨s3, e3⟩ := h
    obtain ⟨z1, hz1, rfl⟩ := map_at q1
    obtain rfl : V.int z1 = u2 := Option.some.inj (q1.symm.trans q2)
    have s4 := s3.trans (same_upd (.tup [V.int z1, V.int z1]) nT)
    have e4 : (upd H3 T (.tup [V.int z1, V.int z1])) D = some (.lst (List.replicate i (.bl true))) := same_upd _ nT _ _ e3
    refine ⟨T, _, rfl, SqT.of upd_same, rfl, _, _, rfl, _, _, rfl, rfl, ?_⟩
    refine ⟨rfl, ?_⟩
    refine ⟨_, rfl, _, rfl, z1, rfl, fun H5 s5 => ?_⟩
    refine ⟨_, s5 _ _ e4, ?_, same_set (s4.trans s5) (s2.free nD), ?_⟩
    · rw [List.length_replicate]
      rw [List.length_map] at hi
      exact small1000 (by omega)
    · rw [upd_same, rep_succ]
  · obtain ⟨s3, e3⟩ := h
    refine ⟨D, List.replicate ns.length true, rfl, SqL.of ?_, ?_⟩
    · rw [e3, List.map_replicate, List.length_map, Nat.min_self]
    · rw [rep_all]
      exact fin H3 s3
end
end K50
namespace K50
open PySem PySem.Spec PyProof.Rows L2 RZ
/-! ### the hand of draws: the list at h may change, all else stays -/
def Mv (h : Addr) (H H' : Hp) : Prop := ∀ b o, b ≠ h → H b = some o → H' b = some o
theorem Mv.refl (h : Addr) (H : Hp) : Mv h H H := fun _ _ _ e => e
theorem Mv.trans {h : Addr} {H H1 H2 : Hp} (a : Mv h H H1) (b : Mv h H1 H2) : Mv h H H2 := fun c o n e => b c o n (a c o n e)
theorem Mv.of {h : Addr} {H H' : Hp} (s : Same H H') : Mv h H H' := fun b o _ e => s b o e
/-- cells, the place, the rest of a great cell, the mixed state, how many draws -/
def HandAt (H : Hp) (h c : Addr) : Prop := ∃ (cells : List Int) (i r m n : Int), H h = some (.lst [.ref c, .int i, .int r, .int m, .int n]) ∧ H c = some (.lst (cells.map V.int)) ∧ c ≠ h ∧ cells.length ≤ 63 ∧ (∀ z ∈ cells, 0 ≤ z) ∧ 0 ≤ i ∧ 0 ≤ r
section
variable {H H' H1 : Hp} {h c p : Addr} {o u : HO} {xs : List V}
theorem HandAt.ne_tup (a : HandAt H h c) (e : H p = some (.tup xs)) : p ≠ h := by
  obtain ⟨_, _, _, _, _, e1, _⟩ := a
  exact ne_of e e1 (fun z => by cases z)
theorem HandAt.ne_new (a : HandAt H h c) (e : H p = none) : p ≠ h := by
  obtain ⟨_, _, _, _, _, e1, _⟩ := a
  exact (ne_of_none e1 e).symm
theorem HandAt.ne_newc (a : HandAt H h c) (e : H p = none) : p ≠ c := by
  obtain ⟨_, _, _, _, _, _, e1, _⟩ := a
  exact (ne_of_none e1 e).symm
theorem HandAt.same (a : HandAt H h c) (s : Same H H') : HandAt H' h c := by
  obtain ⟨cells, i, r, m, n, e1, e2, q⟩ := a
  exact ⟨cells, i, r, m, n, s _ _ e1, s _ _ e2, q⟩
theorem Mv.free (m : Mv h H H1) (a : HandAt H1 h c) (n : H1 p = none) : H p = none := by
  cases e : H p with
  | none => rfl
  | some o =>
    have := m p o (a.ne_new n) e
    rw [n] at this
    cases this
theorem Mv.tup (m : Mv h H H1) (a : HandAt H h c) (e : H p = some (.tup xs)) : H1 p = some (.tup xs) := m p _ (a.ne_tup e) e
theorem Mv.set (m : Mv h H H1) (n : H p = none) : Mv h H (upd H1 p o) := fun b u e q => by
  rw [upd_ne (ne_of_none q n)]
  exact m b u e q
theorem Mv.self (m : Mv h H H1) : Mv h H (upd H1 h o) := fun b u e q => by
  rw [upd_ne e]
  exact m b u e q
theorem HandAt.set (a : HandAt H1 h c) (n : p ≠ h) (n2 : p ≠ c) : HandAt (upd H1 p o) h c := by
  obtain ⟨cells, i, r, m, k, e1, e2, q⟩ := a
  exact ⟨cells, i, r, m, k, by rw [upd_ne n.symm]; exact e1, by rw [upd_ne n2.symm]; exact e2, q⟩
/-- tuples stay -/
def Tp (H H' : Hp) : Prop := ∀ b xs, H b = some (.tup xs) → H' b = some (.tup xs)
theorem Tp.refl (H : Hp) : Tp H H := fun _ _ e => e
theorem Tp.trans {H H1 H2 : Hp} (a : Tp H H1) (b : Tp H1 H2) : Tp H H2 := fun p xs e => b p xs (a p xs e)
theorem Tp.of (s : Same H H') : Tp H H' := fun b xs e => s b _ e
theorem Mv.tp (m : Mv h H H1) (a : HandAt H h c) : Tp H H1 := fun _ _ e => m.tup a e
theorem Tp.lst {ys : List V} (e : H p = some (.lst ys)) : Tp H (upd H p o) := fun b xs q => by
  rw [upd_ne (ne_of q e (fun z => by cases z))]
  exact q
theorem Tp.new (e : H p = none) : Tp H (upd H p o) := Tp.of (same_upd o e)
end
theorem RowAt.tp {H H1 : Hp} {x : V} {d : Kd} (m : Tp H H1) (r : RowAt H x d) : RowAt H1 x d := by
  obtain ⟨t, q, e, h1, h2⟩ := r
  exact ⟨t, q, e, m _ _ h1, m _ _ h2⟩
theorem SchAt.tp {H H1 : Hp} {p : Addr} {ds : List Kd} (m : Tp H H1) (r : SchAt H p ds) : SchAt H1 p ds := by
  obtain ⟨xs, h1, h2⟩ := r
  exact ⟨xs, m _ _ h1, Paired.imp (fun _ _ => RowAt.tp m) h2⟩
section
variable {mg : Str → Option Value} {base : Heap} {P : Program} {w : World} {K : PySem.W.Frag}
/-! ### _law_hand -/
theorem scHand : FnScope ["_law_script", "_law_cells", "_law_cell"] ["_law_script"] (defScope sHand) := ⟨rfl, rfl, rfl, by decide +kernel, rfl, by decide +kernel, by decide +kernel⟩
def spHand (K : PySem.W.Frag) : Sp := fun vs H Q _ => ∃ (a : Addr) (ns : List Int), vs = [.ref a] ∧ SqL K H a (ns.map V.int) ∧ ns.length ≤ 63 ∧ ∀ H' h c, Same H H' → H h = none → HandAt H' h c → Q (.ref h) H'
theorem abs_nonneg (z : Int) : 0 ≤ (if z < 0 then -z else z) := by
  split <;> omega
theorem cut63 {ns : List Int} (h : ns.length ≤ 63) : cutV (ns.map V.int) none (some 63) = ns.map V.int := by
  unfold cutV
  rw [show HT.sIx (ns.map V.int).length (ns.map V.int).length (some 63) = min 63 (ns.map V.int).length from HT.sIx_nat _ _ 63, HT.sIx_none]
  rw [List.drop_zero, Nat.sub_zero, List.length_map, Nat.min_eq_right h]
  exact List.take_of_length_le (by rw [List.length_map]; exact Nat.le_refl _)
def absI (z : Int) : Int := if z < 0 then -z else z
theorem ok_hand {f : Addr} {fd : FuncData} (F : Fun K "_law_hand" "_law_hand" sHand f fd) (ma : mg "abs" = none) (mi : mg "int" = none) (ml : mg "len" = none) : FnOk P w K mg base CX0 1 f fd ["_law_script"] (spHand K) := by
  refine F.ok scHand (fun vs H Q E h => ?_) (fun cdv A outer s H vs Q E hr h => ?_)
  · obtain ⟨a, ns, rfl, _⟩ := h
    rfl
  obtain ⟨a, ns, rfl, hS, h63, fin⟩ := h
  refine ⟨_, pss_cons (ps_setLc (i := 1) (own := [("_law_cell", 2)]) (g := gName 2) (tt := tYes) rfl scHand.nd rfl rfl (sw_true rfl rfl rfl (by decide +kernel)) (pi_list (pe_slice sl_list (pv 0) po_none (po_some pe_int)))
      (blkOk_by (own := [("_law_cell", 2)]) (N := ["_law_script", "_law_cells", "_law_cell"]) (sc := defScope sHand) (by decide +kernel))
      (fun _ _ _ _ _ => pg_name (i := 2) scHand.nd rfl (Or.inl rfl)) (fun _ _ _ _ _ => pts_nil)
      (fun _ _ _ _ _ => pe_callB call_abs rfl ma (by decide +kernel) (pa_cons (pe_callTy call_int1 rfl mi boot_int (pa_cons (pv 2) pa_nil)) pa_nil)))
    (pss_one (ps_ret (pe_lst (pa_cons (pv 1) (pa_cons pe_int (pa_cons pe_int (pa_cons (pe_op op_add pe_int (pe_callB call_len_seq rfl ml PySem.boot_len (pa_cons (pv 1) pa_nil))) (pa_cons pe_int pa_nil)))))))), ?_⟩
  refine ⟨_, rfl, 63, rfl, a, ns.map V.int, rfl, hS, fun p np => ?_⟩
  rw [cut63 h63]
  refine ⟨p, rfl, ⟨_, SqL.of upd_same⟩, fun D nD => ?_⟩
  have s1 := same_upd (H := H) (.lst (ns.map V.int)) np
  refine lc_list (K := K) (xs := ns.map V.int) (fun i H1 => Same H H1 ∧ H1 p = some (.lst (ns.map V.int)) ∧ H1 D = some (.lst (((ns.take i).map absI).map V.int))) ⟨s1.trans (same_upd _ nD), ?_, upd_same⟩ (fun i H1 _ h => SqL.of h.2.1) (fun i x H1 hx h => ?_) (fun H1 h => ?_)
  · exact same_upd _ nD _ _ upd_same
  · obtain ⟨s2, ep, eD⟩ := h
    obtain ⟨z, hz, rfl⟩ := map_at hx
    refine ⟨rfl, ?_⟩
    refine ⟨_, rfl, .inl ⟨z, rfl, z, rfl, _, eD, ?_, same_set s2 (s1.free nD), ?_, ?_⟩⟩
    · rw [List.length_map, List.length_map, List.length_take]
      exact small1000 (by omega)
    · rw [upd_ne (ne_of_none upd_same nD), ep]
    · rw [upd_same, List.take_add_one, hz, List.map_append, List.map_append]
      rfl
  · obtain ⟨s2, ep, eD⟩ := h
    rw [List.length_map, List.take_length] at eD
    refine ⟨_, rfl, _, rfl, D, _, rfl, .inl (SqL.of eD), _, _, rfl, rfl, (by show 5 ≤ sizeLine; decide), fun h nh => ?_⟩
    have nDH : H D = none := s1.free nD
    refine fin _ h D (s2.trans (same_upd _ nh)) (s2.free nh) ⟨ns.map absI, 0, 0, _, 0, upd_same, ?_, ne_of_none eD nh, by rw [List.length_map]; exact h63, fun z hz => ?_, Int.le_refl 0, Int.le_refl 0⟩
    · exact same_upd _ nh _ _ eD
    · obtain ⟨y, _, rfl⟩ := List.mem_map.mp hz
      exact abs_nonneg y
/-! ### _law_draw -/
theorem scDraw : FnScope ["_law_hand_here", "_law_many", "_law_cell", "_law_digit", "_law_number"] ["_law_hand_here", "_law_many"] (defScope sDraw) := ⟨rfl, rfl, rfl, by decide +kernel, rfl, by decide +kernel, by decide +kernel⟩
def spDraw : Sp := fun vs H Q _ => ∃ (h c : Addr) (k : Int), vs = [.ref h, .int k] ∧ HandAt H h c ∧ 0 < k ∧ k < 1000 ∧ ∀ H' d, Mv h H H' → HandAt H' h c → 0 ≤ d → d < k → Q (.int d) H'
theorem ixN5 {c : Addr} {i r m n : Int} (j : Nat) (hj : j < 5) : ixN ([V.ref c, .int i, .int r, .int m, .int n] : List V).length (j : Int) = some j := by
  match j, hj with
  | 0, _ => rfl
  | 1, _ => rfl
  | 2, _ => rfl
  | 3, _ => rfl
  | 4, _ => rfl
theorem at3 {a b c d : V} {xs : List V} : atI (a :: b :: c :: d :: xs) 3 = some d := atI_nat (j := 3) rfl
theorem at4 {a b c d e : V} {xs : List V} : atI (a :: b :: c :: d :: e :: xs) 4 = some e := atI_nat (j := 4) rfl
theorem mod_ok {a k : Int} (h : 0 < k) : 0 ≤ a % k ∧ a % k < k := ⟨Int.emod_nonneg _ (by omega), Int.emod_lt_of_pos _ h⟩
theorem ok_draw {f : Addr} {fd : FuncData} (F : Fun K "_law_draw" "_law_draw" sDraw f fd) (mi : mg "int" = none) (ml : mg "len" = none) : FnOk P w K mg base CX0 1 f fd ["_law_hand_here", "_law_many"] spDraw := by
  refine F.ok scDraw (fun vs H Q E h => ?_) (fun cdv A outer s H vs Q E hr h => ?_)
  · obtain ⟨h, c, k, rfl, _⟩ := h
    rfl
  obtain ⟨h, c, k, rfl, hh, hk, hk2, fin⟩ := h
  obtain ⟨cells, i, r, m, n, eh, ec, hne, h63, hpos, hi, hr0⟩ := hh
  refine ⟨_, C8.pss_cut (ps_if (PW.pt (pw_and (pt_cmpR op_eq (pe_ix ix_list (pv 0) pe_int (fun _ _ => rfl)) pe_int (nomark _)) (pw_and1 (pt_cmpR op_lt (pe_ix ix_list (pv 0) pe_int (fun _ _ => rfl)) (pe_callB call_len_seq rfl ml PySem.boot_len (pa_cons (pe_ix ix_list (pv 0) pe_int (fun _ _ => rfl)) pa_nil)) (nomark _)))))
      (pss_cons (ps_set (i := 2) scDraw.nd rfl (Or.inl rfl) (pe_ix ix_list (pe_ix ix_list (pv 0) pe_int (fun _ _ => rfl)) (pe_ix ix_list (pv 0) pe_int (fun _ _ => rfl)) (fun _ _ => rfl)))
      (pss_cons (ps_asg (pe_op op_add (pe_ix ix_list (pv 0) pe_int (fun _ _ => rfl)) pe_int) (pg_sub (pv 0) pe_int set_list))
      (pss_cons (ps_asg (pe_op op_mod (pe_callTy call_int1 rfl mi boot_int (pa_cons (pe_op op_add (pe_op op_add (pe_op op_mul (pe_ix ix_list (pv 0) pe_int (fun _ _ => rfl)) pe_int) (pv 2)) pe_int) pa_nil)) pe_int) (pg_sub (pv 0) pe_int set_list))
      (pss_one (ps_if (pt_cmpR op_ge (pv 2) (pe_op op_pow pe_int pe_int) (nomark _)) (pss_one (ps_asg (pv 2) (pg_sub (pv 0) pe_int set_list))) pss_nil))))) pss_nil)
    (C8.pss_cut (ps_if (pt_cmpR op_gt (pe_ix ix_list (pv 0) pe_int (fun _ _ => rfl)) pe_int (nomark _))
      (pss_cons (ps_set (i := 3) scDraw.nd rfl (Or.inl rfl) (pe_op op_mod (pe_callTy call_int1 rfl mi boot_int (pa_cons (pe_ix ix_list (pv 0) pe_int (fun _ _ => rfl)) pa_nil)) (pv 1)))
      (pss_cons (ps_asg (pe_op op_fdiv (pe_ix ix_list (pv 0) pe_int (fun _ _ => rfl)) (pv 1)) (pg_sub (pv 0) pe_int set_list))
      (pss_one (ps_ret (pv 3))))) pss_nil)
    (pss_cons (ps_asg (pe_op op_add (pe_ix ix_list (pv 0) pe_int (fun _ _ => rfl)) pe_int) (pg_sub (pv 0) pe_int set_list))
    (pss_cons (ps_set (i := 4) scDraw.nd rfl (Or.inl rfl) (pe_op op_mod (pe_callTy call_int1 rfl mi boot_int (pa_cons (pe_op op_mul (pe_callTy call_int1 rfl mi boot_int (pa_cons (pe_op op_add (pe_ix ix_list (pv 0) pe_int (fun _ _ => rfl)) (pe_op op_mul pe_int (pe_ix ix_list (pv 0) pe_int (fun _ _ => rfl)))) pa_nil)) pe_int) pa_nil)) pe_int))
    (pss_cons (ps_set (i := 4) scDraw.nd rfl (Or.inl rfl) (pe_op op_mod (pe_callTy call_int1 rfl mi boot_int (pa_cons (pe_op op_mul (pv 4) (pe_op op_add (pe_op op_fdiv (pv 4) pe_int) pe_int)) pa_nil)) pe_int))
    (pss_cons (ps_set (i := 4) scDraw.nd rfl (Or.inl rfl) (pe_op op_mod (pe_callTy call_int1 rfl mi boot_int (pa_cons (pe_op op_mul (pv 4) (pe_op op_add (pe_op op_fdiv (pv 4) pe_int) pe_int)) pa_nil)) pe_int))
    (pss_one (ps_ret (pe_op op_mod (pe_callTy call_int1 rfl mi boot_int (pa_cons (pe_op op_fdiv (pv 4) pe_int) pa_nil)) (pv 1))))))))), ?_⟩
  have hL : SqL K H h [.ref c, .int i, .int r, .int m, .int n] := SqL.of eh
  refine ⟨fun σ H1 => ∃ y : Option V, σ = [some (.ref h), some (.int k), y, none, none] ∧ Mv h H H1 ∧ HandAt H1 h c, ?_, fun σ H1 hmid => ?_⟩
  · -- a cell is taken in, or not
    refine ⟨_, rfl, h, _, 2, _, rfl, rfl, hL, at2, rfl, _, rfl, ite2 (fun e1 => ?_) (fun e1 => ?_)⟩
    · refine ⟨_, rfl, h, _, 1, _, rfl, rfl, hL, at1, _, rfl, h, _, 0, _, rfl, rfl, hL, at0, c, _, rfl, .inl (SqL.of ec), _, _, rfl, rfl, _, rfl, ite2 (fun e2 => ?_) (fun e2 => ?_)⟩
      · have hlt : i < (((cells.map V.int).length : Nat) : Int) := of_decide_eq_true e2
        rw [List.length_map] at hlt
        have hin : i.toNat < cells.length := by omega
        have hat : atI (cells.map V.int) i = some (.int cells[i.toNat]) := atI_list hi (by rw [List.getElem?_map, List.getElem?_eq_getElem hin] <;> rfl)
        have hz : 0 ≤ cells[i.toNat] := hpos _ (List.getElem_mem hin)
        refine ⟨_, rfl, h, _, 0, _, rfl, rfl, hL, at0, _, rfl, h, _, 1, _, rfl, rfl, hL, at1, c, _, i, _, rfl, rfl, SqL.of ec, hat, ?_⟩
        refine ⟨_, rfl, h, _, 1, _, rfl, rfl, hL, at1, _, _, rfl, rfl, _, rfl, h, _, 1, 1, rfl, rfl, eh, rfl, ?_⟩
        refine ⟨_, rfl, h, _, 3, _, rfl, rfl, SqL.of upd_same, at3, _, _, rfl, rfl, .inr ⟨by decide, by decide⟩, _, rfl, _, _, rfl, rfl, _, _, rfl, rfl, .inl ⟨_, rfl, _, _, rfl, rfl, (by show (0 : Int) < 2147483629; decide), _, rfl, h, _, 3, 3, rfl, rfl, upd_same, rfl, ?_⟩⟩
        refine ⟨_, rfl, _, _, rfl, rfl, ⟨by decide, by decide, by decide⟩, _, _, rfl, rfl, _, rfl, ite2 (fun _ => ?_) (fun _ => ?_)⟩
        · refine ⟨_, rfl, _, rfl, h, _, 2, 2, rfl, rfl, upd_same, rfl, ?_⟩
          refine ⟨_, rfl, Mv.self (Mv.self (Mv.self (Mv.refl h H))), cells, i + 1, cells[i.toNat], _, n, upd_same, ?_, hne, h63, hpos, by omega, hz⟩
          rw [upd_ne hne, upd_ne hne, upd_ne hne]
          exact ec
        · refine ⟨_, rfl, Mv.self (Mv.self (Mv.refl h H)), cells, i + 1, r, _, n, upd_same, ?_, hne, h63, hpos, by omega, hr0⟩
          rw [upd_ne hne, upd_ne hne]
          exact ec
      · exact ⟨none, rfl, Mv.refl h H, cells, i, r, m, n, eh, ec, hne, h63, hpos, hi, hr0⟩
    · exact ⟨none, rfl, Mv.refl h H, cells, i, r, m, n, eh, ec, hne, h63, hpos, hi, hr0⟩
  · obtain ⟨y, rfl, mv, hh⟩ := hmid
    clear hL eh ec hne h63 hpos hi hr0
    obtain ⟨cells, i, r, m, n, eh, ec, hne, h63, hpos, hi, hr0⟩ := hh
    have hL : SqL K H1 h [.ref c, .int i, .int r, .int m, .int n] := SqL.of eh
    refine ⟨fun σ H2 => σ = [some (.ref h), some (.int k), y, none, none] ∧ H2 = H1, ?_, fun σ H2 hmid => ?_⟩
    · refine ⟨_, rfl, h, _, 2, _, rfl, rfl, hL, at2, _, _, rfl, rfl, _, rfl, ite2 (fun e1 => ?_) (fun e1 => ?_)⟩
      · refine ⟨_, rfl, h, _, 2, _, rfl, rfl, hL, at2, .inl ⟨_, rfl, _, rfl, _, _, rfl, rfl, hk, ?_⟩⟩
        refine ⟨_, rfl, h, _, 2, _, rfl, rfl, hL, at2, _, rfl, _, _, rfl, rfl, ⟨hk, by omega⟩, _, rfl, h, _, 2, 2, rfl, rfl, eh, rfl, ?_⟩
        refine ⟨_, rfl, ?_⟩
        refine fin _ _ (Mv.self mv) ⟨cells, i, r / k, m, n, upd_same, ?_, hne, h63, hpos, hi, Int.ediv_nonneg hr0 (by omega)⟩ (mod_ok hk).1 (mod_ok hk).2
        rw [upd_ne hne]
        exact ec
      · exact ⟨rfl, rfl⟩
    · obtain ⟨rfl, rfl⟩ := hmid
      refine ⟨_, rfl, h, _, 4, _, rfl, rfl, hL, at4, _, _, rfl, rfl, _, rfl, h, _, 4, 4, rfl, rfl, eh, rfl, ?_⟩
      refine ⟨_, rfl, h, _, 3, _, rfl, rfl, SqL.of upd_same, at3, _, rfl, h, _, 4, _, rfl, rfl, SqL.of upd_same, at4, _, _, rfl, rfl, .inl ⟨by decide, by decide⟩, _, _, rfl, rfl, .inl ⟨_, rfl, _, _, rfl, rfl, .inr ⟨by decide, by decide⟩, .inl ⟨_, rfl, _, _, rfl, rfl, (by show (0 : Int) < 2147483647; decide), ?_⟩⟩⟩
      have b1 := mod_ok (a := (m + 7919 * (n + 1)) * 48271) (k := 2147483647) (by decide)
      refine ⟨_, rfl, _, rfl, _, _, rfl, rfl, ⟨by decide, by decide⟩, _, _, rfl, rfl, _, _, rfl, rfl, .inl ⟨by omega, by omega⟩, .inl ⟨_, rfl, _, _, rfl, rfl, (by show (0 : Int) < 2147483647; decide), ?_⟩⟩
      generalize hz : ((m + 7919 * (n + 1)) * 48271 % 2147483647 * ((m + 7919 * (n + 1)) * 48271 % 2147483647 / 1009 + 69621)) = z
      have b2 := mod_ok (a := z) (k := 2147483647) (by decide)
      refine ⟨_, rfl, _, rfl, _, _, rfl, rfl, ⟨by decide, by decide⟩, _, _, rfl, rfl, _, _, rfl, rfl, .inl ⟨by omega, by omega⟩, .inl ⟨_, rfl, _, _, rfl, rfl, (by show (0 : Int) < 2147483399; decide), ?_⟩⟩
      refine ⟨_, rfl, _, _, rfl, rfl, ⟨by decide, by decide⟩, .inl ⟨_, rfl, _, rfl, _, _, rfl, rfl, hk, ?_⟩⟩
      refine fin _ _ (Mv.self mv) ⟨cells, i, r, m, n + 1, upd_same, ?_, hne, h63, hpos, hi, hr0⟩ (mod_ok hk).1 (mod_ok hk).2
      rw [upd_ne hne]
      exact ec
end
end K50
namespace K50
open PySem PySem.Spec PyProof.Rows L2 RZ
theorem Paired.snoc {α β : Type} {F : α → β → Prop} {a : α} {b : β} (r : F a b) : ∀ {l : List α} {m : List β}, Paired F l m → Paired F (l ++ [a]) (m ++ [b])
  | _, _, .nil => .cons r .nil
  | _, _, .cons q t => .cons q (Paired.snoc r t)
/-- no greater than the greatest that is ever written here -/
def Bd (z : Int) : Prop := z.natAbs < 2 ^ 200
theorem Bd.le {z : Int} (h : z.natAbs ≤ 1000) : Bd z := Nat.lt_of_le_of_lt h (by decide)
def OkK (d : Kd) : Prop := 0 ≤ d.1 ∧ d.2.2.length ≤ 16 ∧ Bd d.1 ∧ Bd d.2.1 ∧ ∀ z ∈ d.2.2, Bd z
theorem OkK.kd {d : Kd} (h : OkK d) : OkKd d := ⟨h.1, Nat.le_trans h.2.1 (by decide)⟩
/-- what is made: a scheme of n kinds -/
def Made (H : Hp) (r : Addr) (n : Nat) : Prop := ∃ ds : List Kd, SchAt H r ds ∧ ds.length = n ∧ ∀ d ∈ ds, OkK d
section
variable {mg : Str → Option Value} {base : Heap} {P : Program} {w : World} {K : PySem.W.Frag}
/-! ### _law_any_scheme -/
theorem scAny : FnScope ["_law_hand_here", "_law_many", "_law_found", "_law_kind", "_law_size", "_law_row", "_law_at"] ["_law_hand_here", "_law_many"] (defScope sAny) := ⟨rfl, rfl, rfl, by decide +kernel, rfl, by decide +kernel, by decide +kernel⟩
def spAny : Sp := fun vs H Q _ => ∃ (h c : Addr) (n : Nat), vs = [.ref h, vN n] ∧ HandAt H h c ∧ n ≤ 8 ∧ ∀ H' r, Mv h H H' → HandAt H' h c → H r = none → Made H' r n → Q (.ref r) H'
theorem ok_any {f g1 : Addr} {fd gd1 : FuncData} (F : Fun K "_law_any_scheme" "_law_any_scheme" sAny f fd) (G1 : FnOk P w K mg base CX0 1 g1 gd1 ["_law_hand_here", "_law_many"] spDraw) (b1 : Binds K gd1 ["_law_hand_here", "_law_many"] []) (k1 : PySem.W.keepIn K (.ref g1) = true) (m1 : mg "_law_draw" = some (.ref g1))
    (mt : mg "tuple" = none) (mr : mg "range" = none) : FnOk P w K mg base CX0 2 f fd ["_law_hand_here", "_law_many"] spAny := by
  refine F.ok scAny (fun vs H Q E h => ?_) (fun cdv A outer s H vs Q E hr h => ?_)
  · obtain ⟨h, c, n, rfl, _⟩ := h
    rfl
  obtain ⟨h, c, n, rfl, hh, hn, fin⟩ := h
  refine ⟨_, pss_cons (ps_set (i := 2) scAny.nd rfl (Or.inl rfl) (pe_lst pa_nil))
    (pss_cons (ps_for PassesOwn.never rfl (pi_range1 rfl mr (pa_cons (pv 1) pa_nil)) (pg_name (i := 3) scAny.nd rfl (Or.inl rfl))
      (pss_cons (ps_set (i := 4) scAny.nd rfl (Or.inl rfl) (pe_call G1 hr rfl m1 k1 b1 .nil pass0 (pa_cons (pv 0) (pa_cons pe_int pa_nil))))
      (pss_cons (ps_set (i := 5) scAny.nd rfl (Or.inl rfl) (pe_callTy call_tuple_of rfl mt (by decide +kernel) (pa_cons (pe_lc (own := [("_law_at", 6)]) (g := gName 6) (tt := tYes) rfl scAny.nd (pi_range1 rfl mr (pa_cons (pv 4) pa_nil))
        (blkOk_by (own := [("_law_at", 6)]) (N := ["_law_hand_here", "_law_many", "_law_found", "_law_kind", "_law_size", "_law_row", "_law_at"]) (sc := defScope sAny) (by decide +kernel))
        (fun _ _ _ _ _ => pg_name (i := 6) scAny.nd rfl (Or.inl rfl)) (fun _ _ _ _ _ => pts_nil)
        (fun _ _ _ _ _ => pe_op op_sub (pe_call G1 hr rfl m1 k1 b1 .nil pass0 (pa_cons (pv 0) (pa_cons pe_int pa_nil))) pe_int)) pa_nil)))
      (pss_one (ps_expr (pe_bm PySem.F.plainAttrs_list PySem.F.slot_list_append PySem.F.type_list_append mt_append (pv 2)
        (pa_cons (pe_tup (pa_cons (pe_call G1 hr rfl m1 k1 b1 .nil pass0 (pa_cons (pv 0) (pa_cons pe_int pa_nil))) (pa_cons (pe_op op_sub (pe_call G1 hr rfl m1 k1 b1 .nil pass0 (pa_cons (pv 0) (pa_cons pe_int pa_nil))) pe_int) (pa_cons (pv 5) pa_nil)))) pa_nil)))))))
    (pss_one (ps_ret (pe_callTy call_tuple_of rfl mt (by decide +kernel) (pa_cons (pv 2) pa_nil))))), ?_⟩
  refine ⟨Nat.zero_le _, fun fo nfo => ?_⟩
  have f1 : fo ≠ h := hh.ne_new nfo
  have f2 : fo ≠ c := hh.ne_newc nfo
  have hh1 : HandAt (upd H fo (.lst [])) h c := hh.set f1 f2
  refine ⟨_, rfl, (n : Int), rfl, by omega, by omega, ?_⟩
  have key : ((n : Int)).toNat = n := by omega
  rw [key]
  refine for_range (lo := 0) (n := n) (fun i σ H1 => ∃ y3 y4 y5 xs ds, σ = [some (.ref h), some (vN n), some (.ref fo), y3, y4, y5, none] ∧ Mv h H H1 ∧ HandAt H1 h c ∧ H1 fo = some (.lst xs) ∧ Paired (RowAt H1) xs ds ∧ ds.length = i ∧ ∀ d ∈ ds, OkK d)
    ⟨none, none, none, [], [], rfl, (Mv.refl h H).set nfo, hh1, upd_same, .nil, rfl, fun _ z => nomatch z⟩ (fun i σ H1 hi p => ?_) (fun σ H1 p => ?_)
  · obtain ⟨y3, y4, y5, xs, ds, rfl, mv, hh, ef, pr, el, ok⟩ := p
    -- size = draw(6)
    refine ⟨_, rfl, h, c, 6, rfl, hh, by decide, by decide, fun H2 d mv2 hh2 d0 d6 => ?_⟩
    obtain ⟨z, rfl⟩ : ∃ z : Nat, d = z := ⟨d.toNat, by omega⟩
    have hz : z < 6 := by omega
    -- row
    refine ⟨_, rfl, (z : Int), rfl, by omega, by omega, fun D nD => ?_⟩
    have kz : ((z : Int)).toNat = z := by omega
    rw [kz]
    have D1 : D ≠ h := hh2.ne_new nD
    have D2 : D ≠ c := hh2.ne_newc nD
    refine lc_range (lo := 0) (n := z) (fun j H3 => Mv h H2 H3 ∧ HandAt H3 h c ∧ ∃ zs : List Int, zs.length = j ∧ (∀ v ∈ zs, Bd v) ∧ H3 D = some (.lst (zs.map V.int))) ⟨(Mv.refl h H2).set nD, hh2.set D1 D2, [], rfl, fun _ z => (nomatch z), upd_same⟩ (fun j H3 hj p => ?_) (fun H3 p => ?_)
    · obtain ⟨mv3, hh3, zs, lz, bz, eD⟩ := p
      refine ⟨rfl, ?_⟩
      refine ⟨_, rfl, h, c, 7, rfl, hh3, by decide, by decide, fun H4 d mv4 hh4 d0 d7 => ?_⟩
      refine ⟨_, _, rfl, rfl, _, mv4 D _ D1 eD, ?_, (mv3.trans mv4).set nD, hh4.set D1 D2, zs ++ [d - 3], ?_, fun v hv => ?_, ?_⟩
      · rw [List.length_map]
        exact small1000 (by omega)
      · rw [List.length_append, lz]
        rfl
      · rcases mem_snoc hv with hv | hv
        · exact bz v hv
        · rw [hv]
          exact Bd.le (by omega)
      · rw [upd_same, List.map_append]
        rfl
    · obtain ⟨mv3, hh3, zs, lz, bz, eD⟩ := p
      refine ⟨D, _, rfl, .inl ⟨SqL.of eD, fun r nr => ?_⟩⟩
      -- found.append((draw(5), draw(7) - 3, row))
      have mA : Mv h H1 (upd H3 r (.tup (zs.map V.int))) := (mv2.trans mv3).trans (Mv.of (same_upd _ nr))
      have hA : HandAt (upd H3 r (.tup (zs.map V.int))) h c := hh3.same (same_upd _ nr)
      have eA := mA fo _ f1 ef
      refine ⟨_, rfl, .inl ⟨rfl, _, SqL.of eA⟩, ?_⟩
      refine ⟨_, rfl, h, c, 5, rfl, hA, by decide, by decide, fun H5 d5 mv5 hh5 d50 d55 => ?_⟩
      refine ⟨_, rfl, h, c, 7, rfl, hh5, by decide, by decide, fun H6 d6 mv6 hh6 d60 d67 => ?_⟩
      have mB := mv5.trans mv6
      refine ⟨_, _, rfl, rfl, _, rfl, (by show 3 ≤ sizeLine; decide), fun t nt => ?_⟩
      have mC : Mv h H1 (upd H6 t (.tup [.int d5, .int (d6 - 3), .ref r])) := (mA.trans mB).trans (Mv.of (same_upd _ nt))
      have hC : HandAt (upd H6 t (.tup [.int d5, .int (d6 - 3), .ref r])) h c := hh6.same (same_upd _ nt)
      have eC := mC fo _ f1 ef
      have eR : (upd H6 t (.tup [.int d5, .int (d6 - 3), .ref r])) r = some (.tup (zs.map V.int)) := (mB.trans (Mv.of (same_upd _ nt))) r _ (hA.ne_tup upd_same) upd_same
      refine ⟨fo, xs, _, rfl, rfl, eC, ?_, ?_⟩
      · rw [Paired.length pr, el]
        exact small1000 (by omega)
      · have tp : Tp H1 (upd (upd H6 t (.tup [.int d5, .int (d6 - 3), .ref r])) fo (.lst (xs ++ [.ref t]))) := (mC.tp hh).trans (Tp.lst eC)
        refine ⟨_, _, _, xs ++ [.ref t], ds ++ [(d5, d6 - 3, zs)], rfl, (mv.trans mC).set nfo, hC.set f1 f2, upd_same, Paired.snoc ?_ (Paired.imp (fun _ _ => RowAt.tp tp) pr), ?_, fun d hd => ?_⟩
        · refine ⟨t, r, rfl, Tp.lst eC _ _ upd_same, Tp.lst eC _ _ eR⟩
        · rw [List.length_append, el]
          rfl
        · rcases mem_snoc hd with hd | hd
          · exact ok d hd
          · rw [hd]
            exact ⟨d50, by show zs.length ≤ 16; omega, Bd.le (by show d5.natAbs ≤ 1000; omega), Bd.le (by show (d6 - 3).natAbs ≤ 1000; omega), bz⟩
  · obtain ⟨y3, y4, y5, xs, ds, rfl, mv, hh, ef, pr, el, ok⟩ := p
    refine ⟨_, rfl, fo, xs, rfl, .inl ⟨SqL.of ef, fun r nr => ?_⟩⟩
    have s1 := same_upd (.tup xs) nr
    exact fin _ r (mv.trans (Mv.of s1)) (hh.same s1) (mv.free hh nr) ⟨ds, ⟨xs, upd_same, Paired.imp (fun _ _ => RowAt.same s1) pr⟩, el, ok⟩
end
end K50
namespace K50
open PySem PySem.Spec PyProof.Rows L2 RZ
theorem Paired.take {α β : Type} {F : α → β → Prop} : ∀ (n : Nat) {l : List α} {m : List β}, Paired F l m → Paired F (l.take n) (m.take n)
  | 0, _, _, _ => .nil
  | _ + 1, _, _, .nil => .nil
  | n + 1, _, _, .cons r t => .cons r (Paired.take n t)
theorem Paired.drop {α β : Type} {F : α → β → Prop} : ∀ (n : Nat) {l : List α} {m : List β}, Paired F l m → Paired F (l.drop n) (m.drop n)
  | 0, _, _, h => h
  | _ + 1, _, _, .nil => .nil
  | n + 1, _, _, .cons _ t => Paired.drop n t
theorem Paired.app {α β : Type} {F : α → β → Prop} : ∀ {l l' : List α} {m m' : List β}, Paired F l m → Paired F l' m' → Paired F (l ++ l') (m ++ m')
  | _, _, _, _, .nil, h => h
  | _, _, _, _, .cons r t, h => .cons r (Paired.app t h)
theorem cut_to {xs : List V} {i : Nat} (h : i ≤ xs.length) : cutV xs none (some (i : Int)) = xs.take i := by
  unfold cutV
  rw [HT.sIx_none, show HT.sIx xs.length xs.length (some (i : Int)) = min i xs.length from HT.sIx_nat _ _ i, Nat.min_eq_left h, List.drop_zero, Nat.sub_zero]
theorem cut_from {xs : List V} {i : Nat} (h : i ≤ xs.length) : cutV xs (some (i : Int)) none = xs.drop i := by
  unfold cutV
  rw [HT.sIx_none, show HT.sIx xs.length 0 (some (i : Int)) = min i xs.length from HT.sIx_nat _ _ i, Nat.min_eq_left h]
  exact List.take_of_length_le (by rw [List.length_drop]; exact Nat.le_refl _)
section
variable {K : PySem.W.Frag} {H : Hp} {a b : Addr} {xs ys : List V} {lo hi : Option Int} {Q : VK}
/-- a tuple's slice, the whole of it or a new one -/
theorem slice_any (ha : H a = some (.tup xs)) (q : ∀ r H', Same H H' → H' r = some (.tup (cutV xs lo hi)) → Q (.ref r) H') : rSlA K (.ref a) lo hi H Q := by
  refine ⟨a, xs, rfl, SqT.of ha, fun hw => q a H (Same.refl H) ?_, fun _ p np => q p _ (same_upd _ np) upd_same⟩
  have e : cutV xs lo hi = xs := by
    unfold cutV
    rw [hw.1, hw.2, List.drop_zero, Nat.sub_zero, List.take_length]
  rw [e]
  exact ha
/-- two tuples glued, one of them or a new one -/
theorem glue_any (ha : H a = some (.tup xs)) (hb : H b = some (.tup ys)) (hl : xs.length + ys.length ≤ sizeLine) (q : ∀ r H', Same H H' → H' r = some (.tup (xs ++ ys)) → Q (.ref r) H') : rCatA K (.ref a) (.ref b) H Q := by
  refine ⟨a, b, xs, ys, rfl, rfl, SqT.of ha, SqT.of hb, hl, fun e => q b H (Same.refl H) ?_, fun _ e => q a H (Same.refl H) ?_, fun _ _ p np => q p _ (same_upd _ np) upd_same⟩
  · rw [e]
    exact hb
  · rw [e, List.append_nil]
    exact ha
end
/-- one place of a scheme changed -/
theorem bent_made {H : Hp} {xs : List V} {ds : List Kd} {i n : Nat} {t r : Addr} {d : Kd} (pr : Paired (RowAt H) xs ds) (el : ds.length = n) (ok : ∀ d ∈ ds, OkK d) (hi : i < n) (hd : RowAt H (.ref t) d) (okd : OkK d)
    (er : H r = some (.tup ((xs.take i ++ [.ref t]) ++ xs.drop (i + 1)))) : Made H r n := by
  refine ⟨(ds.take i ++ [d]) ++ ds.drop (i + 1), ⟨_, er, Paired.app (Paired.snoc hd (Paired.take i pr)) (Paired.drop (i + 1) pr)⟩, ?_, fun d' h => ?_⟩
  · simp only [List.length_append, List.length_take, List.length_drop, List.length_singleton]
    omega
  · rcases in_app h with h | h
    · rcases mem_snoc h with h | h
      · exact ok d' (List.mem_of_mem_take h)
      · rw [h]
        exact okd
    · exact ok d' (List.mem_of_mem_drop h)
theorem succ_cast (i : Nat) : (i : Int) + 1 = ((i + 1 : Nat) : Int) := by omega
theorem noPart {σ : L2.St} {H : Hp} {Q : Option Int → Hp → Prop} (h : Q none H) : tNoPart σ H Q := h
theorem three_at {a b c d : Int} (h0 : 0 ≤ d) (h3 : d < 3) : ∃ g, atI ([.int a, .int b, .int c] : List V) d = some (.int g) ∧ (g = a ∨ g = b ∨ g = c) := by
  rcases (by omega : d = 0 ∨ d = 1 ∨ d = 2) with e | e | e <;> subst e
  · exact ⟨a, at0, .inl rfl⟩
  · exact ⟨b, at1, .inr (.inl rfl)⟩
  · exact ⟨c, at2, .inr (.inr rfl)⟩
theorem bd_pow : Bd (10 ^ ((60 : Int)).toNat) := by
  unfold Bd
  decide +kernel
theorem bd_neg {z : Int} (h : Bd z) : Bd (-z) := by
  unfold Bd at *
  rw [Int.natAbs_neg]
  exact h
section
variable {mg : Str → Option Value} {base : Heap} {P : Program} {w : World} {K : PySem.W.Frag}
/-! ### _law_bent -/
theorem scBent : FnScope ["_law_hand_here", "_law_scheme", "_law_at", "_law_slot", "_law_number", "_law_row", "_law_great", "_law_place"] ["_law_hand_here", "_law_scheme"] (defScope sBent) := ⟨rfl, rfl, rfl, by decide +kernel, rfl, by decide +kernel, by decide +kernel⟩
def spBent : Sp := fun vs H Q _ => ∃ (h c p : Addr) (n : Nat), vs = [.ref h, .ref p] ∧ HandAt H h c ∧ Made H p n ∧ 1 ≤ n ∧ n ≤ 8 ∧ ∀ H' r, Mv h H H' → HandAt H' h c → Made H' r n → Q (.ref r) H'
theorem ok_bent {f g1 : Addr} {fd gd1 : FuncData} (F : Fun K "_law_bent" "_law_bent" sBent f fd) (G1 : FnOk P w K mg base CX0 1 g1 gd1 ["_law_hand_here", "_law_many"] spDraw) (b1 : Binds K gd1 ["_law_hand_here", "_law_many"] []) (k1 : PySem.W.keepIn K (.ref g1) = true) (m1 : mg "_law_draw" = some (.ref g1))
    (ml : mg "len" = none) : FnOk P w K mg base CX0 2 f fd ["_law_hand_here", "_law_scheme"] spBent := by
  refine F.ok scBent (fun vs H Q E h => ?_) (fun cdv A outer s H vs Q E hr h => ?_)
  · obtain ⟨h, c, p, n, rfl, _⟩ := h
    rfl
  obtain ⟨h, c, p, n, rfl, hh, ⟨ds, hs, el, ok⟩, n1, n8, fin⟩ := h
  refine ⟨_, pss_cons (ps_set (i := 2) scBent.nd rfl (Or.inl rfl) (pe_call G1 hr rfl m1 k1 b1 .nil pass0 (pa_cons (pv 0) (pa_cons (pe_callB call_len_seq rfl ml PySem.boot_len (pa_cons (pv 1) pa_nil)) pa_nil))))
    (pss_cons (ps_asg (pe_ix ix_tup (pv 1) (pv 2) (fun _ _ => rfl)) (pg_tup rfl (pgs_cons (pg_name (i := 3) scBent.nd rfl (Or.inl rfl)) (pgs_cons (pg_name (i := 4) scBent.nd rfl (Or.inl rfl)) (pgs_cons (pg_name (i := 5) scBent.nd rfl (Or.inl rfl)) pgs_nil)))))
    (pss_cons (ps_set (i := 6) scBent.nd rfl (Or.inl rfl) (pe_ix ix_list (pe_lst (pa_cons (pe_op op_sub (pe_call G1 hr rfl m1 k1 b1 .nil pass0 (pa_cons (pv 0) (pa_cons pe_int pa_nil))) pe_int) (pa_cons (pe_op op_pow pe_int pe_int) (pa_cons (pe_un un_neg (pe_op op_pow pe_int pe_int)) pa_nil))))
      (pe_call G1 hr rfl m1 k1 b1 .nil pass0 (pa_cons (pv 0) (pa_cons pe_int pa_nil))) (fun _ _ => rfl)))
    (pss_cons (ps_if (PW.pt (pw_or (pt_cmpR op_eq (pe_callB call_len_seq rfl ml PySem.boot_len (pa_cons (pv 5) pa_nil)) pe_int (nomark _)) (pw_or1 (pt_cmpR op_eq (pe_call G1 hr rfl m1 k1 b1 .nil pass0 (pa_cons (pv 0) (pa_cons pe_int pa_nil))) pe_int (nomark _)))))
      (pss_one (ps_ret (pe_op op_catA (pe_op op_catA (pe_slice sl_tupA (pv 1) po_none (po_some (pv 2))) (pe_tup (pa_cons (pe_tup (pa_cons (pv 3) (pa_cons (pv 6) (pa_cons (pv 5) pa_nil)))) pa_nil))) (pe_slice sl_tupA (pv 1) (po_some (pe_op op_add (pv 2) pe_int)) po_none)))) pss_nil)
    (pss_cons (ps_set (i := 7) scBent.nd rfl (Or.inl rfl) (pe_call G1 hr rfl m1 k1 b1 .nil pass0 (pa_cons (pv 0) (pa_cons (pe_callB call_len_seq rfl ml PySem.boot_len (pa_cons (pv 5) pa_nil)) pa_nil))))
    (pss_one (ps_ret (pe_op op_catA (pe_op op_catA (pe_slice sl_tupA (pv 1) po_none (po_some (pv 2)))
      (pe_tup (pa_cons (pe_tup (pa_cons (pv 3) (pa_cons (pv 4) (pa_cons (pe_op op_catA (pe_op op_catA (pe_slice sl_tupA (pv 5) po_none (po_some (pv 7))) (pe_tup (pa_cons (pv 6) pa_nil))) (pe_slice sl_tupA (pv 5) (po_some (pe_op op_add (pv 7) pe_int)) po_none)) pa_nil)))) pa_nil)))
      (pe_slice sl_tupA (pv 1) (po_some (pe_op op_add (pv 2) pe_int)) po_none)))))))), ?_⟩
  obtain ⟨xs, hp, pr⟩ := hs
  have hxl : xs.length = n := (Paired.length pr).trans el
  refine ⟨_, rfl, _, rfl, p, xs, rfl, .inr (SqT.of hp), h, c, _, rfl, hh, by omega, by omega, fun H1 d mv1 hh1 d0 d1 => ?_⟩
  obtain ⟨i, rfl⟩ : ∃ z : Nat, d = z := ⟨d.toNat, by omega⟩
  have hi : i < n := by omega
  have tp1 := mv1.tp hh
  have hp1 := tp1 _ _ hp
  have pr1 := Paired.imp (fun _ _ => RowAt.tp tp1) pr
  have hid : i < ds.length := by omega
  obtain ⟨v, ev, t, r, rfl, ht, hr1⟩ := Paired.at pr1 (List.getElem?_eq_getElem hid)
  have okd := ok _ (List.getElem_mem hid)
  generalize hdd : ds[i] = dd at *
  obtain ⟨sl, nu, ro⟩ := dd
  replace ht : H1 t = some (.tup [.int sl, .int nu, .ref r]) := ht
  replace hr1 : H1 r = some (.tup (ro.map V.int)) := hr1
  refine ⟨_, rfl, _, rfl, p, xs, i, _, rfl, rfl, SqT.of hp1, atI_nat ev, ?_⟩
  refine ⟨t, _, rfl, SqT.of ht, rfl, _, _, rfl, _, _, rfl, _, _, rfl, rfl, ?_⟩
  -- great
  refine ⟨_, rfl, h, c, 9, rfl, hh1, by decide, by decide, fun H2 e mv2 hh2 e0 e9 => ?_⟩
  refine ⟨_, _, rfl, rfl, _, _, rfl, rfl, ⟨by decide, by decide, by decide⟩, _, _, rfl, rfl, ⟨by decide, by decide, by decide⟩, _, rfl, (by show 3 ≤ sizeLine; decide), fun L nL => ?_⟩
  have sL := same_upd (H := H2) (.lst [.int (e - 4), .int (10 ^ ((60 : Int)).toNat), .int (-(10 ^ ((60 : Int)).toNat))]) nL
  have hhL := hh2.same sL
  refine ⟨_, rfl, h, c, 3, rfl, hhL, by decide, by decide, fun H3 g mv3 hh3 g0 g3 => ?_⟩
  obtain ⟨gr, egr, hgr⟩ := three_at (a := e - 4) (b := 10 ^ ((60 : Int)).toNat) (c := -(10 ^ ((60 : Int)).toNat)) g0 g3
  have bgr : Bd gr := by
    rcases hgr with z | z | z
    · rw [z]
      exact Bd.le (by omega)
    · rw [z]
      exact bd_pow
    · rw [z]
      exact bd_neg bd_pow
  refine ⟨L, _, _, _, rfl, rfl, SqL.of (mv3 L _ (hh2.ne_new nL) upd_same), egr, ?_⟩
  have mv13 : Mv h H1 H3 := (mv2.trans (Mv.of sL)).trans mv3
  have tp3 := mv13.tp hh1
  have hr3 := tp3 _ _ hr1
  -- a way's end: one number or entry changed
  have ends : ∀ (H4 : Hp), Mv h H H4 → HandAt H4 h c → Tp H3 H4 → H4 p = some (.tup xs) ∧ Paired (RowAt H4) xs ds ∧ H4 r = some (.tup (ro.map V.int)) := fun H4 _ _ tp => ⟨tp _ _ (tp3 _ _ hp1), Paired.imp (fun _ _ => RowAt.tp (tp3.trans tp)) pr1, tp _ _ hr3⟩
  have small2 : ∀ a b : Nat, a ≤ 20 → b ≤ 20 → a + b ≤ sizeLine := fun a b ha hb => small (by omega)
  refine ⟨_, rfl, r, _, rfl, .inr (SqT.of hr3), rfl, _, rfl, ite2 (fun _ => ?_) (fun eN => ?_)⟩
  · obtain ⟨hp4, pr4, hr4⟩ := ends H3 (mv1.trans mv13) hh3 (Tp.refl _)
    refine ⟨_, rfl, _, rfl, i, rfl, slice_any hp4 fun s1 H5 q1 e1 => ?_⟩
    refine ⟨_, rfl, _, rfl, _, rfl, (by show 3 ≤ sizeLine; decide), fun t1 n1 => ⟨(by show 1 ≤ sizeLine; decide), fun t2 n2 => ?_⟩⟩
    have q2 := same_upd (H := H5) (.tup [.int sl, .int gr, .ref r]) n1
    have q3 := same_upd (.tup [.ref t1]) n2
    rw [cut_to (by omega)] at e1
    refine glue_any (q3 _ _ (q2 _ _ e1)) upd_same (small2 _ _ (by rw [List.length_take]; omega) (by show 1 ≤ 20; decide)) fun s2 H6 q4 e2 => ?_
    have q14 := q1.trans (q2.trans (q3.trans q4))
    refine ⟨_, rfl, _, rfl, _, _, rfl, rfl, (i : Int) + 1, rfl, ?_⟩
    refine noPart ?_
    refine slice_any (q14 _ _ hp4) fun s3 H7 q5 e3 => ?_
    rw [succ_cast, cut_from (by omega)] at e3
    refine glue_any (q5 _ _ e2) e3 (small2 _ _ (by rw [List.length_append, List.length_take, List.length_singleton]; omega) (by rw [List.length_drop]; omega)) fun s4 H8 q6 e4 => ?_
    have q18 := q14.trans (q5.trans q6)
    refine fin H8 s4 ((mv1.trans mv13).trans (Mv.of q18)) (hh3.same q18) (bent_made (t := t1) (d := (sl, gr, ro)) (Paired.imp (fun _ _ => RowAt.same q18) pr4) el ok hi ⟨t1, r, rfl, ?_, q18 _ _ hr4⟩ ⟨okd.1, okd.2.1, okd.2.2.1, bgr, okd.2.2.2.2⟩ e4)
    exact q6 _ _ (q5 _ _ (q4 _ _ (q3 _ _ upd_same)))
  · refine ⟨_, rfl, h, c, 3, rfl, hh3, by decide, by decide, fun H4 j mv4 hh4 j0 j3 => ⟨rfl, _, rfl, ite2 (fun _ => ?_) (fun _ => ?_)⟩⟩
    · obtain ⟨hp4, pr4, hr4⟩ := ends H4 ((mv1.trans mv13).trans mv4) hh4 (mv4.tp hh3)
      refine ⟨_, rfl, _, rfl, i, rfl, slice_any hp4 fun s1 H5 q1 e1 => ?_⟩
      refine ⟨_, rfl, _, rfl, _, rfl, (by show 3 ≤ sizeLine; decide), fun t1 n1 => ⟨(by show 1 ≤ sizeLine; decide), fun t2 n2 => ?_⟩⟩
      have q2 := same_upd (H := H5) (.tup [.int sl, .int gr, .ref r]) n1
      have q3 := same_upd (.tup [.ref t1]) n2
      rw [cut_to (by omega)] at e1
      refine glue_any (q3 _ _ (q2 _ _ e1)) upd_same (small2 _ _ (by rw [List.length_take]; omega) (by show 1 ≤ 20; decide)) fun s2 H6 q4 e2 => ?_
      have q14 := q1.trans (q2.trans (q3.trans q4))
      refine ⟨_, rfl, _, rfl, _, _, rfl, rfl, (i : Int) + 1, rfl, ?_⟩
      refine noPart ?_
      refine slice_any (q14 _ _ hp4) fun s3 H7 q5 e3 => ?_
      rw [succ_cast, cut_from (by omega)] at e3
      refine glue_any (q5 _ _ e2) e3 (small2 _ _ (by rw [List.length_append, List.length_take, List.length_singleton]; omega) (by rw [List.length_drop]; omega)) fun s4 H8 q6 e4 => ?_
      have q18 := q14.trans (q5.trans q6)
      refine fin H8 s4 (((mv1.trans mv13).trans mv4).trans (Mv.of q18)) (hh4.same q18) (bent_made (t := t1) (d := (sl, gr, ro)) (Paired.imp (fun _ _ => RowAt.same q18) pr4) el ok hi ⟨t1, r, rfl, ?_, q18 _ _ hr4⟩ ⟨okd.1, okd.2.1, okd.2.2.1, bgr, okd.2.2.2.2⟩ e4)
      exact q6 _ _ (q5 _ _ (q4 _ _ (q3 _ _ upd_same)))
    · have hne : ro.length ≠ 0 := fun z => eN (decide_eq_true (by rw [List.length_map, z] <;> rfl))
      have hr4' := (mv4.tp hh3) _ _ hr3
      refine ⟨_, rfl, _, rfl, r, _, rfl, .inr (SqT.of hr4'), h, c, _, rfl, hh4, ?_, ?_, fun H5 k mv5 hh5 k0 k1 => ?_⟩
      · rw [List.length_map]
        omega
      · rw [List.length_map]
        have := okd.2.1
        show (ro.length : Int) < 1000
        have : ro.length ≤ 16 := okd.2.1
        omega
      rw [List.length_map] at k1
      obtain ⟨l, rfl⟩ : ∃ z : Nat, k = z := ⟨k.toNat, by omega⟩
      have hl : l < ro.length := by omega
      have l16 : ro.length ≤ 16 := okd.2.1
      have mv15 := ((mv1.trans mv13).trans mv4).trans mv5
      obtain ⟨hp5, pr5, hr5⟩ := ends H5 mv15 hh5 ((mv4.tp hh3).trans (mv5.tp hh4))
      refine ⟨_, rfl, _, rfl, i, rfl, slice_any hp5 fun s1 H6 q1 e1 => ?_⟩
      rw [cut_to (by omega)] at e1
      refine ⟨_, rfl, _, rfl, _, rfl, _, rfl, l, rfl, slice_any (q1 _ _ hr5) fun u1 H7 q2 e2 => ?_⟩
      rw [cut_to (by rw [List.length_map]; omega)] at e2
      refine ⟨_, rfl, (by show 1 ≤ sizeLine; decide), fun u2 nu2 => ?_⟩
      have q3 := same_upd (H := H7) (.tup [.int gr]) nu2
      refine glue_any (q3 _ _ e2) upd_same (small2 _ _ (by rw [List.length_take, List.length_map]; omega) (by show 1 ≤ 20; decide)) fun u3 H8 q4 e4 => ?_
      have q24 := q2.trans (q3.trans q4)
      refine ⟨_, rfl, _, rfl, _, _, rfl, rfl, (l : Int) + 1, rfl, ?_⟩
      refine noPart ?_
      refine slice_any (q24 _ _ (q1 _ _ hr5)) fun u4 H9 q5 e5 => ?_
      rw [succ_cast l] at e5
      have hcl : l + 1 ≤ (ro.map V.int).length := by
        rw [List.length_map]
        exact hl
      rw [cut_from hcl] at e5
      refine glue_any (q5 _ _ e4) e5 (small2 _ _ (by rw [List.length_append, List.length_take, List.length_map, List.length_singleton]; omega) (by rw [List.length_drop, List.length_map]; omega)) fun u5 H10 q6 e6 => ?_
      have eu : ((ro.map V.int).take l ++ [V.int gr]) ++ (ro.map V.int).drop (l + 1) = ((ro.take l ++ [gr]) ++ ro.drop (l + 1)).map V.int := by
        rw [List.map_append, List.map_append, List.map_take, List.map_drop]
        rfl
      rw [eu] at e6
      refine ⟨(by show 3 ≤ sizeLine; decide), fun t1 n1 => ⟨(by show 1 ≤ sizeLine; decide), fun t2 n2 => ?_⟩⟩
      have q7 := same_upd (H := H10) (.tup [.int sl, .int nu, .ref u5]) n1
      have q8 := same_upd (.tup [.ref t1]) n2
      have q68 := q24.trans (q5.trans (q6.trans (q7.trans q8)))
      refine glue_any (q68 _ _ e1) upd_same (small2 _ _ (by rw [List.length_take]; omega) (by show 1 ≤ 20; decide)) fun s2 H11 q9 e9 => ?_
      have q19 := q1.trans (q68.trans q9)
      refine ⟨_, rfl, _, rfl, _, _, rfl, rfl, (i : Int) + 1, rfl, ?_⟩
      refine noPart ?_
      refine slice_any (q19 _ _ hp5) fun s3 H12 q10 e10 => ?_
      rw [succ_cast, cut_from (by omega)] at e10
      refine glue_any (q10 _ _ e9) e10 (small2 _ _ (by rw [List.length_append, List.length_take, List.length_singleton]; omega) (by rw [List.length_drop]; omega)) fun s4 H13 q11 e11 => ?_
      have q8b := q9.trans (q10.trans q11)
      have qall := q19.trans (q10.trans q11)
      refine fin H13 s4 (mv15.trans (Mv.of qall)) (hh5.same qall) (bent_made (t := t1) (d := (sl, nu, (ro.take l ++ [gr]) ++ ro.drop (l + 1))) (Paired.imp (fun _ _ => RowAt.same qall) pr5) el ok hi ⟨t1, u5, rfl, q8b _ _ (q8 _ _ upd_same), q8b _ _ (q8 _ _ (q7 _ _ e6))⟩ ⟨okd.1, ?_, okd.2.2.1, okd.2.2.2.1, fun z hz => ?_⟩ e11)
      · show ((ro.take l ++ [gr]) ++ ro.drop (l + 1)).length ≤ 16
        simp only [List.length_append, List.length_take, List.length_drop, List.length_singleton]
        omega
      · rcases in_app hz with hz | hz
        · rcases mem_snoc hz with hz | hz
          · exact okd.2.2.2.2 z (List.mem_of_mem_take hz)
          · rw [hz]
            exact bgr
        · exact okd.2.2.2.2 z (List.mem_of_mem_drop hz)
end
end K50
namespace K50
open PySem PySem.Spec PyProof.Rows L2 RZ
/-! ### set(xs), xs a list of ints -/
abbrev bareSet (w : World) : Obj := { cls := .type "set", dict := none, data := .set #[] 0 (.fresh 0 0 (!w.params.followText "set-order")) }
abbrev withSet (w : World) (s : Shared) : Shared := { s with heap := s.heap.push (bareSet w) }
section
variable {A : Around} {E : Value → Shared → Prop} {s : Shared} {P : Program} {w : World}
/-- what the filled set is known by -/
abbrev Filled (w : World) (ns : List Int) (h0 h1 : Heap) : Prop := ∃ c, c ≤ ns.length ∧ SetR w h1 h0.objs.size (fun j => decide (j ∈ ns)) c ∧ ∀ b o, h0.get? b = some o → h1.get? b = some o
abbrev Fills (w : World) (ns : List Int) (s : Shared) (r : Value) (s₂ : Shared) : Prop := r = .none ∧ ∃ h1 tk, s₂ = { s with heap := h1, toks := tk } ∧ Filled w ns s.heap h1
theorem fill_list {l : Addr} {items : Array Value} {ns : List Int} (hh : A.handled = none) (hl : s.heap.IsList l items) (hit : IntsAre items.toList ns) (few : ns.length + 1 < scanBound) :
    codeAny (model P w) A (.call (.builtin "set.__init__") ⟨[.ref s.heap.objs.size, .ref l], []⟩) (wants (Fills w ns s) E) (withSet w s) := by
  have size : items.size = ns.length := by
    rw [← IntsAre.length hit, Array.length_toList]
  obtain ⟨ob, gl, kl, cl, dl⟩ := hl
  obtain ⟨oc, od, oda, osl⟩ := ob
  simp only at kl dl
  subst kl
  subst dl
  have nS : (s.heap.push (bareSet w)).get? s.heap.objs.size = some (bareSet w) := Heap.get?_push_size _ rfl
  have gl1 := Heap.get?_push_of_some (bareSet w) gl
  have lst1 : (s.heap.push (bareSet w)).IsList l items := ⟨_, gl1, rfl, cl, rfl⟩
  have less : l < s.heap.objs.size := Heap.lt_size gl
  have more : (s.heap.push (bareSet w)).objs.size = s.heap.objs.size + 1 := Heap.size_push ..
  refine codeAny_call_builtin F.called_set.init.plain F.entry_set_init (check_set_init_1 ⟨_, nS, rfl⟩ ?_)
  have t1 := F.sub_list_set
  have t2 := F.sub_list_frozenset
  have t3 : (Value.type "list" == Value.type "dict") = false := by decide
  unfold Builtin.«set.__init__»
  unfold noKeywords Builtin.Frozenset.updateFrom
  generalize hgo : pyIter = go
  wp_walk
  subst hgo
  refine wpAny_pyIter_list lst1 (wpAny_bind (wpAny_runValue ?_))
  have far : l ≠ (s.heap.push (bareSet w)).objs.size := Nat.ne_of_lt (Nat.lt_of_lt_of_le less (by rw [more]; exact Nat.le_succ _))
  have out : s.heap.objs.size ∉ [(s.heap.push (bareSet w)).objs.size, l] := fun z => by
    rcases of_pair z with z | z
    · rw [more] at z
      exact absurd z (Nat.ne_of_lt (Nat.lt_succ_self _))
    · exact absurd z (Nat.ne_of_gt less)
  have each : ∀ (i : Nat) (v : Value), items[i]? = some v → ∃ k t, ns[i]? = some k ∧ v = .int k t := fun i v e => by
    obtain ⟨t, q⟩ := IntsAre.int_at hit i v (by rw [Array.getElem?_toList]; exact e)
    have lt : i < ns.length := size ▸ (Array.getElem?_eq_some_iff.mp e).1
    refine ⟨_, t, List.getElem?_eq_getElem lt, ?_⟩
    rw [q, List.getD_eq_getElem?_getD, List.getElem?_eq_getElem lt]
    rfl
  refine set_update_ints ((Walks.list (by simp [hh]) _ l far items).toS) s.heap.objs.size out ns size few each items.size 0 _ rfl (Nat.zero_le _)
    ⟨⟨_, Heap.get?_push_size _ rfl, rfl, rfl⟩, lst1.push _⟩ ⟨0, Nat.le_refl 0, setR_new_at (Heap.get?_push_of_some _ nS)⟩ fun s2 c mv le R => ?_
  obtain ⟨h2, g2, d2, tk2, os2⟩ := s2
  obtain rfl : g2 = s.gens := mv.gens
  obtain rfl : d2 = s.drawn := mv.drawn
  obtain rfl : os2 = s.os := mv.os
  refine wpAny_pure (wpAny_pure ⟨rfl, h2, tk2, rfl, c, size ▸ le, R, fun b o e => ?_⟩)
  have lb : b < s.heap.objs.size := Heap.lt_size e
  refine mv.heap b o (fun z => ?_) (Heap.get?_push_of_some _ (Heap.get?_push_of_some _ e))
  rcases of_pair z with z | z
  · exact absurd z (Nat.ne_of_lt lb)
  · rw [z, more] at lb
    exact absurd lb (Nat.not_lt.mpr (Nat.le_succ _))
theorem call_set_lst {l : Addr} {items : Array Value} {ns : List Int} {Q : Value → Shared → Prop} (hh : A.handled = none) (hl : s.heap.IsList l items) (hit : IntsAre items.toList ns) (few : ns.length + 1 < scanBound)
    (q : ∀ h1 tk, Filled w ns s.heap h1 → Q (.ref s.heap.objs.size) { s with heap := h1, toks := tk }) : wpAny (model P w) A (call (.type "set") [.ref l]) Q E s := by
  have c1 := F.called_set.made
  have c2 := F.called_set.sub
  have c3 := F.called_set.notType
  have c4 := F.called_set.canCreate
  have c5 := F.typeCall_set_1 (.ref l)
  obtain ⟨_, _, c6⟩ := F.called_set.mro
  have quiet : ∀ args, (Code.builtin "type.__call__" args).quiet = true := fun args => Code.quiet_builtin args (by decide +kernel)
  refine wpAny_call (codeAny_of_tree ?tree)
  show wpAny _ _ (callAny (.type "set") _) _ _ s
  refine wpAny_pure ⟨quiet _, codeAny_builtin F.entry_type_call ?_⟩
  rw [Around.under_plain (weight_type_call_type "set" _ _) rfl]
  repeat any_goals first | assumption | wp_step
  refine codeAny_mono (code_set_led1 (.ref l) (E := E) (Q₁ := fun v s1 => v = .ref s.heap.objs.size ∧ s1 = withSet w s) ⟨rfl, rfl⟩) fun r s1 hr => ?_
  cases r with
  | error e => exact hr
  | ok fl =>
    cases fl with
    | next => exact hr.elim
    | brk => exact hr.elim
    | cont => exact hr.elim
    | ret v =>
      obtain ⟨rfl, rfl⟩ := hr
      have nS : (s.heap.push (bareSet w)).get? s.heap.objs.size = some (bareSet w) := Heap.get?_push_size _ rfl
      have c7 : (withSet w s).TypeIs (.ref s.heap.objs.size) "set" := ⟨_, nS, rfl⟩
      have c8 := F.called_set.init.lookup
      have c9 := F.called_set.init.bind (.ref s.heap.objs.size)
      repeat any_goals first | assumption | wp_step
      refine codeAny_mono (fill_list (E := E) (by simp [hh]) hl hit few) fun r2 s2 hr2 => ?_
      cases r2 with
      | error e => exact hr2
      | ok fl2 =>
        cases fl2 with
        | next => exact hr2.elim
        | brk => exact hr2.elim
        | cont => exact hr2.elim
        | ret v2 =>
          obtain ⟨rfl, h1, tk, rfl, fd⟩ := hr2
          repeat any_goals first | assumption | wp_step
          exact q h1 tk fd
end
section
variable {X : Cx}
/-- set(xs), xs a list of fewer than 64 ints -/
def rSetL (K : PySem.W.Frag) (w : World) : List V → Hp → VK → Prop := fun vs H Q => ∃ (l : Addr) (ns : List Int), vs = [V.ref l] ∧ SqL K H l (ns.map V.int) ∧ ns.length < 64 ∧
  ∀ (a : Addr) (c : Nat), H a = none → c ≤ ns.length → Q (.ref a) (upd H a (SetO w a (fun j => decide (j ∈ ns)) c))
theorem call_setL (hc : X.calm = true) : CallR X (.type "set") (rSetL X.K X.w) := by
  intro pins s σ H vs us Q I r asked
  obtain ⟨l, ns, rfl, hl, h64, q⟩ := asked
  rw [Vals.ref1 r]
  obtain ⟨its, rv, p, hz⟩ := I.list hl
  refine call_set_lst (I.ok.hd hc) p.isList (ints_of_vals rv) (Nat.lt_trans (Nat.succ_lt_succ h64) (by decide)) fun h1 tk ⟨c, le, R, kp⟩ => ?_
  have free : H s.heap.objs.size = none := I.hok.fresh (Nat.le_refl _)
  exact ⟨.ref _, _, I.laid kp (Nat.le_refl _) (setO_new R), rfl, q _ c free le⟩
end
end K50
namespace K50
open PySem PySem.Spec PyProof.Rows L2 RZ
/-! ### for i, x in enumerate(t), t a tuple -/
abbrev tupIt (a : Addr) : Obj := { cls := .type "tuple_iterator", data := .fields #[.ref a, .int 0 0] }
abbrev enumOn (it : Addr) : Obj := { cls := .type "enumerate", data := .fields #[.none, .bool false, .ref it, rawInt 0, .none, .none] }
theorem new_enumT (a : Addr) (items : Array Value) : Meets (Builtin.«enumerate.__new__» ⟨[.type "enumerate", .ref a], []⟩) (fun _ R s => s.heap.IsTuple a items ∧
    R (.ok (.ret (.ref (s.heap.push (tupIt a)).objs.size))) { s with heap := (s.heap.push (tupIt a)).push (enumOn s.heap.objs.size) }) :=
  .of_wp fun prog w A R s asked => by
    obtain ⟨hp, gn, d, tk, os⟩ := s
    obtain ⟨ht, asked⟩ := asked
    have hsub := sub_enumerate
    have q1 : ∀ {A' : Around} {E : Value → Shared → Prop} {Q : Value → Shared → Prop}, Q (.ref hp.objs.size) ⟨hp.push (tupIt a), gn, d, tk, os⟩ → wpAny (model prog w) A' (pyIter (.ref a)) Q E ⟨hp, gn, d, tk, os⟩ := fun q => wpAny_pyIter_tuple ht q
    wp_walk using q1
    refine wpAny_stack_any fun around => wpAny_pure ?_
    split
    · rename_i c _ _ _ _ _
      cases (c == Value.type "enumerate") <;> (wp_walk using q1; exact ⟨_, rfl, asked⟩)
    · wp_walk using q1
      exact ⟨_, rfl, asked⟩
theorem call_enumT {prog : Program} {w : World} {A : Around} {E : Value → Shared → Prop} {s : Shared} {a : Addr} {items : Array Value} {Q : Value → Shared → Prop} (ht : s.heap.IsTuple a items)
    (q : ∀ h1, IsEnum h1 (s.heap.objs.size + 1) s.heap.objs.size 0 .none → h1.IsTupleIter s.heap.objs.size a 0 → (∀ b o, s.heap.get? b = some o → h1.get? b = some o) → Q (.ref (s.heap.objs.size + 1)) { s with heap := h1 }) :
    wpAny (model prog w) A (call (.type "enumerate") [.ref a]) Q E s := by
  have z : (s.heap.push (tupIt a)).objs.size = s.heap.objs.size + 1 := Heap.size_push ..
  have e1 := Heap.get?_push_size (s.heap.push (tupIt a)) (o := enumOn s.heap.objs.size) rfl
  rw [z] at e1
  refine callType_new F.called_enumerate (by decide) (F.typeCall_enumerate_1 _) (F.newCall_enumerate_1 _) (fun _ => F.args_object_init_2 _ _) F.entry_enumerate_new (new_enumT a items) ⟨ht, ?_⟩
  show _ ∧ _
  rw [z]
  exact ⟨⟨_, e1, rfl⟩, q _ e1 ⟨_, Heap.get?_push_of_some _ (Heap.get?_push_size _ rfl), rfl, rfl⟩ fun b o x => Heap.get?_push_of_some _ (Heap.get?_push_of_some _ x)⟩
/-- the tuple at a, each item in a new pair with its number -/
def IteT (K : PySem.W.Frag) (a : Addr) : It where
  go i H := ∃ (xs : List V) (x : V), SqT K H a xs ∧ xs[i]? = some x
  yld i H v H' := ∃ T x, v = .ref T ∧ H T = none ∧ H' = upd H T (.tup [.int (i : Nat), x]) ∧ ∀ xs, SqT K H a xs → xs[i]? = some x
  stop i H := ∃ xs : List V, SqT K H a xs ∧ xs.length = i
theorem walk_et {K : PySem.W.Frag} {a : Addr} {xs : List V} : Walk (IteT K a) xs.length (fun H => SqT K H a xs) (YPair (fun i => some (.int (i : Nat))) (fun i => xs[i]?)) where
  goes i H hi q := ⟨_, _, q, List.getElem?_eq_getElem hi⟩
  stops H q := ⟨_, q, rfl⟩
  yields i H v H' _ q := fun ⟨T, x, e, n, eh, fx⟩ => ⟨T, _, x, e, n, eh, rfl, fx _ q⟩
abbrev EtSt (a e it : Addr) (i : Nat) (h : Heap) : Prop := (∃ old, IsEnum h e it (i : Int) old) ∧ h.IsTupleIter it a i
theorem et_apart {h : Heap} {a e it : Addr} {i : Nat} {items : Array Value} (st : EtSt a e it i h) (ht : h.IsTuple a items) : e ≠ it ∧ a ≠ it ∧ e ≠ a := by
  obtain ⟨⟨old, he⟩, oi, hi, ci, _⟩ := st
  obtain ⟨ot, hp, ct, _⟩ := ht
  refine ⟨fun z => ?_, fun z => ?_, fun z => ?_⟩
  · subst z
    rw [he] at hi
    cases hi
    have q : Value.type "enumerate" = Value.type "tuple_iterator" := ci
    exact absurd q (by decide)
  · subst z
    rw [hp] at hi
    cases hi
    rw [ct] at ci
    exact absurd ci (by decide)
  · subst z
    rw [he] at hp
    cases hp
    have q : Value.type "enumerate" = Value.type "tuple" := ct
    exact absurd q (by decide)
theorem turn_et {P : Program} {w : World} {K : PySem.W.Frag} {elts : List Expr} {kk : Nat} {tpos : Pos} (a e it : Addr) : Turn P w K (.Tuple elts kk tpos) (IteT K a) [e, it] e (EtSt a e it) where
  mem := List.mem_cons_self
  obj i h st b hb := by
    obtain ⟨⟨old, he⟩, o, ho, _, hd⟩ := st
    rcases of_pair hb with z | z
    · rw [z]
      exact ⟨_, he, fun v q => nomatch q⟩
    · rw [z]
      exact ⟨o, ho, fun v q => by rw [hd] at q; cases q⟩
  keep i h h' st k := by
    obtain ⟨⟨old, he⟩, o, ho, r⟩ := st
    exact ⟨⟨old, k e List.mem_cons_self _ he⟩, o, k it (List.mem_cons_of_mem _ List.mem_cons_self) _ ho, r⟩
  item X hP hw hK hc i pins s σ H E I hf st hg := by
    subst hP
    subst hw
    subst hK
    obtain ⟨xs, x, hq, hx⟩ := hg
    obtain ⟨its, rv, tp, _⟩ := I.tuple hq
    have tup : s.heap.IsTuple a its.toArray := tp
    obtain ⟨u, hu, item⟩ := rv.get hx
    obtain ⟨d1, d2, d3⟩ := et_apart st tup
    obtain ⟨⟨old, he⟩, hi⟩ := st
    have inI : i < its.length := (List.getElem?_eq_some_iff.mp hu).1
    have eLt : e < s.heap.objs.size := Heap.lt_size he
    have iLt : it < s.heap.objs.size := by
      obtain ⟨_, q, _⟩ := hi
      exact Heap.lt_size q
    have off : e ∉ [it, a] := fun z => by
      rcases of_pair z with z | z
      · exact d1 z
      · exact d3 z
    refine wpAny_pyNext_enum_itemD (Draws.tuple (prog := X.prog) (w := X.w) (A := X.A.in1) (I.ok.hd hc) it a d2 its.toArray) he ⟨hi, tup⟩ (by rw [List.size_toArray]; exact inI) d1 off fun y h1 tk hy ho st1 hT _ hk => ?_
    obtain rfl : y = u := by
      rw [List.getElem?_toArray, hu] at hy
      exact (Option.some.inj hy).symm
    refine ⟨_, rfl, wpAny_letOwnedTupleGo_enum (s := { s with heap := h1, toks := tk + 1 }) ho fun h2 he2 sb => ?_⟩
    have hT2 : h2.get? s.heap.objs.size = some { cls := .type "tuple", data := .seq #[.int i tk, y] } := (sb.2 _ (Nat.ne_of_gt eLt)).trans hT
    have tracked : ObjOk X.prog X.w (upd H s.heap.objs.size (.tup [.int (i : Nat), x])) h2 s.heap.objs.size (.tup [.int (i : Nat), x]) :=
      ⟨two_le, [.int i tk, y], .cons ⟨tk, rfl⟩ (.cons item .nil), _, hT2, rfl, _, rfl⟩
    have J := I.turnedNew (t' := tk + 1) (ch := [e, it]) (fun b ob hb q => (sb.2 b (fun z => hb (z ▸ List.mem_cons_self))).trans (hk b ob (fun z => hb (z ▸ List.mem_cons_self)) (fun z => hb (z ▸ List.mem_cons_of_mem _ List.mem_cons_self)) q)) hf (Nat.le_refl _) tracked
    refine ⟨.ref s.heap.objs.size, _, J, rfl, ⟨_, x, rfl, I.hok.fresh (Nat.le_refl _), rfl, fun ys hy => by rw [I.tuple_inj hy hq]; exact hx⟩, ⟨⟨y, ?_⟩, ?_⟩, fun b hb => ?_⟩
    · rw [show ((i + 1 : Nat) : Int) = (i : Int) + 1 by omega]
      exact he2
    · obtain ⟨o, ho1, r⟩ := st1.1
      exact ⟨o, (sb.2 it d1.symm).trans ho1, r⟩
    · have lt : b < s.heap.objs.size := by
        rcases of_pair hb with z | z
        · rw [z]
          exact eLt
        · rw [z]
          exact iLt
      rw [upd_ne (Nat.ne_of_lt lt)]
      exact (hf b hb).1
  done X hP hw hK hc i pins s σ H E I hf st hg := by
    subst hP
    subst hw
    subst hK
    obtain ⟨xs, hq, hx⟩ := hg
    obtain ⟨its, rv, tp, _⟩ := I.tuple hq
    have tup : s.heap.IsTuple a its.toArray := tp
    obtain ⟨d1, d2, d3⟩ := et_apart st tup
    obtain ⟨⟨old, he⟩, hi⟩ := st
    have hl := rv.length
    have fit : it ∈ [e, it] := List.mem_cons_of_mem _ List.mem_cons_self
    obtain ⟨f0, f1, f2, f3, f4, f5⟩ := hf it fit
    have ei : i = its.toArray.size := by rw [List.size_toArray, ← hl, hx]
    have hi2 : s.heap.IsTupleIter it a its.toArray.size := ei ▸ hi
    exact wpAny_pyNext_enum_endD (Draws.tuple (prog := X.prog) (w := X.w) (A := X.A.in1) (I.ok.hd hc) it a d2 its.toArray) he ⟨hi2, tup⟩ fun h' eb => ⟨rfl, I.turned (t' := s.toks) (fun b o hb q => eb b o hb q) f0 f1 f3 f4 f5⟩
  self A i s Q E st h := by
    obtain ⟨⟨_, he⟩, _⟩ := st
    exact wpAny_pyIter_enum he h
def iEnumT (K : PySem.W.Frag) (ta : TA) : TI := fun σ H R => ta σ H fun vs H1 => ∃ a xs, vs = [.ref a] ∧ SqT K H1 a xs ∧ R (IteT K a) H1
theorem pi_enumT {X : Cx} {e : Expr} {ta : TA} {p pos tpos : Pos} {elts : List Expr} {kk : Nat} (hg : Gl X "enumerate") (hm : X.mg "enumerate" = none) (ha : PA X [e] ta) (hs : starEach [e] X.env = [(false, eval e X.env)] := by rfl) :
    PI X (.Tuple elts kk tpos) (.Call (.Name "enumerate" p) [e] [] pos) (iEnumT X.K ta) where
  run pins s σ H R I h := by
    refine Call_ (ld_blt I hg hm boot_enumerate (PyProof.Rows.callWith_type1 (thn (ha.run pos pins s σ H _ I h) fun us s1 q => ?_) hs rfl))
    obtain ⟨vs, H1, I1, r1, a, xs, rfl, hq, q⟩ := q
    rw [Vals.ref1 r1]
    obtain ⟨its, rv, tp, _⟩ := I1.tuple hq
    refine call_enumT (show s1.heap.IsTuple a its.toArray from tp) fun h1 he hi hk => wpAny_pyIter_enum he ?_
    refine ⟨_, [s1.heap.objs.size + 1, s1.heap.objs.size], _, _, H1, rfl, I1.kept (t' := s1.toks) hk, turn_et a _ s1.heap.objs.size, ⟨⟨.none, he⟩, hi⟩, fun b hb => ?_, q⟩
    have ge : s1.heap.objs.size ≤ b := by
      rcases of_pair hb with z | z
      · rw [z]
        exact Nat.le_succ _
      · rw [z]
        exact Nat.le_refl _
    exact I1.fpOk ge (I1.hok.fresh ge)
end K50
namespace K50
open PySem PySem.Spec PyProof.Rows L2 RZ
/-- a tuple of ints -/
def TupI (H : Hp) (x : V) (l : List Int) : Prop := ∃ t, x = .ref t ∧ H t = some (.tup (l.map V.int))
theorem TupI.tp {H H1 : Hp} {x : V} {l : List Int} (m : Tp H H1) (r : TupI H x l) : TupI H1 x l := by
  obtain ⟨t, e, h⟩ := r
  exact ⟨t, e, m _ _ h⟩
theorem TupI.all {H H1 : Hp} {xs : List V} {ls : List (List Int)} (m : Tp H H1) (r : Paired (TupI H) xs ls) : Paired (TupI H1) xs ls := Paired.imp (fun _ _ => TupI.tp m) r
/-- ascending ints from 0 on, below m: no more than m -/
theorem asc_len : ∀ (m : Nat) (l : List Int) (a : Int), l.Pairwise (· < ·) → (∀ z ∈ l, a ≤ z ∧ z < a + m) → l.length ≤ m
  | m, [], _, _, _ => Nat.zero_le m
  | 0, z :: _, a, _, h => by
    have := h z List.mem_cons_self
    omega
  | m + 1, z :: r, a, hp, h => by
    have ih := asc_len m r (a + 1) (List.pairwise_cons.mp hp).2 fun y hy => by
      have h1 := (List.pairwise_cons.mp hp).1 y hy
      have h2 := h z List.mem_cons_self
      have h3 := h y (List.mem_cons_of_mem _ hy)
      omega
    rw [List.length_cons]
    omega
/-- the parents of the kind k -/
def OkPar (ls : List (List Int)) : Prop := ∀ (k : Nat) (l : List Int), ls[k]? = some l → l.length ≤ 3 ∧ ∀ z ∈ l, 0 ≤ z ∧ z < (k : Int)
theorem OkPar.snoc {ls : List (List Int)} {l : List Int} (h : OkPar ls) (h1 : l.length ≤ 3) (h2 : ∀ z ∈ l, 0 ≤ z ∧ z < (ls.length : Int)) : OkPar (ls ++ [l]) := fun k l' e => by
  by_cases hk : k < ls.length
  · rw [List.getElem?_append_left hk] at e
    exact h k l' e
  · rw [List.getElem?_append_right (by omega)] at e
    have h0 : k - ls.length = 0 := by
      have := (List.getElem?_eq_some_iff.mp e).1
      rw [List.length_singleton] at this
      omega
    rw [h0] at e
    have e' : l = l' := Option.some.inj e
    subst e'
    have ek : k = ls.length := by omega
    subst ek
    exact ⟨h1, h2⟩
section
variable {mg : Str → Option Value} {base : Heap} {P : Program} {w : World} {K : PySem.W.Frag}
/-! ### _law_parents -/
theorem scParents : FnScope ["_law_hand_here", "_law_many", "_law_most", "_law_found", "_law_kind", "_law_some", "_law_turn"] ["_law_hand_here", "_law_many", "_law_most"] (defScope sParents) := ⟨rfl, rfl, rfl, by decide +kernel, rfl, by decide +kernel, by decide +kernel⟩
def spParents : Sp := fun vs H Q _ => ∃ (h c : Addr) (n : Nat), vs = [.ref h, vN n, .int 3] ∧ HandAt H h c ∧ n ≤ 8 ∧
  ∀ H' r xs ls, Mv h H H' → HandAt H' h c → H r = none → H' r = some (.tup xs) → Paired (TupI H') xs ls → ls.length = n → OkPar ls → Q (.ref r) H'
theorem ok_parents {f g1 : Addr} {fd gd1 : FuncData} (F : Fun K "_law_parents" "_law_parents" sParents f fd) (G1 : FnOk P w K mg base CX0 1 g1 gd1 ["_law_hand_here", "_law_many"] spDraw) (b1 : Binds K gd1 ["_law_hand_here", "_law_many"] []) (k1 : PySem.W.keepIn K (.ref g1) = true) (m1 : mg "_law_draw" = some (.ref g1))
    (mt : mg "tuple" = none) (mr : mg "range" = none) (ms : mg "sorted" = none) (me : mg "set" = none) : FnOk P w K mg base CX0 2 f fd ["_law_hand_here", "_law_many", "_law_most"] spParents := by
  refine F.ok scParents (fun vs H Q E h => ?_) (fun cdv A outer s H vs Q E hr h => ?_)
  · obtain ⟨h, c, n, rfl, _⟩ := h
    rfl
  obtain ⟨h, c, n, rfl, hh, hn, fin⟩ := h
  refine ⟨_, pss_cons (ps_set (i := 3) scParents.nd rfl (Or.inl rfl) (pe_lst pa_nil))
    (pss_cons (ps_for PassesOwn.never rfl (pi_range1 rfl mr (pa_cons (pv 1) pa_nil)) (pg_name (i := 4) scParents.nd rfl (Or.inr rfl))
      (C8.pss_cut (ps_set (i := 5) scParents.nd rfl (Or.inl rfl) (pe_ifExp (pt_cmpR op_gt (pv 4) pe_int (nomark _))
        (pe_lc (own := [("_law_turn", 6)]) (g := gName 6) (tt := tYes) rfl scParents.nd (pi_range1 rfl mr (pa_cons (pe_call G1 hr rfl m1 k1 b1 .nil pass0 (pa_cons (pv 0) (pa_cons (pe_op op_add (pv 2) pe_int) pa_nil))) pa_nil))
          (blkOk_by (own := [("_law_turn", 6)]) (N := ["_law_hand_here", "_law_many", "_law_most", "_law_found", "_law_kind", "_law_some", "_law_turn"]) (sc := defScope sParents) (by decide +kernel))
          (fun _ _ _ _ _ => pg_name (i := 6) scParents.nd rfl (Or.inl rfl)) (fun _ _ _ _ _ => pts_nil)
          (fun _ _ _ _ _ => pe_call G1 hr rfl m1 k1 b1 .nil pass0 (pa_cons (pv 0) (pa_cons (pv 4) pa_nil))))
        (pe_lst pa_nil)))
      (pss_one (ps_expr (pe_bm PySem.F.plainAttrs_list PySem.F.slot_list_append PySem.F.type_list_append mt_append (pv 3)
        (pa_cons (pe_callTy call_tuple_of rfl mt (by decide +kernel) (pa_cons (pe_callB (cr_sortedSet rfl) rfl ms (by decide +kernel) (pa_cons (pe_callTy (call_setL rfl) rfl me (by decide +kernel) (pa_cons (pv 5) pa_nil)) pa_nil)) pa_nil)) pa_nil))))))
    (pss_one (ps_ret (pe_callTy call_tuple_of rfl mt (by decide +kernel) (pa_cons (pv 3) pa_nil))))), ?_⟩
  refine ⟨Nat.zero_le _, fun fo nfo => ?_⟩
  have f1 : fo ≠ h := hh.ne_new nfo
  have f2 : fo ≠ c := hh.ne_newc nfo
  have hh1 : HandAt (upd H fo (.lst [])) h c := hh.set f1 f2
  refine ⟨_, rfl, (n : Int), rfl, by omega, by omega, ?_⟩
  rw [show ((n : Int)).toNat = n by omega]
  refine for_range (lo := 0) (n := n) (fun i σ H1 => ∃ y4 y5 xs ls, σ = [some (.ref h), some (vN n), some (.int 3), some (.ref fo), y4, y5, none] ∧ Mv h H H1 ∧ HandAt H1 h c ∧ H1 fo = some (.lst xs) ∧ Paired (TupI H1) xs ls ∧ ls.length = i ∧ OkPar ls)
    ⟨none, none, [], [], rfl, (Mv.refl h H).set nfo, hh1, upd_same, .nil, rfl, fun _ _ e => by cases e⟩ (fun i σ H1 hi p => ?_) (fun σ H1 p => ?_)
  · obtain ⟨y4, y5, xs, ls, rfl, mv, hh, ef, pr, el, ok⟩ := p
    rw [Int.zero_add]
    refine ⟨fun σ H2 => ∃ (l : Addr) (zs : List Int), σ = [some (.ref h), some (vN n), some (.int 3), some (.ref fo), some (vN i), some (.ref l), none] ∧ Mv h H1 H2 ∧ HandAt H2 h c ∧ H2 l = some (.lst (zs.map V.int)) ∧ zs.length ≤ 3 ∧ ∀ z ∈ zs, 0 ≤ z ∧ z < (i : Int), ?_, fun σ H2 p => ?_⟩
    · refine ⟨_, rfl, _, _, rfl, rfl, _, rfl, ite2 (fun gt => ?_) (fun _ => ?_)⟩
      · have hi0 : 0 < (i : Int) := of_decide_eq_true gt
        refine ⟨_, rfl, _, rfl, _, _, rfl, rfl, h, c, 3 + 1, rfl, hh, by decide, by decide, fun H2 d mv2 hh2 d0 d4 => ?_⟩
        obtain ⟨m, rfl⟩ : ∃ m : Nat, d = m := ⟨d.toNat, by omega⟩
        refine ⟨(m : Int), rfl, by omega, by omega, fun D nD => ?_⟩
        rw [show ((m : Int)).toNat = m by omega]
        have D1 : D ≠ h := hh2.ne_new nD
        have D2 : D ≠ c := hh2.ne_newc nD
        refine lc_range (lo := 0) (n := m) (fun j H3 => Mv h H2 H3 ∧ HandAt H3 h c ∧ ∃ zs : List Int, zs.length = j ∧ (∀ z ∈ zs, 0 ≤ z ∧ z < (i : Int)) ∧ H3 D = some (.lst (zs.map V.int))) ⟨(Mv.refl h H2).set nD, hh2.set D1 D2, [], rfl, fun _ z => (nomatch z), upd_same⟩ (fun j H3 hj p => ?_) (fun H3 p => ?_)
        · obtain ⟨mv3, hh3, zs, lz, bz, eD⟩ := p
          refine ⟨rfl, ?_⟩
          refine ⟨_, rfl, _, rfl, h, c, (i : Int), rfl, hh3, hi0, by omega, fun H4 d mv4 hh4 d0 di => ?_⟩
          refine ⟨_, mv4 D _ D1 eD, ?_, (mv3.trans mv4).set nD, hh4.set D1 D2, zs ++ [d], ?_, fun z hz => ?_, ?_⟩
          · rw [List.length_map]
            exact small1000 (by omega)
          · rw [List.length_append, lz]
            rfl
          · rcases mem_snoc hz with hz | hz
            · exact bz z hz
            · rw [hz]
              exact ⟨d0, di⟩
          · rw [upd_same, List.map_append]
            rfl
        · obtain ⟨mv3, hh3, zs, lz, bz, eD⟩ := p
          exact ⟨D, zs, rfl, mv2.trans mv3, hh3, eD, by omega, bz⟩
      · refine ⟨Nat.zero_le _, fun l nl => ?_⟩
        exact ⟨l, [], rfl, (Mv.refl h H1).set nl, hh.set (hh.ne_new nl) (hh.ne_newc nl), upd_same, by decide, fun _ z => nomatch z⟩
    · obtain ⟨l, zs, rfl, mv2, hh2, eL, l3, bz⟩ := p
      have ef2 := mv2 fo _ f1 ef
      refine ⟨_, rfl, .inl ⟨rfl, _, SqL.of ef2⟩, ?_⟩
      refine ⟨_, rfl, l, zs, rfl, SqL.of eL, by omega, fun a k na lk => ?_⟩
      refine ⟨a, _, k, rfl, upd_same, by omega, fun ns p asc mem len np => ?_⟩
      refine ⟨p, _, rfl, .inl ⟨SqL.of upd_same, fun r nr => ?_⟩⟩
      have sA : Same H2 (upd (upd (upd H2 a (SetO w a (fun j => decide (j ∈ zs)) k)) p (.lst (ns.map V.int))) r (.tup (ns.map V.int))) := (same_upd _ na).trans ((same_upd _ np).trans (same_upd _ nr))
      have ef3 := sA _ _ ef2
      have tp : Tp H1 (upd (upd (upd (upd H2 a (SetO w a (fun j => decide (j ∈ zs)) k)) p (.lst (ns.map V.int))) r (.tup (ns.map V.int))) fo (.lst (xs ++ [.ref r]))) := (mv2.tp hh).trans ((Tp.of sA).trans (Tp.lst ef3))
      refine ⟨fo, xs, _, rfl, rfl, ef3, ?_, _, _, xs ++ [.ref r], ls ++ [ns], rfl, ((mv.trans mv2).trans (Mv.of sA)).set nfo, (hh2.same sA).set f1 f2, upd_same, Paired.snoc ⟨r, rfl, Tp.lst ef3 _ _ upd_same⟩ (TupI.all tp pr), ?_, ok.snoc ?_ fun z hz => ?_⟩
      · rw [Paired.length pr, el]
        exact small1000 (by omega)
      · rw [List.length_append, el]
        rfl
      · rw [len]
        omega
      · rw [el]
        exact bz z (of_decide_eq_true ((mem z).mp hz))
  · obtain ⟨y4, y5, xs, ls, rfl, mv, hh, ef, pr, el, ok⟩ := p
    refine ⟨_, rfl, fo, xs, rfl, .inl ⟨SqL.of ef, fun r nr => ?_⟩⟩
    have s1 := same_upd (.tup xs) nr
    exact fin _ r xs ls (mv.trans (Mv.of s1)) (hh.same s1) (mv.free hh nr) upd_same (TupI.all (Tp.of s1) pr) el ok
end
end K50
namespace K50
open PySem PySem.Spec PyProof.Rows L2 RZ
def OkShe (ls : List (List Int)) : Prop := ∀ (k : Nat) (l : List Int), ls[k]? = some l → l.length ≤ 8 ∧ ∀ z ∈ l, 0 ≤ z ∧ z ≤ (k : Int)
theorem OkShe.snoc {ls : List (List Int)} {l : List Int} (h : OkShe ls) (h1 : l.length ≤ 8) (h2 : ∀ z ∈ l, 0 ≤ z ∧ z ≤ (ls.length : Int)) : OkShe (ls ++ [l]) := fun k l' e => by
  by_cases hk : k < ls.length
  · rw [List.getElem?_append_left hk] at e
    exact h k l' e
  · rw [List.getElem?_append_right (by omega)] at e
    have h0 : k - ls.length = 0 := by
      have := (List.getElem?_eq_some_iff.mp e).1
      rw [List.length_singleton] at this
      omega
    rw [h0] at e
    have e' : l = l' := Option.some.inj e
    subst e'
    have ek : k = ls.length := by omega
    subst ek
    exact ⟨h1, h2⟩
section
variable {mg : Str → Option Value} {base : Heap} {P : Program} {w : World} {K : PySem.W.Frag}
/-! ### _law_sheet -/
theorem scSheet : FnScope ["_law_parents_here", "_law_found", "_law_kind", "_law_item", "_law_here", "_law_parent"] ["_law_parents_here"] (defScope sSheet) := ⟨rfl, rfl, rfl, by decide +kernel, rfl, by decide +kernel, by decide +kernel⟩
def spSheet : Sp := fun vs H Q _ => ∃ (p : Addr) (xs : List V) (ls : List (List Int)), vs = [.ref p] ∧ H p = some (.tup xs) ∧ Paired (TupI H) xs ls ∧ ls.length ≤ 8 ∧ OkPar ls ∧
  ∀ H' r ys ms, Same H H' → H r = none → H' r = some (.lst ys) → Paired (TupI H') ys ms → ms.length = ls.length → Q (.ref r) H'
theorem ok_sheet {f : Addr} {fd : FuncData} (F : Fun K "_law_sheet" "_law_sheet" sSheet f fd) (mt : mg "tuple" = none) (ml : mg "list" = none) (mn : mg "enumerate" = none) (ms : mg "sorted" = none) (me : mg "set" = none) : FnOk P w K mg base CX0 1 f fd ["_law_parents_here"] spSheet := by
  refine F.ok scSheet (fun vs H Q E h => ?_) (fun cdv A outer s H vs Q E hr h => ?_)
  · obtain ⟨p, xs, ls, rfl, _⟩ := h
    rfl
  obtain ⟨p, xs, ls, rfl, hp, pr, l8, ok, fin⟩ := h
  refine ⟨_, pss_cons (ps_set (i := 1) scSheet.nd rfl (Or.inl rfl) (pe_lst pa_nil))
    (pss_cons (ps_for PassesOwn.never rfl (pi_enumT (by rfl) mn (pa_cons (pv 0) pa_nil)) (pg_tup rfl (pgs_cons (pg_name (i := 2) scSheet.nd rfl (Or.inl rfl)) (pgs_cons (pg_name (i := 3) scSheet.nd rfl (Or.inl rfl)) pgs_nil)))
      (pss_cons (ps_set (i := 4) scSheet.nd rfl (Or.inl rfl) (pe_lst (pa_cons (pv 2) pa_nil)))
      (pss_cons (ps_for PassesOwn.never rfl (pi_tup (pv 3)) (pg_name (i := 5) scSheet.nd rfl (Or.inl rfl))
        (pss_one (ps_expr (pe_bm PySem.F.plainAttrs_list PySem.F.slot_list_extend PySem.F.type_list_extend mt_extend (pv 4) (pa_cons (pe_callTy call_list_of rfl ml (by decide +kernel) (pa_cons (pe_ix ix_list (pv 1) (pv 5) (fun _ _ => rfl)) pa_nil)) pa_nil)))))
      (pss_one (ps_expr (pe_bm PySem.F.plainAttrs_list PySem.F.slot_list_append PySem.F.type_list_append mt_append (pv 1)
        (pa_cons (pe_callTy call_tuple_of rfl mt (by decide +kernel) (pa_cons (pe_callB (cr_sortedSet rfl) rfl ms (by decide +kernel) (pa_cons (pe_callTy (call_setL rfl) rfl me (by decide +kernel) (pa_cons (pv 4) pa_nil)) pa_nil)) pa_nil)) pa_nil)))))))
    (pss_one (ps_ret (pv (X := _) 1)))), ?_⟩
  refine ⟨Nat.zero_le _, fun fo nfo => ?_⟩
  have s0 := same_upd (H := H) (.lst []) nfo
  have hxl : xs.length = ls.length := Paired.length pr
  refine ⟨_, rfl, p, xs, rfl, same_tup s0 hp, ?_⟩
  refine for_it (walk_et (xs := xs)) (fun i σ H1 => ∃ y2 y3 y4 y5 ys ms, σ = [some (.ref p), some (.ref fo), y2, y3, y4, y5] ∧ Same H H1 ∧ H1 fo = some (.lst ys) ∧ Paired (TupI H1) ys ms ∧ ms.length = i ∧ OkShe ms)
    ⟨none, none, none, none, [], [], rfl, s0, upd_same, .nil, rfl, fun _ _ e => by cases e⟩ (fun i σ H1 _ q => ?_) (fun i x σ H1 H2 hi q y => ?_) (fun σ H1 q => ?_)
  · obtain ⟨_, _, _, _, _, _, _, s1, _⟩ := q
    exact same_tup s1 hp
  · obtain ⟨y2, y3, y4, y5, ys, ms, rfl, s1, ef, pm, em, okm⟩ := q
    obtain ⟨T, u1, u2, rfl, nT, rfl, q1, q2⟩ := y
    obtain rfl : V.int (i : Nat) = u1 := Option.some.inj q1
    obtain ⟨l, hl, t, rfl, ht⟩ := Paired.atL pr q2
    have hi8 : i < 8 := by omega
    have sT := same_upd (H := H1) (.tup [V.int (i : Nat), .ref t]) nT
    have okl := ok i l hl
    refine ⟨T, _, rfl, SqT.of upd_same, rfl, _, _, rfl, _, _, rfl, rfl, ?_⟩
    -- here = [kind]
    refine ⟨_, rfl, (by show 1 ≤ sizeLine; decide), fun le nle => ?_⟩
    have s2 := s1.trans sT
    have s3 := s2.trans (same_upd (.lst [V.int (i : Nat)]) nle)
    have nf : fo ≠ le := ne_of_none (sT _ _ ef) nle
    have tp3 : Tp H1 (upd (upd H1 T (.tup [V.int (i : Nat), .ref t])) le (.lst [V.int (i : Nat)])) := (Tp.of sT).trans (Tp.new nle)
    have ef3 : (upd (upd H1 T (.tup [V.int (i : Nat), .ref t])) le (.lst [V.int (i : Nat)])) fo = some (.lst ys) := by
      rw [upd_ne nf]
      exact sT _ _ ef
    refine ⟨_, rfl, t, rfl, ⟨_, same_tup s3 ht⟩, for_tup (K := K) (xs := l.map V.int) (fun j σ H3 => ∃ y5 hs, σ = [some (.ref p), some (.ref fo), some (.int (i : Nat)), some (.ref t), some (.ref le), y5] ∧ Same H H3 ∧ H3 fo = some (.lst ys) ∧ Paired (TupI H3) ys ms ∧ H3 le = some (.lst (hs.map V.int)) ∧ hs.length ≤ 1 + 8 * j ∧ ∀ z ∈ hs, 0 ≤ z ∧ z ≤ (i : Int))
      ⟨_, [(i : Int)], rfl, s3, ef3, TupI.all tp3 pm, upd_same, by show 1 ≤ 1 + 8 * 0; omega, fun z hz => by rw [List.mem_singleton.mp hz]; omega⟩ (fun j σ H3 _ q => ?_) (fun j x σ H3 hx q => ?_) (fun σ H3 q => ?_)⟩
    · obtain ⟨_, _, _, s4, _⟩ := q
      exact same_tup s4 ht
    · obtain ⟨y5, hs, rfl, s4, ef4, pm4, eh, hlen, hb⟩ := q
      obtain ⟨z, hz, rfl⟩ := map_at hx
      have jl : j < l.length := (List.getElem?_eq_some_iff.mp hz).1
      have hzb := okl.2 z (List.mem_of_getElem? hz)
      have zin : z.toNat < ms.length := by omega
      obtain ⟨v, ev, t2, rfl, ht2⟩ := Paired.at pm4 (List.getElem?_eq_getElem zin)
      have okz := okm z.toNat _ (List.getElem?_eq_getElem zin)
      refine ⟨_, rfl, .inl ⟨rfl, _, SqL.of eh⟩, ?_⟩
      refine ⟨_, rfl, _, rfl, fo, ys, z, _, rfl, rfl, SqL.of ef4, atI_list hzb.1 ev, t2, _, rfl, .inr (SqT.of ht2), fun nl nnl => ?_⟩
      have s5 := same_upd (H := H3) (.lst (ms[z.toNat].map V.int)) nnl
      have ne1 : fo ≠ le := nf
      have eh5 := s5 _ _ eh
      refine ⟨le, nl, _, _, rfl, rfl, eh5, upd_same, ?_, ?_⟩
      · rw [List.length_map, List.length_map]
        have := okl.1
        exact small (by omega)
      · have nleH : H le = none := s2.free nle
        have tp5 : Tp H3 (upd (upd H3 nl (.lst (ms[z.toNat].map V.int))) le (.lst (hs.map V.int ++ ms[z.toNat].map V.int))) := (Tp.of s5).trans (Tp.lst eh5)
        refine ⟨_, hs ++ ms[z.toNat], rfl, same_set (s4.trans s5) nleH, ?_, TupI.all tp5 pm4, ?_, ?_, fun y hy => ?_⟩
        · rw [upd_ne ne1]
          exact s5 _ _ ef4
        · rw [upd_same, List.map_append]
        · rw [List.length_append]
          omega
        · rcases in_app hy with hy | hy
          · exact hb y hy
          · have := okz.2 y hy
            omega
    · obtain ⟨y5, hs, rfl, s4, ef4, pm4, eh, hlen, hb⟩ := q
      rw [List.length_map] at hlen
      have l3 := okl.1
      refine ⟨_, rfl, .inl ⟨rfl, _, SqL.of ef4⟩, ?_⟩
      refine ⟨_, rfl, le, hs, rfl, SqL.of eh, by omega, fun a k na lk => ?_⟩
      refine ⟨a, _, k, rfl, upd_same, by omega, fun ns q asc mem len nq => ?_⟩
      refine ⟨q, _, rfl, .inl ⟨SqL.of upd_same, fun r nr => ?_⟩⟩
      have sA : Same H3 (upd (upd (upd H3 a (SetO w a (fun j => decide (j ∈ hs)) k)) q (.lst (ns.map V.int))) r (.tup (ns.map V.int))) := (same_upd _ na).trans ((same_upd _ nq).trans (same_upd _ nr))
      have ef5 := sA _ _ ef4
      have bn : ∀ z ∈ ns, 0 ≤ z ∧ z ≤ (i : Int) := fun z hz => hb z (of_decide_eq_true ((mem z).mp hz))
      refine ⟨fo, ys, _, rfl, rfl, ef5, ?_, _, _, _, _, ys ++ [.ref r], ms ++ [ns], rfl, same_set (s4.trans sA) nfo, upd_same, Paired.snoc ⟨r, rfl, Tp.lst ef5 _ _ upd_same⟩ (TupI.all ((Tp.of sA).trans (Tp.lst ef5)) pm4), ?_, okm.snoc (asc_len 8 ns 0 asc fun z hz => ?_) fun z hz => ?_⟩
      · rw [Paired.length pm4]
        exact small1000 (by omega)
      · rw [List.length_append, em]
        rfl
      · have := bn z hz
        omega
      · rw [em]
        exact bn z hz
  · obtain ⟨y2, y3, y4, y5, ys, ms, rfl, s1, ef, pm, em, okm⟩ := q
    exact ⟨_, rfl, fin H1 fo ys ms s1 nfo ef pm (em.trans hxl)⟩
end
end K50
namespace K50
open PySem PySem.Spec PyProof.Rows L2 RZ
/-! ### rows: lists of kinds that grow -/
def ListI (H : Hp) (a : Addr) (l : List Int) : Prop := H a = some (.lst (l.map V.int))
theorem Paired.on {α β : Type} {F G : α → β → Prop} : ∀ {l : List α} {m : List β}, (∀ a ∈ l, ∀ b, F a b → G a b) → Paired F l m → Paired G l m
  | _, _, _, .nil => .nil
  | _, _, f, .cons r t => .cons (f _ List.mem_cons_self _ r) (Paired.on (fun a ha => f a (List.mem_cons_of_mem _ ha)) t)
theorem rows_set {H : Hp} {a : Addr} {l : List Int} {k : Int} : ∀ {as : List Addr} {ls : List (List Int)} {j : Nat}, as.Nodup → Paired (ListI H) as ls → as[j]? = some a → ls[j]? = some l → Paired (ListI (upd H a (.lst ((l ++ [k]).map V.int)))) as (ls.set j (l ++ [k]))
  | _, _, j, _, .nil, e, _ => by simp at e
  | b :: as, m :: ls, 0, nd, .cons r t, e, e2 => by
    have e1 : b = a := Option.some.inj e
    have e3 : m = l := Option.some.inj e2
    subst e1
    subst e3
    refine .cons upd_same (Paired.on (fun x hx y hy => ?_) t)
    have ne : x ≠ b := fun z => (List.nodup_cons.mp nd).1 (z ▸ hx)
    unfold ListI
    rw [upd_ne ne]
    exact hy
  | b :: as, m :: ls, j + 1, nd, .cons r t, e, e2 => by
    have e' : as[j]? = some a := e
    have ne : b ≠ a := fun z => (List.nodup_cons.mp nd).1 (z ▸ List.mem_of_getElem? e')
    refine .cons ?_ (rows_set (List.nodup_cons.mp nd).2 t e' e2)
    unfold ListI
    rw [upd_ne ne]
    exact r
structure DealOk (ls : List (List Int)) (n : Nat) : Prop where
  few : ls.length ≤ n
  each : ∀ l ∈ ls, l ≠ [] ∧ l.length ≤ n ∧ ∀ z ∈ l, 0 ≤ z ∧ z < (n : Int)
  all : ∀ k : Nat, k < n → ∃ l ∈ ls, (k : Int) ∈ l
theorem DealOk.set {ls : List (List Int)} {n j : Nat} {l : List Int} (h : DealOk ls n) (e : ls[j]? = some l) : DealOk (ls.set j (l ++ [(n : Int)])) (n + 1) := by
  have hl := h.each l (List.mem_of_getElem? e)
  have hj : j < ls.length := (List.getElem?_eq_some_iff.mp e).1
  refine ⟨by rw [List.length_set]; have := h.few; omega, fun m hm => ?_, fun k hk => ?_⟩
  · rcases List.mem_or_eq_of_mem_set hm with hm | hm
    · obtain ⟨h1, h2, h3⟩ := h.each m hm
      exact ⟨h1, by omega, fun z hz => by have := h3 z hz; omega⟩
    · subst hm
      refine ⟨fun z => by simp at z, ?_, fun z hz => ?_⟩
      · rw [len_snoc]
        have := hl.2.1
        omega
      · rcases mem_snoc hz with hz | hz
        · have := hl.2.2 z hz
          omega
        · rw [hz]
          omega
  · have inSet : l ++ [(n : Int)] ∈ ls.set j (l ++ [(n : Int)]) := List.mem_of_getElem? (i := j) (by rw [List.getElem?_set_self hj])
    by_cases hkn : k = n
    · subst hkn
      exact ⟨_, inSet, List.mem_append_right _ (List.mem_singleton.mpr rfl)⟩
    · obtain ⟨m, hm, hkm⟩ := h.all k (by omega)
      obtain ⟨i, hi, ei⟩ := List.getElem_of_mem hm
      by_cases hij : i = j
      · subst hij
        have : m = l := by
          rw [List.getElem?_eq_getElem hi, ei] at e
          exact Option.some.inj e
        subst this
        exact ⟨_, inSet, List.mem_append_left _ hkm⟩
      · refine ⟨m, List.mem_of_getElem? (i := i) ?_, hkm⟩
        rw [List.getElem?_set_ne (fun z => hij z.symm), List.getElem?_eq_getElem hi, ei]
theorem DealOk.snoc {ls : List (List Int)} {n : Nat} (h : DealOk ls n) : DealOk (ls ++ [[(n : Int)]]) (n + 1) := by
  refine ⟨by rw [List.length_append, List.length_singleton]; have := h.few; omega, fun m hm => ?_, fun k hk => ?_⟩
  · rcases mem_snoc hm with hm | hm
    · obtain ⟨h1, h2, h3⟩ := h.each m hm
      exact ⟨h1, by omega, fun z hz => by have := h3 z hz; omega⟩
    · rw [hm]
      refine ⟨List.cons_ne_nil _ _, by rw [List.length_singleton]; omega, fun z hz => ?_⟩
      rw [List.mem_singleton.mp hz]
      omega
  · by_cases hkn : k = n
    · subst hkn
      exact ⟨_, List.mem_append_right _ (List.mem_singleton.mpr rfl), List.mem_singleton.mpr rfl⟩
    · obtain ⟨m, hm, hkm⟩ := h.all k (by omega)
      exact ⟨m, List.mem_append_left _ hm, hkm⟩
theorem last_at {l : List Int} (h : l ≠ []) : atI (l.map V.int) (-1) = some (.int (l.getLast h)) := by
  have e : l.map V.int = (l.dropLast.map V.int) ++ [.int (l.getLast h)] := by
    rw [← List.map_singleton (f := V.int), ← List.map_append, List.dropLast_concat_getLast h]
  rw [e]
  exact atI_last _ _
theorem flat_ints (l : List Int) : (l.map V.int).all flatV = true := by
  rw [List.all_map, List.all_eq_true]
  intro _ _
  rfl
/-- the state of the dealing: rows in the list at ro -/
structure Dealt (H H1 : Hp) (ro : Addr) (as : List Addr) (ls : List (List Int)) (n : Nat) : Prop where
  top : H1 ro = some (.lst (as.map V.ref))
  rows : Paired (ListI H1) as ls
  nd : as.Nodup
  new : ∀ a ∈ as, H a = none ∧ a ≠ ro
  ok : DealOk ls n
theorem Dealt.mv {H H1 H2 : Hp} {h c ro : Addr} {as : List Addr} {ls : List (List Int)} {n : Nat} (d : Dealt H H1 ro as ls n) (m : Mv h H1 H2) (a : HandAt H h c) (nro : H ro = none) : Dealt H H2 ro as ls n :=
  ⟨m _ _ (a.ne_new nro) d.top, Paired.on (fun x hx l hl => m x _ (a.ne_new (d.new x hx).1) hl) d.rows, d.nd, d.new, d.ok⟩
theorem Dealt.same {H H1 H2 : Hp} {ro : Addr} {as : List Addr} {ls : List (List Int)} {n : Nat} (d : Dealt H H1 ro as ls n) (s : Same H1 H2) : Dealt H H2 ro as ls n :=
  ⟨s _ _ d.top, Paired.on (fun _ _ _ hl => s _ _ hl) d.rows, d.nd, d.new, d.ok⟩
section
variable {mg : Str → Option Value} {base : Heap} {P : Program} {w : World} {K : PySem.W.Frag}
/-! ### _law_dealt -/
theorem scDealt : FnScope ["_law_hand_here", "_law_sheet_here", "_law_rows", "_law_kind", "_law_fitting", "_law_row"] ["_law_hand_here", "_law_sheet_here"] (defScope sDealt) := ⟨rfl, rfl, rfl, by decide +kernel, rfl, by decide +kernel, by decide +kernel⟩
def spDealt : Sp := fun vs H Q _ => ∃ (h c sp : Addr) (xs : List V) (ms : List (List Int)), vs = [.ref h, .ref sp] ∧ HandAt H h c ∧ sp ≠ h ∧ H sp = some (.lst xs) ∧ Paired (TupI H) xs ms ∧ ms.length ≤ 8 ∧
  ∀ H' r as ls, Mv h H H' → HandAt H' h c → H r = none → Dealt H H' r as ls ms.length → Q (.ref r) H'
theorem ok_dealt {f g1 : Addr} {fd gd1 : FuncData} (F : Fun K "_law_dealt" "_law_dealt" sDealt f fd) (G1 : FnOk P w K mg base CX0 1 g1 gd1 ["_law_hand_here", "_law_many"] spDraw) (b1 : Binds K gd1 ["_law_hand_here", "_law_many"] []) (k1 : PySem.W.keepIn K (.ref g1) = true) (m1 : mg "_law_draw" = some (.ref g1))
    (mr : mg "range" = none) (ml : mg "len" = none) : FnOk P w K mg base CX0 2 f fd ["_law_hand_here", "_law_sheet_here"] spDealt := by
  refine F.ok scDealt (fun vs H Q E h => ?_) (fun cdv A outer s H vs Q E hr h => ?_)
  · obtain ⟨h, c, sp, xs, ms, rfl, _⟩ := h
    rfl
  obtain ⟨h, c, sp, xs, ms, rfl, hh, nsp, hsp, pr, m8, fin⟩ := h
  refine ⟨_, pss_cons (ps_set (i := 2) scDealt.nd rfl (Or.inl rfl) (pe_lst pa_nil))
    (pss_cons (ps_for PassesOwn.never rfl (pi_range1 rfl mr (pa_cons (pe_callB call_len_seq rfl ml PySem.boot_len (pa_cons (pv 1) pa_nil)) pa_nil)) (pg_name (i := 3) scDealt.nd rfl (Or.inr rfl))
      (pss_cons (ps_setLc (i := 4) (own := [("_law_row", 5)]) (g := gName 5) (tt := tTest (tOp (rIn K false) (tOp (rIxL K) (tVar 5) (tUn (rU fun i => .int (-i)) (tC (.int 1)))) (tOp (rIxL K) (tVar 1) (tVar 3)))) rfl scDealt.nd rfl rfl (sw_true rfl rfl rfl (by decide +kernel)) (pi_list (pv 2))
        (blkOk_by (own := [("_law_row", 5)]) (N := ["_law_hand_here", "_law_sheet_here", "_law_rows", "_law_kind", "_law_fitting", "_law_row"]) (sc := defScope sDealt) (by decide +kernel))
        (fun _ _ _ _ _ => pg_name (i := 5) scDealt.nd rfl (Or.inl rfl))
        (fun _ _ _ _ _ => pts_one (pt_cmpR op_in_seq (pe_ix ix_list (pv 5) (pe_un un_neg pe_int) (fun _ _ => rfl)) (pe_ix ix_list (pv 1) (pv 3) (fun _ _ => rfl)) rfl))
        (fun _ _ _ _ _ => pv 5))
      (pss_one (ps_if (PW.pt (pw_and (pt_cmpR op_gt (pe_callB call_len_seq rfl ml PySem.boot_len (pa_cons (pv 4) pa_nil)) pe_int (nomark _)) (pw_and1 (pt_cmpR op_gt (pe_call G1 hr rfl m1 k1 b1 .nil pass0 (pa_cons (pv 0) (pa_cons pe_int pa_nil))) pe_int (nomark _)))))
        (pss_one (ps_expr (pe_bm PySem.F.plainAttrs_list PySem.F.slot_list_append PySem.F.type_list_append mt_append
          (pe_ix ix_list (pv 4) (pe_call G1 hr rfl m1 k1 b1 .nil pass0 (pa_cons (pv 0) (pa_cons (pe_callB call_len_seq rfl ml PySem.boot_len (pa_cons (pv 4) pa_nil)) pa_nil))) (fun _ _ => rfl)) (pa_cons (pv 3) pa_nil))))
        (pss_one (ps_expr (pe_bm PySem.F.plainAttrs_list PySem.F.slot_list_append PySem.F.type_list_append mt_append (pv 2) (pa_cons (pe_lst (pa_cons (pv 3) pa_nil)) pa_nil))))))))
    (pss_one (ps_ret (pv 2)))), ?_⟩
  refine ⟨Nat.zero_le _, fun ro nro => ?_⟩
  have hro : ro ≠ h := hh.ne_new nro
  have hroc : ro ≠ c := hh.ne_newc nro
  have hxl : xs.length = ms.length := Paired.length pr
  have s0 := same_upd (H := H) (.lst []) nro
  refine ⟨_, rfl, sp, xs, rfl, .inl (SqL.of (s0 _ _ hsp)), (xs.length : Int), rfl, by omega, by omega, ?_⟩
  rw [show ((xs.length : Int)).toNat = ms.length by omega]
  refine for_range (lo := 0) (n := ms.length) (fun i σ H1 => ∃ y3 y4 as ls, σ = [some (.ref h), some (.ref sp), some (.ref ro), y3, y4, none] ∧ Mv h H H1 ∧ HandAt H1 h c ∧ Dealt H H1 ro as ls i)
    ⟨none, none, [], [], rfl, (Mv.refl h H).set nro, hh.same s0, upd_same, .nil, List.Pairwise.nil, fun _ z => (nomatch z), Nat.le_refl 0, fun _ z => (nomatch z), fun k z => absurd z (Nat.not_lt_zero k)⟩ (fun i σ H1 hi q => ?_) (fun σ H1 q => ?_)
  · obtain ⟨y3, y4, as, ls, rfl, mv, hh1, dl⟩ := q
    rw [Int.zero_add]
    have tp := mv.tp hh
    have hsp1 := mv sp _ nsp hsp
    have pr1 := TupI.all tp pr
    have eal : as.length = ls.length := Paired.length dl.rows
    have few := dl.ok.few
    obtain ⟨v, ev, t, rfl, ht⟩ := Paired.at pr1 (List.getElem?_eq_getElem hi)
    -- a new row
    have els : ∀ H2, Mv h H1 H2 → HandAt H2 h c → ∀ a, H2 a = none → Dealt H (upd (upd H2 a (.lst [V.int (i : Nat)])) ro (.lst (as.map V.ref ++ [V.ref a]))) ro (as ++ [a]) (ls ++ [[(i : Int)]]) (i + 1) ∧ (upd H2 a (.lst [V.int (i : Nat)])) ro = some (.lst (as.map V.ref)) := fun H2 m2 h2 a na => by
      have d2 := dl.mv m2 hh nro
      have nro2 : ro ≠ a := ne_of_none d2.top na
      have out : a ∉ as := fun z => by
        obtain ⟨j, hj, ej⟩ := List.getElem_of_mem z
        obtain ⟨l, _, hl⟩ := Paired.atL d2.rows (List.getElem?_eq_getElem hj)
        rw [ej] at hl
        have hl' : H2 a = some (.lst (l.map V.int)) := hl
        rw [na] at hl'
        cases hl'
      refine ⟨⟨?_, Paired.snoc ?_ (Paired.on (fun x hx l hl => ?_) d2.rows), ?_, fun x hx => ?_, dl.ok.snoc⟩, ?_⟩
      · rw [upd_same, List.map_append]
        rfl
      · unfold ListI
        rw [upd_ne nro2.symm, upd_same]
        rfl
      · have nxa : x ≠ a := fun z => out (by rw [← z]; exact hx)
        unfold ListI
        rw [upd_ne (d2.new x hx).2, upd_ne nxa]
        exact hl
      · rw [List.nodup_append]
        refine ⟨dl.nd, List.pairwise_singleton _ _, fun x hx y hy => ?_⟩
        rw [List.mem_singleton.mp hy]
        exact fun z => out (by rw [← z]; exact hx)
      · rcases mem_snoc hx with hx | hx
        · exact d2.new x hx
        · rw [hx]
          exact ⟨(mv.trans m2).free h2 na, nro2.symm⟩
      · rw [upd_ne nro2]
        exact d2.top
    -- fitting
    refine ⟨_, rfl, ro, rfl, ⟨_, SqL.of dl.top⟩, fun D nD => ?_⟩
    refine lc_list (K := K) (xs := as.map V.ref) (fun j H2 => Same H1 H2 ∧ ∃ bs : List Addr, bs.length ≤ j ∧ (∀ b ∈ bs, b ∈ as) ∧ H2 D = some (.lst (bs.map V.ref))) ⟨same_upd _ nD, [], Nat.le_refl 0, fun _ z => (nomatch z), upd_same⟩ (fun j H2 _ q => SqL.of (q.1 _ _ dl.top)) (fun j x H2 hx q => ?_) (fun H2 q => ?_)
    · obtain ⟨s2, bs, lb, inb, eD⟩ := q
      obtain ⟨a, ha, rfl⟩ := map_at hx
      obtain ⟨l, hl, ea⟩ := Paired.atL dl.rows ha
      have ja : j < as.length := (List.getElem?_eq_some_iff.mp ha).1
      have nel := (dl.ok.each l (List.mem_of_getElem? hl)).1
      have ea2 : H2 a = some (.lst (l.map V.int)) := s2 _ _ ea
      refine ⟨rfl, ?_⟩
      refine ⟨_, rfl, 1, rfl, a, _, -1, _, rfl, rfl, SqL.of ea2, last_at nel, _, rfl, _, rfl, sp, xs, i, _, rfl, rfl, SqL.of (s2 _ _ hsp1), atI_nat ev, t, _, rfl, .inr (SqT.of (s2 _ _ ht)), rfl, flat_ints _, _, rfl, ?_⟩
      refine ite2 (fun _yes => ?_) (fun _no => ?_)
      · refine ⟨_, rfl, _, eD, ?_, same_set s2 nD, bs ++ [a], ?_, fun b hb => ?_, ?_⟩
        · rw [List.length_map]
          exact small1000 (by omega)
        · rw [len_snoc]
          omega
        · rcases mem_snoc hb with hb | hb
          · exact inb b hb
          · rw [hb]
            exact List.mem_of_getElem? ha
        · rw [upd_same, List.map_append]
          rfl
      · exact ⟨s2, bs, by omega, inb, eD⟩
    · obtain ⟨s2, bs, lb, inb, eD⟩ := q
      rw [List.length_map] at lb
      have hh2 := hh1.same s2
      have nDh : D ≠ h := hh1.ne_new nD
      refine ⟨_, rfl, D, _, rfl, .inl (SqL.of eD), _, _, rfl, rfl, _, rfl, ite2 (fun gt => ?_) (fun _ => ?_)⟩
      · have gt' : (0 : Int) < (((bs.map V.ref).length : Nat) : Int) := of_decide_eq_true gt
        rw [List.length_map] at gt'
        refine ⟨_, rfl, h, c, 4, rfl, hh2, by decide, by decide, fun H3 d mv3 hh3 d0 d4 => ⟨_, _, rfl, rfl, _, rfl, ite2 (fun _ => ?_) (fun _ => ?_)⟩⟩
        · -- into a row that fits
          have eD3 := mv3 D _ nDh eD
          refine ⟨_, rfl, _, rfl, _, rfl, D, _, rfl, .inl (SqL.of eD3), h, c, _, rfl, hh3, ?_, ?_, fun H4 e mv4 hh4 e0 e1 => ?_⟩
          · rw [List.length_map]
            exact gt'
          · rw [List.length_map]
            omega
          rw [List.length_map] at e1
          have eD4 := mv4 D _ nDh eD3
          have ein : e.toNat < bs.length := by omega
          have m14 : Mv h H1 H4 := (Mv.of s2).trans (mv3.trans mv4)
          have d4' := dl.mv m14 hh nro
          have hb := inb _ (List.getElem_mem ein)
          obtain ⟨j, hj, ej⟩ := List.getElem_of_mem hb
          obtain ⟨l, hl, ea⟩ := Paired.atL d4'.rows (List.getElem?_eq_getElem hj)
          rw [ej] at ea
          have ea' : H4 bs[e.toNat] = some (.lst (l.map V.int)) := ea
          have new := d4'.new _ hb
          have okl := dl.ok.each l (List.mem_of_getElem? hl)
          refine ⟨D, _, e, V.ref bs[e.toNat], rfl, rfl, SqL.of eD4, atI_list e0 (by rw [List.getElem?_map, List.getElem?_eq_getElem ein] <;> rfl), ?_⟩
          refine ⟨.inl ⟨rfl, _, SqL.of ea'⟩, _, rfl, bs[e.toNat], _, _, rfl, rfl, ea', ?_, ?_⟩
          · rw [List.length_map]
            have := okl.2.1
            exact small1000 (by omega)
          · have em : l.map V.int ++ [V.int (i : Nat)] = (l ++ [(i : Int)]).map V.int := by
              rw [List.map_append]
              rfl
            rw [em]
            refine ⟨_, _, as, ls.set j (l ++ [(i : Int)]), rfl, (mv.trans m14).set new.1, hh4.set (hh.ne_new new.1) (hh.ne_newc new.1), ?_, rows_set dl.nd d4'.rows (by rw [List.getElem?_eq_getElem hj, ej]) hl, dl.nd, dl.new, dl.ok.set hl⟩
            rw [upd_ne new.2.symm]
            exact d4'.top
        · -- a row of its own
          have m13 : Mv h H1 H3 := (Mv.of s2).trans mv3
          have d3' := dl.mv m13 hh nro
          refine ⟨_, rfl, .inl ⟨rfl, _, SqL.of d3'.top⟩, _, rfl, (by show 1 ≤ sizeLine; decide), fun a na => ?_⟩
          obtain ⟨q1, q2⟩ := els H3 m13 hh3 a na
          refine ⟨ro, _, _, rfl, rfl, q2, ?_, ?_⟩
          · rw [List.length_map]
            exact small1000 (by omega)
          · exact ⟨_, _, as ++ [a], ls ++ [[(i : Int)]], rfl, ((mv.trans m13).trans (Mv.of (same_upd _ na))).set nro, (hh3.same (same_upd _ na)).set hro hroc, q1⟩
      · have m12 : Mv h H1 H2 := Mv.of s2
        have d2' := dl.mv m12 hh nro
        refine ⟨_, rfl, .inl ⟨rfl, _, SqL.of d2'.top⟩, _, rfl, (by show 1 ≤ sizeLine; decide), fun a na => ?_⟩
        obtain ⟨q1, q2⟩ := els H2 m12 hh2 a na
        refine ⟨ro, _, _, rfl, rfl, q2, ?_, ?_⟩
        · rw [List.length_map]
          exact small1000 (by omega)
        · exact ⟨_, _, as ++ [a], ls ++ [[(i : Int)]], rfl, ((mv.trans m12).trans (Mv.of (same_upd _ na))).set nro, (hh2.same (same_upd _ na)).set hro hroc, q1⟩
  · obtain ⟨y3, y4, as, ls, rfl, mv, hh1, dl⟩ := q
    exact ⟨_, rfl, fin H1 ro as ls mv hh1 nro dl⟩
end
end K50
namespace K50
open PySem PySem.Spec PyProof.Rows L2 RZ
theorem Tp.other {H : Hp} {p : Addr} {o u : HO} (e : H p = some u) (hu : ∀ xs, u ≠ .tup xs) : Tp H (upd H p o) := fun b xs q => by
  rw [upd_ne (ne_of q e (hu xs).symm)]
  exact q
/-- where a kind lies: slot and number -/
def PlV (H : Hp) (v : V) : Prop := ∃ t a b, v = .ref t ∧ H t = some (.tup [.int a, .int b]) ∧ 0 ≤ a ∧ a ≤ 100 ∧ b.natAbs ≤ 100
theorem PlV.tp {H H1 : Hp} {v : V} (m : Tp H H1) (h : PlV H v) : PlV H1 v := by
  obtain ⟨t, a, b, e, q, r⟩ := h
  exact ⟨t, a, b, e, m _ _ q, r⟩
/-- the dict of places -/
def PlaceAt (H : Hp) (pl : Addr) (cov : Int → Prop) (N : Nat) : Prop := ∃ kvs : List (Key × V), H pl = some (.dK kvs) ∧ kvs.length ≤ N ∧ (∀ k v, valV kvs (.inl k) = some v → PlV H v) ∧ ∀ z, cov z → ∃ v, valV kvs (.inl z) = some v
theorem PlaceAt.put {H : Hp} {pl : Addr} {cov cov' : Int → Prop} {N : Nat} {k : Int} {v : V} {kvs : List (Key × V)} (e : H pl = some (.dK kvs)) (l : kvs.length ≤ N) (h : ∀ k v, valV kvs (.inl k) = some v → PlV H v) (hc : ∀ z, cov z → ∃ v, valV kvs (.inl z) = some v)
    (hv : PlV H v) (hc' : ∀ z, cov' z → cov z ∨ z = k) : PlaceAt (upd H pl (.dK (putK kvs (.inl k) v))) pl cov' (N + 1) := by
  have tp : Tp H (upd H pl (.dK (putK kvs (.inl k) v))) := Tp.other e (fun _ z => by cases z)
  refine ⟨_, upd_same, by have := length_putK kvs (Sum.inl k) v; omega, fun j x hx => ?_, fun z hz => ?_⟩
  · rw [valV_put] at hx
    by_cases hj : (Sum.inl j : Key) = Sum.inl k
    · rw [if_pos hj] at hx
      rw [← Option.some.inj hx]
      exact hv.tp tp
    · rw [if_neg hj] at hx
      exact (h j x hx).tp tp
  · rw [valV_put]
    by_cases hj : (Sum.inl z : Key) = Sum.inl k
    · rw [if_pos hj]
      exact ⟨v, rfl⟩
    · rw [if_neg hj]
      rcases hc' z hz with q | q
      · exact hc z q
      · exact absurd (by rw [q]) hj
theorem PlaceAt.imp {H : Hp} {pl : Addr} {cov cov' : Int → Prop} {N M : Nat} (h : PlaceAt H pl cov N) (hN : N ≤ M) (hc : ∀ z, cov' z → cov z) : PlaceAt H pl cov' M := by
  obtain ⟨kvs, e, l, p, q⟩ := h
  exact ⟨kvs, e, Nat.le_trans l hN, p, fun z hz => q z (hc z hz)⟩
theorem PlaceAt.same {H H1 : Hp} {pl : Addr} {cov : Int → Prop} {N : Nat} (s : Same H H1) (h : PlaceAt H pl cov N) : PlaceAt H1 pl cov N := by
  obtain ⟨kvs, e, l, p, q⟩ := h
  exact ⟨kvs, s _ _ e, l, fun k v hv => (p k v hv).tp (Tp.of s), q⟩
/-- what the second part of the def leans on -/
structure Base (H1 : Hp) (sp ro pl : Addr) (xs : List V) (ms : List (List Int)) (as : List Addr) (ls : List (List Int)) : Prop where
  sheet : H1 sp = some (.lst xs)
  item : Paired (TupI H1) xs ms
  top : H1 ro = some (.lst (as.map V.ref))
  rows : Paired (ListI H1) as ls
  place : PlaceAt H1 pl (fun z => ∃ l ∈ ls, z ∈ l) 64
theorem Base.mv {H1 H2 : Hp} {h c sp ro pl : Addr} {xs : List V} {ms : List (List Int)} {as : List Addr} {ls : List (List Int)} (b : Base H1 sp ro pl xs ms as ls) (m : Mv h H1 H2) (a : HandAt H1 h c) (n1 : sp ≠ h) (n2 : ro ≠ h) (n3 : pl ≠ h) (n4 : ∀ x ∈ as, x ≠ h) : Base H2 sp ro pl xs ms as ls := by
  have tp := m.tp a
  refine ⟨m _ _ n1 b.sheet, TupI.all tp b.item, m _ _ n2 b.top, Paired.on (fun x hx l hl => m x _ (n4 x hx) hl) b.rows, ?_⟩
  obtain ⟨kvs, e, l, p, q⟩ := b.place
  exact ⟨kvs, m _ _ n3 e, l, fun k v hv => (p k v hv).tp tp, q⟩
theorem mul_two {s w : Int} {n : Nat} (h : 0 ≤ s) (hs : s < n) (hn : n ≤ 8) (h1 : 1 ≤ w) (h2 : w ≤ 2) : 0 ≤ s * w ∧ s * w ≤ 100 ∧ s * w < (n : Int) * w ∧ (n : Int) * w ≤ 16 := by
  rcases (by omega : w = 1 ∨ w = 2) with e | e <;> subst e <;> omega
theorem mul_three {s a : Int} (h : 0 ≤ a) (ha : a < 8) (h1 : 1 ≤ s) (h2 : s ≤ 3) : 0 ≤ s * a ∧ s * a ≤ 24 := by
  rcases (by omega : s = 1 ∨ s = 2 ∨ s = 3) with e | e | e <;> subst e <;> omega
theorem len_two {n : Nat} {w : Int} (hn : n ≤ 8) (h1 : 1 ≤ w) (h2 : w ≤ 2) : 0 ≤ (n : Int) * w ∧ (n : Int) * w ≤ 16 := by
  rcases (by omega : w = 1 ∨ w = 2) with e | e <;> subst e <;> omega
theorem ixN_nat {n : Nat} {k : Int} (h0 : 0 ≤ k) (h : k < n) : ixN n k = some k.toNat := by
  unfold ixN
  rw [if_pos h0, if_pos h]
section
variable {mg : Str → Option Value} {base : Heap} {P : Program} {w : World} {K : PySem.W.Frag}
/-! ### _law_right_scheme -/
abbrev nmRight : List Str := ["_law_hand_here", "_law_sheet_here", "_law_rows", "_law_step", "_law_low", "_law_wide", "_law_place", "_law_slot", "_law_row", "_law_at", "_law_kind", "_law_found", "_law_entries", "_law_own", "_law_other"]
abbrev sg (h sp ro : Addr) (st lo wi : Int) (pl : Addr) (y7 y8 y9 y10 y11 y12 y13 : Option V) : L2.St := [some (.ref h), some (.ref sp), some (.ref ro), some (.int st), some (.int lo), some (.int wi), some (.ref pl), y7, y8, y9, y10, y11, y12, y13, none]
theorem scRight : FnScope ["_law_hand_here", "_law_sheet_here", "_law_rows", "_law_step", "_law_low", "_law_wide", "_law_place", "_law_slot", "_law_row", "_law_at", "_law_kind", "_law_found", "_law_entries", "_law_own", "_law_other"] ["_law_hand_here", "_law_sheet_here"] (defScope sRight) := ⟨rfl, rfl, rfl, by decide +kernel, rfl, by decide +kernel, by decide +kernel⟩
def spRight : Sp := fun vs H Q _ => ∃ (h c sp : Addr) (xs : List V) (ms : List (List Int)), vs = [.ref h, .ref sp] ∧ HandAt H h c ∧ sp ≠ h ∧ H sp = some (.lst xs) ∧ Paired (TupI H) xs ms ∧ ms.length ≤ 8 ∧
  ∀ H' r, Mv h H H' → HandAt H' h c → Made H' r ms.length → Q (.ref r) H'
theorem ok_right {f g1 g2 : Addr} {fd gd1 gd2 : FuncData} (F : Fun K "_law_right_scheme" "_law_right_scheme" sRight f fd) (G1 : FnOk P w K mg base CX0 2 g1 gd1 ["_law_hand_here", "_law_many"] spDraw) (b1 : Binds K gd1 ["_law_hand_here", "_law_many"] []) (k1 : PySem.W.keepIn K (.ref g1) = true) (m1 : mg "_law_draw" = some (.ref g1))
    (G2 : FnOk P w K mg base CX0 2 g2 gd2 ["_law_hand_here", "_law_sheet_here"] spDealt) (b2 : Binds K gd2 ["_law_hand_here", "_law_sheet_here"] []) (k2 : PySem.W.keepIn K (.ref g2) = true) (m2 : mg "_law_dealt" = some (.ref g2))
    (mr : mg "range" = none) (ml : mg "len" = none) (mn : mg "enumerate" = none) (mt : mg "tuple" = none) : FnOk P w K mg base CX0 3 f fd ["_law_hand_here", "_law_sheet_here"] spRight := by
  refine F.ok scRight (fun vs H Q E h => ?_) (fun cdv A outer s H vs Q E hr h => ?_)
  · obtain ⟨h, c, sp, xs, ms, rfl, _⟩ := h
    rfl
  obtain ⟨h, c, sp, xs, ms, rfl, hh, nsp, hsp, pr, m8, fin⟩ := h
  have hu := hu_of hr
  refine ⟨_, pss_cons (ps_set (i := 2) scRight.nd rfl (Or.inl rfl) (pe_call G2 hr rfl m2 k2 b2 .nil pass0 (pa_cons (pv 0) (pa_cons (pv 1) pa_nil))))
    (pss_cons (ps_set (i := 3) scRight.nd rfl (Or.inl rfl) (pe_op op_add pe_int (pe_call G1 hr rfl m1 k1 b1 .nil pass0 (pa_cons (pv 0) (pa_cons pe_int pa_nil)))))
    (pss_cons (ps_set (i := 4) scRight.nd rfl (Or.inr rfl) (pe_op op_sub (pe_call G1 hr rfl m1 k1 b1 .nil pass0 (pa_cons (pv 0) (pa_cons pe_int pa_nil))) pe_int))
    (pss_cons (ps_set (i := 5) scRight.nd rfl (Or.inl rfl) (pe_op op_add pe_int (pe_call G1 hr rfl m1 k1 b1 .nil pass0 (pa_cons (pv 0) (pa_cons pe_int pa_nil)))))
    (pss_cons (ps_set (i := 6) scRight.nd rfl (Or.inl rfl) pe_dnewK)
    (pss_cons (ps_for PassesOwn.never rfl (pi_enum (by rfl) mn (pa_cons (pv 2) pa_nil)) (pg_tup rfl (pgs_cons (pg_name (i := 7) scRight.nd rfl (Or.inl rfl)) (pgs_cons (pg_name (i := 8) scRight.nd rfl (Or.inl rfl)) pgs_nil)))
      (pss_one (ps_for PassesOwn.never rfl (pi_enum (by rfl) mn (pa_cons (pv 8) pa_nil)) (pg_tup rfl (pgs_cons (pg_name (i := 9) scRight.nd rfl (Or.inl rfl)) (pgs_cons (pg_name (i := 10) scRight.nd rfl (Or.inr rfl)) pgs_nil)))
        (pss_one (ps_dput hu (pv 6) (pv 10) (pe_tup (pa_cons (pe_op op_mul (pv 7) (pv 5)) (pa_cons (pe_op op_add (pv 4) (pe_op op_mul (pv 3) (pv 9))) pa_nil))) rfl)))))
    (pss_cons (ps_set (i := 11) scRight.nd rfl (Or.inl rfl) (pe_lst pa_nil))
    (pss_cons (ps_for PassesOwn.never rfl (pi_range1 rfl mr (pa_cons (pe_callB call_len_seq rfl ml PySem.boot_len (pa_cons (pv 1) pa_nil)) pa_nil)) (pg_name (i := 10) scRight.nd rfl (Or.inr rfl))
      (pss_cons (ps_setLc (i := 12) (own := [("_law_at", 9)]) (g := gName 9) (tt := tYes) rfl scRight.nd rfl rfl (sw_true rfl rfl rfl (by decide +kernel)) (pi_range1 rfl mr (pa_cons (pe_op op_mul (pe_callB call_len_seq rfl ml PySem.boot_len (pa_cons (pv 2) pa_nil)) (pv 5)) pa_nil))
        (blkOk_by (own := [("_law_at", 9)]) (N := nmRight) (sc := defScope sRight) (by decide +kernel))
        (fun _ _ _ _ _ => pg_name (i := 9) scRight.nd rfl (Or.inl rfl)) (fun _ _ _ _ _ => pts_nil)
        (fun _ _ _ _ _ => pe_op op_sub (pe_op op_sub (pv 4) pe_int) (pe_call G1 hr rfl m1 k1 b1 .nil pass0 (pa_cons (pv 0) (pa_cons pe_int pa_nil)))))
      (pss_cons (ps_for PassesOwn.never rfl (pi_enum (by rfl) mn (pa_cons (pv 2) pa_nil)) (pg_tup rfl (pgs_cons (pg_name (i := 7) scRight.nd rfl (Or.inl rfl)) (pgs_cons (pg_name (i := 8) scRight.nd rfl (Or.inl rfl)) pgs_nil)))
        (pss_cons (ps_setLc (i := 13) (own := [("_law_other", 14)]) (g := gName 14) (tt := tTest (tOp (rIn K false) (tVar 14) (tOp (rIxL K) (tVar 1) (tVar 10)))) rfl scRight.nd rfl rfl (sw_true rfl rfl rfl (by decide +kernel)) (pi_list (pv 8))
          (blkOk_by (own := [("_law_other", 14)]) (N := nmRight) (sc := defScope sRight) (by decide +kernel))
          (fun _ _ _ _ _ => pg_name (i := 14) scRight.nd rfl (Or.inl rfl))
          (fun _ _ _ _ _ => pts_one (pt_cmpR op_in_seq (pv 14) (pe_ix ix_list (pv 1) (pv 10) (fun _ _ => rfl)) rfl))
          (fun _ _ _ _ _ => pv 14))
        (pss_one (ps_if (pt_cmpR op_gt (pe_callB call_len_seq rfl ml PySem.boot_len (pa_cons (pv 13) pa_nil)) pe_int (nomark _))
          (pss_one (ps_asg (pe_op op_add (pe_ix ix_tup (pe_dget hu (pv 6) (pe_ix ix_list (pv 13) (pe_un un_neg pe_int) (fun _ _ => rfl)) (fun _ _ => rfl)) pe_int (fun _ _ => rfl)) (pe_call G1 hr rfl m1 k1 b1 .nil pass0 (pa_cons (pv 0) (pa_cons (pv 3) pa_nil))))
            (pg_sub (pv 12) (pe_op op_mul (pv 7) (pv 5)) set_list))) pss_nil))))
      (pss_one (ps_expr (pe_bm PySem.F.plainAttrs_list PySem.F.slot_list_append PySem.F.type_list_append mt_append (pv 11)
        (pa_cons (pe_op op_catA (pe_dget hu (pv 6) (pv 10) (fun _ _ => rfl)) (pe_tup (pa_cons (pe_callTy call_tuple_of rfl mt (by decide +kernel) (pa_cons (pv 12) pa_nil)) pa_nil))) pa_nil)))))))
    (pss_one (ps_ret (pe_callTy call_tuple_of rfl mt (by decide +kernel) (pa_cons (pv 11) pa_nil))))))))))), ?_⟩
  -- rows, step, low, wide
  refine ⟨_, rfl, _, rfl, h, c, sp, xs, ms, rfl, hh, nsp, hsp, pr, m8, fun H1 ro as ls mv1 hh1 nro dl => ?_⟩
  refine ⟨_, rfl, h, c, 3, rfl, hh1, by decide, by decide, fun H2 d3 mv2 hh2 d30 d33 => ⟨_, _, rfl, rfl, ?_⟩⟩
  refine ⟨_, rfl, h, c, 9, rfl, hh2, by decide, by decide, fun H3 d9 mv3 hh3 d90 d99 => ⟨_, _, rfl, rfl, ?_⟩⟩
  refine ⟨_, rfl, h, c, 2, rfl, hh3, by decide, by decide, fun H4 d2 mv4 hh4 d20 d22 => ⟨_, _, rfl, rfl, ?_⟩⟩
  obtain ⟨st, hst⟩ : ∃ st : Int, st = 1 + d3 := ⟨_, rfl⟩
  obtain ⟨lo, hlo⟩ : ∃ lo : Int, lo = d9 - 4 := ⟨_, rfl⟩
  obtain ⟨wi, hwi⟩ : ∃ wi : Int, wi = 1 + d2 := ⟨_, rfl⟩
  have st1 : 1 ≤ st := by omega
  have st3 : st ≤ 3 := by omega
  have lo1 : -4 ≤ lo := by omega
  have lo2 : lo ≤ 4 := by omega
  have wi1 : 1 ≤ wi := by omega
  have wi2 : wi ≤ 2 := by omega
  have mvA : Mv h H H4 := mv1.trans (mv2.trans (mv3.trans mv4))
  have dl4 := dl.mv (mv2.trans (mv3.trans mv4)) hh nro
  have hsp4 := mvA sp _ nsp hsp
  have pr4 := TupI.all (mvA.tp hh) pr
  have n2 : ro ≠ h := hh.ne_new nro
  have n4 : ∀ x ∈ as, x ≠ h := fun x hx => hh.ne_new (dl4.new x hx).1
  have eal : as.length = ls.length := Paired.length dl4.rows
  have few := dl4.ok.few
  have a8 : as.length ≤ 8 := by omega
  -- place = {}
  refine fun pl npl => ?_
  have n3 : pl ≠ h := hh4.ne_new npl
  have s5 := same_upd (H := H4) (.dK []) npl
  refine ⟨_, rfl, ro, as.map V.ref, rfl, SqL.of (s5 _ _ dl4.top), ?_⟩
  refine for_it (walk_enum (xs := as.map V.ref)) (fun i σ H5 => ∃ y7 y8 y9 y10, σ = sg h sp ro st lo wi pl y7 y8 y9 y10 none none none ∧ Same H4 H5 ∧ PlaceAt H5 pl (fun z => ∃ l ∈ ls.take i, z ∈ l) (8 * i))
    ⟨none, none, none, none, by rw [hst, hlo, hwi]; rfl, s5, [], upd_same, Nat.le_refl 0, fun _ _ e => (by cases e), fun z ⟨l, hl, _⟩ => (by rw [List.take_zero] at hl; cases hl)⟩ (fun i σ H5 _ q => ?_) (fun i x σ H5 H6 hi q y => ?_) (fun σ H5 q => ?_)
  · obtain ⟨_, _, _, _, _, s6, _⟩ := q
    exact SqL.of (s6 _ _ dl4.top)
  · obtain ⟨y7, y8, y9, y10, rfl, s6, pla⟩ := q
    obtain ⟨T, u1, u2, rfl, nT, rfl, q1, q2⟩ := y
    obtain rfl : V.int (i : Nat) = u1 := Option.some.inj q1
    obtain ⟨a, ha, rfl⟩ := map_at q2
    obtain ⟨l, hl, ea⟩ := Paired.atL dl4.rows ha
    have hia : i < as.length := (List.getElem?_eq_some_iff.mp ha).1
    have okl := dl4.ok.each l (List.mem_of_getElem? hl)
    have sT := same_upd (H := H5) (.tup [V.int (i : Nat), .ref a]) nT
    refine ⟨T, _, rfl, SqT.of upd_same, rfl, _, _, rfl, _, _, rfl, rfl, ?_⟩
    have s7 := s6.trans sT
    refine ⟨_, rfl, a, l.map V.int, rfl, SqL.of (s7 _ _ ea), ?_⟩
    refine for_it (walk_enum (xs := l.map V.int)) (fun j σ H7 => ∃ y9 y10, σ = sg h sp ro st lo wi pl (some (.int (i : Nat))) (some (.ref a)) y9 y10 none none none ∧ Same H4 H7 ∧ PlaceAt H7 pl (fun z => (∃ l ∈ ls.take i, z ∈ l) ∨ z ∈ l.take j) (8 * i + j))
      ⟨_, _, rfl, s7, (pla.same sT).imp (Nat.le_refl _) fun z hz => ?_⟩ (fun j σ H7 _ q => ?_) (fun j x σ H7 H8 hj q y => ?_) (fun σ H7 q => ?_)
    · rcases hz with hz | hz
      · exact hz
      · rw [List.take_zero] at hz
        cases hz
    · obtain ⟨_, _, _, s8, _⟩ := q
      exact SqL.of (s8 _ _ ea)
    · obtain ⟨y9, y10, rfl, s8, kvs, ek, lk, vk, ck⟩ := q
      obtain ⟨T2, u1, u2, rfl, nT2, rfl, p1, p2⟩ := y
      obtain rfl : V.int (j : Nat) = u1 := Option.some.inj p1
      obtain ⟨z, hz, rfl⟩ := map_at p2
      have jl : j < l.length := (List.getElem?_eq_some_iff.mp hz).1
      have sT2 := same_upd (H := H7) (.tup [V.int (j : Nat), V.int z]) nT2
      refine ⟨T2, _, rfl, SqT.of upd_same, rfl, _, _, rfl, _, _, rfl, rfl, ?_⟩
      have hjl := okl.2.1
      have m2 := mul_two (s := (i : Int)) (w := wi) (n := as.length) (by omega) (by omega) a8 wi1 wi2
      have m3 := mul_three (s := st) (a := (j : Int)) (by omega) (by omega) st1 st3
      refine ⟨_, rfl, _, rfl, _, _, rfl, rfl, .inl ⟨by omega, by omega⟩, _, rfl, _, rfl, _, rfl, _, _, rfl, rfl, .inl ⟨by omega, by omega⟩, _, _, rfl, rfl, (by show 2 ≤ sizeLine; decide), fun t nt => ?_⟩
      have st2 := same_upd (H := upd H7 T2 (.tup [V.int (j : Nat), V.int z])) (.tup [V.int ((i : Int) * wi), V.int (lo + st * (j : Int))]) nt
      have s9 := sT2.trans st2
      refine ⟨_, rfl, _, rfl, pl, _, rfl, DPut.k (k := Sum.inl z) (s9 _ _ ek) (small1000 (by omega)), ?_⟩
      refine ⟨_, _, rfl, same_set (s8.trans s9) npl, PlaceAt.put (N := 8 * i + j) (s9 _ _ ek) lk (fun k v e => (vk k v e).tp (Tp.of s9)) ck ⟨t, _, _, rfl, upd_same, m2.1, m2.2.1, by omega⟩ fun y hy => ?_⟩
      rcases hy with hy | hy
      · exact .inl (.inl hy)
      · rw [List.take_add_one, hz] at hy
        rcases mem_snoc hy with hy | hy
        · exact .inl (.inr hy)
        · exact .inr hy
    · obtain ⟨y9, y10, rfl, s8, pla2⟩ := q
      rw [List.length_map] at pla2
      refine ⟨_, _, _, _, rfl, s8, pla2.imp (by have := okl.2.1; omega) fun z hz => ?_⟩
      obtain ⟨m, hm, hzm⟩ := hz
      rw [List.take_add_one, hl] at hm
      rcases mem_snoc hm with hm | hm
      · exact .inl ⟨m, hm, hzm⟩
      · have em : m = l := hm
        subst em
        refine .inr ?_
        rw [List.take_length]
        exact hzm
  · clear hst hlo hwi
    obtain ⟨y7, y8, y9, y10, rfl, s6, pla⟩ := q
    rw [List.length_map] at pla
    have hh5 : HandAt H5 h c := hh4.same s6
    have bs : Base H5 sp ro pl xs ms as ls := ⟨s6 _ _ hsp4, TupI.all (Tp.of s6) pr4, s6 _ _ dl4.top, Paired.on (fun _ _ _ hl => s6 _ _ hl) dl4.rows, pla.imp (by omega) fun z hz => by rw [eal, List.take_length]; exact hz⟩
    have mvB : Mv h H H5 := mvA.trans (Mv.of s6)
    have okd := dl4.ok
    clear pla dl4 dl hsp4 pr4 hh1 hh2 hh3
    -- found = []
    refine ⟨Nat.zero_le _, fun fo nfo => ?_⟩
    have f1 : fo ≠ h := hh5.ne_new nfo
    have f2 : fo ≠ c := hh5.ne_newc nfo
    have s7 := same_upd (H := H5) (.lst []) nfo
    have hxl : xs.length = ms.length := Paired.length bs.item
    refine ⟨_, rfl, sp, xs, rfl, .inl (SqL.of (s7 _ _ bs.sheet)), (xs.length : Int), rfl, by omega, by omega, ?_⟩
    rw [show ((xs.length : Int)).toNat = ms.length by omega]
    refine for_range (lo := 0) (n := ms.length) (fun i σ H6 => ∃ y7 y8 y9 y10 y12 y13 ys ds, σ = sg h sp ro st lo wi pl y7 y8 y9 y10 (some (.ref fo)) y12 y13 ∧ Mv h H5 H6 ∧ HandAt H6 h c ∧ H6 fo = some (.lst ys) ∧ Paired (RowAt H6) ys ds ∧ ds.length = i ∧ ∀ d ∈ ds, OkK d)
      ⟨_, _, _, _, _, _, [], [], rfl, (Mv.refl h H5).set nfo, hh5.set f1 f2, upd_same, .nil, rfl, fun _ z => nomatch z⟩ (fun i σ H6 hi q => ?_) (fun σ H6 q => ?_)
    · obtain ⟨y7, y8, y9, y10, y12, y13, ys, ds, rfl, mv6, hh6, ef, prd, eld, okk⟩ := q
      rw [Int.zero_add]
      have bs6 := bs.mv mv6 hh5 nsp n2 n3 n4
      -- entries
      have m1 := len_two (n := as.length) (w := wi) a8 wi1 wi2
      refine ⟨_, rfl, ro, _, rfl, .inl (SqL.of bs6.top), _, rfl, _, _, rfl, rfl, .inl ⟨by rw [List.length_map]; omega, by rw [List.length_map]; omega⟩, _, rfl, ?_, ?_, fun en nen => ?_⟩
      · rw [List.length_map]
        omega
      · rw [List.length_map]
        omega
      rw [List.length_map]
      have e1 : en ≠ h := hh6.ne_new nen
      have e2 : en ≠ c := hh6.ne_newc nen
      refine lc_range (lo := 0) (n := ((as.length : Int) * wi).toNat) (fun j H7 => Mv h H6 H7 ∧ HandAt H7 h c ∧ ∃ es : List Int, es.length = j ∧ (∀ z ∈ es, Bd z) ∧ H7 en = some (.lst (es.map V.int))) ⟨(Mv.refl h H6).set nen, hh6.set e1 e2, [], rfl, fun _ z => (nomatch z), upd_same⟩ (fun j H7 hj q => ?_) (fun H7 q => ?_)
      · obtain ⟨mv7, hh7, es, les, bes, een⟩ := q
        refine ⟨rfl, ?_⟩
        refine ⟨_, rfl, _, _, rfl, rfl, _, rfl, h, c, 3, rfl, hh7, by decide, by decide, fun H8 d mv8 hh8 d0 d3 => ?_⟩
        refine ⟨_, _, rfl, rfl, _, mv8 en _ e1 een, ?_, (mv7.trans mv8).set nen, hh8.set e1 e2, es ++ [lo - 1 - d], ?_, fun z hz => ?_, ?_⟩
        · rw [List.length_map]
          exact small1000 (by omega)
        · rw [List.length_append, les]
          rfl
        · rcases mem_snoc hz with hz | hz
          · exact bes z hz
          · rw [hz]
            exact Bd.le (by omega)
        · rw [upd_same, List.map_append]
          rfl
      · obtain ⟨mv7, hh7, es0, les0, bes0, een0⟩ := q
        have bs7 := bs6.mv mv7 hh6 nsp n2 n3 n4
        refine ⟨_, rfl, ro, as.map V.ref, rfl, SqL.of bs7.top, ?_⟩
        refine for_it (walk_enum (xs := as.map V.ref)) (fun k σ H8 => ∃ y7 y8 y13 es, σ = sg h sp ro st lo wi pl y7 y8 y9 (some (.int (i : Nat))) (some (.ref fo)) (some (.ref en)) y13 ∧ Mv h H6 H8 ∧ HandAt H8 h c ∧ H8 en = some (.lst (es.map V.int)) ∧ es.length = ((as.length : Int) * wi).toNat ∧ ∀ z ∈ es, Bd z)
          ⟨_, _, _, es0, rfl, mv7, hh7, een0, les0, bes0⟩ (fun k σ H8 _ q => ?_) (fun k x σ H8 H9 hk q y => ?_) (fun σ H8 q => ?_)
        · obtain ⟨_, _, _, _, _, mv8, _⟩ := q
          exact SqL.of (mv8 _ _ n2 bs6.top)
        · obtain ⟨y7, y8, y13, es, rfl, mv8, hh8, een, les, bes⟩ := q
          obtain ⟨T, u1, u2, rfl, nT, rfl, q1, q2⟩ := y
          obtain rfl : V.int (k : Nat) = u1 := Option.some.inj q1
          obtain ⟨a, ha, rfl⟩ := map_at q2
          have hka : k < as.length := (List.getElem?_eq_some_iff.mp ha).1
          have sT := same_upd (H := H8) (.tup [V.int (k : Nat), .ref a]) nT
          have mv9 := mv8.trans (Mv.of sT)
          have hh9 := hh8.same sT
          have bs9 := bs6.mv mv9 hh6 nsp n2 n3 n4
          obtain ⟨l, hl, ea⟩ := Paired.atL bs9.rows ha
          have inl : l ∈ ls := List.mem_of_getElem? hl
          have okl := okd.each l inl
          obtain ⟨v, ev, t, rfl, ht⟩ := Paired.at bs9.item (List.getElem?_eq_getElem hi)
          refine ⟨T, _, rfl, SqT.of upd_same, rfl, _, _, rfl, _, _, rfl, rfl, ?_⟩
          -- own
          refine ⟨_, rfl, a, rfl, ⟨_, SqL.of ea⟩, fun D nD => ?_⟩
          refine lc_list (K := K) (xs := l.map V.int) (fun j H10 => Same (upd H8 T (.tup [V.int (k : Nat), .ref a])) H10 ∧ ∃ os : List Int, os.length ≤ j ∧ (∀ z ∈ os, z ∈ l) ∧ H10 D = some (.lst (os.map V.int))) ⟨same_upd _ nD, [], Nat.le_refl 0, fun _ z => (nomatch z), upd_same⟩ (fun j H10 _ q => SqL.of (q.1 _ _ ea)) (fun j x H10 hx q => ?_) (fun H10 q => ?_)
          · obtain ⟨s10, os, los, ios, eD⟩ := q
            obtain ⟨z, hz, rfl⟩ := map_at hx
            have jl : j < l.length := (List.getElem?_eq_some_iff.mp hz).1
            refine ⟨rfl, ?_⟩
            refine ⟨_, rfl, _, rfl, _, rfl, sp, xs, i, _, rfl, rfl, SqL.of (s10 _ _ bs9.sheet), atI_nat ev, t, _, rfl, .inr (SqT.of (s10 _ _ ht)), rfl, flat_ints _, _, rfl, ?_⟩
            refine ite2 (fun _yes => ?_) (fun _no => ?_)
            · refine ⟨_, rfl, _, eD, ?_, same_set s10 nD, os ++ [z], ?_, fun y hy => ?_, ?_⟩
              · rw [List.length_map]
                have := okl.2.1
                exact small1000 (by omega)
              · rw [len_snoc]
                omega
              · rcases mem_snoc hy with hy | hy
                · exact ios y hy
                · rw [hy]
                  exact List.mem_of_getElem? hz
              · rw [upd_same, List.map_append]
                rfl
            · exact ⟨s10, os, by omega, ios, eD⟩
          · obtain ⟨s10, os, los, ios, eD⟩ := q
            have mv10 := mv9.trans (Mv.of s10)
            have hh10 := hh9.same s10
            have een10 : H10 en = some (.lst (es.map V.int)) := s10 _ _ (sT _ _ een)
            refine ⟨_, rfl, D, _, rfl, .inl (SqL.of eD), _, _, rfl, rfl, _, rfl, ite2 (fun gt => ?_) (fun _ => ?_)⟩
            · have gt' : (0 : Int) < (((os.map V.int).length : Nat) : Int) := of_decide_eq_true gt
              rw [List.length_map] at gt'
              have neo : os ≠ [] := fun z => by rw [z] at gt'; exact absurd gt' (by decide)
              have bs10 := bs6.mv mv10 hh6 nsp n2 n3 n4
              obtain ⟨kvs, ek, lk, vk, ck⟩ := bs10.place
              obtain ⟨v, hv⟩ := ck (os.getLast neo) ⟨l, inl, ios _ (List.getLast_mem neo)⟩
              obtain ⟨pt, pa, pb, rfl, ept, pa0, pa1, pb1⟩ := vk _ _ hv
              have dg := DGet.k (k := Sum.inl (os.getLast neo)) ek
              rw [hv] at dg
              refine ⟨_, rfl, _, rfl, 1, rfl, D, _, -1, _, rfl, rfl, SqL.of eD, last_at neo, pl, _, rfl, dg, pt, _, 1, _, rfl, rfl, SqT.of ept, at1, ?_⟩
              refine ⟨_, rfl, _, rfl, h, c, st, rfl, hh10, by omega, by omega, fun H11 d mv11 hh11 d0 d1 => ?_⟩
              have m2 := mul_two (s := (k : Int)) (w := wi) (n := as.length) (by omega) (by omega) a8 wi1 wi2
              have een11 := mv11 en _ e1 een10
              refine ⟨_, _, rfl, rfl, _, rfl, _, rfl, _, rfl, _, _, rfl, rfl, .inl ⟨by omega, by omega⟩, en, _, _, _, rfl, rfl, een11, ixN_nat m2.1 ?_, ?_⟩
              · rw [List.length_map, les]
                omega
              · refine ⟨_, _, _, es.set ((k : Int) * wi).toNat (pb + d), rfl, (mv10.trans mv11).set nen, hh11.set e1 e2, ?_, ?_, fun z hz => ?_⟩
                · rw [upd_same, List.map_set]
                · rw [List.length_set, les]
                · rcases List.mem_or_eq_of_mem_set hz with hz | hz
                  · exact bes z hz
                  · rw [hz]
                    exact Bd.le (by omega)
            · exact ⟨_, _, _, es, rfl, mv10, hh10, een10, les, bes⟩
        · obtain ⟨y7, y8, y13, es, rfl, mv8, hh8, een, les, bes⟩ := q
          -- found.append(place[kind] + (tuple(entries),))
          have ef8 := mv8 fo _ f1 ef
          have bs8 := bs6.mv mv8 hh6 nsp n2 n3 n4
          obtain ⟨kvs, ek, lk, vk, ck⟩ := bs8.place
          obtain ⟨v, hv⟩ := ck (i : Int) (okd.all i hi)
          obtain ⟨pt, pa, pb, rfl, ept, pa0, pa1, pb1⟩ := vk _ _ hv
          have dg := DGet.k (k := Sum.inl (i : Int)) ek
          rw [hv] at dg
          refine ⟨_, rfl, .inl ⟨rfl, _, SqL.of ef8⟩, ?_⟩
          refine ⟨_, rfl, _, rfl, pl, _, rfl, dg, _, rfl, en, _, rfl, .inl ⟨SqL.of een, fun r nr => ⟨(by show 1 ≤ sizeLine; decide), fun t1 nt1 => ?_⟩⟩⟩
          have q1 := same_upd (H := H8) (.tup (es.map V.int)) nr
          have q2 := same_upd (H := upd H8 r (.tup (es.map V.int))) (.tup [.ref r]) nt1
          refine glue_any ((q1.trans q2) _ _ ept) upd_same (by show 3 ≤ sizeLine; decide) fun t2 H9 q3 et2 => ?_
          have q13 := q1.trans (q2.trans q3)
          have ef9 := q13 _ _ ef8
          have tp : Tp H6 (upd H9 fo (.lst (ys ++ [.ref t2]))) := (mv8.tp hh6).trans ((Tp.of q13).trans (Tp.lst ef9))
          refine ⟨fo, ys, _, rfl, rfl, ef9, ?_, _, _, _, _, _, _, ys ++ [.ref t2], ds ++ [(pa, pb, es)], rfl, ((mv6.trans mv8).trans (Mv.of q13)).set nfo, (hh8.same q13).set f1 f2, upd_same, Paired.snoc ⟨t2, r, rfl, Tp.lst ef9 _ _ et2, Tp.lst ef9 _ _ (q3 _ _ (q2 _ _ upd_same))⟩ (Paired.imp (fun _ _ => RowAt.tp tp) prd), ?_, fun d hd => ?_⟩
          · rw [Paired.length prd, eld]
            exact small1000 (by omega)
          · rw [List.length_append, eld]
            rfl
          · rcases mem_snoc hd with hd | hd
            · exact okk d hd
            · rw [hd]
              exact ⟨pa0, by show es.length ≤ 16; rw [les]; omega, Bd.le (by show pa.natAbs ≤ 1000; omega), Bd.le (by show pb.natAbs ≤ 1000; omega), bes⟩
    · obtain ⟨y7, y8, y9, y10, y12, y13, ys, ds, rfl, mv6, hh6, ef, prd, eld, okk⟩ := q
      refine ⟨_, rfl, fo, ys, rfl, .inl ⟨SqL.of ef, fun r nr => ?_⟩⟩
      have s1 := same_upd (.tup ys) nr
      exact fin _ r ((mvB.trans mv6).trans (Mv.of s1)) (hh6.same s1) ⟨ds, ⟨ys, upd_same, Paired.imp (fun _ _ => RowAt.same s1) prd⟩, eld, okk⟩
end
end K50
namespace K50
open PySem PySem.Spec PyProof.Rows L2 RZ
/-! ### repr of a scheme -/
def kdD (d : Kd) : PyData := .tuple [.int d.1, .int d.2.1, .tuple (d.2.2.map .int)]
def schD (ds : List Kd) : PyData := .tuple (ds.map kdD)
theorem dpInts {K : PySem.W.Frag} {H : Hp} : ∀ l : List Int, DpAll K H (l.map V.int) (l.map .int)
  | [] => .nil
  | z :: r => .cons (.int z) (dpInts r)
theorem dpKd {K : PySem.W.Frag} {H : Hp} {x : V} {d : Kd} (h : RowAt H x d) : Dp K H x (kdD d) := by
  obtain ⟨t, r, rfl, ht, hr⟩ := h
  exact .tup (SqT.of ht) (.cons (.int _) (.cons (.int _) (.cons (.tup (SqT.of hr) (dpInts _)) .nil)))
theorem dpKds {K : PySem.W.Frag} {H : Hp} : ∀ {xs : List V} {ds : List Kd}, Paired (RowAt H) xs ds → DpAll K H xs (ds.map kdD)
  | _, _, .nil => .nil
  | _, _, .cons r t => .cons (dpKd r) (dpKds t)
theorem dpSch {K : PySem.W.Frag} {H : Hp} {p : Addr} {ds : List Kd} (h : SchAt H p ds) : Dp K H (.ref p) (schD ds) := by
  obtain ⟨xs, h1, h2⟩ := h
  exact .tup (SqT.of h1) (dpKds h2)
theorem Bd.log {z : Int} (h : Bd z) : z.natAbs.log2 < 200 := by
  by_cases e : z.natAbs = 0
  · rw [e]
    decide
  · exact (Nat.log2_lt e).mpr h
theorem show_ints : ∀ l : List Int, (∀ z ∈ l, Bd z) → PyData.showableAll (l.map .int) = true
  | [], _ => rfl
  | z :: r, h => by
    have h1 := (h z List.mem_cons_self).log
    have h2 := show_ints r fun y hy => h y (List.mem_cons_of_mem _ hy)
    simp only [List.map_cons, PyData.showableAll, PyData.showable, h2, Bool.and_true, decide_eq_true_eq]
    omega
theorem show_kd {d : Kd} (h : OkK d) : PyData.showable (kdD d) = true := by
  have h1 := h.2.2.1.log
  have h2 := h.2.2.2.1.log
  have h3 := show_ints d.2.2 h.2.2.2.2
  simp only [kdD, PyData.showable, PyData.showableAll, h3, Bool.and_true, Bool.and_eq_true, decide_eq_true_eq]
  omega
theorem show_kds : ∀ ds : List Kd, (∀ d ∈ ds, OkK d) → PyData.showableAll (ds.map kdD) = true
  | [], _ => rfl
  | d :: r, h => by
    have h1 := show_kd (h d List.mem_cons_self)
    have h2 := show_kds r fun y hy => h y (List.mem_cons_of_mem _ hy)
    simp only [List.map_cons, PyData.showableAll, h1, h2, Bool.and_true]
theorem no_ints : ∀ l : List Int, PyData.hasDictAll (l.map .int) = false
  | [] => rfl
  | z :: r => by
    have := no_ints r
    simp only [List.map_cons, PyData.hasDictAll, PyData.hasDict, this, Bool.or_self]
theorem no_kds : ∀ ds : List Kd, PyData.hasDictAll (ds.map kdD) = false
  | [] => rfl
  | d :: r => by
    have h1 := no_kds r
    have h2 := no_ints d.2.2
    simp only [List.map_cons, PyData.hasDictAll, kdD, PyData.hasDict, h1, h2, Bool.or_self]
theorem deep_ints : ∀ l : List Int, PyData.depthAll (l.map .int) ≤ 1
  | [] => Nat.zero_le _
  | z :: r => by
    have := deep_ints r
    simp only [PyData.depthAll, PyData.depth, List.map_cons]
    omega
theorem deep_kds : ∀ ds : List Kd, PyData.depthAll (ds.map kdD) ≤ 3
  | [] => Nat.zero_le _
  | d :: r => by
    have h1 := deep_kds r
    have h2 := deep_ints d.2.2
    simp only [List.map_cons, PyData.depthAll, kdD, PyData.depth]
    omega
theorem piled_le {B : Nat} : ∀ ts : List Str, (∀ t ∈ ts, t.length ≤ B) → piled ts ≤ ts.length * (B + 2)
  | [], _ => Nat.zero_le _
  | t :: r, h => by
    have h1 := h t List.mem_cons_self
    have h2 := piled_le r fun y hy => h y (List.mem_cons_of_mem _ hy)
    rw [piled_cons, List.length_cons, Nat.succ_mul]
    omega
theorem tuple_le {B : Nat} (ts : List Str) (h : ∀ t ∈ ts, t.length ≤ B) : (tupleText ts).length ≤ ts.length * (B + 2) + 5 := by
  have h1 := piled_le ts h
  have h2 : (Str.join ", " ts).length ≤ piled ts := by
    by_cases e : ts = []
    · subst e
      exact Nat.le_refl _
    · have := join_length_add ts e
      omega
  unfold tupleText
  simp only [strLen_append]
  have h3 : ("(" : Str).length = 1 := rfl
  have h4 : ∀ b : Bool, (Str.ofString (if b = true then ",)" else ")")).length ≤ 2 := fun b => by cases b <;> decide
  have h5 := h4 (ts.length == 1)
  omega
theorem int_le {z : Int} (h : Bd z) : (PyData.shown (.int z)).length ≤ 201 := by
  have := int_text_length_le (k := 200) (by decide) h.log
  simp only [PyData.shown]
  rw [PySem.ofString_length]
  exact this
theorem shownAll_map {α : Type} (f : α → PyData) : ∀ l : List α, PyData.shownAll (l.map f) = l.map fun x => PyData.shown (f x)
  | [] => rfl
  | x :: r => by
    simp only [List.map_cons, PyData.shownAll, shownAll_map f r]
theorem row_le {l : List Int} (h : ∀ z ∈ l, Bd z) (h16 : l.length ≤ 16) : (PyData.shown (.tuple (l.map .int))).length ≤ 4000 := by
  simp only [PyData.shown]
  rw [shownAll_map]
  have := tuple_le (B := 201) (l.map fun x => PyData.shown (.int x)) fun t ht => by
    obtain ⟨z, hz, rfl⟩ := List.mem_map.mp ht
    exact int_le (h z hz)
  rw [List.length_map] at this
  have h2 : l.length * (201 + 2) ≤ 16 * (201 + 2) := Nat.mul_le_mul_right _ h16
  omega
theorem kd_le {d : Kd} (h : OkK d) : (PyData.shown (kdD d)).length ≤ 13000 := by
  have h1 := int_le h.2.2.1
  have h2 := int_le h.2.2.2.1
  have h3 := row_le h.2.2.2.2 h.2.1
  simp only [kdD]
  rw [show PyData.shown (.tuple [.int d.1, .int d.2.1, .tuple (d.2.2.map .int)]) = tupleText [PyData.shown (.int d.1), PyData.shown (.int d.2.1), PyData.shown (.tuple (d.2.2.map .int))] by simp only [PyData.shown, PyData.shownAll]]
  have := tuple_le (B := 4000) [PyData.shown (.int d.1), PyData.shown (.int d.2.1), PyData.shown (.tuple (d.2.2.map .int))] fun t ht => by
    rcases List.mem_cons.mp ht with e | ht
    · rw [e]; omega
    · rcases List.mem_cons.mp ht with e | ht
      · rw [e]; omega
      · rw [List.mem_singleton.mp ht]; exact h3
  have e : [PyData.shown (.int d.1), PyData.shown (.int d.2.1), PyData.shown (.tuple (d.2.2.map .int))].length = 3 := rfl
  rw [e] at this
  omega
theorem sch_le {ds : List Kd} (h : ∀ d ∈ ds, OkK d) (h8 : ds.length ≤ 8) : (PyData.shown (schD ds)).length ≤ sizeLine := by
  simp only [schD, PyData.shown]
  rw [shownAll_map]
  have := tuple_le (B := 13000) (ds.map fun x => PyData.shown (kdD x)) fun t ht => by
    obtain ⟨z, hz, rfl⟩ := List.mem_map.mp ht
    exact kd_le (h z hz)
  rw [List.length_map] at this
  have h2 : ds.length * (13000 + 2) ≤ 8 * (13000 + 2) := Nat.mul_le_mul_right _ h8
  rw [sizeLine_eq]
  omega
section
variable {X : Cx}
def rRepr : List V → Hp → VK → Prop := fun vs H Q => ∃ (p : Addr) (ds : List Kd), vs = [V.ref p] ∧ SchAt H p ds ∧ (∀ d ∈ ds, OkK d) ∧ ds.length ≤ 8 ∧ Q (.str (PyData.shown (schD ds))) H
theorem call_repr_sch (hg : X.A.guards = some []) (hu : X.A.units + 64 < cLine) : CallR X (.builtin "repr") rRepr := by
  intro pins s σ H vs us Q I r asked
  obtain ⟨p, ds, rfl, hs, ok, l8, q⟩ := asked
  rw [Vals.ref1 r]
  obtain ⟨as, rd⟩ := Dp.reads I (schD ds) (.ref p) (.ref p) (dpSch hs) rfl
  have dp : (schD ds).depth ≤ 4 := by
    have := deep_kds ds
    simp only [schD, PyData.depth]
    omega
  have sh : (schD ds).showable = true := by
    simp only [schD, PyData.showable]
    exact show_kds ds ok
  have nd : (schD ds).hasDict = false := by
    simp only [schD, PyData.hasDict]
    exact no_kds ds
  refine repr_of_reads' rd sh (PyData.noDict_hsm nd) hg (by omega) (fun _ _ e => e) (fun h1 u tk hk => ?_) (sch_le ok l8)
  exact ⟨.str _, H, I.kept hk, ⟨u, rfl⟩, q⟩
end
end K50
namespace K50
open PySem PySem.Spec PyProof.Rows L2 RZ
/-! ### a def of the text, called in one known surrounding (repr asks what is being shown around it) -/
theorem fn_at {P : Program} {w : World} {K : PySem.W.Frag} {mg : Str → Option Value} {base : Heap} {name qual : Str} {st : Stmt} {f : Addr} {fd : FuncData} {N ps : List Str} {k : Nat} {A : Around} {outer : List Env} {s : Shared} {H : Hp} {args : Args} {us : List Value} {vs : List V} {Q : VK}
    (F : Fun K name qual st f fd) (S : FnScope N ps (defScope st)) (hr : Room (k + 1) A) (e0 : Env0 P w K mg base A outer s H) (hb : BindsTo s fd args (ps.zip us)) (rv : Vals vs us) (hl : vs.length = ps.length)
    (body : ∀ cdv : Value, Room k (A.deeper (envOfC qual (defScope st) s.heap.objs.size f cdv)) → ∃ t, PSs (cxOf CX0 P w K mg base N qual (defScope st) f cdv A outer s H E0).nox (defBody st) t ∧ t { nx := fun _ H' => Q .non H', rt := Q } (start N vs) H) :
    codeAny (model P w) A (.call (.ref f) args) (CR CX0 outer P w H s Q E0) s := by
  obtain ⟨_, _, _, _, _, _, cdv, _, _, rfl, lk, hcd⟩ := F.ex
  have up : ∀ b o, base.get? b = some o → s.heap.get? b = some o := fun b o e => (e0.bs b o e).1
  have inK : K.In s.heap := e0.mod.kin.keeps up
  have kinds : ∀ y ∈ ps.zip us, (defScope st).names.lookup y.1 = some .local ∨ ((defScope st).names.lookup y.1 = some .cell ∧ ((cellsFrom (s.heap.objs.size + 1) (defScope st).names []).lookup y.1).isSome = true) := fun y hy =>
    (S.par y.1 (List.of_mem_zip (a := y.1) (b := y.2) hy).1).imp id fun q => ⟨q, PySem.W.cellsFrom_some _ _ _ (.inl q)⟩
  refine codeAny_call_function hr.depth (inK _ _ lk) rfl S.co S.gen rfl (PySem.W.codeRec_of inK hcd) (hb _ _ _ _ (wpAny_newFunctionEnv_cells S.kind kinds fun env he s1 x => ?_))
  subst he
  refine ⟨(e0.mod.nolimit.keeps up).keeps x.toInCall.keep, codeAny_func ?_⟩
  obtain ⟨t, ht, hq⟩ := body cdv (hr.deeper _)
  have start0 := inv_start (CX := CX0) (E := E0) S hr.hd e0 hl rv x
  refine wpAny_mono (ht.nox.run [] s1 (start N vs) H _ start0 hq) (fun fl s2 q => ?_) fun _ _ q => q
  cases fl with
  | next =>
    obtain ⟨σ2, H2, J, q⟩ := q
    exact ⟨.non, H2, J.os, J.bare, J.base, J.hok, rfl, q⟩
  | ret u =>
    obtain ⟨v, σ2, H2, J, r2, q⟩ := q
    exact ⟨v, H2, J.os, J.bare, J.base, J.hok, r2, q⟩
  | brk =>
    obtain ⟨_, _, _, q⟩ := q
    exact q.elim
  | cont =>
    obtain ⟨_, _, _, q⟩ := q
    exact q.elim
/-- what the law's def promises in the law's own surrounding -/
def LawAt (P : Program) (w : World) (K : PySem.W.Frag) (mg : Str → Option Value) (base : Heap) (f : Addr) (fd : FuncData) (x : Str) (sp : Sp) : Prop :=
  ∀ (s : Shared) (H : Hp) (a : Addr), Env0 P w K mg base callerA [] s H → BindsTo s fd ⟨[.ref a], []⟩ [(x, .ref a)] → ∀ Q : VK, sp [.ref a] H Q E0 → codeAny (model P w) callerA (.call (.ref f) ⟨[.ref a], []⟩) (CR CX0 [] P w H s Q E0) s
/-- the script alone is known, if it is none of the module's own -/
def scriptH (K : PySem.W.Frag) (a : Addr) (vs : List Value) (ns : List Int) : Hp := fun b => if b = a ∧ K.lookup a = none then some (.frz { cls := .type "list", data := .seq vs.toArray } (.lst (ns.map V.int))) else none
theorem scriptH_only {K : PySem.W.Frag} {a b : Addr} {vs : List Value} {ns : List Int} {u : HO} (h : scriptH K a vs ns b = some u) : b = a ∧ K.lookup a = none ∧ u = .frz { cls := .type "list", data := .seq vs.toArray } (.lst (ns.map V.int)) := by
  unfold scriptH at h
  by_cases q : b = a ∧ K.lookup a = none
  · rw [if_pos q] at h
    exact ⟨q.1, q.2, (Option.some.inj h).symm⟩
  · rw [if_neg q] at h
    cases h
theorem law_at {P : Program} {w : World} {K : PySem.W.Frag} {mg mb : Str → Option Value} {fa a : Addr} {fd : FuncData} {x : Str} {sp : Sp} {s1 : Shared} {vs : List Value} {ns : List Int}
    (inK : K.In s1.heap) (hg : s1.heap.Ns mainGlobals mg) (hbt : s1.heap.Ns builtinsNs mb) (hbb : ∀ x : Str, x ≠ "__name__" → mb x = bootBuiltins x) (lim : s1.heap.NoLimit) (gens : s1.gens = #[])
    (ha : s1.heap.get? a = some { cls := .type "list", data := .seq vs.toArray }) (hi : IntsAre vs ns) (hl : ns.length ≤ 63)
    (F : ∀ base : Heap, K.In base → base.Ns mainGlobals mg → LawAt P w K mg base fa fd x sp) (bind : ∀ (s : Shared) (u : Value), BindsTo s fd ⟨[u], []⟩ [(x, u)])
    (hsp : ∀ H : Hp, SqL K H a (ns.map V.int) → sp [.ref a] H (fun v _ => v = .bl true) E0) :
    codeAny (model P w) callerA (.call (.ref fa) ⟨[.ref a], []⟩) (fun r s' => r = .ok (.ret (.bool true)) ∧ OldK s1.heap s'.heap ∧ s'.os = s1.os ∧ AllBare s'.gens) s1 := by
  have rv := vals_ints hi
  have few : (ns.map V.int).length ≤ sizeLine := by
    rw [List.length_map]
    exact small (by omega)
  have ok : HOk P w (scriptH K a vs ns) s1.heap := fun b u e => by
    obtain ⟨rfl, _, rfl⟩ := scriptH_only e
    exact ⟨ha, few, vs, 0, rv, ha⟩
  have seq : SqL K (scriptH K a vs ns) a (ns.map V.int) := by
    cases e : K.lookup a with
    | none => exact .inl (.inr ⟨_, if_pos ⟨rfl, e⟩⟩)
    | some o =>
      have q := inK a o e
      rw [ha] at q
      obtain rfl := Option.some.inj q
      refine .inr ⟨_, vs.toArray, 0, e, rfl, rfl, rfl, ?_, rv⟩
      rw [List.size_toArray, ← rv.length]
      exact few
  -- all but the script lies in the base
  have out : ∀ {b : Addr} {o : Obj}, s1.heap.get? b = some o → (b = a → K.lookup a ≠ none) → (hidT s1.heap (scriptH K a vs ns)).get? b = some o := fun {b o} e n => hidT_get e (by
    cases q : scriptH K a vs ns b with
    | none => rfl
    | some u => exact absurd (scriptH_only q).2.1 (n (scriptH_only q).1))
  have inB : K.In (hidT s1.heap (scriptH K a vs ns)) := fun b o e => out (inK b o e) fun z => by
    subst z
    rw [e]
    exact fun z => nomatch z
  have nsB : ∀ {b : Addr} {m : Str → Option Value}, s1.heap.Ns b m → (hidT s1.heap (scriptH K a vs ns)).Ns b m := fun {b m} ⟨o, es, ep, e, d, r⟩ => ⟨o, es, ep, out e (fun z => by
    subst z
    rw [ha] at e
    obtain rfl := Option.some.inj e
    exact nomatch (show Data.seq vs.toArray 0 = Data.dict es ep from d)), d, r⟩
  have md : Mod K mg (hidT s1.heap (scriptH K a vs ns)) := ⟨inB, nsB hg, ⟨mb, nsB hbt, hbb⟩, lim.imp fun _ q => ⟨nsB q.1, q.2⟩⟩
  have e0 : Env0 P w K mg (hidT s1.heap (scriptH K a vs ns)) callerA [] s1 (scriptH K a vs ns) := ⟨rfl, md, fun _ _ e => of_hidT e, Nat.le_of_eq (hidT_size _ _), trivial, fun _ z => (nomatch z), ok, .of_eq gens⟩
  refine codeAny_mono (F _ inB (nsB hg) s1 _ a e0 (bind s1 (.ref a)) _ (hsp _ seq)) fun r s2 q => ?_
  cases r with
  | error e => exact q.elim
  | ok fl =>
    cases fl with
    | next => exact q.elim
    | brk => exact q.elim
    | cont => exact q.elim
    | ret u =>
      obtain ⟨v, H2, os, bare, un, ok2, r2, q⟩ := q
      have ev : v = .bl true := q
      subst ev
      obtain rfl : u = Value.bool true := r2
      refine ⟨rfl, ?_, os, bare⟩
      refine OldK.of_keep fun b o e => ?_
      cases q : scriptH K a vs ns b with
      | none => exact un.keep b o e q (fun z => nomatch z) (fun z => nomatch z)
      | some u =>
        obtain ⟨rfl, _, rfl⟩ := scriptH_only q
        have q2 := ok2 _ _ (un.frzs _ _ _ q)
        rw [ha] at e
        obtain rfl := Option.some.inj e
        exact q2.1
theorem walk_at {l : PySem.W.OpenLaw} {q : Program} {loose : List Str} {XP : (Str → Option Value) → Heap → Prop} {YP : World → Heap → Prop} {d : DefRec} {K : Params → PySem.W.Frag} {sp : PySem.W.Frag → Sp} {x : Str}
    (most : l.most = some 63) (plain : d.params.defaults = []) (inK : ∀ (w : World) (h : Heap), YP w h → (K w.params).In h)
    (F : ∀ (w : World) (mg : Str → Option Value) (fa : Addr) (h : Heap), (K w.params).In h → h.Ns mainGlobals mg →
      mg d.name = some (.ref fa) → ∃ fd : FuncData, (∀ (s : Shared) (u : Value), BindsTo s fd ⟨[u], []⟩ [(x, u)]) ∧ ∀ base : Heap, (K w.params).In base → base.Ns mainGlobals mg → LawAt l.prog w (K w.params) mg base fa fd x (sp (K w.params)))
    (hsp : ∀ (K : PySem.W.Frag) (H : Hp) (a : Addr) (ns : List Int), ns.length ≤ 63 → SqL K H a (ns.map V.int) → sp K [.ref a] H (fun v _ => v = .bl true) E0) :
    PySem.W.WalkO q loose XP YP l.row.toRowW d [] (fun g args => PySem.call g args) := by
  refine Att.attach_call most plain fun w s0 s1 mg mb fa o pm cd doc a vs ns G Y _ _ _ hmg hobj hints hlen gens => ?_
  have kin := inK w _ Y
  obtain ⟨fd, bind, at1⟩ := F w mg fa _ kin G.T.g hmg
  exact law_at kin G.T.g G.T.b G.T.builtins G.T.nolimit gens hobj hints hlen at1 bind fun H hS => hsp (K w.params) H a ns hlen hS
end K50
namespace K50
open PySem PySem.Spec PyProof.Rows L2 RZ
/-! ### what a scheme says, as the law reckons it -/
def lot1 (ds : List Kd) (x : Nat) : List Nat := (List.range ds.length).filter fun p => sayB ds x p
theorem lot_one (ds : List Kd) (x : Nat) : lotL ds [x] = lot1 ds x := by
  unfold lotL lot1
  congr 1
  funext p
  simp
theorem lot_same (ds : List Kd) (x : Nat) : lotL ds [x, x] = lot1 ds x := by
  unfold lotL lot1
  congr 1
  funext p
  simp
theorem inV_nat (p : Nat) : ∀ l : List Nat, inV (vN p) (l.map vN) = decide (p ∈ l)
  | [] => rfl
  | q :: r => by
    have ih := inV_nat p r
    unfold inV at ih ⊢
    rw [List.map_cons, List.any_cons, ih]
    show (((q : Int) == (p : Int)) || decide (p ∈ r)) = decide (p ∈ q :: r)
    by_cases h : p = q
    · subst h
      simp
    · have h2 : ((q : Int) == (p : Int)) = false := beq_eq_false_iff_ne.mpr (fun z => h (Int.ofNat.inj z).symm)
      rw [h2, Bool.false_or]
      simp [h]
theorem lot_two (ds : List Kd) (x y : Nat) : (lot1 ds x).filter (fun p => inV (vN p) ((lot1 ds y).map vN)) = lotL ds [x, y] := by
  have e : (fun p => inV (vN p) ((lot1 ds y).map vN)) = fun p => decide (p ∈ lot1 ds y) := funext fun p => inV_nat p _
  rw [e]
  unfold lot1 lotL
  rw [List.filter_filter]
  refine List.filter_congr (fun p hp => ?_)
  simp only [List.mem_filter, hp, true_and, List.all_cons, List.all_nil, Bool.and_true]
  cases sayB ds x p <;> cases sayB ds y p <;> rfl
theorem cast_map (l : List Nat) : (l.map fun k : Nat => (k : Int)).map V.int = l.map vN := by
  rw [List.map_map]
  rfl
theorem flat_nats (l : List Nat) : (l.map vN).all flatV = true := by
  rw [List.all_map, List.all_eq_true]
  intro _ _
  rfl
theorem lot_len (ds : List Kd) (x : Nat) : (lot1 ds x).length ≤ ds.length := by
  unfold lot1
  refine Nat.le_trans (List.length_filter_le _ _) ?_
  rw [List.length_range]
  exact Nat.le_refl _
def TupN (H : Hp) (x : V) (l : List Nat) : Prop := ∃ t, x = .ref t ∧ H t = some (.tup (l.map vN))
theorem TupN.tp {H H1 : Hp} {x : V} {l : List Nat} (m : Tp H H1) (r : TupN H x l) : TupN H1 x l := by
  obtain ⟨t, e, h⟩ := r
  exact ⟨t, e, m _ _ h⟩
/-- the law's own lots -/
def LotsAt (H : Hp) (lo : Addr) (ds : List Kd) : Prop := ∃ xs, H lo = some (.lst xs) ∧ Paired (TupN H) xs ((List.range ds.length).map (lot1 ds))
theorem LotsAt.at {H : Hp} {lo : Addr} {ds : List Kd} {x : Nat} (h : LotsAt H lo ds) (hx : x < ds.length) : ∃ xs t, H lo = some (.lst xs) ∧ atI xs x = some (.ref t) ∧ H t = some (.tup ((lot1 ds x).map vN)) := by
  obtain ⟨xs, h1, h2⟩ := h
  obtain ⟨v, e, t, rfl, ht⟩ := Paired.at (i := x) h2 (by rw [List.getElem?_map, List.getElem?_range hx]; rfl)
  exact ⟨xs, t, h1, atI_nat e, ht⟩
theorem LotsAt.mv {H H1 : Hp} {h c lo : Addr} {ds : List Kd} (r : LotsAt H lo ds) (m : Mv h H H1) (a : HandAt H h c) (n : lo ≠ h) : LotsAt H1 lo ds := by
  obtain ⟨xs, h1, h2⟩ := r
  exact ⟨xs, m _ _ n h1, Paired.imp (fun _ _ => TupN.tp (m.tp a)) h2⟩
section
variable {mg : Str → Option Value} {base : Heap} {P : Program} {w : World} {K : PySem.W.Frag}
/-! ### the law -/
abbrev nmLaw : List Str := ["_law_script", "_law_hand_here", "_law_turn", "_law_many", "_law_scheme", "_law_kept", "_law_x", "_law_lots", "_law_y", "_law_due", "_law_p", "_law_one", "_law_other"]
theorem scLaw : FnScope ["_law_script", "_law_hand_here", "_law_turn", "_law_many", "_law_scheme", "_law_kept", "_law_x", "_law_lots", "_law_y", "_law_due", "_law_p", "_law_one", "_law_other"] ["_law_script"] (defScope sLaw) := ⟨rfl, rfl, rfl, by decide +kernel, rfl, by decide +kernel, by decide +kernel⟩
def spLaw (K : PySem.W.Frag) : Sp := fun vs H Q _ => ∃ (a : Addr) (cells : List Int), vs = [.ref a] ∧ SqL K H a (cells.map V.int) ∧ cells.length ≤ 63 ∧ ∀ H', Q (.bl true) H'
/-- tuple(e), as call_tuple_of reads it -/
abbrev rTup (K : PySem.W.Frag) : List V → Hp → VK → Prop := fun xs H Q => ∃ p ys, xs = [.ref p] ∧ ((SqL K H p ys ∧ ∀ l, H l = none → Q (.ref l) (upd H l (.tup ys))) ∨ (SqT K H p ys ∧ Q (.ref p) H))
/-- a def that stands, its promise at a level, its name -/
structure Has (P : Program) (w : World) (K : PySem.W.Frag) (mg : Str → Option Value) (base : Heap) (k : Nat) (name : Str) (ps : List Str) (sp : Sp) (f : Addr) (fd : FuncData) : Prop where
  ok : FnOk P w K mg base CX0 k f fd ps sp
  b : Binds K fd ps []
  k : PySem.W.keepIn K (.ref f) = true
  m : mg name = some (.ref f)
theorem ok_law {f fH fD fA fB fR fS fP fI fL fC fM fT : Addr} {fd dH dD dA dB dR dS dP dI dL dC dM dT : FuncData} (F : Fun K "law" "law" sLaw f fd)
    (GH : Has P w K mg base 6 "_law_hand" ["_law_script"] (spHand K) fH dH) (GD : Has P w K mg base 6 "_law_draw" ["_law_hand_here", "_law_many"] spDraw fD dD)
    (GA : Has P w K mg base 6 "_law_any_scheme" ["_law_hand_here", "_law_many"] spAny fA dA) (GB : Has P w K mg base 6 "_law_bent" ["_law_hand_here", "_law_scheme"] spBent fB dB)
    (GR : Has P w K mg base 6 "_law_right_scheme" ["_law_hand_here", "_law_sheet_here"] spRight fR dR) (GS : Has P w K mg base 6 "_law_sheet" ["_law_parents_here"] spSheet fS dS)
    (GP : Has P w K mg base 6 "_law_parents" ["_law_hand_here", "_law_many", "_law_most"] spParents fP dP) (GI : Has P w K mg base 6 "_law_is" ["_law_told", "_law_due"] spIs1 fI dI)
    (GL : Has P w K mg base 6 "lot_of" ["scheme", "x"] spLotOf fL dL) (GC : Has P w K mg base 6 "common" ["scheme", "x", "y"] spCommon fC dC) (GM : Has P w K mg base 6 "meet" ["scheme", "x", "y"] spMeet fM dM)
    (GT : Has P w K mg base 6 "_law_said" ["_law_scheme", "_law_x", "_law_p"] spTold fT dT)
    (mr : mg "range" = none) (mt : mg "tuple" = none) (mp : mg "repr" = none) (mz : mg "zip" = none) (mm : mg "min" = none) : LawAt P w K mg base f fd "_law_script" (spLaw K) := by
  intro s H a e0 hb Q h
  obtain ⟨a', ns, ea, hS, h63, fin⟩ := h
  cases ea
  refine fn_at (vs := [.ref a]) (ps := ["_law_script"]) (us := [.ref a]) (N := nmLaw) (k := 6) F scLaw ⟨rfl, by decide, by decide⟩ e0 hb (.cons rfl .nil) rfl fun cdv hr => ?_
  have hu := hr.units
  have hg : (callerA.deeper (envOfC "law" (defScope sLaw) s.heap.objs.size f cdv)).guards = some [] := rfl
  refine ⟨_, pss_cons (ps_set (i := 1) scLaw.nd rfl (Or.inl rfl) (pe_call GH.ok hr rfl GH.m GH.k GH.b .nil pass0 (pa_cons (pv 0) pa_nil)))
    (pss_cons (ps_for PassesOwn.never rfl (pi_range1 rfl mr (pa_cons pe_int pa_nil)) (pg_name (i := 2) scLaw.nd rfl (Or.inl rfl))
      (pss_cons (ps_set (i := 3) scLaw.nd rfl (Or.inr rfl) (pe_op op_add pe_int (pe_call GD.ok hr rfl GD.m GD.k GD.b .nil pass0 (pa_cons (pv 1) (pa_cons pe_int pa_nil)))))
      (pss_cons (ps_set (i := 4) scLaw.nd rfl (Or.inr rfl) (pe_call GA.ok hr rfl GA.m GA.k GA.b .nil pass0 (pa_cons (pv 1) (pa_cons (pv 3) pa_nil))))
      (C8.pss_cut (ps_if (pt_cmpR op_eq (pe_call GD.ok hr rfl GD.m GD.k GD.b .nil pass0 (pa_cons (pv 1) (pa_cons pe_int pa_nil))) pe_int (nomark _))
        (pss_one (ps_set (i := 4) scLaw.nd rfl (Or.inr rfl) (pe_call GB.ok hr rfl GB.m GB.k GB.b .nil pass0 (pa_cons (pv 1) (pa_cons (pe_call GR.ok hr rfl GR.m GR.k GR.b .nil pass0 (pa_cons (pv 1)
          (pa_cons (pe_call GS.ok hr rfl GS.m GS.k GS.b .nil pass0 (pa_cons (pe_call GP.ok hr rfl GP.m GP.k GP.b .nil pass0 (pa_cons (pv 1) (pa_cons (pv 3) (pa_cons pe_int pa_nil)))) pa_nil)) pa_nil))) pa_nil))))) pss_nil)
      (pss_cons (ps_set (i := 5) scLaw.nd rfl (Or.inl rfl) (pe_callB (call_repr_sch hg hu) rfl mp (by decide +kernel) (pa_cons (pv 4) pa_nil)))
      (pss_cons (ps_set (i := 7) scLaw.nd rfl (Or.inr rfl) (pe_lc (own := [("_law_x", 6)]) (g := gName 6) (tt := tYes) (te := tCB (rTup K) (tCons (tLc (iRng1 (tCons (tVar 3) tNil)) (gName 10) (tB (tCall spTold [] E0 (tCons (tVar 4) (tCons (tVar 6) (tCons (tVar 10) tNil))))) (tVar 10) [10]) tNil)) rfl scLaw.nd (pi_range1 rfl mr (pa_cons (pv 3) pa_nil))
        (blkOk_by (own := [("_law_x", 6)]) (N := nmLaw) (sc := defScope sLaw) (by decide +kernel)) (fun _ _ _ _ _ => pg_name (i := 6) scLaw.nd rfl (Or.inr rfl)) (fun _ _ _ _ _ => pts_nil)
        (fun _ _ _ _ _ => pe_callTy call_tuple_of rfl mt (by decide +kernel) (pa_cons (pe_lc (own := [("_law_p", 10)]) (g := gName 10) (tt := tB (tCall spTold [] E0 (tCons (tVar 4) (tCons (tVar 6) (tCons (tVar 10) tNil))))) rfl scLaw.nd (pi_range1 rfl mr (pa_cons (pv 3) pa_nil))
          (blkOk_by (own := [("_law_p", 10)]) (N := nmLaw) (sc := relS _ (defScope sLaw)) (by decide +kernel)) (fun _ _ _ _ _ => pg_name (i := 10) scLaw.nd rfl (Or.inl rfl))
          (fun _ _ _ _ _ => pts_one (pt_val (pe_call GT.ok hr rfl GT.m GT.k GT.b .nil pass0 (pa_cons (pv 4) (pa_cons (pv 6) (pa_cons (pv 10) pa_nil)))))) (fun _ _ _ _ _ => pv 10)) pa_nil))))
      (pss_cons (ps_for PassesOwn.never rfl (pi_range1 rfl mr (pa_cons (pv 3) pa_nil)) (pg_name (i := 6) scLaw.nd rfl (Or.inl rfl))
        (pss_cons (ps_if (pt_not (pt_val (pe_call GI.ok hr rfl GI.m GI.k GI.b .nil pass0 (pa_cons (pe_call GL.ok hr rfl GL.m GL.k GL.b .nil pass0 (pa_cons (pv 4) (pa_cons (pv 6) pa_nil))) (pa_cons (pe_ix ix_list (pv 7) (pv 6) (fun _ _ => rfl)) pa_nil))))) (pss_one ps_never) pss_nil)
        (pss_cons (ps_set (i := 8) scLaw.nd rfl (Or.inr rfl) (pe_call GD.ok hr rfl GD.m GD.k GD.b .nil pass0 (pa_cons (pv 1) (pa_cons (pv 3) pa_nil))))
        (pss_cons (ps_if (pt_not (pt_val (pe_call GI.ok hr rfl GI.m GI.k GI.b .nil pass0 (pa_cons (pe_call GC.ok hr rfl GC.m GC.k GC.b .nil pass0 (pa_cons (pv 4) (pa_cons (pv 6) (pa_cons (pv 8) pa_nil))))
          (pa_cons (pe_callTy call_tuple_of rfl mt (by decide +kernel) (pa_cons (pe_lc (own := [("_law_p", 10)]) (g := gName 10) (tt := tTest (tOp (rIn K false) (tVar 10) (tOp (rIxL K) (tVar 7) (tVar 8)))) rfl scLaw.nd (pi_tup (pe_ix ix_list (pv 7) (pv 6) (fun _ _ => rfl)))
            (blkOk_by (own := [("_law_p", 10)]) (N := nmLaw) (sc := defScope sLaw) (by decide +kernel)) (fun _ _ _ _ _ => pg_name (i := 10) scLaw.nd rfl (Or.inl rfl))
            (fun _ _ _ _ _ => pts_one (pt_cmpR op_in_seq (pv 10) (pe_ix ix_list (pv 7) (pv 8) (fun _ _ => rfl)) rfl)) (fun _ _ _ _ _ => pv 10)) pa_nil)) pa_nil))))) (pss_one ps_never) pss_nil)
        (pss_cons (ps_set (i := 9) scLaw.nd rfl (Or.inl rfl) (pe_callTy call_tuple_of rfl mt (by decide +kernel) (pa_cons (pe_lc (own := [("_law_one", 11), ("_law_other", 12)]) (g := gTup K 2 (gCons (gName 11) (gCons (gName 12) gNil))) (tt := tYes) rfl scLaw.nd
          (pi_zipA (by rfl) mz (pa_cons (pe_ix ix_tup (pe_ix ix_tup (pv 4) (pv 6) (fun _ _ => rfl)) pe_int (fun _ _ => rfl)) (pa_cons (pe_ix ix_tup (pe_ix ix_tup (pv 4) (pv 8) (fun _ _ => rfl)) pe_int (fun _ _ => rfl)) pa_nil)))
          (blkOk_by (own := [("_law_one", 11), ("_law_other", 12)]) (N := nmLaw) (sc := defScope sLaw) (by decide +kernel))
          (fun _ _ _ _ _ => pg_tup rfl (pgs_cons (pg_name (i := 11) scLaw.nd rfl (Or.inl rfl)) (pgs_cons (pg_name (i := 12) scLaw.nd rfl (Or.inl rfl)) pgs_nil))) (fun _ _ _ _ _ => pts_nil)
          (fun _ _ _ _ _ => pe_callB (call_min2 rfl) rfl mm (by decide +kernel) (pa_cons (pv 11) (pa_cons (pv 12) pa_nil)))) pa_nil)))
        (pss_one (ps_if (pt_not (pt_val (pe_call GI.ok hr rfl GI.m GI.k GI.b .nil pass0 (pa_cons (pe_call GM.ok hr rfl GM.m GM.k GM.b .nil pass0 (pa_cons (pv 4) (pa_cons (pv 6) (pa_cons (pv 8) pa_nil)))) (pa_cons (pv 9) pa_nil))))) (pss_one ps_never) pss_nil)))))))
      (pss_one (ps_if (PW.pt (pw_or (pt_cmpR op_ne (pe_callB (call_repr_sch hg hu) rfl mp (by decide +kernel) (pa_cons (pv 4) pa_nil)) (pv 5) (nomark _))
        (pw_or1 (pt_not (pt_val (pe_call GI.ok hr rfl GI.m GI.k GI.b .nil pass0 (pa_cons (pe_call GC.ok hr rfl GC.m GC.k GC.b .nil pass0 (pa_cons (pv 4) (pa_cons pe_int (pa_cons pe_int pa_nil)))) (pa_cons (pe_ix ix_list (pv 7) pe_int (fun _ _ => rfl)) pa_nil))))))))
        (pss_one ps_never) pss_nil)))))))))
    (pss_one (ps_ret (pe_bl (b := true))))), ?_⟩
  -- the hand
  refine ⟨_, rfl, a, ns, rfl, hS, h63, fun H1 h c _ _ hh1 => ?_⟩
  refine ⟨3, rfl, by decide, by decide, ?_⟩
  refine for_range (lo := 0) (n := 3) (fun i σ H2 => ∃ y2 y3 y4 y5 y6 y7 y8 y9, σ = [some (.ref a), some (.ref h), y2, y3, y4, y5, y6, y7, y8, y9, none, none, none] ∧ HandAt H2 h c)
    ⟨none, none, none, none, none, none, none, none, rfl, hh1⟩ (fun i σ H2 hi q => ?_) (fun σ H2 q => ?_)
  rotate_left
  · obtain ⟨_, _, _, _, _, _, _, _, rfl, _⟩ := q
    exact fin H2
  obtain ⟨y2, y3, y4, y5, y6, y7, y8, y9, rfl, hh2⟩ := q
  clear hh1 hS
  -- many, scheme
  refine ⟨_, rfl, h, c, 8, rfl, hh2, by decide, by decide, fun H3 d mv3 hh3 d0 d8 => ⟨_, _, rfl, rfl, ?_⟩⟩
  obtain ⟨m, rfl⟩ : ∃ m : Nat, d = m := ⟨d.toNat, by omega⟩
  obtain ⟨n, en⟩ : ∃ n : Nat, n = 1 + m := ⟨_, rfl⟩
  have n1 : 1 ≤ n := by omega
  have n8 : n ≤ 8 := by omega
  have ev : V.int (1 + (m : Int)) = vN n := by
    show V.int (1 + (m : Int)) = V.int (n : Int)
    rw [show (1 : Int) + (m : Int) = (n : Int) by omega]
  refine ⟨_, rfl, _, rfl, h, c, n, congrArg (fun z => [V.ref h, z]) ev, hh3, n8, fun H4 p0 mv4 hh4 np0 md0 => ?_⟩
  refine ⟨fun σ H5 => ∃ p, σ = [some (.ref a), some (.ref h), some (.int (0 + (i : Int))), some (vN n), some (.ref p), y5, y6, y7, y8, y9, none, none, none] ∧ HandAt H5 h c ∧ Made H5 p n, ?_, fun σ H5 q => ?_⟩
  · refine ⟨_, rfl, h, c, 2, rfl, hh4, by decide, by decide, fun H5 e mv5 hh5 e0 e2 => ⟨rfl, _, rfl, ite2 (fun _ => ?_) (fun _ => ?_)⟩⟩
    · refine ⟨_, rfl, _, rfl, _, rfl, _, rfl, h, c, n, congrArg (fun z => [V.ref h, z, V.int 3]) ev, hh5, n8, fun H6 r xs ls mv6 hh6 _ er pr el ok => ?_⟩
      refine ⟨r, xs, ls, rfl, er, pr, by omega, ok, fun H7 sp ys ms s7 nsp esp pm em => ?_⟩
      have hh7 := hh6.same s7
      have nh : sp ≠ h := hh6.ne_new nsp
      refine ⟨h, c, sp, ys, ms, rfl, hh7, nh, esp, pm, by omega, fun H8 q mv8 hh8 md => ?_⟩
      have emn : ms.length = n := em.trans el
      rw [emn] at md
      refine ⟨h, c, q, n, rfl, hh8, md, n1, n8, fun H9 p mv9 hh9 md9 => ?_⟩
      exact ⟨p, by rw [← ev]; rfl, hh9, md9⟩
    · obtain ⟨ds, hs, r⟩ := md0
      exact ⟨p0, by rw [← ev]; rfl, hh5, ds, hs.tp (mv5.tp hh4), r⟩
  obtain ⟨p, rfl, hh5, ds, hs5, el, okk⟩ := q
  clear mv3 mv4 hh2 hh3 hh4 md0 np0
  have okd : OkSch ds := ⟨by omega, fun d hd => (okk d hd).kd⟩
  -- kept
  refine ⟨_, rfl, p, ds, rfl, hs5, okk, by omega, ?_⟩
  -- the law's own lots
  refine ⟨_, rfl, (n : Int), rfl, by omega, by omega, fun lo nlo => ?_⟩
  rw [show ((n : Int)).toNat = n by omega]
  refine lc_range (lo := 0) (n := n) (fun j H6 => Same H5 H6 ∧ ∃ xs, H6 lo = some (.lst xs) ∧ Paired (TupN H6) xs ((List.range j).map (lot1 ds))) ⟨same_upd _ nlo, [], upd_same, .nil⟩ (fun j H6 hj q => ?_) (fun H6 q => ?_)
  · obtain ⟨s6, xs, exs, pxs⟩ := q
    rw [Int.zero_add]
    refine ⟨rfl, ?_⟩
    refine ⟨_, rfl, (n : Int), rfl, by omega, by omega, fun D nD => ?_⟩
    rw [show ((n : Int)).toNat = n by omega]
    refine lc_range (lo := 0) (n := n) (fun k H7 => Same H6 H7 ∧ H7 D = some (.lst (((List.range k).filter fun p => sayB ds j p).map vN))) ⟨same_upd _ nD, upd_same⟩ (fun k H7 hk q => ?_) (fun H7 q => ?_)
    · obtain ⟨s7, eD⟩ := q
      rw [Int.zero_add]
      refine ⟨rfl, ?_⟩
      refine ⟨_, rfl, _, rfl, _, rfl, p, ds, j, k, rfl, hs5.same (s6.trans s7), okd, by omega, by omega, _, rfl, ite2 (fun t => ?_) (fun t => ?_)⟩
      · refine ⟨_, rfl, _, eD, ?_, same_set s7 nD, ?_⟩
        · rw [List.length_map]
          have : ((List.range k).filter fun p => sayB ds j p).length ≤ k := Nat.le_trans (List.length_filter_le _ _) (Nat.le_of_eq List.length_range)
          exact small1000 (by omega)
        · rw [upd_same, filter_step, if_pos t, List.map_append]
          rfl
      · refine ⟨s7, ?_⟩
        rw [filter_step, if_neg t]
        exact eD
    · obtain ⟨s7, eD⟩ := q
      refine ⟨D, _, rfl, .inl ⟨SqL.of eD, fun r nr => ?_⟩⟩
      have s8 := s7.trans (same_upd (.tup (((List.range n).filter fun p => sayB ds j p).map vN)) nr)
      have exs8 := s8 _ _ exs
      have tp : Tp H6 (upd (upd H7 r (.tup (((List.range n).filter fun p => sayB ds j p).map vN))) lo (.lst (xs ++ [.ref r]))) := (Tp.of s8).trans (Tp.lst exs8)
      refine ⟨xs, exs8, ?_, same_set (s6.trans s8) nlo, xs ++ [.ref r], upd_same, ?_⟩
      · rw [Paired.length pxs, List.length_map, List.length_range]
        exact small1000 (by omega)
      · rw [List.range_succ, List.map_append]
        refine Paired.snoc ⟨r, rfl, ?_⟩ (Paired.imp (fun _ _ => TupN.tp tp) pxs)
        rw [show lot1 ds j = (List.range n).filter fun p => sayB ds j p by unfold lot1; rw [el]]
        exact Tp.lst exs8 _ _ upd_same
  obtain ⟨s6, xs0, exs0, pxs0⟩ := q
  have lots : LotsAt H6 lo ds := ⟨xs0, exs0, by rw [el]; exact pxs0⟩
  have hh6 := hh5.same s6
  have hs6 := hs5.same s6
  have nlh : lo ≠ h := hh5.ne_new nlo
  clear exs0 pxs0
  -- of each kind
  refine ⟨_, rfl, (n : Int), rfl, by omega, by omega, ?_⟩
  rw [show ((n : Int)).toNat = n by omega]
  refine for_range (lo := 0) (n := n) (fun x σ H7 => ∃ y6 y8 y9, σ = [some (.ref a), some (.ref h), some (.int (0 + (i : Int))), some (vN n), some (.ref p), some (.str (PyData.shown (schD ds))), y6, some (.ref lo), y8, y9, none, none, none] ∧ Mv h H6 H7 ∧ HandAt H7 h c)
    ⟨_, _, _, rfl, Mv.refl h H6, hh6⟩ (fun x σ H7 hx q => ?_) (fun σ H7 q => ?_)
  · obtain ⟨y6, y8, y9, rfl, mv7, hh7⟩ := q
    rw [Int.zero_add]
    have xd : x < ds.length := by omega
    -- lot_of
    have hs7 := hs6.tp (mv7.tp hh6)
    have lt7 := lots.mv mv7 hh6 nlh
    refine ⟨_, rfl, _, rfl, p, ds, x, rfl, hs7, okd, xd, fun H8 r s8 _ er => ?_⟩
    obtain ⟨xs, t, exs, eat, et⟩ := lt7.at xd
    rw [lot_one] at er
    refine ⟨_, rfl, _, rfl, lo, xs, x, _, rfl, rfl, SqL.of (s8 _ _ exs), eat, r, t, (lot1 ds x).map (fun k : Nat => (k : Int)), rfl, by rw [cast_map]; exact er, by rw [cast_map]; exact s8 _ _ et, ?_, fun H9 s9 => ⟨true, rfl, iteF ?_⟩⟩
    · rw [List.length_map]
      have := lot_len ds x
      omega
    have mv9 := mv7.trans (Mv.of (s8.trans s9))
    have hh9 := hh7.same (s8.trans s9)
    -- y
    refine ⟨_, rfl, _, rfl, h, c, (n : Int), rfl, hh9, by omega, by omega, fun H10 d mv10 hh10 d0 dn => ?_⟩
    obtain ⟨y, rfl⟩ : ∃ y : Nat, d = y := ⟨d.toNat, by omega⟩
    have yd : y < ds.length := by omega
    have mvA := mv9.trans mv10
    have hsA := hs6.tp (mvA.tp hh6)
    have ltA := lots.mv mvA hh6 nlh
    -- common
    refine ⟨_, rfl, _, rfl, _, rfl, p, ds, x, y, rfl, hsA, okd, xd, yd, fun H11 r2 s11 _ er2 => ?_⟩
    obtain ⟨xs2, t2, exs2, eat2, et2⟩ := ltA.at xd
    obtain ⟨xs3, t3, exs3, eat3, et3⟩ := ltA.at yd
    have exs2' := s11 _ _ exs2
    have exs3' := s11 _ _ exs3
    have et2' := s11 _ _ et2
    have et3' := s11 _ _ et3
    refine ⟨_, rfl, _, rfl, lo, xs2, x, _, rfl, rfl, SqL.of exs2', eat2, t2, rfl, ⟨_, SqT.of et2'⟩, fun D nD => ?_⟩
    refine lc_tup (K := K) (xs := (lot1 ds x).map vN) (fun j H12 => Same H11 H12 ∧ H12 D = some (.lst ((((lot1 ds x).take j).filter fun p => inV (vN p) ((lot1 ds y).map vN)).map vN))) ⟨same_upd _ nD, upd_same⟩ (fun j H12 _ q => same_tup q.1 et2') (fun j v H12 hv q => ?_) (fun H12 q => ?_)
    · obtain ⟨s12, eD⟩ := q
      obtain ⟨k, hk, rfl⟩ := map_at hv
      have jl : j < (lot1 ds x).length := (List.getElem?_eq_some_iff.mp hk).1
      have ll := lot_len ds x
      refine ⟨rfl, ?_⟩
      refine ⟨_, rfl, _, rfl, _, rfl, lo, xs3, y, _, rfl, rfl, SqL.of (s12 _ _ exs3'), eat3, t3, _, rfl, .inr (SqT.of (s12 _ _ et3')), rfl, flat_nats _, _, rfl, ite2 (fun t => ?_) (fun t => ?_)⟩
      · refine ⟨_, rfl, _, eD, ?_, same_set s12 nD, ?_⟩
        · rw [List.length_map]
          have : (((lot1 ds x).take j).filter fun p => inV (vN p) ((lot1 ds y).map vN)).length ≤ j := Nat.le_trans (List.length_filter_le _ _) (by rw [List.length_take]; omega)
          exact small1000 (by omega)
        · have t' : inV (vN k) ((lot1 ds y).map vN) = true := t
          rw [upd_same, List.take_add_one, hk, List.filter_append, List.map_append]
          simp only [Option.toList_some, List.filter_cons, t', if_true, List.filter_nil, List.map_cons, List.map_nil]
      · refine ⟨s12, ?_⟩
        have t' : inV (vN k) ((lot1 ds y).map vN) = false := by
          cases z : inV (vN k) ((lot1 ds y).map vN) with
          | false => rfl
          | true => exact absurd z t
        rw [List.take_add_one, hk, List.filter_append]
        simp only [Option.toList_some, List.filter_cons, t', List.filter_nil, List.append_nil, Bool.false_eq_true, if_false]
        exact eD
    obtain ⟨s12, eD⟩ := q
    rw [List.length_map, List.take_length, lot_two] at eD
    refine ⟨D, _, rfl, .inl ⟨SqL.of eD, fun r3 nr3 => ?_⟩⟩
    have s13 := s12.trans (same_upd (.tup ((lotL ds [x, y]).map vN)) nr3)
    refine ⟨r2, r3, (lotL ds [x, y]).map (fun k : Nat => (k : Int)), rfl, by rw [cast_map]; exact s13 _ _ er2, by rw [cast_map]; exact upd_same, ?_, fun H14 s14 => ⟨true, rfl, iteF ?_⟩⟩
    · rw [List.length_map]
      have : (lotL ds [x, y]).length ≤ ds.length := by
        unfold lotL
        exact Nat.le_trans (List.length_filter_le _ _) (Nat.le_of_eq List.length_range)
      omega
    have sB := s11.trans (s13.trans s14)
    have mvB := mvA.trans (Mv.of sB)
    have hhB := hh10.same sB
    have hsB := hsA.same sB
    -- due
    obtain ⟨xs4, t4, r4, hp4, e4, ht4, hr4⟩ := sch_at hsB xd
    obtain ⟨xs5, t5, r5, hp5, e5, ht5, hr5⟩ := sch_at hsB yd
    refine ⟨_, rfl, _, rfl, p, xs4, x, _, rfl, rfl, SqT.of hp4, e4, t4, _, 2, _, rfl, rfl, SqT.of ht4, at2, ?_⟩
    refine ⟨_, rfl, _, rfl, p, xs5, y, _, rfl, rfl, SqT.of hp5, e5, t5, _, 2, _, rfl, rfl, SqT.of ht5, at2, ?_⟩
    refine ⟨r4, r5, _, _, rfl, .inr ⟨SqT.of hr4, SqT.of hr5, fun D2 nD2 => ?_⟩⟩
    have l16 := (okk _ (List.getElem_mem xd)).2.1
    refine lc_it walk_zt (fun j H15 => Same H14 H15 ∧ H15 D2 = some (.lst (((meetL ds[x].2.2 ds[y].2.2).take j).map V.int))) ⟨same_upd _ nD2, upd_same⟩ (fun j H15 _ q => ⟨same_tup q.1 hr4, same_tup q.1 hr5⟩) (fun j v H15 H16 hj q hv => ?_) (fun H15 q => ?_)
    · obtain ⟨T, u1, u2, rfl, nT, rfl, q1, q2⟩ := hv
      obtain ⟨s15, e15⟩ := q
      obtain ⟨z1, hz1, rfl⟩ := map_at q1
      obtain ⟨z2, hz2, rfl⟩ := map_at q2
      have s16 := same_upd (H := H15) (.tup [V.int z1, V.int z2]) nT
      refine ⟨T, _, rfl, SqT.of upd_same, rfl, _, _, rfl, _, _, rfl, rfl, ?_⟩
      refine ⟨rfl, ?_⟩
      refine ⟨_, rfl, _, rfl, z1, z2, rfl, _, s16 _ _ e15, ?_, same_set (s15.trans s16) nD2, ?_⟩
      · rw [List.length_map] at hj
        rw [List.length_map, List.length_take (l := meetL ds[x].2.2 ds[y].2.2)]
        exact small1000 (by omega)
      · rw [upd_same, meet_step hz1 hz2, List.map_append]
        rfl
    obtain ⟨s15, e15⟩ := q
    rw [List.length_map, List.length_map, List.take_of_length_le (by unfold meetL; rw [List.length_zipWith]; exact Nat.le_refl _)] at e15
    refine ⟨D2, _, rfl, .inl ⟨SqL.of e15, fun r6 nr6 => ?_⟩⟩
    have s16 := s15.trans (same_upd (.tup ((meetL ds[x].2.2 ds[y].2.2).map V.int)) nr6)
    -- meet
    refine ⟨_, rfl, _, rfl, _, rfl, p, ds, x, y, _, _, rfl, hsB.same s16, okd, List.getElem?_eq_getElem xd, List.getElem?_eq_getElem yd, fun H17 r7 s17 _ er7 => ?_⟩
    refine ⟨_, rfl, r7, r6, meetL ds[x].2.2 ds[y].2.2, rfl, er7, s17 _ _ upd_same, ?_, fun H18 s18 => ⟨true, rfl, iteF ?_⟩⟩
    · unfold meetL
      rw [List.length_zipWith]
      omega
    have sC := s16.trans (s17.trans s18)
    exact ⟨_, _, _, rfl, mvB.trans (Mv.of sC), hhB.same sC⟩
  · obtain ⟨y6, y8, y9, rfl, mv7, hh7⟩ := q
    have hs7 := hs6.tp (mv7.tp hh6)
    have lt7 := lots.mv mv7 hh6 nlh
    have zd : 0 < ds.length := by omega
    refine ⟨_, rfl, p, ds, rfl, hs7, okk, by omega, _, rfl, rfl, false, congrArg V.bl ?_, iteF ?_⟩
    · rw [decide_eq_true rfl]
      rfl
    refine ⟨_, rfl, p, ds, 0, 0, rfl, hs7, okd, zd, zd, fun H8 r s8 _ er => ?_⟩
    obtain ⟨xs, t, exs, eat, et⟩ := lt7.at zd
    rw [lot_same] at er
    refine ⟨_, rfl, lo, xs, 0, _, rfl, rfl, SqL.of (s8 _ _ exs), eat, r, t, (lot1 ds 0).map (fun k : Nat => (k : Int)), rfl, by rw [cast_map]; exact er, by rw [cast_map]; exact s8 _ _ et, ?_, fun H9 s9 => ⟨true, rfl, iteF ?_⟩⟩
    · rw [List.length_map]
      have := lot_len ds 0
      omega
    exact ⟨_, _, _, _, _, _, _, _, rfl, hh7.same (s8.trans s9)⟩
end
end K50
namespace K50
open PySem PySem.Spec PyProof.Rows L2 RZ
/-! ### what the top has left -/
theorem all_mk {l : PySem.W.OpenLaw} {w : World} {K : PySem.W.Frag} {h : Heap} {mg : Str → Option Value} {fa : Addr} (X : K.In h) (G : h.Ns mainGlobals mg) (hfa : mg "law" = some (.ref fa))
    {f0 : Addr} {od0 an0 : Option Addr} {sl0 : Array (Option Value)} {oc0 kV0 dc0 pm0 cd0 ct0 : Value}
    (a0 : PySem.W.nsIn K mainGlobals "is_integer" = some (some (.ref f0))) (l0 : K.lookup f0 = some ⟨oc0, od0, .func (PySem.W.fnOf "is_integer" "is_integer" (defArgs sInt) (defBody sInt) (defScope sInt) .none kV0 dc0 pm0 an0 cd0 ct0), sl0⟩) (c0 : PySem.W.codeIn K cd0 "is_integer" = true) (k0 : PySem.W.keepIn K (.ref f0) = true)
    {f1 : Addr} {od1 an1 : Option Addr} {sl1 : Array (Option Value)} {oc1 kV1 dc1 pm1 cd1 ct1 : Value}
    (a1 : PySem.W.nsIn K mainGlobals "is_within" = some (some (.ref f1))) (l1 : K.lookup f1 = some ⟨oc1, od1, .func (PySem.W.fnOf "is_within" "is_within" (defArgs sWithin) (defBody sWithin) (defScope sWithin) .none kV1 dc1 pm1 an1 cd1 ct1), sl1⟩) (c1 : PySem.W.codeIn K cd1 "is_within" = true) (k1 : PySem.W.keepIn K (.ref f1) = true)
    {f2 : Addr} {od2 an2 : Option Addr} {sl2 : Array (Option Value)} {oc2 kV2 dc2 pm2 cd2 ct2 : Value}
    (a2 : PySem.W.nsIn K mainGlobals "is_triple" = some (some (.ref f2))) (l2 : K.lookup f2 = some ⟨oc2, od2, .func (PySem.W.fnOf "is_triple" "is_triple" (defArgs sTriple) (defBody sTriple) (defScope sTriple) .none kV2 dc2 pm2 an2 cd2 ct2), sl2⟩) (c2 : PySem.W.codeIn K cd2 "is_triple" = true) (k2 : PySem.W.keepIn K (.ref f2) = true)
    {f3 : Addr} {od3 an3 : Option Addr} {sl3 : Array (Option Value)} {oc3 kV3 dc3 pm3 cd3 ct3 : Value}
    (a3 : PySem.W.nsIn K mainGlobals "check_kind_of" = some (some (.ref f3))) (l3 : K.lookup f3 = some ⟨oc3, od3, .func (PySem.W.fnOf "check_kind_of" "check_kind_of" (defArgs sChkKind) (defBody sChkKind) (defScope sChkKind) .none kV3 dc3 pm3 an3 cd3 ct3), sl3⟩) (c3 : PySem.W.codeIn K cd3 "check_kind_of" = true) (k3 : PySem.W.keepIn K (.ref f3) = true)
    {f4 : Addr} {od4 an4 : Option Addr} {sl4 : Array (Option Value)} {oc4 kV4 dc4 pm4 cd4 ct4 : Value}
    (a4 : PySem.W.nsIn K mainGlobals "is_given" = some (some (.ref f4))) (l4 : K.lookup f4 = some ⟨oc4, od4, .func (PySem.W.fnOf "is_given" "is_given" (defArgs sGiven) (defBody sGiven) (defScope sGiven) .none kV4 dc4 pm4 an4 cd4 ct4), sl4⟩) (c4 : PySem.W.codeIn K cd4 "is_given" = true) (k4 : PySem.W.keepIn K (.ref f4) = true)
    {f5 : Addr} {od5 an5 : Option Addr} {sl5 : Array (Option Value)} {oc5 kV5 dc5 pm5 cd5 ct5 : Value}
    (a5 : PySem.W.nsIn K mainGlobals "has_form" = some (some (.ref f5))) (l5 : K.lookup f5 = some ⟨oc5, od5, .func (PySem.W.fnOf "has_form" "has_form" (defArgs sForm) (defBody sForm) (defScope sForm) .none kV5 dc5 pm5 an5 cd5 ct5), sl5⟩) (c5 : PySem.W.codeIn K cd5 "has_form" = true) (k5 : PySem.W.keepIn K (.ref f5) = true)
    {f6 : Addr} {od6 an6 : Option Addr} {sl6 : Array (Option Value)} {oc6 kV6 dc6 pm6 cd6 ct6 : Value}
    (a6 : PySem.W.nsIn K mainGlobals "check_scheme" = some (some (.ref f6))) (l6 : K.lookup f6 = some ⟨oc6, od6, .func (PySem.W.fnOf "check_scheme" "check_scheme" (defArgs sChkSch) (defBody sChkSch) (defScope sChkSch) .none kV6 dc6 pm6 an6 cd6 ct6), sl6⟩) (c6 : PySem.W.codeIn K cd6 "check_scheme" = true) (k6 : PySem.W.keepIn K (.ref f6) = true)
    {f7 : Addr} {od7 an7 : Option Addr} {sl7 : Array (Option Value)} {oc7 kV7 dc7 pm7 cd7 ct7 : Value}
    (a7 : PySem.W.nsIn K mainGlobals "told" = some (some (.ref f7))) (l7 : K.lookup f7 = some ⟨oc7, od7, .func (PySem.W.fnOf "told" "told" (defArgs sTold) (defBody sTold) (defScope sTold) .none kV7 dc7 pm7 an7 cd7 ct7), sl7⟩) (c7 : PySem.W.codeIn K cd7 "told" = true) (k7 : PySem.W.keepIn K (.ref f7) = true)
    {f8 : Addr} {od8 an8 : Option Addr} {sl8 : Array (Option Value)} {oc8 kV8 dc8 pm8 cd8 ct8 : Value}
    (a8 : PySem.W.nsIn K mainGlobals "check_kinds" = some (some (.ref f8))) (l8 : K.lookup f8 = some ⟨oc8, od8, .func (PySem.W.fnOf "check_kinds" "check_kinds" (defArgs sChkKinds) (defBody sChkKinds) (defScope sChkKinds) .none kV8 dc8 pm8 an8 cd8 ct8), sl8⟩) (c8 : PySem.W.codeIn K cd8 "check_kinds" = true) (k8 : PySem.W.keepIn K (.ref f8) = true)
    {f9 : Addr} {od9 an9 : Option Addr} {sl9 : Array (Option Value)} {oc9 kV9 dc9 pm9 cd9 ct9 : Value}
    (a9 : PySem.W.nsIn K mainGlobals "told_lot" = some (some (.ref f9))) (l9 : K.lookup f9 = some ⟨oc9, od9, .func (PySem.W.fnOf "told_lot" "told_lot" (defArgs sToldLot) (defBody sToldLot) (defScope sToldLot) .none kV9 dc9 pm9 an9 cd9 ct9), sl9⟩) (c9 : PySem.W.codeIn K cd9 "told_lot" = true) (k9 : PySem.W.keepIn K (.ref f9) = true)
    {f10 : Addr} {od10 an10 : Option Addr} {sl10 : Array (Option Value)} {oc10 kV10 dc10 pm10 cd10 ct10 : Value}
    (a10 : PySem.W.nsIn K mainGlobals "lot_of" = some (some (.ref f10))) (l10 : K.lookup f10 = some ⟨oc10, od10, .func (PySem.W.fnOf "lot_of" "lot_of" (defArgs sLotOf) (defBody sLotOf) (defScope sLotOf) .none kV10 dc10 pm10 an10 cd10 ct10), sl10⟩) (c10 : PySem.W.codeIn K cd10 "lot_of" = true) (k10 : PySem.W.keepIn K (.ref f10) = true)
    {f11 : Addr} {od11 an11 : Option Addr} {sl11 : Array (Option Value)} {oc11 kV11 dc11 pm11 cd11 ct11 : Value}
    (a11 : PySem.W.nsIn K mainGlobals "common" = some (some (.ref f11))) (l11 : K.lookup f11 = some ⟨oc11, od11, .func (PySem.W.fnOf "common" "common" (defArgs sCommon) (defBody sCommon) (defScope sCommon) .none kV11 dc11 pm11 an11 cd11 ct11), sl11⟩) (c11 : PySem.W.codeIn K cd11 "common" = true) (k11 : PySem.W.keepIn K (.ref f11) = true)
    {f12 : Addr} {od12 an12 : Option Addr} {sl12 : Array (Option Value)} {oc12 kV12 dc12 pm12 cd12 ct12 : Value}
    (a12 : PySem.W.nsIn K mainGlobals "meet" = some (some (.ref f12))) (l12 : K.lookup f12 = some ⟨oc12, od12, .func (PySem.W.fnOf "meet" "meet" (defArgs sMeet) (defBody sMeet) (defScope sMeet) .none kV12 dc12 pm12 an12 cd12 ct12), sl12⟩) (c12 : PySem.W.codeIn K cd12 "meet" = true) (k12 : PySem.W.keepIn K (.ref f12) = true)
    {f13 : Addr} {od13 an13 : Option Addr} {sl13 : Array (Option Value)} {oc13 kV13 dc13 pm13 cd13 ct13 : Value}
    (a13 : PySem.W.nsIn K mainGlobals "_law_hand" = some (some (.ref f13))) (l13 : K.lookup f13 = some ⟨oc13, od13, .func (PySem.W.fnOf "_law_hand" "_law_hand" (defArgs sHand) (defBody sHand) (defScope sHand) .none kV13 dc13 pm13 an13 cd13 ct13), sl13⟩) (c13 : PySem.W.codeIn K cd13 "_law_hand" = true) (k13 : PySem.W.keepIn K (.ref f13) = true)
    {f14 : Addr} {od14 an14 : Option Addr} {sl14 : Array (Option Value)} {oc14 kV14 dc14 pm14 cd14 ct14 : Value}
    (a14 : PySem.W.nsIn K mainGlobals "_law_draw" = some (some (.ref f14))) (l14 : K.lookup f14 = some ⟨oc14, od14, .func (PySem.W.fnOf "_law_draw" "_law_draw" (defArgs sDraw) (defBody sDraw) (defScope sDraw) .none kV14 dc14 pm14 an14 cd14 ct14), sl14⟩) (c14 : PySem.W.codeIn K cd14 "_law_draw" = true) (k14 : PySem.W.keepIn K (.ref f14) = true)
    {f15 : Addr} {od15 an15 : Option Addr} {sl15 : Array (Option Value)} {oc15 kV15 dc15 pm15 cd15 ct15 : Value}
    (a15 : PySem.W.nsIn K mainGlobals "_law_is" = some (some (.ref f15))) (l15 : K.lookup f15 = some ⟨oc15, od15, .func (PySem.W.fnOf "_law_is" "_law_is" (defArgs sIs) (defBody sIs) (defScope sIs) .none kV15 dc15 pm15 an15 cd15 ct15), sl15⟩) (c15 : PySem.W.codeIn K cd15 "_law_is" = true) (k15 : PySem.W.keepIn K (.ref f15) = true)
    {f16 : Addr} {od16 an16 : Option Addr} {sl16 : Array (Option Value)} {oc16 kV16 dc16 pm16 cd16 ct16 : Value}
    (a16 : PySem.W.nsIn K mainGlobals "_law_parents" = some (some (.ref f16))) (l16 : K.lookup f16 = some ⟨oc16, od16, .func (PySem.W.fnOf "_law_parents" "_law_parents" (defArgs sParents) (defBody sParents) (defScope sParents) .none kV16 dc16 pm16 an16 cd16 ct16), sl16⟩) (c16 : PySem.W.codeIn K cd16 "_law_parents" = true) (k16 : PySem.W.keepIn K (.ref f16) = true)
    {f17 : Addr} {od17 an17 : Option Addr} {sl17 : Array (Option Value)} {oc17 kV17 dc17 pm17 cd17 ct17 : Value}
    (a17 : PySem.W.nsIn K mainGlobals "_law_sheet" = some (some (.ref f17))) (l17 : K.lookup f17 = some ⟨oc17, od17, .func (PySem.W.fnOf "_law_sheet" "_law_sheet" (defArgs sSheet) (defBody sSheet) (defScope sSheet) .none kV17 dc17 pm17 an17 cd17 ct17), sl17⟩) (c17 : PySem.W.codeIn K cd17 "_law_sheet" = true) (k17 : PySem.W.keepIn K (.ref f17) = true)
    {f18 : Addr} {od18 an18 : Option Addr} {sl18 : Array (Option Value)} {oc18 kV18 dc18 pm18 cd18 ct18 : Value}
    (a18 : PySem.W.nsIn K mainGlobals "_law_dealt" = some (some (.ref f18))) (l18 : K.lookup f18 = some ⟨oc18, od18, .func (PySem.W.fnOf "_law_dealt" "_law_dealt" (defArgs sDealt) (defBody sDealt) (defScope sDealt) .none kV18 dc18 pm18 an18 cd18 ct18), sl18⟩) (c18 : PySem.W.codeIn K cd18 "_law_dealt" = true) (k18 : PySem.W.keepIn K (.ref f18) = true)
    {f19 : Addr} {od19 an19 : Option Addr} {sl19 : Array (Option Value)} {oc19 kV19 dc19 pm19 cd19 ct19 : Value}
    (a19 : PySem.W.nsIn K mainGlobals "_law_right_scheme" = some (some (.ref f19))) (l19 : K.lookup f19 = some ⟨oc19, od19, .func (PySem.W.fnOf "_law_right_scheme" "_law_right_scheme" (defArgs sRight) (defBody sRight) (defScope sRight) .none kV19 dc19 pm19 an19 cd19 ct19), sl19⟩) (c19 : PySem.W.codeIn K cd19 "_law_right_scheme" = true) (k19 : PySem.W.keepIn K (.ref f19) = true)
    {f20 : Addr} {od20 an20 : Option Addr} {sl20 : Array (Option Value)} {oc20 kV20 dc20 pm20 cd20 ct20 : Value}
    (a20 : PySem.W.nsIn K mainGlobals "_law_any_scheme" = some (some (.ref f20))) (l20 : K.lookup f20 = some ⟨oc20, od20, .func (PySem.W.fnOf "_law_any_scheme" "_law_any_scheme" (defArgs sAny) (defBody sAny) (defScope sAny) .none kV20 dc20 pm20 an20 cd20 ct20), sl20⟩) (c20 : PySem.W.codeIn K cd20 "_law_any_scheme" = true) (k20 : PySem.W.keepIn K (.ref f20) = true)
    {f21 : Addr} {od21 an21 : Option Addr} {sl21 : Array (Option Value)} {oc21 kV21 dc21 pm21 cd21 ct21 : Value}
    (a21 : PySem.W.nsIn K mainGlobals "_law_said" = some (some (.ref f21))) (l21 : K.lookup f21 = some ⟨oc21, od21, .func (PySem.W.fnOf "_law_said" "_law_said" (defArgs sSaid) (defBody sSaid) (defScope sSaid) .none kV21 dc21 pm21 an21 cd21 ct21), sl21⟩) (c21 : PySem.W.codeIn K cd21 "_law_said" = true) (k21 : PySem.W.keepIn K (.ref f21) = true)
    {f22 : Addr} {od22 an22 : Option Addr} {sl22 : Array (Option Value)} {oc22 kV22 dc22 pm22 cd22 ct22 : Value}
    (a22 : PySem.W.nsIn K mainGlobals "_law_bent" = some (some (.ref f22))) (l22 : K.lookup f22 = some ⟨oc22, od22, .func (PySem.W.fnOf "_law_bent" "_law_bent" (defArgs sBent) (defBody sBent) (defScope sBent) .none kV22 dc22 pm22 an22 cd22 ct22), sl22⟩) (c22 : PySem.W.codeIn K cd22 "_law_bent" = true) (k22 : PySem.W.keepIn K (.ref f22) = true)
    {f23 : Addr} {od23 an23 : Option Addr} {sl23 : Array (Option Value)} {oc23 kV23 dc23 pm23 cd23 ct23 : Value}
    (a23 : PySem.W.nsIn K mainGlobals "law" = some (some (.ref f23))) (l23 : K.lookup f23 = some ⟨oc23, od23, .func (PySem.W.fnOf "law" "law" (defArgs sLaw) (defBody sLaw) (defScope sLaw) .none kV23 dc23 pm23 an23 cd23 ct23), sl23⟩) (c23 : PySem.W.codeIn K cd23 "law" = true) (k23 : PySem.W.keepIn K (.ref f23) = true)
    (z_isinstance : PySem.W.nsIn K mainGlobals "isinstance" = some none)
    (z_int : PySem.W.nsIn K mainGlobals "int" = some none)
    (z_bool : PySem.W.nsIn K mainGlobals "bool" = some none)
    (z_tuple : PySem.W.nsIn K mainGlobals "tuple" = some none)
    (z_list : PySem.W.nsIn K mainGlobals "list" = some none)
    (z_len : PySem.W.nsIn K mainGlobals "len" = some none)
    (z_all : PySem.W.nsIn K mainGlobals "all" = some none)
    (z_range : PySem.W.nsIn K mainGlobals "range" = some none)
    (z_sorted : PySem.W.nsIn K mainGlobals "sorted" = some none)
    (z_set : PySem.W.nsIn K mainGlobals "set" = some none)
    (z_enumerate : PySem.W.nsIn K mainGlobals "enumerate" = some none)
    (z_zip : PySem.W.nsIn K mainGlobals "zip" = some none)
    (z_min : PySem.W.nsIn K mainGlobals "min" = some none)
    (z_abs : PySem.W.nsIn K mainGlobals "abs" = some none)
    (z_repr : PySem.W.nsIn K mainGlobals "repr" = some none)
    : ∃ fd : FuncData, (∀ (s : Shared) (v : Value), BindsTo s fd ⟨[v], []⟩ [("_law_script", v)]) ∧ ∀ base : Heap, K.In base → base.Ns mainGlobals mg → LawAt l.prog w K mg base fa fd "_law_script" (spLaw K) := by
  have e := hfa.symm.trans (PySem.W.mg_of X G a23)
  cases e
  have F0 := fun_mk (st := sInt) l0 c0 k0
  have b0 := F0.binds (ps := ["thing"]) fun _ _ _ _ _ _ us hl => match us, hl with | [_], _ => rfl
  have m0 := PySem.W.mg_of X G a0
  have F1 := fun_mk (st := sWithin) l1 c1 k1
  have b1 := F1.binds (ps := ["thing", "least", "most"]) fun _ _ _ _ _ _ us hl => match us, hl with | [_, _, _], _ => rfl
  have m1 := PySem.W.mg_of X G a1
  have F2 := fun_mk (st := sTriple) l2 c2 k2
  have b2 := F2.binds (ps := ["thing"]) fun _ _ _ _ _ _ us hl => match us, hl with | [_], _ => rfl
  have m2 := PySem.W.mg_of X G a2
  have F3 := fun_mk (st := sChkKind) l3 c3 k3
  have b3 := F3.binds (ps := ["thing", "many"]) fun _ _ _ _ _ _ us hl => match us, hl with | [_, _], _ => rfl
  have m3 := PySem.W.mg_of X G a3
  have F4 := fun_mk (st := sGiven) l4 c4 k4
  have b4 := F4.binds (ps := ["thing"]) fun _ _ _ _ _ _ us hl => match us, hl with | [_], _ => rfl
  have m4 := PySem.W.mg_of X G a4
  have F5 := fun_mk (st := sForm) l5 c5 k5
  have b5 := F5.binds (ps := ["thing"]) fun _ _ _ _ _ _ us hl => match us, hl with | [_], _ => rfl
  have m5 := PySem.W.mg_of X G a5
  have F6 := fun_mk (st := sChkSch) l6 c6 k6
  have b6 := F6.binds (ps := ["thing"]) fun _ _ _ _ _ _ us hl => match us, hl with | [_], _ => rfl
  have m6 := PySem.W.mg_of X G a6
  have F7 := fun_mk (st := sTold) l7 c7 k7
  have b7 := F7.binds (ps := ["scheme", "x", "p"]) fun _ _ _ _ _ _ us hl => match us, hl with | [_, _, _], _ => rfl
  have m7 := PySem.W.mg_of X G a7
  have F8 := fun_mk (st := sChkKinds) l8 c8 k8
  have b8 := F8.binds (ps := ["scheme", "some"]) fun _ _ _ _ _ _ us hl => match us, hl with | [_, _], _ => rfl
  have m8 := PySem.W.mg_of X G a8
  have F9 := fun_mk (st := sToldLot) l9 c9 k9
  have b9 := F9.binds (ps := ["scheme", "some"]) fun _ _ _ _ _ _ us hl => match us, hl with | [_, _], _ => rfl
  have m9 := PySem.W.mg_of X G a9
  have F10 := fun_mk (st := sLotOf) l10 c10 k10
  have b10 := F10.binds (ps := ["scheme", "x"]) fun _ _ _ _ _ _ us hl => match us, hl with | [_, _], _ => rfl
  have m10 := PySem.W.mg_of X G a10
  have F11 := fun_mk (st := sCommon) l11 c11 k11
  have b11 := F11.binds (ps := ["scheme", "x", "y"]) fun _ _ _ _ _ _ us hl => match us, hl with | [_, _, _], _ => rfl
  have m11 := PySem.W.mg_of X G a11
  have F12 := fun_mk (st := sMeet) l12 c12 k12
  have b12 := F12.binds (ps := ["scheme", "x", "y"]) fun _ _ _ _ _ _ us hl => match us, hl with | [_, _, _], _ => rfl
  have m12 := PySem.W.mg_of X G a12
  have F13 := fun_mk (st := sHand) l13 c13 k13
  have b13 := F13.binds (ps := ["_law_script"]) fun _ _ _ _ _ _ us hl => match us, hl with | [_], _ => rfl
  have m13 := PySem.W.mg_of X G a13
  have F14 := fun_mk (st := sDraw) l14 c14 k14
  have b14 := F14.binds (ps := ["_law_hand_here", "_law_many"]) fun _ _ _ _ _ _ us hl => match us, hl with | [_, _], _ => rfl
  have m14 := PySem.W.mg_of X G a14
  have F15 := fun_mk (st := sIs) l15 c15 k15
  have b15 := F15.binds (ps := ["_law_told", "_law_due"]) fun _ _ _ _ _ _ us hl => match us, hl with | [_, _], _ => rfl
  have m15 := PySem.W.mg_of X G a15
  have F16 := fun_mk (st := sParents) l16 c16 k16
  have b16 := F16.binds (ps := ["_law_hand_here", "_law_many", "_law_most"]) fun _ _ _ _ _ _ us hl => match us, hl with | [_, _, _], _ => rfl
  have m16 := PySem.W.mg_of X G a16
  have F17 := fun_mk (st := sSheet) l17 c17 k17
  have b17 := F17.binds (ps := ["_law_parents_here"]) fun _ _ _ _ _ _ us hl => match us, hl with | [_], _ => rfl
  have m17 := PySem.W.mg_of X G a17
  have F18 := fun_mk (st := sDealt) l18 c18 k18
  have b18 := F18.binds (ps := ["_law_hand_here", "_law_sheet_here"]) fun _ _ _ _ _ _ us hl => match us, hl with | [_, _], _ => rfl
  have m18 := PySem.W.mg_of X G a18
  have F19 := fun_mk (st := sRight) l19 c19 k19
  have b19 := F19.binds (ps := ["_law_hand_here", "_law_sheet_here"]) fun _ _ _ _ _ _ us hl => match us, hl with | [_, _], _ => rfl
  have m19 := PySem.W.mg_of X G a19
  have F20 := fun_mk (st := sAny) l20 c20 k20
  have b20 := F20.binds (ps := ["_law_hand_here", "_law_many"]) fun _ _ _ _ _ _ us hl => match us, hl with | [_, _], _ => rfl
  have m20 := PySem.W.mg_of X G a20
  have F21 := fun_mk (st := sSaid) l21 c21 k21
  have b21 := F21.binds (ps := ["_law_scheme", "_law_x", "_law_p"]) fun _ _ _ _ _ _ us hl => match us, hl with | [_, _, _], _ => rfl
  have m21 := PySem.W.mg_of X G a21
  have F22 := fun_mk (st := sBent) l22 c22 k22
  have b22 := F22.binds (ps := ["_law_hand_here", "_law_scheme"]) fun _ _ _ _ _ _ us hl => match us, hl with | [_, _], _ => rfl
  have m22 := PySem.W.mg_of X G a22
  have F23 := fun_mk (st := sLaw) l23 c23 k23
  have q_isinstance := PySem.W.mg_none_of X G z_isinstance
  have q_int := PySem.W.mg_none_of X G z_int
  have q_bool := PySem.W.mg_none_of X G z_bool
  have q_tuple := PySem.W.mg_none_of X G z_tuple
  have q_list := PySem.W.mg_none_of X G z_list
  have q_len := PySem.W.mg_none_of X G z_len
  have q_all := PySem.W.mg_none_of X G z_all
  have q_range := PySem.W.mg_none_of X G z_range
  have q_sorted := PySem.W.mg_none_of X G z_sorted
  have q_set := PySem.W.mg_none_of X G z_set
  have q_enumerate := PySem.W.mg_none_of X G z_enumerate
  have q_zip := PySem.W.mg_none_of X G z_zip
  have q_min := PySem.W.mg_none_of X G z_min
  have q_abs := PySem.W.mg_none_of X G z_abs
  have q_repr := PySem.W.mg_none_of X G z_repr
  refine ⟨PySem.W.fnOf "law" "law" (defArgs sLaw) (defBody sLaw) (defScope sLaw) .none kV23 dc23 pm23 an23 cd23 ct23, fun s v => .of_eq rfl, fun base _ _ => ?_⟩
  have P0 : FnOk l.prog w K mg base CX0 1 f0 _ ["thing"] spInt := ok_int F0 q_isinstance q_int q_bool
  have P1 : FnOk l.prog w K mg base CX0 2 f1 _ ["thing", "least", "most"] spWithin := ok_within F1 P0 b0 F0.kp m0
  have P2 : FnOk l.prog w K mg base CX0 1 f2 _ ["thing"] spTriple := ok_triple F2 q_isinstance q_tuple q_len
  have P3 : FnOk l.prog w K mg base CX0 3 f3 _ ["thing", "many"] spChkKind := ok_chkkind F3 P1 b1 F1.kp m1
  have P4 : FnOk l.prog w K mg base CX0 2 f4 _ ["thing"] spGiven := ok_given F4 P2 b2 F2.kp m2 P0 b0 F0.kp m0 q_isinstance q_tuple q_all
  have P5 : FnOk l.prog w K mg base CX0 3 f5 _ ["thing"] spForm := ok_form F5 P4 b4 F4.kp m4 q_isinstance q_tuple q_all
  have P6 : FnOk l.prog w K mg base CX0 4 f6 _ ["thing"] spChkSch := ok_chksch F6 P5 b5 F5.kp m5
  have P7 : FnOk l.prog w K mg base CX0 1 f7 _ ["scheme", "x", "p"] spTold := ok_told F7 q_len
  have P21 : FnOk l.prog w K mg base CX0 1 f21 _ ["_law_scheme", "_law_x", "_law_p"] spTold := ok_said F21 q_len
  have P8 : FnOk l.prog w K mg base CX0 5 f8 _ ["scheme", "some"] spChkKinds := ok_chkkinds F8 P6 b6 F6.kp m6 (P3.mono (by decide)) b3 F3.kp m3 q_len
  have P9 : FnOk l.prog w K mg base CX0 2 f9 _ ["scheme", "some"] spToldLot := ok_toldlot F9 P7 b7 F7.kp m7 q_len q_range q_all q_tuple
  have P10 : FnOk l.prog w K mg base CX0 6 f10 _ ["scheme", "x"] spLotOf := ok_lotof F10 P8 b8 F8.kp m8 (P9.mono (by decide)) b9 F9.kp m9
  have P11 : FnOk l.prog w K mg base CX0 6 f11 _ ["scheme", "x", "y"] spCommon := ok_common F11 P8 b8 F8.kp m8 (P9.mono (by decide)) b9 F9.kp m9
  have P12 : FnOk l.prog w K mg base CX0 6 f12 _ ["scheme", "x", "y"] spMeet := ok_meet F12 P8 b8 F8.kp m8 q_tuple q_min q_zip
  have P15 : FnOk l.prog w K mg base CX0 2 f15 _ ["_law_told", "_law_due"] spIs1 := ok_is1 F15 b15 m15 q_isinstance q_tuple q_list q_bool q_len q_all q_zip
  have P13 : FnOk l.prog w K mg base CX0 1 f13 _ ["_law_script"] (spHand K) := ok_hand F13 q_abs q_int q_len
  have P14 : FnOk l.prog w K mg base CX0 1 f14 _ ["_law_hand_here", "_law_many"] spDraw := ok_draw F14 q_int q_len
  have P20 : FnOk l.prog w K mg base CX0 2 f20 _ ["_law_hand_here", "_law_many"] spAny := ok_any F20 P14 b14 F14.kp m14 q_tuple q_range
  have P22 : FnOk l.prog w K mg base CX0 2 f22 _ ["_law_hand_here", "_law_scheme"] spBent := ok_bent F22 P14 b14 F14.kp m14 q_len
  have P16 : FnOk l.prog w K mg base CX0 2 f16 _ ["_law_hand_here", "_law_many", "_law_most"] spParents := ok_parents F16 P14 b14 F14.kp m14 q_tuple q_range q_sorted q_set
  have P17 : FnOk l.prog w K mg base CX0 1 f17 _ ["_law_parents_here"] spSheet := ok_sheet F17 q_tuple q_list q_enumerate q_sorted q_set
  have P18 : FnOk l.prog w K mg base CX0 2 f18 _ ["_law_hand_here", "_law_sheet_here"] spDealt := ok_dealt F18 P14 b14 F14.kp m14 q_range q_len
  have P19 : FnOk l.prog w K mg base CX0 3 f19 _ ["_law_hand_here", "_law_sheet_here"] spRight := ok_right F19 (P14.mono (by decide)) b14 F14.kp m14 P18 b18 F18.kp m18 q_range q_len q_enumerate q_tuple
  exact ok_law F23 ⟨P13.mono (by decide), b13, F13.kp, m13⟩ ⟨P14.mono (by decide), b14, F14.kp, m14⟩ ⟨P20.mono (by decide), b20, F20.kp, m20⟩ ⟨P22.mono (by decide), b22, F22.kp, m22⟩ ⟨P19.mono (by decide), b19, F19.kp, m19⟩ ⟨P17.mono (by decide), b17, F17.kp, m17⟩ ⟨P16.mono (by decide), b16, F16.kp, m16⟩ ⟨P15.mono (by decide), b15, F15.kp, m15⟩ ⟨P10.mono (by decide), b10, F10.kp, m10⟩ ⟨P11.mono (by decide), b11, F11.kp, m11⟩ ⟨P12.mono (by decide), b12, F12.kp, m12⟩ ⟨P21.mono (by decide), b21, F21.kp, m21⟩ q_range q_tuple q_repr q_zip q_min
end K50
open PyProof.Rows PySem PySem.W
set_option maxHeartbeats 0 in
theorem PySem.Challenge.cw_latekinds_k50_whole_what_any_rows_tell_holds : PySem.Challenge.rw_latekinds_k50_whole_what_any_rows_tell.Holds := by
  w_on; o_law; k_head
  (case hw => w_witness2)
  k_fill
  refine K50.walk_at (l := PySem.Challenge.rw_latekinds_k50_whole_what_any_rows_tell) (sp := K50.spLaw) (x := "_law_script") rfl rfl (fun w h Y => PySem.W.kIn_of Y) ?F (fun K H a ns hl hS => ⟨a, ns, rfl, hS, hl, fun _ => rfl⟩)
  case F =>
    intro w mg fa h KX G hmg
    refine' K50.all_mk KX G hmg ?a0 ?l0 ?c0 ?k0 ?a1 ?l1 ?c1 ?k1 ?a2 ?l2 ?c2 ?k2 ?a3 ?l3 ?c3 ?k3 ?a4 ?l4 ?c4 ?k4 ?a5 ?l5 ?c5 ?k5 ?a6 ?l6 ?c6 ?k6 ?a7 ?l7 ?c7 ?k7 ?a8 ?l8 ?c8 ?k8 ?a9 ?l9 ?c9 ?k9 ?a10 ?l10 ?c10 ?k10 ?a11 ?l11 ?c11 ?k11 ?a12 ?l12 ?c12 ?k12 ?a13 ?l13 ?c13 ?k13 ?a14 ?l14 ?c14 ?k14 ?a15 ?l15 ?c15 ?k15 ?a16 ?l16 ?c16 ?k16 ?a17 ?l17 ?c17 ?k17 ?a18 ?l18 ?c18 ?k18 ?a19 ?l19 ?c19 ?k19 ?a20 ?l20 ?c20 ?k20 ?a21 ?l21 ?c21 ?k21 ?a22 ?l22 ?c22 ?k22 ?a23 ?l23 ?c23 ?k23 ?z_isinstance ?z_int ?z_bool ?z_tuple ?z_list ?z_len ?z_all ?z_range ?z_sorted ?z_set ?z_enumerate ?z_zip ?z_min ?z_abs ?z_repr
    (case a0 => k_is); (case l0 => k_is); (case c0 => k_is); (case k0 => k_is); (case a1 => k_is); (case l1 => k_is); (case c1 => k_is); (case k1 => k_is)
    (case a2 => k_is); (case l2 => k_is); (case c2 => k_is); (case k2 => k_is); (case a3 => k_is); (case l3 => k_is); (case c3 => k_is); (case k3 => k_is)
    (case a4 => k_is); (case l4 => k_is); (case c4 => k_is); (case k4 => k_is); (case a5 => k_is); (case l5 => k_is); (case c5 => k_is); (case k5 => k_is)
    (case a6 => k_is); (case l6 => k_is); (case c6 => k_is); (case k6 => k_is); (case a7 => k_is); (case l7 => k_is); (case c7 => k_is); (case k7 => k_is)
    (case a8 => k_is); (case l8 => k_is); (case c8 => k_is); (case k8 => k_is); (case a9 => k_is); (case l9 => k_is); (case c9 => k_is); (case k9 => k_is)
    (case a10 => k_is); (case l10 => k_is); (case c10 => k_is); (case k10 => k_is); (case a11 => k_is); (case l11 => k_is); (case c11 => k_is); (case k11 => k_is)
    (case a12 => k_is); (case l12 => k_is); (case c12 => k_is); (case k12 => k_is); (case a13 => k_is); (case l13 => k_is); (case c13 => k_is); (case k13 => k_is)
    (case a14 => k_is); (case l14 => k_is); (case c14 => k_is); (case k14 => k_is); (case a15 => k_is); (case l15 => k_is); (case c15 => k_is); (case k15 => k_is)
    (case a16 => k_is); (case l16 => k_is); (case c16 => k_is); (case k16 => k_is); (case a17 => k_is); (case l17 => k_is); (case c17 => k_is); (case k17 => k_is)
    (case a18 => k_is); (case l18 => k_is); (case c18 => k_is); (case k18 => k_is); (case a19 => k_is); (case l19 => k_is); (case c19 => k_is); (case k19 => k_is)
    (case a20 => k_is); (case l20 => k_is); (case c20 => k_is); (case k20 => k_is); (case a21 => k_is); (case l21 => k_is); (case c21 => k_is); (case k21 => k_is)
    (case a22 => k_is); (case l22 => k_is); (case c22 => k_is); (case k22 => k_is); (case a23 => k_is); (case l23 => k_is); (case c23 => k_is); (case k23 => k_is)
    (case z_isinstance => k_is); (case z_int => k_is); (case z_bool => k_is); (case z_tuple => k_is); (case z_list => k_is); (case z_len => k_is); (case z_all => k_is); (case z_range => k_is)
    (case z_sorted => k_is); (case z_set => k_is); (case z_enumerate => k_is); (case z_zip => k_is); (case z_min => k_is); (case z_abs => k_is); (case z_repr => k_is)
