import PyProof.Rows.All
import Wide.All
import OpenK.AllK
import Wide.FinOn
import HandS.ForMost
import HandS.ForSpec
import HandS.More
import HandS.Wide
import HandS.Codes
import HandS.Walk
import Lean
import KE.KStateDown
import HandS.Defaults
import HandS.MakeKwOnly
import HandS.Property
import HandS.Head0
import HandS.Head1
import HandS.Head2
import HandS.HeadEnd
import HandS.HeadHook1
import HandS.HeadHook2
import HandS.HeadHook3
import HandS.SlotsOwn
import HandS.DictComp
import HandS.ExcIs
import HandS.IsInst
import KE.KOpsOwn
import HandS.GenOver
import HandS.GenList
import PyProof.DictUpdate
import HandS.MakeKw
import PyProof.ZipIter
import HandS.Zip0
import HandS.DeepEq
import PyProof.NeKinds
import OpenK.KMeth
import PySem.Challenge.RW_stickymarks_k53_menu_of_any_options
import HandS.Rev
set_option Elab.async false
set_option linter.all false
set_option maxRecDepth 100000
set_option maxHeartbeats 4000000
namespace Sm
open PySem PySem.Spec PyProof.Rows L2
/-! ### what changes and what stays -/
structure Chg (S : List Addr) (H H' : Hp) : Prop where
  keep : ∀ b o, H b = some o → b ∉ S → H' b = some o
  there : ∀ b, H' b = none → H b = none
section
variable {S S' : List Addr} {H H1 H2 H' : Hp} {a b p : Addr} {o u : HO} {K : PySem.W.Frag} {xs : List V}
theorem Chg.refl : Chg S H H := ⟨fun _ _ h _ => h, fun _ h => h⟩
theorem Chg.trans (c : Chg S H H1) (d : Chg S H1 H2) : Chg S H H2 := ⟨fun b o h n => d.keep b o (c.keep b o h n) n, fun b h => c.there b (d.there b h)⟩
theorem Chg.sub (c : Chg S H H1) (h : ∀ x ∈ S, x ∈ S') : Chg S' H H1 := ⟨fun b o e n => c.keep b o e fun z => n (h b z), c.there⟩
theorem Chg.up (c : Chg [] H H1) : Chg S H H1 := c.sub (fun _ z => nomatch z)
theorem Chg.new (h : H p = none) : Chg S H (upd H p o) := ⟨fun b u e _ => by rw [upd_ne (ne_of_none e h)]; exact e, fun b e => by
  by_cases z : b = p
  · rw [z, upd_same] at e; cases e
  · rw [upd_ne z] at e; exact e⟩
theorem Chg.set (h : H p = some u) (hm : p ∈ S) : Chg S H (upd H p o) := ⟨fun b v e n => by rw [upd_ne (fun z => n (by rw [z]; exact hm))]; exact e, fun b e => by
  by_cases z : b = p
  · rw [z, upd_same] at e; cases e
  · rw [upd_ne z] at e; exact e⟩
/-- what was not there may be changed -/
theorem Chg.drop (c : Chg (p :: S) H H1) (h : H p = none) : Chg S H H1 := ⟨fun b o e n => c.keep b o e fun z => by
  rcases List.mem_cons.mp z with z | z
  · rw [z, h] at e; cases e
  · exact n z, c.there⟩
theorem Chg.fresh (c : Chg S H H1) (h : H1 p = none) : H p = none := c.there p h
theorem Chg.at (c : Chg [] H H1) (h : H b = some o) : H1 b = some o := c.keep b o h (fun z => nomatch z)
theorem Chg.at1 (c : Chg [a] H H1) (h : H b = some o) (n : b ≠ a) : H1 b = some o := c.keep b o h (fun z => n (List.mem_singleton.mp z))
theorem Rd.chg (c : Chg S H H1) (h : Rd H b o) (n : b ∉ S) : Rd H1 b o := by
  rcases h with h | ⟨u, h⟩
  · exact .inl (c.keep _ _ h n)
  · exact .inr ⟨u, c.keep _ _ h n⟩
theorem SqL.chg (c : Chg S H H1) (h : SqL K H b xs) (n : b ∉ S) : SqL K H1 b xs := by
  rcases h with h | h
  · exact .inl (Rd.chg c h n)
  · exact .inr h
theorem SqT.chg (c : Chg S H H1) (h : SqT K H b xs) (n : b ∉ S) : SqT K H1 b xs := by
  rcases h with h | h
  · exact .inl (Rd.chg c h n)
  · exact .inr h
theorem sqL (h : H b = some (.lst xs)) : SqL K H b xs := .inl (.inl h)
theorem sqT (h : H b = some (.tup xs)) : SqT K H b xs := .inl (.inl h)
theorem nm0 : b ∉ ([] : List Addr) := fun z => nomatch z
theorem nm1 (h : b ≠ a) : b ∉ [a] := fun z => h (List.mem_singleton.mp z)
end
section
variable {S : List Addr} {H0 H H' : Hp} {p : Addr} {o u : HO}
theorem laid (e : upd H p o = H') (c : Chg S H0 H) (h : H p = none) : H' p = some o ∧ Chg [] H H' ∧ Chg S H0 H' ∧ H0 p = none := by
  subst e; exact ⟨upd_same, Chg.new h, c.trans (Chg.new h), c.fresh h⟩
theorem put (e : upd H p o = H') (h : H p = some u) : H' p = some o ∧ Chg [p] H H' := by
  subst e; exact ⟨upd_same, Chg.set h (List.mem_singleton.mpr rfl)⟩
/-- a new object may be changed -/
theorem Chg.then {H1 : Hp} (c : Chg S H0 H) (d : Chg [p] H H1) (n : H0 p = none) : Chg S H0 H1 := ⟨fun b x e nb => d.keep b x (c.keep b x e nb) (nm1 (ne_of_none e n)), fun b e => c.there b (d.there b e)⟩
end
/-! ### the reading, a word at a time -/
section
variable {σ : L2.St} {H : Hp} {Q : VK} {v x y : V} {i j : Int} {D : Ends} {te ta tb : TE} {tc : TT} {t u : TS} {g : TG} {tr : TA} {K : PySem.W.Frag}
theorem r_seq (h : t { D with nx := u D } σ H) : tSeq t u D σ H := h
theorem r_asg (h : te σ H fun x H1 => g x σ H1 D.nx) : tAsg te g D σ H := h
theorem r_gname {k : Nat} {Q : L2.St → Hp → Prop} (h : Q (σ.set k (some v)) H) : gName k v σ H Q := h
theorem r_var {k : Nat} (e : σ[k]? = some (some v)) (h : Q v H) : tVar k σ H Q := ⟨v, e, h⟩
theorem r_c (h : Q v H) : tC v σ H Q := h
theorem r_ret (h : te σ H D.rt) : tRet te D σ H := h
theorem r_retN (h : D.rt .non H) : tRetN D σ H := h
theorem r_drop (h : te σ H fun _ H1 => D.nx σ H1) : tDrop te D σ H := h
theorem r_next (h : D.nx σ H) : tNext D σ H := h
theorem r_ifs (h : tc σ H fun b H1 => if b = true then t D σ H1 else u D σ H1) : tIfS tc t u D σ H := h
theorem r_op {r : R2} (h : ta σ H fun x H1 => tb σ H1 fun y H2 => r x y H2 Q) : tOp r ta tb σ H Q := h
theorem r_rI0 {f : Int → Int → V} (h : Q (f i j) H) : rI0 f (.int i) (.int j) H Q := ⟨i, j, rfl, rfl, h⟩
theorem r_rI {C : Int → Int → Prop} {f : Int → Int → V} (c : C i j) (h : Q (f i j) H) : rI C f (.int i) (.int j) H Q := ⟨i, j, rfl, rfl, c, h⟩
theorem r_rEq (s : scal x y = true) (h : Q (.bl (decide (x = y))) H) : rEq x y H Q := ⟨s, h⟩
theorem r_rNe (s : scal x y = true) (h : Q (.bl (!decide (x = y))) H) : rNe x y H Q := ⟨s, h⟩
theorem r_test {R : Bool → Hp → Prop} (h : te σ H fun x H' => ∃ k, x = .bl k ∧ R k H') : tTest te σ H R := h
theorem r_tb {R : Bool → Hp → Prop} (h : te σ H fun x H' => ∃ k, x = .bl k ∧ R k H') : tB te σ H R := h
theorem r_isb {b : Bool} {R : Bool → Hp → Prop} (h : R b H) : ∃ k, V.bl b = .bl k ∧ R k H := ⟨b, rfl, h⟩
theorem r_nil {R : List V → Hp → Prop} (h : R [] H) : tNil σ H R := h
theorem r_cons {R : List V → Hp → Prop} (h : ta σ H fun x H1 => tr σ H1 fun xs H2 => R (x :: xs) H2) : tCons ta tr σ H R := h
theorem r_cb {r : List V → Hp → VK → Prop} (h : tr σ H fun vs H1 => r vs H1 Q) : tCB r tr σ H Q := h
theorem r_call {sp : Sp} {dvs : List V} {E : XK} (h : tr σ H fun vs H1 => sp (vs ++ dvs) H1 Q E) : tCall sp dvs E tr σ H Q := h
theorem r_not {tt : TT} {R : Bool → Hp → Prop} (h : tt σ H fun c H1 => R (!c) H1) : tNot tt σ H R := h
theorem r_and {tt t2 : TT} {R : Bool → Hp → Prop} (h : tt σ H fun c H1 => if c = true then t2 σ H1 R else R false H1) : tAnd tt t2 σ H R := h
theorem r_or {tt t2 : TT} {R : Bool → Hp → Prop} (h : tt σ H fun c H1 => if c = true then R true H1 else t2 σ H1 R) : tOr tt t2 σ H R := h
theorem r_lst (h : tr σ H fun xs H1 => xs.length ≤ sizeLine ∧ ∀ p, H1 p = none → Q (.ref p) (upd H1 p (.lst xs))) : tLst tr σ H Q := h
theorem r_tup (h : tr σ H fun xs H1 => xs.length ≤ sizeLine ∧ ∀ p, H1 p = none → Q (.ref p) (upd H1 p (.tup xs))) : tTup tr σ H Q := h
theorem r_ite {c A B : Prop} {_ : Decidable c} (h1 : c → A) (h2 : ¬ c → B) : if decide c = true then A else B := by
  by_cases h : c
  · rw [decide_eq_true h, if_pos rfl]; exact h1 h
  · rw [decide_eq_false h, if_neg Bool.false_ne_true]; exact h2 h
theorem r_iteN {c A B : Prop} {_ : Decidable c} (h1 : ¬ c → A) (h2 : c → B) : if (!decide c) = true then A else B := by
  by_cases h : c
  · rw [decide_eq_true h]; exact h2 h
  · rw [decide_eq_false h]; exact h1 h
theorem r_iteB {c : Bool} {A B : Prop} (h1 : c = true → A) (h2 : c = false → B) : if c = true then A else B := by
  cases c with
  | true => exact h1 rfl
  | false => exact h2 rfl
theorem r_int1 (h : Q (.int i) H) : (∃ i', [V.int i] = [.int i'] ∧ Q (.int i') H) ∨ ∃ k, [V.int i] = [.bl k] ∧ Q (.int (if k then 1 else 0)) H := .inl ⟨i, rfl, h⟩
theorem r_lenL {p : Addr} {ys : List V} (e : SqL K H p ys) (h : Q (.int ys.length) H) : ∃ p' ys', [V.ref p] = [.ref p'] ∧ (SqL K H p' ys' ∨ SqT K H p' ys') ∧ Q (.int ys'.length) H := ⟨p, ys, rfl, .inl e, h⟩
theorem r_lenT {p : Addr} {ys : List V} (e : SqT K H p ys) (h : Q (.int ys.length) H) : ∃ p' ys', [V.ref p] = [.ref p'] ∧ (SqL K H p' ys' ∨ SqT K H p' ys') ∧ Q (.int ys'.length) H := ⟨p, ys, rfl, .inr e, h⟩
theorem r_ixL {p : Addr} {xs : List V} (e : SqL K H p xs) (a : atI xs i = some v) (h : Q v H) : rIxL K (.ref p) (.int i) H Q := ⟨p, xs, i, v, rfl, rfl, e, a, h⟩
theorem r_ixT {p : Addr} {xs : List V} (e : SqT K H p xs) (a : atI xs i = some v) (h : Q v H) : rIxT K (.ref p) (.int i) H Q := ⟨p, xs, i, v, rfl, rfl, e, a, h⟩
theorem r_dget {td ty : TE} (h : td σ H fun x H1 => ty σ H1 fun y H2 => ∃ a v, x = .ref a ∧ DGet H2 a y (some v) ∧ Q v H2) : tDGet td ty σ H Q := h
theorem r_dput {td ty tv : TE} (h : tv σ H fun v H1 => td σ H1 fun x H2 => ty σ H2 fun y H3 => ∃ a H4, x = .ref a ∧ DPut H3 a y v H4 ∧ D.nx σ H4) : sDPut td ty tv D σ H := h
theorem r_for {wi : TI} {g : TG} {tb : TS} (h : wi σ H fun J H1 => ∃ W : Nat → Nat → L2.St → Hp → Prop, (∃ m, W 0 m σ H1) ∧ ∀ i m σ H, W i m σ H →
  (J.stop i H ∧ D.nx σ H) ∨ (J.go i H ∧ ∃ N : L2.St → Hp → Prop, (∀ σ' H', N σ' H' → ∃ m', m' < m ∧ W (i + 1) m' σ' H') ∧ ∀ x H', J.yld i H x H' → g x σ H' fun σ2 H2 => tb { D with nx := N, ct := N, bk := D.nx } σ2 H2)) : tFor wi g tb D σ H := h
theorem r_rng1 {R : It → Hp → Prop} (h : tr σ H fun vs H1 => ∃ j : Int, vs = [.int j] ∧ -(2 ^ 62) ≤ j ∧ j < 2 ^ 62 ∧ R (Itr 0 j.toNat) H1) : iRng1 tr σ H R := h
theorem r_rng2 {R : It → Hp → Prop} (h : tr σ H fun vs H1 => ∃ i j : Int, vs = [.int i, .int j] ∧ (-(2 ^ 62) ≤ i ∧ i < 2 ^ 62 ∧ -(2 ^ 62) ≤ j ∧ j < 2 ^ 62) ∧ R (Itr i (j - i).toNat) H1) : iRng2 tr σ H R := h
theorem r_ilist {R : It → Hp → Prop} (h : te σ H fun x H1 => ∃ a, x = .ref a ∧ (∃ xs, SqL K H1 a xs) ∧ R (Itl K a) H1) : iList K te σ H R := h
theorem r_itup {R : It → Hp → Prop} (h : te σ H fun x H1 => ∃ a, x = .ref a ∧ (∃ xs, SqT K H1 a xs) ∧ R (Itt K a) H1) : iTup K te σ H R := h
theorem r_m0 {r : V → List V → Hp → VK → Prop} (h : te σ H fun x H1 => (∃ a, x = .str a) ∧ r x [] H1 Q) : tM0 r te σ H Q := h
theorem r_m1 {r : V → List V → Hp → VK → Prop} (h : ta σ H fun x H1 => (∃ a, x = .str a) ∧ te σ H1 fun y H2 => r x [y] H2 Q) : tM1 r ta te σ H Q := h
theorem r_isStr {s : Str} {A : Prop} (h : A) : (∃ a, V.str s = .str a) ∧ A := ⟨⟨s, rfl⟩, h⟩
theorem r_newS {ys : List Str} (h : ∀ p, H p = none → Q (.ref p) (upd H p (.lst (ys.map V.str)))) : rNewStrs ys H Q := h
theorem r_fld {f : Str} (h : te σ H fun x H1 => ∃ a C dx fs v, x = .ref a ∧ H1 a = some (.ins C dx fs) ∧ Cls K C ∧ NoAttr K C f ∧ fs.lookup f = some v ∧ Q v H1) : tFld K te f σ H Q := h
theorem r_bm {T : String} {r : V → List V → Hp → VK → Prop} (h : te σ H fun x H1 => tyV K T x H1 ∧ tr σ H1 fun xs H2 => r x xs H2 Q) : tBM K T r te tr σ H Q := h
theorem r_bm0 {T : String} {r : V → List V → Hp → VK → Prop} (h : te σ H fun x H1 => tyV K T x H1 ∧ r x [] H1 Q) : tBM0 K T r te σ H Q := h
theorem r_sl {r : V → Option Int → Option Int → Hp → VK → Prop} {tl th : TO} (h : te σ H fun x H1 => tl σ H1 fun l H2 => th σ H2 fun u H3 => r x l u H3 Q) : tSl r te tl th σ H Q := h
theorem r_nopart {R : Option Int → Hp → Prop} (h : R none H) : tNoPart σ H R := h
theorem r_part {R : Option Int → Hp → Prop} (h : te σ H fun x H1 => ∃ i, x = .int i ∧ R (some i) H1) : tPart te σ H R := h
theorem r_disp {trs : List (TE × TE)} (h : ∀ p, H p = none → tPairs trs σ (upd H p (.dK [])) fun ps H2 => H2 p = some (.dK []) ∧ ∃ kvs : List (Key × V), ps = kvs.map (fun kv => (kV kv.1, kv.2)) ∧ kvs.length ≤ 15 ∧ Q (.ref p) (upd H2 p (.dK (mergeK [] kvs)))) : tDisp trs σ H Q := h
theorem r_pcons {tk tv : TE} {r : List (TE × TE)} {R : List (V × V) → Hp → Prop} (h : tk σ H fun x H1 => tv σ H1 fun y H2 => tPairs r σ H2 fun ps H3 => R ((x, y) :: ps) H3) : tPairs ((tk, tv) :: r) σ H R := h
theorem r_pnil {R : List (V × V) → Hp → Prop} (h : R [] H) : tPairs [] σ H R := h
theorem r_dget2 {td ty tx : TE} (h : td σ H fun x H1 => ∃ a, x = .ref a ∧ IsD H1 a ∧ ty σ H1 fun y H2 => tx σ H2 fun z H3 => ∃ o, DGet H3 a y o ∧ Q (o.getD z) H3) : tDGet2 td ty tx σ H Q := h
theorem r_dget1 {td ty : TE} (h : td σ H fun x H1 => ∃ a, x = .ref a ∧ IsD H1 a ∧ ty σ H1 fun y H2 => ∃ o, DGet H2 a y o ∧ Q (o.getD .non) H2) : tDGet1 td ty σ H Q := h
theorem isD {a' : Addr} {kvs : List (Key × V)} (e : H a' = some (.dK kvs)) : IsD H a' := .inl ⟨kvs, .inl e⟩
theorem r_lc {wi : TI} {g : TG} {tt : TT} {vs : List Nat} (h : wi σ H fun J H1 => ∀ D, H1 D = none → ∃ W : Nat → Nat → Hp → Prop, (∃ m, W 0 m (upd H1 D (.lst []))) ∧ ∀ i m H, W i m H → (J.stop i H ∧ Q (.ref D) H) ∨ (J.go i H ∧ ∃ Nx : Hp → Prop, (∀ H', Nx H' → ∃ m', m' < m ∧ W (i + 1) m' H') ∧
  ∀ x H', J.yld i H x H' → g x (wipe σ vs) H' fun σ2 H2 => wipe σ2 vs = wipe σ vs ∧ tt σ2 H2 fun b H3 => if b = true then te σ2 H3 fun y H4 => ∃ acc, H4 D = some (.lst acc) ∧ acc.length < sizeLine ∧ Nx (upd H4 D (.lst (acc ++ [y]))) else Nx H3)) : tLc wi g tt te vs σ H Q := h
theorem r_yes {R : Bool → Hp → Prop} (h : R true H) : tYes σ H R := h
theorem r_un {r : V → Hp → VK → Prop} (h : te σ H fun x H1 => r x H1 Q) : tUn r te σ H Q := h
theorem r_rU {f : Int → V} (h : Q (f i) H) : rU f (.int i) H Q := ⟨i, rfl, h⟩
theorem r_andV (h : ta σ H fun x H1 => ∃ c, x = .bl c ∧ if c = true then tb σ H1 Q else Q (.bl false) H1) : tAndV ta tb σ H Q := h
theorem r_orV (h : ta σ H fun x H1 => ∃ c, x = .bl c ∧ if c = true then Q (.bl true) H1 else tb σ H1 Q) : tOrV ta tb σ H Q := h
theorem r_notV (h : ta σ H fun x H1 => ∃ c, x = .bl c ∧ Q (.bl (!c)) H1) : tNotV ta σ H Q := h
theorem r_rAppend {l : Addr} {xs : List V} (e : H l = some (.lst xs)) (z : xs.length < sizeLine) (h : Q .non (upd H l (.lst (xs ++ [y])))) : rAppend (.ref l) [y] H Q := ⟨l, xs, y, rfl, rfl, e, z, h⟩
theorem r_dnewK (h : ∀ p, H p = none → Q (.ref p) (upd H p (.dK []))) : tDNewK σ H Q := h
theorem strs_at {ys : List Str} {n : Nat} {x : Str} (h : ys[n]? = some x) : (ys.map V.str)[n]? = some (.str x) := by rw [List.getElem?_map, h]; rfl
theorem ints_at {ys : List Int} {n : Nat} {x : Int} (h : ys[n]? = some x) : (ys.map V.int)[n]? = some (.int x) := by rw [List.getElem?_map, h]; rfl
theorem mod_at {α : Type} {ys : List α} {m : Int} (k : Int) (h : (ys.length : Int) = m) (h0 : 0 < m) : ∃ n y, (k % m) = ((n : Nat) : Int) ∧ n < ys.length ∧ ys[n]? = some y := by
  have a := Int.emod_nonneg k (show m ≠ 0 by omega)
  have b := Int.emod_lt_of_pos k h0
  have e : (((k % m).toNat : Nat) : Int) = k % m := Int.toNat_of_nonneg a
  have l : (k % m).toNat < ys.length := by omega
  exact ⟨(k % m).toNat, ys[(k % m).toNat], e.symm, l, List.getElem?_eq_getElem l⟩
theorem atI_ofNat {xs : List V} {n : Nat} (h : xs[n]? = some v) : atI xs (n : Int) = some v := by
  have hl : n < xs.length := (List.getElem?_eq_some_iff.mp h).1
  unfold atI ixN
  rw [if_pos (Int.natCast_nonneg n), if_pos (by omega), Option.bind_some, Int.toNat_natCast]
  exact h
theorem atI_of {xs : List V} {k : Int} (h0 : 0 ≤ k) (h : xs[k.toNat]? = some v) : atI xs k = some v := by
  have e : ((k.toNat : Nat) : Int) = k := Int.toNat_of_nonneg h0
  rw [← e]
  exact atI_ofNat h
end
end Sm
set_option maxHeartbeats 4000000
namespace Sm
open PySem PySem.Spec PyProof.Rows L2
/-! ### books as lists of ten choices -/
def entriesL : List Str := ["work", "write", "meet", "test", "partly", "value", "path", "loop", "guard", "call"]
def choicesL : List (List Str) := [["drop", "left", "short", "join"], ["raise", "partly", "skip", "stop"], ["leave", "raise"], ["ignore", "raise", "stop"], ["pass", "stop"], ["show", "blank", "skip", "stop"],
  ["show", "blank", "skip", "stop"], ["forget", "stick", "stop"], ["forget", "stick", "stop"], ["forget", "stick", "stop"]]
theorem entries_len : entriesL.length = 10 := rfl
theorem choices_len : choicesL.length = 10 := rfl
theorem entries_nd : entriesL.Nodup := by decide +kernel
/-- the choices at the i-th entry -/
def chs (i : Nat) : List Str := choicesL.getD i []
def ent (i : Nat) : Str := entriesL.getD i ""
theorem chs_at {i : Nat} (h : i < 10) : choicesL[i]? = some (chs i) := by
  unfold chs; rw [List.getD_eq_getElem?_getD, List.getElem?_eq_getElem (by rw [choices_len]; exact h)]; rfl
theorem ent_at {i : Nat} (h : i < 10) : entriesL[i]? = some (ent i) := by
  unfold ent; rw [List.getD_eq_getElem?_getD, List.getElem?_eq_getElem (by rw [entries_len]; exact h)]; rfl
theorem ent_injF : ∀ i j : Fin 10, ent i = ent j → i = j := by decide +kernel
theorem ent_inj {i j : Nat} (hi : i < 10) (hj : j < 10) (h : ent i = ent j) : i = j := congrArg Fin.val (ent_injF ⟨i, hi⟩ ⟨j, hj⟩ h)
theorem ten {P : Nat → Prop} (h0 : P 0) (h1 : P 1) (h2 : P 2) (h3 : P 3) (h4 : P 4) (h5 : P 5) (h6 : P 6) (h7 : P 7) (h8 : P 8) (h9 : P 9) : ∀ i, i < 10 → P i := fun i h => by
  rcases i with _ | _ | _ | _ | _ | _ | _ | _ | _ | _ | i
  all_goals first | assumption | omega
theorem chs_pos : ∀ i, i < 10 → 2 ≤ (chs i).length ∧ (chs i).length ≤ 4 := ten (by decide) (by decide) (by decide) (by decide) (by decide) (by decide) (by decide) (by decide) (by decide) (by decide)
/-- ten choices, each one of its entry -/
structure OkB (cs : List Str) : Prop where
  len : cs.length = 10
  ch : ∀ i c, cs[i]? = some c → c ∈ chs i
/-- the dict of a book -/
def dcs (cs : List Str) : List (Key × V) := (entriesL.zip cs).map fun p => (Sum.inr p.1, V.str p.2)
theorem dcs_len {cs : List Str} (h : cs.length = 10) : (dcs cs).length = 10 := by
  unfold dcs; rw [List.length_map, List.length_zip, h, entries_len]; rfl
theorem dcs_at {cs : List Str} {i : Nat} {c : Str} (hi : i < 10) (h : cs[i]? = some c) : (dcs cs)[i]? = some (Sum.inr (ent i), V.str c) := by
  unfold dcs
  rw [List.getElem?_map, (List.getElem?_zip_eq_some (z := (ent i, c))).mpr ⟨ent_at hi, h⟩]; rfl
theorem dcs_keys {cs : List Str} (h : cs.length = 10) : (dcs cs).map (·.1) = entriesL.map Sum.inr := by
  unfold dcs
  rw [List.map_map]
  show (entriesL.zip cs).map (fun p => (Sum.inr p.1 : Key)) = _
  have e : (entriesL.zip cs).map Prod.fst = entriesL := List.map_fst_zip (by rw [h, entries_len]; exact Nat.le_refl _)
  conv => rhs; rw [← e]
  rw [List.map_map]; rfl
theorem dcs_nd {cs : List Str} (h : cs.length = 10) : ((dcs cs).map (·.1)).Nodup := by
  rw [dcs_keys h]; decide +kernel
theorem valV_of_nd {κ : Type} [DecidableEq κ] : ∀ {kvs : List (κ × V)} {i : Nat} {k : κ} {v : V}, (kvs.map (·.1)).Nodup → kvs[i]? = some (k, v) → valV kvs k = some v
  | [], _, _, _, _, h => by simp at h
  | p :: r, 0, k, v, _, h => by
    simp at h; subst h; exact valV_pos rfl
  | p :: r, i + 1, k, v, nd, h => by
    simp only [List.map_cons, List.nodup_cons] at nd
    have h2 : r[i]? = some (k, v) := by simpa using h
    have hm : k ∈ r.map (·.1) := List.mem_map.mpr ⟨(k, v), List.mem_of_getElem? h2, rfl⟩
    rw [valV_neg fun z => nd.1 (by rw [z]; exact hm)]
    exact valV_of_nd nd.2 h2
theorem dcs_get {cs : List Str} {i : Nat} {c : Str} (hl : cs.length = 10) (hi : i < 10) (h : cs[i]? = some c) : valV (dcs cs) (Sum.inr (ent i) : Key) = some (.str c) := valV_of_nd (dcs_nd hl) (dcs_at hi h)
theorem dcs_put {cs : List Str} {i : Nat} {c : Str} (hl : cs.length = 10) (hi : i < 10) : putK (dcs cs) (Sum.inr (ent i) : Key) (.str c) = dcs (cs.set i c) := by
  have hc : i < cs.length := by omega
  have hv : valV (dcs cs) (Sum.inr (ent i) : Key) = some (.str (cs[i])) := dcs_get hl hi (List.getElem?_eq_getElem hc)
  unfold putK
  rw [valV_any, hv]
  show (if true = true then _ else _) = _
  rw [if_pos rfl]
  refine List.ext_getElem? fun j => ?_
  rw [List.getElem?_map]
  by_cases hj : j < 10
  · have hjc : j < cs.length := by omega
    rw [dcs_at hj (List.getElem?_eq_getElem hjc)]
    by_cases e : j = i
    · subst e
      rw [dcs_at hj (c := c) (by rw [List.getElem?_set_self hc])]
      show some (if (Sum.inr (ent j) : Key) = Sum.inr (ent j) then _ else _) = _
      rw [if_pos rfl]
    · rw [dcs_at hj (c := cs[j]) (by rw [List.getElem?_set_ne (Ne.symm e)]; exact List.getElem?_eq_getElem hjc)]
      show some (if (Sum.inr (ent j) : Key) = Sum.inr (ent i) then _ else _) = _
      rw [if_neg fun z => e (ent_inj hj hi (Sum.inr.inj z))]
  · rw [List.getElem?_eq_none (by rw [dcs_len hl]; omega), List.getElem?_eq_none (by rw [dcs_len (by rw [List.length_set, hl])]; omega)]
    rfl
theorem OkB.set {cs : List Str} (h : OkB cs) {i : Nat} {c : Str} (hc : c ∈ chs i) : OkB (cs.set i c) := ⟨by rw [List.length_set]; exact h.len, fun j d e => by
  by_cases z : i = j
  · subst z
    by_cases hl : i < cs.length
    · rw [List.getElem?_set_self hl] at e; cases e; exact hc
    · rw [List.getElem?_eq_none (by rw [List.length_set]; omega)] at e; cases e
  · rw [List.getElem?_set_ne z] at e; exact h.ch j d e⟩
theorem OkB.at {cs : List Str} (h : OkB cs) {i : Nat} (hi : i < 10) : ∃ c, cs[i]? = some c ∧ c ∈ chs i := ⟨cs[i]'(by rw [h.len]; exact hi), List.getElem?_eq_getElem _, h.ch i _ (List.getElem?_eq_getElem _)⟩
theorem dcs_take_put {cs : List Str} {i : Nat} {c : Str} (hl : cs.length = 10) (hi : i < 10) (h : cs[i]? = some c) : putK ((dcs cs).take i) (Sum.inr (ent i) : Key) (.str c) = (dcs cs).take (i + 1) := by
  have hv : valV ((dcs cs).take i) (Sum.inr (ent i) : Key) = none := by
    cases e : valV ((dcs cs).take i) (Sum.inr (ent i) : Key) with
    | none => rfl
    | some v =>
      have hm := valV_in e
      rw [List.map_take, dcs_keys hl] at hm
      obtain ⟨j, hj, ej⟩ := List.getElem_of_mem hm
      rw [List.length_take, List.length_map, entries_len] at hj
      have hj10 : j < 10 := by omega
      rw [List.getElem_take, List.getElem_map] at ej
      have e1 : entriesL[j]'(by rw [entries_len]; exact hj10) = ent i := Sum.inr.inj ej
      have e2 : ent j = entriesL[j]'(by rw [entries_len]; exact hj10) := by
        have := ent_at hj10
        rw [List.getElem?_eq_getElem (by rw [entries_len]; exact hj10)] at this
        exact (Option.some.inj this).symm
      have := ent_inj hj10 hi (e2.trans e1)
      omega
  rw [putK_new _ hv]
  refine List.ext_getElem? fun j => ?_
  have l1 : ((dcs cs).take i).length = i := by rw [List.length_take, dcs_len hl]; omega
  by_cases hj : j < i
  · rw [List.getElem?_append_left (by omega), List.getElem?_take_of_lt hj, List.getElem?_take_of_lt (by omega)]
  · by_cases e : j = i
    · subst e
      rw [List.getElem?_append_right (by omega), l1, Nat.sub_self, List.getElem?_take_of_lt (by omega), dcs_at hi h]; rfl
    · rw [List.getElem?_eq_none (by rw [List.length_append, l1]; show i + 1 ≤ j; omega), List.getElem?_eq_none (by rw [List.length_take]; omega)]
def okB (cs : List Str) : Bool := decide (cs.length = 10) && (List.range 10).all fun i => (cs[i]?).all fun c => decide (c ∈ chs i)
theorem OkB.of {cs : List Str} (h : okB cs = true) : OkB cs := by
  unfold okB at h
  rw [Bool.and_eq_true, decide_eq_true_eq, List.all_eq_true] at h
  refine ⟨h.1, fun i c e => ?_⟩
  have hi : i < 10 := by rw [← h.1]; exact (List.getElem?_eq_some_iff.mp e).1
  have := h.2 i (List.mem_range.mpr hi)
  rw [e] at this
  exact of_decide_eq_true this
def basesL : List Str := ["join stop leave raise stop skip skip stick stick stick", "join partly leave raise stop stop stop stick stop stick", "join raise raise raise pass blank skip stick stick stick", "short skip leave raise pass skip skip stick stick stop", "short raise leave stop pass blank show forget forget forget",
  "short partly raise raise stop stop skip stop stick stick", "join raise leave raise pass stop stop stick stick stick", "join partly leave raise pass stop stop stop stick stick", "short partly leave raise stop skip skip stick stick stick", "join stop leave raise stop skip skip stick forget stick"]
theorem bases_ok : ∀ i, i < 10 → ∃ s : Str, basesL[i]? = some s ∧ OkB (Txt.split s " ") ∧ s.length + 2 ≤ sizeLine := by
  refine ten ?_ ?_ ?_ ?_ ?_ ?_ ?_ ?_ ?_ ?_
  all_goals exact ⟨_, rfl, OkB.of (by decide +kernel), by decide⟩
end Sm
set_option maxHeartbeats 4000000
namespace Sm
open PySem PySem.Spec PyProof.Rows L2
/-! ### menus: told choices at some entries -/
abbrev Ops := List (Nat × List Str)
structure OkOs (os : Ops) : Prop where
  nd : (os.map (·.1)).Nodup
  lt : ∀ o ∈ os, o.1 < 10
  ch : ∀ o ∈ os, ∀ c ∈ o.2, c ∈ chs o.1
  ne : ∀ o ∈ os, o.2 ≠ []
  len4 : ∀ o ∈ os, o.2.length ≤ 4
/-- the texts of the entries -/
def osN (os : Ops) : List V := os.map fun o => V.str (ent o.1)
/-- the dict of lists -/
def osD (os : Ops) (rs : List Addr) : List (Key × V) := (os.zip rs).map fun p => (Sum.inr (ent p.1.1), V.ref p.2)
def wordsV (l : List Str) : HO := .lst (l.map V.str)
structure OptsAt (H : Hp) (d : Addr) (os : Ops) (rs : List Addr) : Prop where
  len : rs.length = os.length
  d : H d = some (.dK (osD os rs))
  at_ : ∀ (j : Nat) (o : Nat × List Str) (r : Addr), os[j]? = some o → rs[j]? = some r → H r = some (wordsV o.2)
section
variable {H H' : Hp} {d : Addr} {cs : List Str} {os : Ops} {rs : List Addr}
theorem osD_len (h : rs.length = os.length) : (osD os rs).length = os.length := by
  unfold osD; rw [List.length_map, List.length_zip, h, Nat.min_self]
theorem osD_at {j : Nat} {o : Nat × List Str} {r : Addr} (ho : os[j]? = some o) (hr : rs[j]? = some r) : (osD os rs)[j]? = some (Sum.inr (ent o.1), V.ref r) := by
  unfold osD
  rw [List.getElem?_map, (List.getElem?_zip_eq_some (z := (o, r))).mpr ⟨ho, hr⟩]; rfl
theorem osD_keys (h : rs.length = os.length) : (osD os rs).map (·.1) = os.map fun o => (Sum.inr (ent o.1) : Key) := by
  unfold osD
  rw [List.map_map]
  show (os.zip rs).map (fun p => (Sum.inr (ent p.1.1) : Key)) = _
  have e : (os.zip rs).map Prod.fst = os := List.map_fst_zip (by rw [h]; exact Nat.le_refl _)
  conv => rhs; rw [← e]
  rw [List.map_map]; rfl
theorem nd_small : ∀ {l : List Nat}, l.Nodup → (∀ x ∈ l, x < 10) → l.length ≤ 10 := fun {l} h hx => by
  simpa using h.length_le_of_subset (l₂ := List.range 10) fun x hxx => List.mem_range.mpr (hx x hxx)
theorem OkOs.small (h : OkOs os) : os.length ≤ 10 := by
  have := nd_small h.nd (fun x hx => by obtain ⟨o, ho, e⟩ := List.mem_map.mp hx; subst e; exact h.lt o ho)
  rw [List.length_map] at this
  exact this
theorem OkOs.pw (h : OkOs os) : os.Pairwise fun a b => a.1 ≠ b.1 := List.pairwise_map.mp h.nd
theorem OkOs.keys (h : OkOs os) : (os.map fun o => (Sum.inr (ent o.1) : Key)).Nodup :=
  List.pairwise_map.mpr (h.pw.imp_of_mem fun ha hb hne z => hne (ent_inj (h.lt _ ha) (h.lt _ hb) (Sum.inr.inj z)))
theorem osD_get {j : Nat} {o : Nat × List Str} {r : Addr} (h : OkOs os) (hl : rs.length = os.length) (ho : os[j]? = some o) (hr : rs[j]? = some r) : valV (osD os rs) (Sum.inr (ent o.1) : Key) = some (.ref r) :=
  valV_of_nd (by rw [osD_keys hl]; exact h.keys) (osD_at ho hr)
theorem OptsAt.chg {S : List Addr} (h : OptsAt H d os rs) (c : Chg S H H') (n : d ∉ S) (nr : ∀ r ∈ rs, r ∉ S) : OptsAt H' d os rs :=
  ⟨h.len, c.keep _ _ h.d n, fun j o r e e' => c.keep _ _ (h.at_ j o r e e') (nr r (List.mem_of_getElem? e'))⟩
theorem OptsAt.chg0 (h : OptsAt H d os rs) (c : Chg [] H H') : OptsAt H' d os rs := h.chg c nm0 fun _ _ => nm0
theorem osN_at {j : Nat} {o : Nat × List Str} (h : os[j]? = some o) : (osN os)[j]? = some (.str (ent o.1)) := by unfold osN; rw [List.getElem?_map, h]; rfl
theorem osN_len : (osN os).length = os.length := by unfold osN; rw [List.length_map]
/-- the choices of a book of a number, from the last entry on -/
def pickB (o : Nat × List Str) (s : List Str × Int) : List Str × Int := (s.1.set o.1 (o.2.getD (s.2 % (o.2.length : Int)).toNat ""), s.2 / (o.2.length : Int))
def numB (os : Ops) (s : List Str × Int) : List Str × Int := os.foldr pickB s
theorem pick_at {l : List Str} (k : Int) (h : l ≠ []) : ∃ n c, k % (l.length : Int) = ((n : Nat) : Int) ∧ l[n]? = some c ∧ c ∈ l ∧ l.getD (k % (l.length : Int)).toNat "" = c := by
  have hp : 0 < (l.length : Int) := by
    have := List.length_pos_iff.mpr h
    omega
  obtain ⟨n, y, e, hn, hy⟩ := mod_at (ys := l) k rfl hp
  refine ⟨n, y, e, hy, List.mem_of_getElem? hy, ?_⟩
  rw [e, Int.toNat_natCast, List.getD_eq_getElem?_getD, hy]; rfl
theorem numB_ok {s : List Str × Int} : ∀ {os : Ops}, (∀ o ∈ os, ∀ c ∈ o.2, c ∈ chs o.1) → (∀ o ∈ os, o.2 ≠ []) → OkB s.1 → OkB (numB os s).1
  | [], _, _, h => h
  | o :: r, hc, hn, h => by
    obtain ⟨n, c, _, _, hm, e⟩ := pick_at (numB r s).2 (hn o (List.mem_cons_self ..))
    show OkB ((numB r s).1.set o.1 (o.2.getD ((numB r s).2 % (o.2.length : Int)).toNat ""))
    rw [e]
    exact (numB_ok (fun o ho => hc o (List.mem_cons_of_mem _ ho)) (fun o ho => hn o (List.mem_cons_of_mem _ ho)) h).set (hc o (List.mem_cons_self ..) c hm)
/-- the last i entries -/
theorem numB_drop {s : List Str × Int} {i : Nat} {o : Nat × List Str} (hi : i < os.length) (h : os[os.length - 1 - i]? = some o) : numB (os.drop (os.length - (i + 1))) s = pickB o (numB (os.drop (os.length - i)) s) := by
  have e : os.drop (os.length - (i + 1)) = o :: os.drop (os.length - i) := by
    have h1 : os.length - (i + 1) = os.length - 1 - i := by omega
    rw [h1]
    have h2 : os.length - 1 - i < os.length := (List.getElem?_eq_some_iff.mp h).1
    rw [List.drop_eq_getElem_cons h2]
    have h3 : os[os.length - 1 - i] = o := (List.getElem?_eq_some_iff.mp h).2
    have h4 : os.length - 1 - i + 1 = os.length - i := by omega
    rw [h3, h4]
  rw [e]; rfl
end
end Sm
set_option maxHeartbeats 4000000
namespace Sm
open PySem PySem.Spec PyProof.Rows L2
/-! ### dicts of lists of texts, in any order; what a menu makes of them -/
abbrev GO := List (Str × List Str)
def gD (os : GO) (rs : List Addr) : List (Key × V) := (os.zip rs).map fun p => (Sum.inr p.1.1, V.ref p.2)
structure GAt (H : Hp) (d : Addr) (os : GO) (rs : List Addr) : Prop where
  len : rs.length = os.length
  d : H d = some (.dK (gD os rs))
  at_ : ∀ (j : Nat) (o : Str × List Str) (r : Addr), os[j]? = some o → rs[j]? = some r → H r = some (wordsV o.2)
def enc (os : Ops) : GO := os.map fun o => (ent o.1, o.2)
def lk (os : GO) (k : Str) : Option (List Str) := (os.find? fun p => decide (p.1 = k)).map (·.2)
section
variable {H H' : Hp} {d : Addr} {os : GO} {rs : List Addr} {k : Str} {l : List Str}
theorem gD_len (h : rs.length = os.length) : (gD os rs).length = os.length := by
  unfold gD; rw [List.length_map, List.length_zip, h, Nat.min_self]
theorem gD_enc {os : Ops} {rs : List Addr} : gD (enc os) rs = osD os rs := by
  unfold gD osD enc
  rw [List.zip_map_left, List.map_map]; rfl
theorem gD_app {o : Str × List Str} {r : Addr} (h : rs.length = os.length) : gD (os ++ [o]) (rs ++ [r]) = gD os rs ++ [(Sum.inr o.1, V.ref r)] := by
  unfold gD
  rw [List.zip_append (by rw [h]), List.map_append]; rfl
theorem gD_cons {o : Str × List Str} {r : Addr} : gD (o :: os) (r :: rs) = (Sum.inr o.1, V.ref r) :: gD os rs := rfl
theorem lk_cons {o : Str × List Str} : lk (o :: os) k = if o.1 = k then some o.2 else lk os k := by
  unfold lk
  rw [List.find?_cons]
  by_cases e : o.1 = k
  · rw [decide_eq_true e, if_pos e]; rfl
  · rw [decide_eq_false e, if_neg e]
theorem lk_some : ∀ {os : GO}, lk os k = some l → (k, l) ∈ os
  | [], h => by cases h
  | o :: r, h => by
    rw [lk_cons] at h
    by_cases e : o.1 = k
    · rw [if_pos e] at h
      cases h
      rw [← e]
      exact List.mem_cons_self ..
    · rw [if_neg e] at h
      exact List.mem_cons_of_mem _ (lk_some h)
theorem lk_none : ∀ {os : GO}, lk os k = none ↔ ¬ k ∈ os.map (·.1)
  | [] => by simp [lk]
  | o :: r => by
    rw [lk_cons]
    by_cases e : o.1 = k
    · rw [if_pos e]; simp [e]
    · rw [if_neg e, lk_none]; simp [Ne.symm e]
theorem lk_of_mem (nd : (os.map (·.1)).Nodup) (h : (k, l) ∈ os) : lk os k = some l := by
  induction os with
  | nil => cases h
  | cons o r ih =>
    rw [List.map_cons, List.nodup_cons] at nd
    rw [lk_cons]
    rcases List.mem_cons.mp h with e | m
    · rw [← e, if_pos rfl]
    · have : o.1 ≠ k := fun z => nd.1 (by rw [z]; exact List.mem_map.mpr ⟨_, m, rfl⟩)
      rw [if_neg this]
      exact ih nd.2 m
theorem valV_gD : ∀ {os : GO} {rs : List Addr}, rs.length = os.length → (∀ (j : Nat) (o : Str × List Str) (r : Addr), os[j]? = some o → rs[j]? = some r → H r = some (wordsV o.2)) →
    (lk os k = none ∧ valV (gD os rs) (Sum.inr k : Key) = none) ∨ ∃ l r, lk os k = some l ∧ valV (gD os rs) (Sum.inr k : Key) = some (.ref r) ∧ r ∈ rs ∧ H r = some (wordsV l)
  | [], [], _, _ => .inl ⟨rfl, rfl⟩
  | o :: os, r :: rs, hl, h => by
    rw [lk_cons, gD_cons]
    by_cases e : o.1 = k
    · refine .inr ⟨o.2, r, if_pos e, ?_, List.mem_cons_self .., h 0 o r rfl rfl⟩
      exact valV_pos (by rw [e])
    · rw [if_neg e, valV_neg (fun z => e (Sum.inr.inj z))]
      rcases valV_gD (os := os) (rs := rs) (by simpa using hl) (fun j o' r' e1 e2 => h (j + 1) o' r' (by simpa using e1) (by simpa using e2)) with q | ⟨l, r', q1, q2, q3, q4⟩
      · exact .inl q
      · exact .inr ⟨l, r', q1, q2, List.mem_cons_of_mem _ q3, q4⟩
theorem GAt.miss (h : GAt H d os rs) (e : lk os k = none) : valV (gD os rs) (Sum.inr k : Key) = none := by
  rcases valV_gD (k := k) h.len h.at_ with ⟨_, q⟩ | ⟨l, r, q, _⟩
  · exact q
  · rw [e] at q; cases q
theorem GAt.get (h : GAt H d os rs) (e : lk os k = some l) : ∃ r, valV (gD os rs) (Sum.inr k : Key) = some (.ref r) ∧ r ∈ rs ∧ H r = some (wordsV l) := by
  rcases valV_gD (k := k) h.len h.at_ with ⟨q, _⟩ | ⟨l', r, q, q2⟩
  · rw [e] at q; cases q
  · rw [e] at q; cases q
    exact ⟨r, q2⟩
theorem GAt.isS (h : GAt H d os rs) : (valV (gD os rs) (Sum.inr k : Key)).isSome = (lk os k).isSome := by
  rcases valV_gD (k := k) h.len h.at_ with ⟨q, q2⟩ | ⟨l', r, q, q2, _⟩
  · rw [q, q2]; rfl
  · rw [q, q2]; rfl
theorem GAt.chg {S : List Addr} (h : GAt H d os rs) (c : Chg S H H') (n : d ∉ S) (nr : ∀ r ∈ rs, r ∉ S) : GAt H' d os rs :=
  ⟨h.len, c.keep _ _ h.d n, fun j o r e e' => c.keep _ _ (h.at_ j o r e e') (nr r (List.mem_of_getElem? e'))⟩
theorem GAt.chg0 (h : GAt H d os rs) (c : Chg [] H H') : GAt H' d os rs := h.chg c nm0 fun _ _ => nm0
theorem GAt.there (h : GAt H d os rs) : ∀ r ∈ rs, ∃ o : Str × List Str, o ∈ os ∧ H r = some (wordsV o.2) := fun r hr => by
  obtain ⟨j, hj, e⟩ := List.getElem_of_mem hr
  have ho : j < os.length := by rw [← h.len]; exact hj
  exact ⟨os[j], List.getElem_mem ho, h.at_ j os[j] r (List.getElem?_eq_getElem ho) (by rw [List.getElem?_eq_getElem hj, e])⟩
theorem GAt.ops {os : Ops} (h : GAt H d (enc os) rs) : OptsAt H d os rs :=
  ⟨by rw [h.len]; unfold enc; rw [List.length_map], by rw [← gD_enc]; exact h.d, fun j o r e e' => h.at_ j (ent o.1, o.2) r (by unfold enc; rw [List.getElem?_map, e]; rfl) e'⟩
theorem OptsAt.g {os : Ops} (h : OptsAt H d os rs) : GAt H d (enc os) rs :=
  ⟨by rw [h.len]; unfold enc; rw [List.length_map], by rw [gD_enc]; exact h.d, fun j o r e e' => by
    unfold enc at e
    rw [List.getElem?_map] at e
    obtain ⟨o', eo, rfl⟩ := Option.map_eq_some_iff.mp e
    exact h.at_ j o' r eo e'⟩
end
/-! ### the canonical form -/
def fil (i : Nat) (l : List Str) : List Str := (chs i).filter fun c => decide (c ∈ l)
def canF (os : GO) (i : Nat) : Option (Nat × List Str) := (lk os (ent i)).map fun l => (i, fil i l)
def canon (os : GO) : Ops := (List.range 10).filterMap (canF os)
def cnt (ms : Ops) : Nat := ms.foldr (fun o n => o.2.length * n) 1
structure Good (os : GO) : Prop where
  len : (canon os).length = os.length
  at_ : ∀ i l, i < 10 → lk os (ent i) = some l → fil i l ≠ [] ∧ (fil i l).length = l.length
theorem chs_nd : ∀ i, i < 10 → (chs i).Nodup := ten (by decide) (by decide) (by decide) (by decide) (by decide) (by decide) (by decide) (by decide) (by decide) (by decide)
theorem nd_filter {α : Type} {p : α → Bool} {l : List α} (h : l.Nodup) : (l.filter p).Nodup := List.Pairwise.filter p h
theorem fil_mem {i : Nat} {l : List Str} {c : Str} : c ∈ fil i l ↔ c ∈ chs i ∧ c ∈ l := by
  unfold fil
  rw [List.mem_filter, decide_eq_true_eq]
theorem canF_some {os : GO} {i : Nat} {o : Nat × List Str} (h : canF os i = some o) : o.1 = i ∧ ∃ l, lk os (ent i) = some l ∧ o.2 = fil i l := by
  unfold canF at h
  obtain ⟨l, e, rfl⟩ := Option.map_eq_some_iff.mp h
  exact ⟨rfl, l, e, rfl⟩
theorem canon_mem {os : GO} {o : Nat × List Str} : o ∈ canon os ↔ o.1 < 10 ∧ canF os o.1 = some o := by
  unfold canon
  rw [List.mem_filterMap]
  constructor
  · rintro ⟨i, hi, e⟩
    obtain ⟨rfl, _⟩ := canF_some e
    exact ⟨List.mem_range.mp hi, e⟩
  · rintro ⟨hi, e⟩
    exact ⟨o.1, List.mem_range.mpr hi, e⟩
theorem canon_nd (os : GO) : ((canon os).map (·.1)).Nodup := by
  refine List.pairwise_map.mpr ?_
  unfold canon
  exact List.Pairwise.filterMap (R := (· < ·)) _ (fun a a' hlt b hb b' hb' z => by
    rw [(canF_some hb).1, (canF_some hb').1] at z
    omega) List.pairwise_lt_range
theorem Good.os {os : GO} (g : Good os) : OkOs (canon os) where
  nd := canon_nd os
  lt := fun o h => (canon_mem.mp h).1
  ch := fun o h c hc => by
    obtain ⟨_, l, _, e⟩ := canF_some (canon_mem.mp h).2
    rw [e] at hc
    exact (fil_mem.mp hc).1
  ne := fun o h => by
    obtain ⟨_, l, e1, e⟩ := canF_some (canon_mem.mp h).2
    rw [e]
    exact (g.at_ _ l (canon_mem.mp h).1 e1).1
  len4 := fun o h => by
    obtain ⟨_, l, _, e⟩ := canF_some (canon_mem.mp h).2
    rw [e]
    exact Nat.le_trans (List.length_filter_le ..) (chs_pos _ (canon_mem.mp h).1).2
theorem cnt_pos {ms : Ops} (h : ∀ o ∈ ms, o.2 ≠ []) : 0 < cnt ms := by
  induction ms with
  | nil => exact Nat.one_pos
  | cons o r ih => exact Nat.mul_pos (List.length_pos_iff.mpr (h o (List.mem_cons_self ..))) (ih fun o' ho' => h o' (List.mem_cons_of_mem _ ho'))
theorem cnt_le {ms : Ops} (h : ∀ o ∈ ms, o.2.length ≤ 4) : cnt ms ≤ 4 ^ ms.length := by
  induction ms with
  | nil => exact Nat.le_refl _
  | cons o r ih =>
    show o.2.length * cnt r ≤ 4 ^ (r.length + 1)
    rw [Nat.pow_succ, Nat.mul_comm (4 ^ r.length)]
    exact Nat.mul_le_mul (h o (List.mem_cons_self ..)) (ih fun o' ho' => h o' (List.mem_cons_of_mem _ ho'))
theorem cnt_app {ms : Ops} {o : Nat × List Str} : cnt (ms ++ [o]) = cnt ms * o.2.length := by
  induction ms with
  | nil => show o.2.length * 1 = 1 * o.2.length; omega
  | cons a r ih =>
    show a.2.length * cnt (r ++ [o]) = a.2.length * cnt r * o.2.length
    rw [ih, Nat.mul_assoc]
/-- the first i entries -/
def canonN (os : GO) (i : Nat) : Ops := (List.range i).filterMap (canF os)
theorem canonN_ten (os : GO) : canonN os 10 = canon os := rfl
theorem canonN_none {os : GO} {i : Nat} (h : lk os (ent i) = none) : canonN os (i + 1) = canonN os i := by
  unfold canonN
  rw [List.range_succ, List.filterMap_append]
  have : canF os i = none := by unfold canF; rw [h]; rfl
  simp [this]
theorem canonN_some {os : GO} {i : Nat} {l : List Str} (h : lk os (ent i) = some l) : canonN os (i + 1) = canonN os i ++ [(i, fil i l)] := by
  unfold canonN
  rw [List.range_succ, List.filterMap_append]
  have : canF os i = some (i, fil i l) := by unfold canF; rw [h]; rfl
  simp [this]
theorem canonN_len (os : GO) (i : Nat) : (canonN os i).length ≤ i := by
  unfold canonN
  have := List.length_filterMap_le (canF os) (List.range i)
  rw [List.length_range] at this
  exact this
/-- the first j choices -/
def filN (i : Nat) (l : List Str) (j : Nat) : List Str := ((chs i).take j).filter fun c => decide (c ∈ l)
theorem filN_full (i : Nat) (l : List Str) : filN i l (chs i).length = fil i l := by unfold filN fil; rw [List.take_length]
theorem filN_yes {i j : Nat} {l : List Str} {c : Str} (h : (chs i)[j]? = some c) (hc : c ∈ l) : filN i l (j + 1) = filN i l j ++ [c] := by
  unfold filN
  rw [List.take_add_one, h]
  simp [List.filter_append, hc]
theorem filN_no {i j : Nat} {l : List Str} {c : Str} (h : (chs i)[j]? = some c) (hc : ¬ c ∈ l) : filN i l (j + 1) = filN i l j := by
  unfold filN
  rw [List.take_add_one, h]
  simp [List.filter_append, hc]
theorem filN_len (i j : Nat) (l : List Str) : (filN i l j).length ≤ (chs i).length := by
  unfold filN
  exact Nat.le_trans (List.length_filter_le ..) (List.length_take_le' ..)
/-! ### options as the law draws them -/
structure OkG (os : Ops) : Prop extends OkOs os where
  dup : ∀ o ∈ os, o.2.Nodup
theorem enc_keys {os : Ops} : (enc os).map (·.1) = os.map fun o => ent o.1 := by unfold enc; rw [List.map_map]; rfl
theorem OkOs.ekeys {os : Ops} (h : OkOs os) : ((enc os).map (·.1)).Nodup := by
  rw [enc_keys]
  exact List.pairwise_map.mpr (h.pw.imp_of_mem fun ha hb hne z => hne (ent_inj (h.lt _ ha) (h.lt _ hb) z))
theorem lk_enc {os : Ops} (h : OkOs os) {i : Nat} {l : List Str} (hi : i < 10) : lk (enc os) (ent i) = some l ↔ (i, l) ∈ os := by
  constructor
  · intro e
    have m := lk_some e
    unfold enc at m
    obtain ⟨o, ho, e⟩ := List.mem_map.mp m
    have e1 : ent o.1 = ent i := congrArg Prod.fst e
    have e2 : o.2 = l := congrArg Prod.snd e
    have := ent_inj (h.lt o ho) hi e1
    rw [← this, ← e2]
    exact ho
  · intro m
    exact lk_of_mem h.ekeys (by unfold enc; exact List.mem_map.mpr ⟨_, m, rfl⟩)
theorem fil_len {i : Nat} {l : List Str} (hi : i < 10) (hs : ∀ c ∈ l, c ∈ chs i) (hn : l.Nodup) : (fil i l).length = l.length := by
  refine Nat.le_antisymm ?_ ?_
  · exact (nd_filter (chs_nd i hi)).length_le_of_subset fun c hc => (fil_mem.mp hc).2
  · exact hn.length_le_of_subset fun c hc => fil_mem.mpr ⟨hs c hc, hc⟩
theorem canon_perm {os : Ops} (h : OkG os) : (canon (enc os)).Perm (os.map fun o => (o.1, fil o.1 o.2)) := by
  have n1 : (canon (enc os)).Nodup := (List.pairwise_map.mp (canon_nd (enc os))).imp fun hne z => hne (by rw [z])
  have n2 : (os.map fun o => (o.1, fil o.1 o.2)).Nodup := List.pairwise_map.mpr (h.pw.imp fun {a b} hne (z : (a.1, fil a.1 a.2) = (b.1, fil b.1 b.2)) => hne (Prod.mk.inj z).1)
  refine (List.perm_ext_iff_of_nodup n1 n2).mpr fun o => ?_
  rw [canon_mem, List.mem_map]
  constructor
  · rintro ⟨hi, e⟩
    obtain ⟨_, l, e1, e2⟩ := canF_some e
    exact ⟨(o.1, l), (lk_enc h.toOkOs hi).mp e1, by rw [← e2]⟩
  · rintro ⟨o', ho', rfl⟩
    have hi := h.lt o' ho'
    refine ⟨hi, ?_⟩
    unfold canF
    rw [(lk_enc h.toOkOs hi).mpr (show (o'.1, o'.2) ∈ os from ho')]; rfl
theorem OkG.good {os : Ops} (h : OkG os) : Good (enc os) := by
  refine ⟨?_, fun i l hi e => ?_⟩
  · rw [(canon_perm h).length_eq]
    unfold enc
    rw [List.length_map, List.length_map]
  · have m := (lk_enc h.toOkOs hi).mp e
    have el := fil_len hi (h.ch _ m) (h.dup _ m)
    refine ⟨fun z => h.ne _ m ?_, el⟩
    rw [z] at el
    exact List.eq_nil_of_length_eq_zero el.symm
theorem OkG.cnt {os : Ops} (h : OkG os) : cnt (canon (enc os)) = cnt os := by
  unfold Sm.cnt
  rw [(canon_perm h).foldr_eq' (fun x _ y _ z => by
    show y.2.length * (x.2.length * z) = x.2.length * (y.2.length * z)
    rw [← Nat.mul_assoc, ← Nat.mul_assoc, Nat.mul_comm y.2.length])]
  have : ∀ ms : Ops, (∀ o ∈ ms, (fil o.1 o.2).length = o.2.length) → (ms.map fun o => (o.1, fil o.1 o.2)).foldr (fun o n => o.2.length * n) 1 = ms.foldr (fun o n => o.2.length * n) 1 := by
    intro ms
    induction ms with
    | nil => intro _; rfl
    | cons o r ih =>
      intro hh
      show (fil o.1 o.2).length * _ = o.2.length * _
      rw [hh o (List.mem_cons_self ..), ih fun o' ho' => hh o' (List.mem_cons_of_mem _ ho')]
  exact this os fun o ho => fil_len (h.lt o ho) (h.ch o ho) (h.dup o ho)
end Sm
set_option maxHeartbeats 4000000
namespace Sm
open PySem PySem.Spec PyProof.Rows L2
theorem r_keys {td : TE} {σ : L2.St} {H : Hp} {R : It → Hp → Prop} (h : td σ H fun x H1 => ∃ d o, x = .ref d ∧ ((∃ kvs, H1 d = some (.frz o (.dK kvs)) ∧ R (Itk d o kvs) H1) ∨ ∃ kvs, H1 d = some (.frz o (.dT kvs)) ∧ R (Itkt d o kvs) H1)) : iKeys td σ H R := h
theorem Chg.unlock {S : List Addr} {H H' : Hp} {d : Addr} {u : HO} {od : Obj} (c : Chg S (upd H d (.frz od u)) H') (hd : H d = some u) (n : d ∉ S) : H' d = some (.frz od u) ∧ Chg S H (upd H' d u) := by
  refine ⟨c.keep d _ upd_same n, fun b o e nb => ?_, fun b e => ?_⟩
  · by_cases z : b = d
    · rw [z, upd_same]
      rw [z, hd] at e
      exact e
    · rw [upd_ne z]
      exact c.keep b o (by rw [upd_ne z]; exact e) nb
  · by_cases z : b = d
    · rw [z, upd_same] at e; cases e
    · rw [upd_ne z] at e
      have := c.there b e
      rw [upd_ne z] at this
      exact this
theorem lock_ne {H : Hp} {d b : Addr} {u o : HO} {od : Obj} (h : H b = some o) (n : b ≠ d) : (upd H d (.frz od u)) b = some o := by rw [upd_ne n]; exact h
theorem lock_none {H : Hp} {d b : Addr} {u v : HO} {od : Obj} (hd : H d = some v) (h : (upd H d (.frz od u)) b = none) : H b = none := by
  by_cases z : b = d
  · rw [z, upd_same] at h; cases h
  · rw [upd_ne z] at h; exact h
theorem nd_take {α : Type} {l : List α} {i : Nat} {x : α} (nd : l.Nodup) (h : l[i]? = some x) : ¬ x ∈ l.take i := fun hm => by
  obtain ⟨j, hj, ej⟩ := List.getElem_of_mem hm
  rw [List.length_take] at hj
  rw [List.getElem_take] at ej
  have hi := (List.getElem?_eq_some_iff.mp h).1
  have := (List.getElem?_inj (i := j) (j := i) (by omega) nd).mp (by rw [h, List.getElem?_eq_getElem (by omega), ej])
  omega
theorem lk_take {os : GO} {i : Nat} {o : Str × List Str} (nd : (os.map (·.1)).Nodup) (h : os[i]? = some o) : lk (os.take i) o.1 = none := by
  rw [lk_none, List.map_take]
  exact nd_take nd (by rw [List.getElem?_map, h]; rfl)
theorem lk_at {os : GO} {i : Nat} {o : Str × List Str} (nd : (os.map (·.1)).Nodup) (h : os[i]? = some o) : lk os o.1 = some o.2 := lk_of_mem nd (List.mem_of_getElem? h)
theorem take_snoc {α : Type} {l : List α} {i : Nat} {x : α} (h : l[i]? = some x) : l.take (i + 1) = l.take i ++ [x] := by rw [List.take_add_one, h]; rfl
section
variable {H H' : Hp} {d r : Addr} {os : GO} {rs : List Addr} {o : Str × List Str}
theorem GAt.app (h : GAt H d os rs) (c : Chg [d] H H') (nr : ∀ x ∈ rs, x ≠ d) (ed : H' d = some (.dK (gD os rs ++ [(Sum.inr o.1, V.ref r)]))) (er : H' r = some (wordsV o.2)) : GAt H' d (os ++ [o]) (rs ++ [r]) := by
  refine ⟨by rw [List.length_append, List.length_append, h.len]; rfl, by rw [gD_app h.len]; exact ed, fun j q x hq hx => ?_⟩
  by_cases hj : j < os.length
  · rw [List.getElem?_append_left hj] at hq
    rw [List.getElem?_append_left (by rw [h.len]; exact hj)] at hx
    exact c.at1 (h.at_ j q x hq hx) (nr x (List.mem_of_getElem? hx))
  · rw [List.getElem?_append_right (by omega)] at hq
    rw [List.getElem?_append_right (by rw [h.len]; omega), h.len] at hx
    cases e : j - os.length with
    | zero =>
      rw [e] at hq hx
      cases hq
      cases hx
      exact er
    | succ m => rw [e] at hq; simp at hq
theorem GAt.nr (h : GAt H d os rs) : ∀ x ∈ rs, x ≠ d := fun x hx => by
  obtain ⟨q, _, e⟩ := h.there x hx
  exact ne_of e h.d (by intro z; unfold wordsV at z; cases z)
theorem GAt.nil (e : H d = some (.dK [])) : GAt H d [] [] := ⟨rfl, e, fun j o r h => by simp at h⟩
/-- a locked dict of lists is read -/
theorem GAt.lkd {od : Obj} {k : Str} {l : List Str} (h : GAt H d os rs) (e : lk os k = some l) : ∃ r, valV (gD os rs) (Sum.inr k : Key) = some (.ref r) ∧ r ∈ rs ∧ (upd H d (.frz od (.dK (gD os rs)))) r = some (wordsV l) := by
  obtain ⟨r, q1, q2, q3⟩ := h.get e
  exact ⟨r, q1, q2, lock_ne q3 (h.nr r q2)⟩
end
theorem dgF {H : Hp} {a : Addr} {kvs : List (Key × V)} {k : Key} {od : Obj} {v : V} (e : H a = some (.frz od (.dK kvs))) (h : valV kvs k = some v) : DGet H a (kV k) (some v) := .inl ⟨kvs, k, .inr ⟨od, e⟩, rfl, h.symm⟩
/-! ### the books that are due -/
def exB (i : Nat) (l : List Str) (fs : List (List Str)) : List (List Str) := fs.flatMap fun p => (fil i l).map fun c => p.set i c
def dueN (os : GO) (cs : List Str) : Nat → List (List Str)
  | 0 => [cs]
  | i + 1 => match lk os (ent i) with
    | none => dueN os cs i
    | some l => exB i l (dueN os cs i)
theorem dueN_none {os : GO} {cs : List Str} {i : Nat} (h : lk os (ent i) = none) : dueN os cs (i + 1) = dueN os cs i := by
  show (match lk os (ent i) with | none => dueN os cs i | some l => exB i l (dueN os cs i)) = _
  rw [h]
theorem dueN_some {os : GO} {cs l : List Str} {i : Nat} (h : lk os (ent i) = some l) : dueN os cs (i + 1) = exB i l (dueN os cs i) := by
  show (match lk os (ent i) with | none => dueN os cs i | some l => exB i l (dueN os cs i)) = _
  rw [h]
theorem exB_len {i : Nat} {l : List Str} (hi : i < 10) : ∀ fs : List (List Str), (exB i l fs).length ≤ 4 * fs.length
  | [] => Nat.le_refl _
  | p :: r => by
    have h1 := exB_len hi r (l := l)
    unfold exB at *
    rw [List.flatMap_cons, List.length_append, List.length_map, List.length_cons]
    have h2 : (fil i l).length ≤ 4 := Nat.le_trans (List.length_filter_le ..) (chs_pos i hi).2
    omega
theorem exB_snoc {i : Nat} {l : List Str} {fs : List (List Str)} {p : List Str} : exB i l (fs ++ [p]) = exB i l fs ++ (fil i l).map fun c => p.set i c := by
  unfold exB
  rw [List.flatMap_append]
  simp
theorem dueN_len {os : GO} {cs : List Str} : ∀ i, i ≤ 10 → (dueN os cs i).length ≤ 4 ^ i
  | 0, _ => Nat.le_refl _
  | i + 1, h => by
    have ih := dueN_len i (by omega) (os := os) (cs := cs)
    rw [Nat.pow_succ]
    cases e : lk os (ent i) with
    | none => rw [dueN_none e]; omega
    | some l =>
      rw [dueN_some e]
      have := exB_len (l := l) (show i < 10 by omega) (dueN os cs i)
      omega
theorem exB_ten {i : Nat} {l : List Str} {fs : List (List Str)} (h : ∀ b ∈ fs, b.length = 10) : ∀ b ∈ exB i l fs, b.length = 10 := fun b hb => by
  unfold exB at hb
  obtain ⟨p, hp, hb⟩ := List.mem_flatMap.mp hb
  obtain ⟨c, _, rfl⟩ := List.mem_map.mp hb
  rw [List.length_set]
  exact h p hp
theorem dueN_ten {os : GO} {cs : List Str} (h : cs.length = 10) : ∀ i, ∀ b ∈ dueN os cs i, b.length = 10
  | 0, b, hb => by
    have : b = cs := by simpa [dueN] using hb
    rw [this]; exact h
  | i + 1, b, hb => by
    cases e : lk os (ent i) with
    | none => rw [dueN_none e] at hb; exact dueN_ten h i b hb
    | some l => rw [dueN_some e] at hb; exact exB_ten (dueN_ten h i) b hb
/-- a list of dicts of books -/
structure BksAt (H : Hp) (l : Addr) (bs : List (List Str)) (ps : List Addr) : Prop where
  l : H l = some (.lst (ps.map V.ref))
  len : ps.length = bs.length
  at_ : ∀ (j : Nat) (p : Addr) (b : List Str), ps[j]? = some p → bs[j]? = some b → H p = some (.dK (dcs b))
theorem BksAt.chg0 {H H' : Hp} {l : Addr} {bs : List (List Str)} {ps : List Addr} (h : BksAt H l bs ps) (c : Chg [] H H') : BksAt H' l bs ps := ⟨c.at h.l, h.len, fun j p b e1 e2 => c.at (h.at_ j p b e1 e2)⟩
theorem BksAt.app {H H' : Hp} {l l' p : Addr} {bs : List (List Str)} {ps : List Addr} {b : List Str} (h : BksAt H l bs ps) (c : Chg [] H H') (el : H' l' = some (.lst ((ps ++ [p]).map V.ref))) (ep : H' p = some (.dK (dcs b))) : BksAt H' l' (bs ++ [b]) (ps ++ [p]) := by
  refine ⟨el, by rw [List.length_append, List.length_append, h.len]; rfl, fun j q x hq hx => ?_⟩
  by_cases hj : j < ps.length
  · rw [List.getElem?_append_left hj] at hq
    rw [List.getElem?_append_left (by rw [← h.len]; exact hj)] at hx
    exact c.at (h.at_ j q x hq hx)
  · rw [List.getElem?_append_right (by omega)] at hq
    rw [List.getElem?_append_right (by rw [← h.len]; omega), ← h.len] at hx
    cases e : j - ps.length with
    | zero =>
      rw [e] at hq hx
      cases hq
      cases hx
      exact ep
    | succ m => rw [e] at hq; simp at hq
end Sm
set_option maxHeartbeats 4000000
namespace Sm
open PySem PySem.Spec PyProof.Rows L2
/-! ### options that are refused -/
def putG (os : GO) (k : Str) (l : List Str) : GO := if (lk os k).isSome = true then os.map (fun q => if q.1 = k then (k, l) else q) else os ++ [(k, l)]
theorem lk_map {k k' : Str} {l : List Str} : ∀ os : GO, lk (os.map (fun q => if q.1 = k then (k, l) else q)) k' = if k' = k then (if (lk os k).isSome = true then some l else none) else lk os k'
  | [] => by
    by_cases e : k' = k
    · rw [if_pos e]; rfl
    · rw [if_neg e]; rfl
  | q :: r => by
    rw [List.map_cons, lk_cons, lk_map r]
    by_cases h : q.1 = k
    · rw [if_pos h]
      by_cases e : k' = k
      · rw [if_pos e.symm, if_pos e, lk_cons, if_pos h]; rfl
      · rw [if_neg (Ne.symm e), if_neg e, if_neg e, lk_cons, if_neg (by rw [h]; exact Ne.symm e)]
    · rw [if_neg h]
      by_cases e : k' = k
      · subst e
        rw [if_neg h, if_pos rfl, if_pos rfl, lk_cons, if_neg h]
      · rw [if_neg e, if_neg e, lk_cons]
theorem lk_app {os : GO} {k k' : Str} {l : List Str} : lk (os ++ [(k, l)]) k' = (lk os k').or (if k = k' then some l else none) := by
  induction os with
  | nil => rw [List.nil_append, lk_cons]; rfl
  | cons q r ih =>
    rw [List.cons_append, lk_cons, lk_cons, ih]
    by_cases h : q.1 = k'
    · rw [if_pos h, if_pos h]; rfl
    · rw [if_neg h, if_neg h]
theorem lk_put_self {os : GO} {k : Str} {l : List Str} : lk (putG os k l) k = some l := by
  unfold putG
  by_cases h : (lk os k).isSome = true
  · rw [if_pos h, lk_map, if_pos rfl, if_pos h]
  · rw [if_neg h, lk_app]
    have : lk os k = none := by
      cases e : lk os k with
      | none => rfl
      | some x => rw [e] at h; exact absurd rfl h
    rw [this, if_pos rfl]; rfl
theorem put_len {os : GO} {k : Str} {l : List Str} : (putG os k l).length ≤ os.length + 1 := by
  unfold putG
  split
  · rw [List.length_map]; omega
  · rw [List.length_append]; exact Nat.le_refl _
theorem put_mem {os : GO} {k : Str} {l : List Str} {q : Str × List Str} (h : q ∈ putG os k l) : q ∈ os ∨ q = (k, l) := by
  unfold putG at h
  split at h
  · obtain ⟨x, hx, e⟩ := List.mem_map.mp h
    split at e
    · exact .inr e.symm
    · exact .inl (by rw [← e]; exact hx)
  · rcases List.mem_append.mp h with m | m
    · exact .inl m
    · exact .inr (List.mem_singleton.mp m)
theorem put_keys {os : GO} {k : Str} {l : List Str} (nd : (os.map (·.1)).Nodup) : ((putG os k l).map (·.1)).Nodup := by
  unfold putG
  split
  · rw [List.map_map]
    have : os.map ((fun q => q.1) ∘ fun q => if q.1 = k then (k, l) else q) = os.map (·.1) := List.map_congr_left fun q _ => by
      show (if q.1 = k then (k, l) else q).1 = q.1
      split
      · rename_i h; exact h.symm
      · rfl
    rw [this]; exact nd
  · rename_i h
    have hk : ¬ k ∈ os.map (·.1) := lk_none.mp (by
      cases e : lk os k with
      | none => rfl
      | some x => rw [e] at h; exact absurd rfl h)
    rw [List.map_append]
    refine List.nodup_append.mpr ⟨nd, by simp, fun a ha b hb z => ?_⟩
    have : b = k := by simpa using hb
    rw [this] at z
    exact hk (by rw [← z]; exact ha)
section
variable {H H' : Hp} {d r : Addr} {os : GO} {rs : List Addr} {k : Str} {l : List Str}
theorem gD_map : ∀ {os : GO} {rs : List Addr}, rs.length = os.length → (gD os rs).map (fun kv => if kv.1 = (Sum.inr k : Key) then (kv.1, V.ref r) else kv) = gD (os.map (fun q => if q.1 = k then (k, l) else q)) (List.zipWith (fun q x => if q.1 = k then r else x) os rs)
  | [], [], _ => rfl
  | q :: os, x :: rs, h => by
    have ih := gD_map (os := os) (rs := rs) (by simpa using h)
    rw [gD_cons, List.map_cons, ih, List.map_cons, List.zipWith_cons_cons, gD_cons]
    by_cases e : q.1 = k
    · rw [if_pos e, if_pos e, if_pos (by rw [e])]
      show (Sum.inr q.1, V.ref r) :: _ = _
      rw [e]
    · rw [if_neg e, if_neg e, if_neg (fun z => e (Sum.inr.inj z))]
theorem GAt.put (h : GAt H d os rs) (c : Chg [d] H H') (ed : H' d = some (.dK (putK (gD os rs) (Sum.inr k : Key) (.ref r)))) (er : H' r = some (wordsV l)) : ∃ rs', GAt H' d (putG os k l) rs' ∧ ∀ x ∈ rs', x ∈ rs ∨ x = r := by
  have hs : ((gD os rs).any fun kv => decide (kv.1 = (Sum.inr k : Key))) = (lk os k).isSome := by rw [valV_any]; exact h.isS
  unfold putK at ed
  rw [hs] at ed
  unfold putG
  by_cases e : (lk os k).isSome = true
  · rw [if_pos e] at ed ⊢
    rw [gD_map (l := l) h.len] at ed
    refine ⟨_, ⟨?_, ed, fun j o x ho hx => ?_⟩, fun x hx => ?_⟩
    · rw [List.length_zipWith, List.length_map, h.len, Nat.min_self]
    · rw [List.getElem?_map] at ho
      obtain ⟨q, hq, rfl⟩ := Option.map_eq_some_iff.mp ho
      have hjr : j < rs.length := by rw [h.len]; exact (List.getElem?_eq_some_iff.mp hq).1
      rw [List.getElem?_zipWith, hq, List.getElem?_eq_getElem hjr] at hx
      cases hx
      by_cases z : q.1 = k
      · simp only [if_pos z]; exact er
      · simp only [if_neg z]
        exact c.at1 (h.at_ j q _ hq (List.getElem?_eq_getElem hjr)) (h.nr _ (List.getElem_mem hjr))
    · obtain ⟨j, hj, ej⟩ := List.getElem_of_mem hx
      rw [List.getElem_zipWith] at ej
      split at ej
      · exact .inr ej.symm
      · exact .inl (by rw [← ej]; exact List.getElem_mem _)
  · rw [if_neg e] at ed ⊢
    exact ⟨rs ++ [r], h.app c h.nr ed er, fun x hx => (List.mem_append.mp hx).imp id List.mem_singleton.mp⟩
end
theorem bad_key {os : GO} {w : Str} (nd : (os.map (·.1)).Nodup) (hw : w ∈ os.map (·.1)) (hn : ∀ i, i < 10 → w ≠ ent i) : ¬ Good os := fun g => by
  have n1 : ((canon os).map fun o => ent o.1).Nodup := by
    have pw : (canon os).Pairwise fun a b => a.1 ≠ b.1 := List.pairwise_map.mp (canon_nd os)
    exact List.pairwise_map.mpr (pw.imp_of_mem fun ha hb hne z => hne (ent_inj (canon_mem.mp ha).1 (canon_mem.mp hb).1 z))
  have h1 : ((canon os).map fun o => ent o.1).length ≤ ((os.map (·.1)).erase w).length := n1.length_le_of_subset fun x hx => by
    obtain ⟨o, ho, rfl⟩ := List.mem_map.mp hx
    have hm := canon_mem.mp ho
    obtain ⟨_, l, e, _⟩ := canF_some hm.2
    rw [nd.mem_erase_iff]
    exact ⟨Ne.symm (hn _ hm.1), List.mem_map.mpr ⟨_, lk_some e, rfl⟩⟩
  rw [List.length_map, List.length_erase_of_mem hw, List.length_map, g.len] at h1
  have : 0 < os.length := by
    cases os with
    | nil => cases hw
    | cons _ _ => exact Nat.succ_pos _
  omega
theorem bad_list {os : GO} {i : Nat} {l : List Str} (hi : i < 10) (e : lk os (ent i) = some l) (h : fil i l = [] ∨ (fil i l).length ≠ l.length) : ¬ Good os := fun g => by
  obtain ⟨a, b⟩ := g.at_ i l hi e
  rcases h with h | h
  · exact a h
  · exact h b
theorem fil_congr {i : Nat} {l l' : List Str} (h : ∀ c ∈ chs i, c ∈ l ↔ c ∈ l') : fil i l = fil i l' := by
  unfold fil
  exact List.filter_congr fun c hc => decide_eq_decide.mpr (h c hc)
theorem fil_bad {i pl : Nat} {row : List Str} {w : Str} (hi : i < 10) (hs : ∀ c ∈ row, c ∈ chs i) (hn : row.Nodup) (hw : ¬ w ∈ chs i ∨ w ∈ row) : (fil i (row.take pl ++ [w] ++ row.drop pl)).length ≠ (row.take pl ++ [w] ++ row.drop pl).length := by
  have e : fil i (row.take pl ++ [w] ++ row.drop pl) = fil i row := fil_congr fun c hc => by
    have hr : c ∈ row ↔ c ∈ row.take pl ∨ c ∈ row.drop pl := by
      conv => lhs; rw [← List.take_append_drop pl row]
      rw [List.mem_append]
    rw [List.mem_append, List.mem_append, List.mem_singleton, hr]
    constructor
    · rintro ((h | h) | h)
      · exact .inl h
      · rcases hw with hw | hw
        · exact absurd (by rw [← h]; exact hc) hw
        · exact hr.mp (by rw [h]; exact hw)
      · exact .inr h
    · rintro (h | h)
      · exact .inl (.inl h)
      · exact .inr h
  rw [e, fil_len hi hs hn]
  simp only [List.length_append, List.length_take, List.length_drop, List.length_singleton]
  omega
def badW : List Str := ["drop", "partly", "leave", "ignore", "pass", "blank", "forget", "", "Stop", "stops"]
def wrongN (i j : Nat) : List Str := (badW.take j).filter fun c => decide (¬ c ∈ chs i)
theorem wrong_ne : ∀ i, i < 10 → wrongN i 10 ≠ [] := ten (by decide +kernel) (by decide +kernel) (by decide +kernel) (by decide +kernel) (by decide +kernel) (by decide +kernel) (by decide +kernel) (by decide +kernel) (by decide +kernel) (by decide +kernel)
def keyW : List Str := ["jump", "Work", "", "loops", "path ", "books"]
theorem keyW_bad : ∀ w ∈ keyW, ∀ i, i < 10 → w ≠ ent i := fun w hw i hi z => by
  have h : ∀ w ∈ keyW, ¬ w ∈ entriesL := by decide +kernel
  exact h w hw (by rw [z]; exact List.mem_of_getElem? (ent_at hi))
theorem cut_lo (xs : List V) (p : Nat) (h : p ≤ xs.length) : cutV xs none (some (p : Int)) = xs.take p := by
  unfold cutV
  rw [HT.sIx_none, HT.sIx_nat, Nat.min_eq_left h, List.drop_zero, Nat.sub_zero]
theorem cut_hi (xs : List V) (p : Nat) (h : p ≤ xs.length) : cutV xs (some (p : Int)) none = xs.drop p := by
  unfold cutV
  rw [HT.sIx_none, HT.sIx_nat, Nat.min_eq_left h]
  exact List.take_of_length_le (by rw [List.length_drop]; omega)
end Sm
set_option maxHeartbeats 4000000
namespace Sm
open PySem PySem.Spec PyProof.Rows L2
/-! ### the books that are due are the menu's books, in their order -/
abbrev Bk := List Str
def exO (fs : List Bk) (o : Nat × List Str) : List Bk := fs.flatMap fun p => o.2.map fun c => p.set o.1 c
theorem dueN_fold (os : GO) (cs : Bk) : ∀ i, dueN os cs i = (canonN os i).foldl exO [cs]
  | 0 => rfl
  | i + 1 => by
    cases e : lk os (ent i) with
    | none => rw [dueN_none e, canonN_none e, dueN_fold os cs i]
    | some l => rw [dueN_some e, canonN_some e, List.foldl_append, ← dueN_fold os cs i]; rfl
theorem flat_get {f : Bk → List Bk} {n : Nat} (hn : 0 < n) (hf : ∀ p, (f p).length = n) : ∀ (fs : List Bk) (j : Nat), (fs.flatMap f)[j]? = (fs[j / n]?).bind fun p => (f p)[j % n]?
  | [], j => by simp
  | p :: r, j => by
    rw [List.flatMap_cons]
    by_cases h : j < n
    · rw [List.getElem?_append_left (by rw [hf]; exact h), Nat.div_eq_of_lt h, Nat.mod_eq_of_lt h]; rfl
    · have hle : n ≤ j := Nat.le_of_not_lt h
      rw [List.getElem?_append_right (by rw [hf]; exact hle), hf, flat_get hn hf r (j - n)]
      have e1 : j / n = (j - n) / n + 1 := by rw [Nat.div_eq_sub_div hn hle]
      have e2 : j % n = (j - n) % n := Nat.mod_eq_sub_mod hle
      rw [e1, ← e2]
      simp only [List.getElem?_cons_succ]
theorem exO_get {fs : List Bk} {o : Nat × List Str} (hn : o.2 ≠ []) (j : Nat) : (exO fs o)[j]? = (fs[j / o.2.length]?).map fun p => p.set o.1 (o.2.getD (j % o.2.length) "") := by
  have hp : 0 < o.2.length := List.length_pos_iff.mpr hn
  unfold exO
  rw [flat_get hp (fun p => by rw [List.length_map])]
  cases fs[j / o.2.length]? with
  | none => rfl
  | some p =>
    show (o.2.map fun c => p.set o.1 c)[j % o.2.length]? = some _
    have hm := Nat.mod_lt j hp
    rw [List.getElem?_map, List.getElem?_eq_getElem hm, List.getD_eq_getElem?_getD, List.getElem?_eq_getElem hm]; rfl
theorem numB_snd {cs : Bk} {k : Nat} : ∀ {ms : Ops}, (∀ o ∈ ms, o.2 ≠ []) → (numB ms (cs, (k : Int))).2 = ((k / cnt ms : Nat) : Int)
  | [], _ => by show (k : Int) = ((k / 1 : Nat) : Int); rw [Nat.div_one]
  | o :: r, h => by
    show (numB r (cs, (k : Int))).2 / (o.2.length : Int) = ((k / (o.2.length * cnt r) : Nat) : Int)
    rw [numB_snd fun o' ho' => h o' (List.mem_cons_of_mem _ ho'), Nat.mul_comm, ← Nat.div_div_eq_div_mul]
    exact (Int.natCast_ediv _ _).symm
theorem numB_comm {p : Bk} {k : Int} {i : Nat} {c : Str} : ∀ {ms : Ops}, (∀ o ∈ ms, o.1 ≠ i) → (numB ms (p.set i c, k)).1 = (numB ms (p, k)).1.set i c ∧ (numB ms (p.set i c, k)).2 = (numB ms (p, k)).2
  | [], _ => ⟨rfl, rfl⟩
  | o :: r, h => by
    obtain ⟨h1, h2⟩ := numB_comm (p := p) (k := k) (i := i) (c := c) (ms := r) fun o' ho' => h o' (List.mem_cons_of_mem _ ho')
    refine ⟨?_, ?_⟩
    · show (numB r (p.set i c, k)).1.set o.1 (o.2.getD ((numB r (p.set i c, k)).2 % (o.2.length : Int)).toNat "") = ((numB r (p, k)).1.set o.1 (o.2.getD ((numB r (p, k)).2 % (o.2.length : Int)).toNat "")).set i c
      rw [h1, h2]
      exact List.set_comm _ _ (Ne.symm (h o (List.mem_cons_self ..)))
    · show (numB r (p.set i c, k)).2 / (o.2.length : Int) = (numB r (p, k)).2 / (o.2.length : Int)
      rw [h2]
theorem fold_get {k : Nat} : ∀ {ms : Ops} {fs : List Bk}, (ms.map (·.1)).Nodup → (∀ o ∈ ms, o.2 ≠ []) → (ms.foldl exO fs)[k]? = (fs[k / cnt ms]?).map fun p => (numB ms (p, (k : Int))).1
  | [], fs, _, _ => by
    show fs[k]? = (fs[k / 1]?).map fun p => p
    rw [Nat.div_one]
    cases fs[k]? <;> rfl
  | o :: r, fs, nd, hn => by
    rw [List.map_cons, List.nodup_cons] at nd
    have hr := fun o' ho' => hn o' (List.mem_cons_of_mem _ ho')
    have ho := hn o (List.mem_cons_self ..)
    have hni : ∀ o' ∈ r, o'.1 ≠ o.1 := fun o' ho' z => nd.1 (by rw [← z]; exact List.mem_map.mpr ⟨o', ho', rfl⟩)
    show (r.foldl exO (exO fs o))[k]? = _
    rw [fold_get (ms := r) nd.2 hr, exO_get ho]
    show _ = (fs[k / (o.2.length * cnt r)]?).map _
    rw [Nat.mul_comm, ← Nat.div_div_eq_div_mul]
    cases fs[k / cnt r / o.2.length]? with
    | none => rfl
    | some p =>
      show some (numB r (p.set o.1 (o.2.getD (k / cnt r % o.2.length) ""), (k : Int))).1 = some ((numB r (p, (k : Int))).1.set o.1 (o.2.getD ((numB r (p, (k : Int))).2 % (o.2.length : Int)).toNat ""))
      rw [(numB_comm hni).1, numB_snd hr]
      have : (((k / cnt r : Nat) : Int) % (o.2.length : Int)).toNat = k / cnt r % o.2.length := by
        rw [← Int.natCast_emod, Int.toNat_natCast]
      rw [this]
theorem exO_len {fs : List Bk} {o : Nat × List Str} : (exO fs o).length = fs.length * o.2.length := by
  unfold exO
  induction fs with
  | nil => simp
  | cons p r ih =>
    rw [List.flatMap_cons, List.length_append, ih, List.length_map, List.length_cons, Nat.succ_mul, Nat.add_comm]
theorem fold_len : ∀ {ms : Ops} {fs : List Bk}, (ms.foldl exO fs).length = fs.length * cnt ms
  | [], fs => (Nat.mul_one _).symm
  | o :: r, fs => by
    show (r.foldl exO (exO fs o)).length = fs.length * (o.2.length * cnt r)
    rw [fold_len, exO_len, Nat.mul_assoc]
theorem due_len {os : GO} {cs : Bk} : (dueN os cs 10).length = cnt (canon os) := by
  rw [dueN_fold, canonN_ten, fold_len]
  show 1 * _ = _
  rw [Nat.one_mul]
theorem due_get {os : GO} (g : Good os) {cs : Bk} {k : Nat} {b : Bk} (h : (dueN os cs 10)[k]? = some b) : b = (numB (canon os) (cs, (k : Int))).1 := by
  have hk : k < cnt (canon os) := by
    rw [← due_len (cs := cs)]
    exact (List.getElem?_eq_some_iff.mp h).1
  rw [dueN_fold, canonN_ten, fold_get (canon_nd os) g.os.ne, Nat.div_eq_of_lt hk] at h
  exact (Option.some.inj h).symm
/-! ### what is in it -/
def okAt (os : GO) (cs x : Bk) (N i : Nat) : Prop := if i < N then (match lk os (ent i) with
    | some l => x.getD i "" ∈ fil i l
    | none => x.getD i "" = cs.getD i "") else x.getD i "" = cs.getD i ""
theorem getD_set_self {x : Bk} {i : Nat} {c : Str} (h : i < x.length) : (x.set i c).getD i "" = c := by
  rw [List.getD_eq_getElem?_getD, List.getElem?_set_self h]; rfl
theorem getD_set_ne {x : Bk} {i j : Nat} {c : Str} (h : i ≠ j) : (x.set i c).getD j "" = x.getD j "" := by
  rw [List.getD_eq_getElem?_getD, List.getElem?_set_ne h, List.getD_eq_getElem?_getD]
theorem set_back {x : Bk} {i : Nat} {d : Str} (h : i < x.length) : (x.set i d).set i (x.getD i "") = x := by
  rw [List.set_set, List.getD_eq_getElem?_getD, List.getElem?_eq_getElem h]
  exact List.set_getElem_self h
theorem due_mem {os : GO} {cs : Bk} (hc : cs.length = 10) : ∀ N, N ≤ 10 → ∀ x : Bk, x ∈ dueN os cs N ↔ x.length = 10 ∧ ∀ i, i < 10 → okAt os cs x N i
  | 0, _, x => by
    show x ∈ [cs] ↔ _
    rw [List.mem_singleton]
    constructor
    · rintro rfl
      exact ⟨hc, fun i _ => by unfold okAt; rw [if_neg (Nat.not_lt_zero i)]⟩
    · rintro ⟨hl, h⟩
      refine List.ext_getElem? fun i => ?_
      by_cases hi : i < 10
      · have := h i hi
        unfold okAt at this
        rw [if_neg (Nat.not_lt_zero i), List.getD_eq_getElem?_getD, List.getD_eq_getElem?_getD, List.getElem?_eq_getElem (by omega), List.getElem?_eq_getElem (by omega)] at this
        rw [List.getElem?_eq_getElem (by omega), List.getElem?_eq_getElem (by omega)]
        exact congrArg some this
      · rw [List.getElem?_eq_none (by omega), List.getElem?_eq_none (by omega)]
  | N + 1, hN, x => by
    have ih := due_mem (os := os) hc N (by omega)
    cases e : lk os (ent N) with
    | none =>
      rw [dueN_none e, ih x]
      refine and_congr_right fun _ => forall_congr' fun i => forall_congr' fun hi => ?_
      unfold okAt
      by_cases h1 : i < N
      · rw [if_pos h1, if_pos (by omega)]
      · by_cases h2 : i = N
        · subst h2
          rw [if_neg h1, if_pos (by omega), e]
        · rw [if_neg h1, if_neg (by omega)]
    | some l =>
      rw [dueN_some e]
      unfold exB
      rw [List.mem_flatMap]
      constructor
      · rintro ⟨p, hp, hx⟩
        obtain ⟨c, hcl, rfl⟩ := List.mem_map.mp hx
        obtain ⟨hpl, hpo⟩ := (ih p).mp hp
        refine ⟨by rw [List.length_set]; exact hpl, fun i hi => ?_⟩
        unfold okAt
        by_cases h2 : i = N
        · subst h2
          rw [if_pos (by omega), e, getD_set_self (by omega)]
          exact hcl
        · have h3 := hpo i hi
          unfold okAt at h3
          rw [getD_set_ne (Ne.symm h2)]
          by_cases h1 : i < N
          · rw [if_pos h1] at h3
            rw [if_pos (by omega)]
            exact h3
          · rw [if_neg h1] at h3
            rw [if_neg (by omega)]
            exact h3
      · rintro ⟨hxl, hxo⟩
        have hx := hxo N (by omega)
        unfold okAt at hx
        rw [if_pos (Nat.lt_succ_self N), e] at hx
        refine ⟨x.set N (cs.getD N ""), (ih _).mpr ⟨by rw [List.length_set]; exact hxl, fun i hi => ?_⟩, List.mem_map.mpr ⟨x.getD N "", hx, set_back (by omega)⟩⟩
        unfold okAt
        by_cases h2 : i = N
        · subst h2
          rw [if_neg (Nat.lt_irrefl _), getD_set_self (by omega)]
        · have h3 := hxo i hi
          unfold okAt at h3
          rw [getD_set_ne (Ne.symm h2)]
          by_cases h1 : i < N
          · rw [if_pos (by omega)] at h3
            rw [if_pos h1]
            exact h3
          · rw [if_neg (by omega)] at h3
            rw [if_neg h1]
            exact h3
theorem lk_canon {os : GO} (g : Good os) {i : Nat} (hi : i < 10) : lk (enc (canon os)) (ent i) = (lk os (ent i)).map (fil i) := by
  cases e : lk os (ent i) with
  | some l => exact (lk_enc g.os hi).mpr (canon_mem.mpr ⟨hi, by unfold canF; rw [e]; rfl⟩)
  | none =>
    show _ = none
    cases e2 : lk (enc (canon os)) (ent i) with
    | none => rfl
    | some l =>
      have m := canon_mem.mp ((lk_enc g.os hi).mp e2)
      obtain ⟨_, l', e3, _⟩ := canF_some m.2
      have e3 : lk os (ent i) = some l' := e3
      rw [e] at e3; cases e3
end Sm
set_option maxHeartbeats 4000000
namespace Sm
open PySem PySem.Spec PyProof.Rows L2
/-! ### what the top has written, by tests on a part of the heap -/
/-- the objects that an object leads to -/
def leads (o : Obj) : List Addr := match o.data with
  | .dict es _ => es.toList.flatMap fun e => He.refV e.val
  | .seq its _ => its.toList.flatMap He.refV
  | .func fd => He.refV fd.code ++ He.refV fd.defaults ++ He.refV fd.kwdefaults
  | .cls cd => [cd.ns]
  | .fields vs => vs.toList.flatMap He.refV
  | _ => []
def further (g : Addr → Option Obj) (as : List Addr) : List Addr := as.flatMap fun a => match g a with
  | some o => leads o
  | none => []
def levels (g : Addr → Option Obj) : Nat → List Addr → List Addr
  | 0, as => as
  | n + 1, as => as ++ levels g n (further g as)
abbrev Test : Type := PySem.W.Frag → Bool
def partOf (n : Nat) (g : Addr → Option Obj) : PySem.W.Frag := He.frG g (levels g n [mainGlobals])
def seenK (ts : List Test) (fn : List He.DefD) (K : PySem.W.Frag) : He.AlD := ((ts.all fun t => t K) && fn.all fun d => d.ok K, fn.map fun d => He.fnW K d.at_)
/-- a dict of the top with text keys: where, its keys in order -/
abbrev Tab : Type := (PySem.W.Frag → Addr) × List Str
abbrev AlX : Type := He.AlD × List (Option (List (Option (Str × Int))))
def seenX (ts : List Test) (fn : List He.DefD) (tb : List Tab) (K : PySem.W.Frag) : AlX := (seenK ts fn K, tb.map fun t => He.dicW K (t.1 K))
def goodX (fn : List He.DefD) (tb : List Tab) (w : World) : AlX := (He.valD fn, tb.map fun t => some (He.keysIn w.params t.2))
def seenG (n : Nat) (ts : List Test) (fn : List He.DefD) (tb : List Tab) (g : Addr → Option Obj) : AlX := seenX ts fn tb (partOf n g)
/-- what is known of the part K behind the top -/
def Known (ts : List Test) (fn : List He.DefD) (tb : List Tab) (w : World) (K : PySem.W.Frag) : Prop := seenX ts fn tb K = goodX fn tb w
def hookX (n : Nat) (ts : List Test) (fn : List He.DefD) (tb : List Tab) : PySem.W.Hook where
  α := AlX
  obs := fun s => seenG n ts fn tb s.heap.get?
  val := fun w => goodX fn tb w
  says := fun w h => ∃ K : PySem.W.Frag, K.In h ∧ Known ts fn tb w K
  of := fun _ _ e => ⟨_, He.frG_in, e⟩
  keeps := fun _ _ _ ⟨K, hK, c⟩ k => ⟨K, PySem.W.Frag.In.keeps hK k, c⟩
theorem seenG_eq {n : Nat} {ts : List Test} {fn : List He.DefD} {tb : List Tab} {g : Addr → Option Obj} {s : Shared} (h : ∀ a, g a = s.heap.get? a) : seenG n ts fn tb g = (hookX n ts fn tb).obs s := by
  rw [show g = s.heap.get? from funext h]
  rfl
section
variable {ts : List Test} {fn : List He.DefD} {tb : List Tab} {w : World} {K : PySem.W.Frag}
theorem Known.test (c : Known ts fn tb w K) (i : Nat) {t : Test} (h : ts[i]? = some t := by rfl) : t K = true := by
  have c0 : seenK ts fn K = He.valD fn := congrArg Prod.fst c
  have c1 : ((ts.all fun t => t K) && fn.all fun d => d.ok K) = true := congrArg Prod.fst c0
  exact List.all_eq_true.mp (Bool.and_eq_true_iff.mp c1).1 t (List.mem_of_getElem? h)
theorem Known.fun_ (c : Known ts fn tb w K) (i : Nat) {d : He.DefD} (h : fn[i]? = some d := by rfl) : ∃ fd, FunD K d.name d.qual d.params d.body d.scope (d.dvs K) (d.kws K) (He.fAd K d.at_) fd := by
  have c0 : seenK ts fn K = He.valD fn := congrArg Prod.fst c
  have c1 : ((ts.all fun t => t K) && fn.all fun d => d.ok K) = true := congrArg Prod.fst c0
  have c2 : (fn.map fun d => He.fnW K d.at_) = fn.map He.DefD.val := congrArg Prod.snd c0
  have c3 : (fn.map fun d => He.fnW K d.at_)[i]? = (fn.map He.DefD.val)[i]? := by rw [c2]
  rw [List.getElem?_map, List.getElem?_map, h] at c3
  exact He.DefD.funD (Option.some.inj c3) (List.all_eq_true.mp (Bool.and_eq_true_iff.mp c1).2 d (List.mem_of_getElem? h))
theorem Known.tab (c : Known ts fn tb w K) (i : Nat) {t : Tab} (h : tb[i]? = some t := by rfl) : ∃ es n, KDict K w (t.1 K) es n := by
  have e : (tb.map fun t => He.dicW K (t.1 K)) = tb.map fun t => some (He.keysIn w.params t.2) := congrArg Prod.snd c
  have e2 : (tb.map fun t => He.dicW K (t.1 K))[i]? = (tb.map fun t => some (He.keysIn w.params t.2))[i]? := by rw [e]
  rw [List.getElem?_map, List.getElem?_map, h] at e2
  exact He.dicW_ok (Option.some.inj e2)
/-- a def without defaults -/
theorem Fun.of {x qual : Str} {st : Stmt} {f : Addr} {fd : FuncData} (F : FunD K x qual (defArgs st) (defBody st) (defScope st) [] [] f fd) : Fun K x qual st f fd := by
  obtain ⟨oc, od, dV, kV, doc, pm, an, cdv, ct, osl, rfl, lk, hc, hD, _⟩ := F.ex
  rcases hD with ⟨_, rfl⟩ | ⟨e, _⟩
  · exact ⟨⟨oc, od, kV, doc, pm, an, cdv, ct, osl, rfl, lk, hc⟩, F.kp⟩
  · exact absurd rfl e
def defD (x : Str) (m : Option Str) (name qual : Str) (st : Stmt) (dfl : List He.Dv) (kwd : List (Str × He.Dv)) : He.DefD := ⟨(x, m), name, qual, defArgs st, defBody st, defScope st, dfl, kwd⟩
/-- the dict at the module's name d has at the key x a tuple of texts -/
def tabAt (d x : Str) (ys : List Str) : Test := fun K => match PySem.W.nsIn K (He.ga K d) x with
  | some (some (.ref a)) => (match K.lookup a with
    | some ⟨.type c, _, .seq its _, _⟩ => decide (c = "tuple") && (decide (its.size ≤ sizeLine) && He.relAll (ys.map V.str) its.toList)
    | _ => false)
  | _ => false
theorem tabAt_ok {d x : Str} {ys : List Str} (h : tabAt d x ys K = true) : ∃ a, PySem.W.nsIn K (He.ga K d) x = some (some (.ref a)) ∧ ∀ H, SqT K H a (ys.map V.str) := by
  unfold tabAt at h
  cases e : PySem.W.nsIn K (He.ga K d) x with
  | none => rw [e] at h; cases h
  | some r =>
    rw [e] at h
    cases r with
    | none => cases h
    | some v =>
      cases v with
      | ref a =>
        refine ⟨a, rfl, fun H => ?_⟩
        have h1 : (match K.lookup a with
          | some ⟨.type c, _, .seq its _, _⟩ => decide (c = "tuple") && (decide (its.size ≤ sizeLine) && He.relAll (ys.map V.str) its.toList)
          | _ => false) = true := h
        cases q : K.lookup a with
        | none => rw [q] at h1; cases h1
        | some o =>
          obtain ⟨oc, od, dt, osl⟩ := o
          rw [q] at h1
          cases oc with
          | type c =>
            cases dt with
            | seq its n =>
              obtain ⟨h2, h3⟩ := He.ba (show (decide (c = "tuple") && (decide (its.size ≤ sizeLine) && He.relAll (ys.map V.str) its.toList)) = true from h1)
              obtain ⟨h4, h5⟩ := He.ba h3
              exact .inr ⟨_, its, n, q, congrArg Value.type (of_decide_eq_true h2), rfl, of_decide_eq_true h4, He.relAll_ok h5⟩
            | _ => cases h1
          | _ => cases dt <;> cases h1
      | _ => cases h
end
end Sm
set_option maxHeartbeats 4000000
namespace Sm
open PySem PySem.Spec PyProof.Rows L2
/-! ### rules that name the written part (for what stands in a comprehension) -/
section
variable {X : Cx} {K : PySem.W.Frag}
theorem pe_fldK {e : Expr} {f : Str} {pos : Pos} {ta : TE} (hK : X.K = K) (he : PE X e ta) (hb : attributeBase e f X.env (eval e X.env) = eval e X.env) : PE X (.Attribute e f pos) (tFld K ta f) := by subst hK; exact pe_fld he hb
theorem ix_listK (hK : X.K = K) : IxR X (rIxL K) := by subst hK; exact ix_list
theorem ix_tupK (hK : X.K = K) : IxR X (rIxT K) := by subst hK; exact ix_tup
theorem op_in_seqK (hK : X.K = K) : OpR X (compareOp .In) (rIn K false) := by subst hK; exact op_in_seq
theorem op_notIn_seqK (hK : X.K = K) : OpR X (compareOp .NotIn) (rIn K true) := by subst hK; exact op_notIn_seq
theorem call_len_seqK (hK : X.K = K) : CallR X (.builtin "len") (fun xs H Q => ∃ p ys, xs = [.ref p] ∧ (SqL K H p ys ∨ SqT K H p ys) ∧ Q (.int ys.length) H) := by subst hK; exact call_len_seq
end
/-! ### instances by their own special methods -/
section
variable {X : Cx} {CX : CXT} {k : Nat} {C g : Addr} {fd : FuncData} {ps : List Str} {sp : Sp} {E : L2.St → XK}
theorem inst_of {pins : List (Addr × Obj)} {σ : L2.St} {H : Hp} {s : Shared} {a dx : Addr} {fs : List (Str × V)} (I : Inv X pins σ H s) (ea : H a = some (.ins C dx fs)) :
    ∃ ox od, PySem.W.InstAt s.heap a ox C od := by
  obtain ⟨mA, O, _, _, _, _⟩ := ins_get I.hok ea
  obtain ⟨od, J, _⟩ := O.look
  exact ⟨_, _, J⟩
/-- a call of the def at g by values, in the around ahead -/
theorem run_own {pins : List (Addr × Obj)} {σ : L2.St} {H : Hp} {s : Shared} {Q : VK} {us : List Value} {vs : List V} (F : FnOk X.prog X.w X.K X.mg X.base CX k g fd ps sp) (hr : Room k X.A) (hb : Binds X.K fd ps []) (hx : PassesAt CX X σ (E σ))
    (I : Inv X pins σ H s) (r : Vals vs us) (h : sp vs H Q (E σ)) : wpAny (model X.prog X.w) X.A (call (.ref g) us) (EP X pins σ Q) X.xe s := run_fnS F hr hb hx I r h
theorem run_own1 {pins : List (Addr × Obj)} {σ : L2.St} {H : Hp} {s : Shared} {Q : VK} {us : List Value} {vs : List V} (F : FnOk X.prog X.w X.K X.mg X.base CX k g fd ps sp) (hr : Room (k + 1) X.A) (hb : Binds X.K fd ps []) (hx : PassesAt CX X σ (E σ))
    (I : Inv X pins σ H s) (r : Vals vs us) (h : sp vs H Q (E σ)) : wpAny (model X.prog X.w) X.A.in1 (call (.ref g) us) (EP X pins σ Q) X.xe s := by
  have hl : us.length = ps.length := by rw [← r.length]; exact F.len _ _ _ _ h
  have b := hb s us I.kIn (by rw [List.append_nil]; exact hl)
  rw [List.append_nil] at b
  refine wpAny_call (codeAny_mono (F.run X.A.in1 X.stack s H ⟨us, []⟩ us vs Q (E σ) hr.in1 I.env0.in1 b r h) fun r s' hq => ?_)
  cases r with
  | error e => exact hx pins H s e s' I hq
  | ok fl =>
    cases fl with
    | ret u => exact I.after hq
    | next => exact False.elim hq
    | brk => exact False.elim hq
    | cont => exact False.elim hq
/-- o[i] by the class's own __getitem__ -/
structure GetM (K : PySem.W.Frag) (C g : Addr) : Prop where
  at_ : PySem.W.findIn K (.ref C) "__getitem__" = some (some (.ref g))
  fn : PySem.W.fnIn K g = true
  is : PySem.W.isFn K (.ref g) = true
def tOwnIx (C : Addr) (sp : Sp) (E : L2.St → XK) (to ti : TE) : TE := fun σ H Q => to σ H fun o H1 => ti σ H1 fun i H2 => ∃ a dx fs, o = .ref a ∧ H2 a = some (.ins C dx fs) ∧ sp [o, i] H2 Q (E σ)
theorem pe_ownIx {o i : Expr} {pos : Pos} {to ti : TE} (m : GetM X.K C g) (F : FnOk X.prog X.w X.K X.mg X.base CX k g fd ps sp) (hr : Room (k + 1) X.A) (hb : Binds X.K fd ps []) (hx : ∀ σ, PassesAt CX X σ (E σ)) (ho : PE X o to) (hi : PE X i ti)
    (hsl : ∀ (x : Addr) (iv : Value), subscripted i true (.ref x) iv = runValue (.builtin "lifetime.subscript" ⟨[.ref x, iv], []⟩) := by intro _ _; with_unfolding_all rfl) :
    PE X (.Subscript o i pos) (tOwnIx C sp E to ti) := by
  refine ⟨fun pins s σ H Q I h => ?_⟩
  refine Subscript_ (binT (R := fun o i H2 => ∃ a dx fs, o = .ref a ∧ H2 a = some (.ins C dx fs) ∧ sp [o, i] H2 Q (E σ)) ho hi I h fun v u s2 x y H2 I2 rx ry q => ?_)
  obtain ⟨a, dx, fs, rfl, ea, q⟩ := q
  cases (show v = Value.ref a from rx)
  obtain ⟨ox, od, J⟩ := inst_of I2 ea
  obtain ⟨mm, hF⟩ := I2.fr
  exact PySem.W.sub_K hF I2.ok.mod.kin J m.at_ m.fn m.is (run_own1 (vs := [.ref a, y]) F hr hb (hx σ) I2 (.cons rfl (.cons ry .nil)) q) (hsl a u)
/-- o[i] = v by the class's own __setitem__ -/
structure SetM (K : PySem.W.Frag) (C g : Addr) : Prop where
  at_ : PySem.W.findIn K (.ref C) "__setitem__" = some (some (.ref g))
  sq : PySem.W.noSeq K C = true
  is : PySem.W.isFn K (.ref g) = true
def gOwnSet (C : Addr) (sp : Sp) (E : L2.St → XK) (to ti : TE) : TG := fun v σ H Q => to σ H fun o H1 => ti σ H1 fun i H2 => ∃ a dx fs, o = .ref a ∧ H2 a = some (.ins C dx fs) ∧ sp [o, i, v] H2 (fun _ H3 => Q σ H3) (E σ)
theorem pg_ownSet {o i : Expr} {pos : Pos} {to ti : TE} (m : SetM X.K C g) (F : FnOk X.prog X.w X.K X.mg X.base CX k g fd ps sp) (hr : Room k X.A) (hb : Binds X.K fd ps []) (hx : ∀ σ, PassesAt CX X σ (E σ)) (ho : PE X o to) (hi : PE X i ti)
    (ha : ∀ v, assign (.Subscript o i pos) X.env v = (do
      let ov ← holding [v] (eval o X.env)
      let iv ← holding [v, ov] (eval i X.env)
      standAt pos
      holding [v, ov, iv] (setItem ov iv v)
      release [v, ov, iv] []) := by intro _; rfl) : PG X (.Subscript o i pos) (gOwnSet C sp E to ti) := by
  refine ⟨fun pins s σ H v u Q I r h => ?_⟩
  rw [ha]
  refine wpAny_bind (wpAny_holding (thn (ho.run pins s σ H _ I h) fun ov s1 ⟨x, H1, I1, r1, q1⟩ => ?_))
  refine wpAny_bind (wpAny_holding (thn (hi.run pins s1 σ H1 _ I1 q1) fun iv s2 ⟨y, H2, I2, r2, q2⟩ => ?_))
  obtain ⟨a, dx, fs, rfl, ea, q⟩ := q2
  cases (show ov = Value.ref a from r1)
  obtain ⟨ox, od, J⟩ := inst_of I2 ea
  obtain ⟨mm, hF⟩ := I2.fr
  refine wpAny_bind (wpAny_standAt ?_)
  refine wpAny_bind (wpAny_holding (PySem.W.ksp_setItem hF I2.ok.mod.kin J m.sq m.at_ m.is (thn (run_own (vs := [.ref a, y, v]) F hr hb (hx σ) I2 (.cons rfl (.cons r2 (.cons r .nil))) q) fun z s3 ⟨zv, H3, I3, _, q3⟩ => ?_)))
  exact wpAny_release ⟨σ, H3, I3, q3⟩
/-- x op y for two instances by the first one's own def -/
def rOwnCmp (K : PySem.W.Frag) (C : Addr) (sp : Sp) (E : XK) : R2 := fun x y H Q => ∃ a dx fs b C' dy ws, x = .ref a ∧ y = .ref b ∧ H a = some (.ins C dx fs) ∧ H b = some (.ins C' dy ws) ∧ PySem.W.notFirst K C (.ref C') = true ∧ sp [x, y] H Q E
theorem op_ownCmp {op : CmpOp} {E : XK} (hop : ∀ a b, compareOp op a b = richCompare op a b) (hs : PySem.W.findIn X.K (.ref C) (cmpInfo op).2.1 = some (some (.ref g))) (hf : PySem.W.isFn X.K (.ref g) = true) (F : FnOk X.prog X.w X.K X.mg X.base CX k g fd ps sp)
    (hr : Room k X.A) (hb : Binds X.K fd ps []) (hx : Passes CX X E) : OpR X (compareOp op) (rOwnCmp X.K C sp E) := by
  intro pins s σ H x y v u Q I rx ry h
  obtain ⟨a, dx, fs, b, C', dy, ws, rfl, rfl, ea, eb, hn, q⟩ := h
  cases (show v = Value.ref a from rx)
  cases (show u = Value.ref b from ry)
  obtain ⟨ox, od, J⟩ := inst_of I ea
  obtain ⟨oy, od', J'⟩ := inst_of I eb
  obtain ⟨m, hF⟩ := I.fr
  rw [hop]
  refine PySem.W.cmp_K (op := op) (tb := .ref C') hr.units0 hF I.ok.mod.kin J J'.type hn hs hf ?_
  refine thn (run_fn (us := [.ref a, .ref b]) (vs := [.ref a, .ref b]) F hr hb .nil hx I (.cons rfl (.cons rfl .nil)) q) fun w s' z => ?_
  obtain ⟨z', H', I', rz, qz⟩ := z
  exact SlX.cmpback rz ⟨z', H', I', rz, qz⟩
end
/-! ### isinstance of what a suite holds; calls that let nothing out -/
section
variable {X : Cx} {a D : Addr} {oe : Obj} {pn : List (Addr × Obj)} {cls : Value} {d : Option Addr}
def rIsS (K : PySem.W.Frag) (D a : Addr) (cls : Value) (d : Option Addr) : List V → Hp → VK → Prop := fun xs H Q => cls = .ref D ∧ d = none ∧ rIsE K D a xs H Q
theorem call_isS (C : ExcC X.K D) (hz : Zc cls d oe) (hf : ∃ vs, oe.data = .fields vs) : CallR (X.suite a ((a, oe) :: pn)) (.builtin "isinstance") (rIsS X.K D a cls d) := by
  intro pins s σ H xs us Q I r h
  obtain ⟨rfl, rfl, h⟩ := h
  exact call_isE C hz hf pins s σ H xs us Q I r h
theorem passAt0 {σ : L2.St} : PassesAt (L2.CX X.prog X.w) X σ E0 := fun pins H s e s' I c => passL pins σ H s e s' I c
theorem r_meth {C : Addr} {m : Str} {sp : Sp} {dvs : List V} {E : XK} {ta : TE} {t : TA} {σ : L2.St} {H : Hp} {Q : VK} (h : ta σ H fun x H1 => ∃ a dx fs, x = .ref a ∧ H1 a = some (.ins C dx fs) ∧ fs.lookup m = none ∧ t σ H1 fun vs H2 => sp (x :: (vs ++ dvs)) H2 Q E) : tMeth C m sp dvs E ta t σ H Q := h
theorem r_make {C : Addr} {sp : Sp} {dvs : List V} {E : XK} {t : TA} {σ : L2.St} {H : Hp} {Q : VK} (h : t σ H fun vs H1 => ∀ x dx, H1 x = none → H1 dx = none → dx ≠ x → sp (.ref x :: (vs ++ dvs)) (upd (upd H1 dx (.own x)) x (.ins C dx [])) (fun v H2 => v = .non ∧ Q (.ref x) H2) E) : tMake C sp dvs E t σ H Q := h
theorem r_ownIx {C : Addr} {sp : Sp} {E : L2.St → XK} {to ti : TE} {σ : L2.St} {H : Hp} {Q : VK} (h : to σ H fun o H1 => ti σ H1 fun i H2 => ∃ a dx fs, o = .ref a ∧ H2 a = some (.ins C dx fs) ∧ sp [o, i] H2 Q (E σ)) : tOwnIx C sp E to ti σ H Q := h
theorem r_ownSet {C : Addr} {sp : Sp} {E : L2.St → XK} {to ti : TE} {v : V} {σ : L2.St} {H : Hp} {Q : L2.St → Hp → Prop} (h : to σ H fun o H1 => ti σ H1 fun i H2 => ∃ a dx fs, o = .ref a ∧ H2 a = some (.ins C dx fs) ∧ sp [o, i, v] H2 (fun _ H3 => Q σ H3) (E σ)) : gOwnSet C sp E to ti v σ H Q := h
theorem r_callS {sp : Sp} {E : L2.St → XK} {t : TA} {σ : L2.St} {H : Hp} {Q : VK} (h : t σ H fun vs H1 => sp vs H1 Q (E σ)) : tCallS sp E t σ H Q := h
end
/-! ### tests of classes -/
section
variable {K : PySem.W.Frag}
abbrev ref1 (a : Addr) : Option (Option Value) := some (some (.ref a))
def getB (x : Str) : Test := fun K => He.eqO (PySem.W.findIn K (.ref (He.ga K x)) "__getitem__") (ref1 (He.fAd K (x, some "__getitem__"))) && (PySem.W.fnIn K (He.fAd K (x, some "__getitem__")) && PySem.W.isFn K (.ref (He.fAd K (x, some "__getitem__"))))
theorem getB_ok {x : Str} (h : getB x K = true) : GetM K (He.ga K x) (He.fAd K (x, some "__getitem__")) := by
  obtain ⟨h1, h2⟩ := He.ba h
  obtain ⟨h2, h3⟩ := He.ba h2
  exact ⟨He.eqO_ok h1, h2, h3⟩
def setB (x : Str) : Test := fun K => He.eqO (PySem.W.findIn K (.ref (He.ga K x)) "__setitem__") (ref1 (He.fAd K (x, some "__setitem__"))) && (PySem.W.noSeq K (He.ga K x) && PySem.W.isFn K (.ref (He.fAd K (x, some "__setitem__"))))
theorem setB_ok {x : Str} (h : setB x K = true) : SetM K (He.ga K x) (He.fAd K (x, some "__setitem__")) := by
  obtain ⟨h1, h2⟩ := He.ba h
  obtain ⟨h2, h3⟩ := He.ba h2
  exact ⟨He.eqO_ok h1, h2, h3⟩
def insB (x : Str) : Test := fun K => He.Fa.ok K (.cls x) && (He.eqO (PySem.W.findIn K (.ref (He.ga K x)) "__class__") (some (some (.builtin "object.__class__"))) &&
  (He.eqO (PySem.W.specialIn K (.builtin "object.__class__") "__get__") (some (some (.builtin "getset_descriptor.__get__"))) && (decide (PySem.W.takesIn K (.builtin "object.__class__") = some true) &&
  (decide (PySem.W.mroIn K (He.ga K x) (.type "object") = some true) && decide (PySem.W.kitOne K (.ref (He.ga K x)) (.ref (He.ga K x)) = some true)))))
theorem insB_ok {x : Str} (h : insB x K = true) : C8.InsC K (He.ga K x) := by
  obtain ⟨h1, h⟩ := He.ba h
  obtain ⟨h2, h⟩ := He.ba h
  obtain ⟨h3, h⟩ := He.ba h
  obtain ⟨h4, h⟩ := He.ba h
  obtain ⟨h5, h6⟩ := He.ba h
  exact ⟨He.cls_ok h1, He.eqO_ok h2, He.eqO_ok h3, of_decide_eq_true h4, of_decide_eq_true h5, of_decide_eq_true h6⟩
def excB (x : Str) : Test := fun K => He.eqO (PySem.W.findIn K (.ref (He.ga K x)) "__getattribute__") (some (some (.builtin "BaseException.__getattribute__"))) && (He.eqO (PySem.W.findIn K (.ref (He.ga K x)) "__getattr__") (some none) &&
  (decide (PySem.W.subIn K (.ref (He.ga K x)) (.type "BaseException") = some true) && (PySem.W.hasDictIn K (He.ga K x) && (He.eqO (PySem.W.findIn K (.ref (He.ga K x)) "__class__") (some (some (.builtin "object.__class__"))) &&
  (He.eqO (PySem.W.specialIn K (.builtin "object.__class__") "__get__") (some (some (.builtin "getset_descriptor.__get__"))) && (decide (PySem.W.takesIn K (.builtin "object.__class__") = some true) && decide (PySem.W.mroIn K (He.ga K x) (.type "object") = some true)))))))
theorem excB_ok {x : Str} (h : excB x K = true) : ExcC K (He.ga K x) := by
  obtain ⟨h1, h⟩ := He.ba h
  obtain ⟨h2, h⟩ := He.ba h
  obtain ⟨h3, h⟩ := He.ba h
  obtain ⟨h4, h⟩ := He.ba h
  obtain ⟨h5, h⟩ := He.ba h
  obtain ⟨h6, h⟩ := He.ba h
  obtain ⟨h7, h8⟩ := He.ba h
  exact ⟨He.eqO_ok h1, He.eqO_ok h2, of_decide_eq_true h3, h4, He.eqO_ok h5, He.eqO_ok h6, of_decide_eq_true h7, of_decide_eq_true h8⟩
def kitB (x y : Str) (b : Bool) : Test := fun K => decide (PySem.W.kitOne K (.ref (He.ga K x)) (.ref (He.ga K y)) = some b)
theorem kitB_ok {x y : Str} {b : Bool} (h : kitB x y b K = true) : PySem.W.kitOne K (.ref (He.ga K x)) (.ref (He.ga K y)) = some b := of_decide_eq_true h
def kitTB (x : Str) (n : String) (b : Bool) : Test := fun K => decide (PySem.W.kitOne K (.ref (He.ga K x)) (.type n) = some b)
theorem kitTB_ok {x : Str} {n : String} {b : Bool} (h : kitTB x n b K = true) : PySem.W.kitOne K (.ref (He.ga K x)) (.type n) = some b := of_decide_eq_true h
def cmpB (x m : Str) : Test := fun K => He.eqO (PySem.W.findIn K (.ref (He.ga K x)) m) (ref1 (He.fAd K (x, some m))) && PySem.W.isFn K (.ref (He.fAd K (x, some m)))
theorem cmpB_ok {x m : Str} (h : cmpB x m K = true) : PySem.W.findIn K (.ref (He.ga K x)) m = some (some (.ref (He.fAd K (x, some m)))) ∧ PySem.W.isFn K (.ref (He.fAd K (x, some m))) = true := by
  obtain ⟨h1, h2⟩ := He.ba h
  exact ⟨He.eqO_ok h1, h2⟩
def nfB (x y : Str) : Test := fun K => PySem.W.notFirst K (He.ga K x) (.ref (He.ga K y))
end
end Sm
set_option maxHeartbeats 4000000
/-! what sleeps stays asleep: a run that is shown with every sleeping generator made useless does not touch them -/
namespace Sl
open PySem
open Sem (wp)
/-- a generator that sleeps, but nothing can wake it -/
def dull : GenState → GenState
  | .suspended _ l c p fs cl => .suspended (fun _ => .unsupported "asleep") l c p fs cl
  | x => x
def sleeps : GenState → Bool
  | .suspended .. => true
  | _ => false
def tidy : GenState → Prop
  | .suspended _ _ _ _ fs _ => splitAtGen fs = none
  | _ => True
theorem dull_seen (x : GenState) : (dull x).seen = x.seen := by cases x <;> rfl
theorem dull_bare (x : GenState) : (dull x).bare = x.bare := by cases x <;> rfl
theorem dull_of_awake {x : GenState} (h : sleeps x = false) : dull x = x := by cases x <;> first | rfl | cases h
/-- G: the table of the run that was shown; R: the table as it is -/
structure Sl (old G R : Array GenState) : Prop where
  size : G.size = R.size
  pt : ∀ (i : Nat) (x y : GenState), G[i]? = some x → R[i]? = some y → (x = y ∧ tidy y) ∨ (x = dull y ∧ sleeps y = true ∧ old[i]? = some y)
  keep : ∀ (i : Nat) (y : GenState), old[i]? = some y → sleeps y = true → R[i]? = some y ∧ G[i]? = some (dull y)
section
variable {old G R : Array GenState} {g : Nat} {x y : GenState}
theorem Sl.start (old : Array GenState) : Sl old (old.map dull) old := by
  refine ⟨by simp, fun i x y hx hy => ?_, fun i y h _ => ⟨h, by rw [Array.getElem?_map, h]; rfl⟩⟩
  rw [Array.getElem?_map, hy] at hx
  cases hx
  cases h : sleeps y with
  | true => exact .inr ⟨rfl, rfl, hy⟩
  | false =>
    refine .inl ⟨dull_of_awake h, ?_⟩
    cases y <;> first | trivial | cases h
theorem Sl.other (S : Sl old G R) (h : G[g]? = some x) : ∃ y, R[g]? = some y ∧ ((x = y ∧ tidy y) ∨ (x = dull y ∧ sleeps y = true ∧ old[g]? = some y)) := by
  have hg : g < G.size := (Array.getElem?_eq_some_iff.mp h).1
  have hr : g < R.size := by rw [← S.size]; exact hg
  exact ⟨R[g], Array.getElem?_eq_getElem hr, S.pt g x _ h (Array.getElem?_eq_getElem hr)⟩
theorem Sl.awake (S : Sl old G R) (h : G[g]? = some x) (hs : sleeps x = false) : R[g]? = some x := by
  obtain ⟨y, hy, ⟨e, _⟩ | ⟨e, hs2, _⟩⟩ := S.other h
  · rw [e]; exact hy
  · rw [e] at hs
    cases y with
    | suspended k l c p fs cl => exact absurd (show sleeps (dull (.suspended k l c p fs cl)) = true from rfl) (by rw [hs]; exact Bool.false_ne_true)
    | _ => cases hs2
theorem Sl.set (S : Sl old G R) (h : ∀ y, old[g]? = some y → sleeps y = false) (t : tidy x) : Sl old (G.setIfInBounds g x) (R.setIfInBounds g x) := by
  refine ⟨by simp [S.size], fun i u v hu hv => ?_, fun i v ho hs => ?_⟩
  · by_cases e : g = i
    · subst e
      have hg : g < G.size := by have := (Array.getElem?_eq_some_iff.mp hu).1; simpa using this
      have hr : g < R.size := by rw [← S.size]; exact hg
      rw [Array.getElem?_setIfInBounds_self_of_lt hg] at hu
      rw [Array.getElem?_setIfInBounds_self_of_lt hr] at hv
      cases hu; cases hv
      exact .inl ⟨rfl, t⟩
    · rw [Array.getElem?_setIfInBounds_ne e] at hu hv
      exact S.pt i u v hu hv
  · by_cases e : g = i
    · subst e; rw [h v ho] at hs; cases hs
    · rw [Array.getElem?_setIfInBounds_ne e, Array.getElem?_setIfInBounds_ne e]; exact S.keep i v ho hs
theorem Sl.push (S : Sl old G R) (t : tidy x) : Sl old (G.push x) (R.push x) := by
  refine ⟨by simp [S.size], fun i u v hu hv => ?_, fun i v ho hs => ?_⟩
  · rw [Array.getElem?_push] at hu hv
    rw [S.size] at hu
    by_cases e : i = R.size
    · rw [if_pos e] at hu hv
      cases hu; cases hv
      exact .inl ⟨rfl, t⟩
    · rw [if_neg e] at hu hv
      exact S.pt i u v hu hv
  · rw [Array.getElem?_push, Array.getElem?_push]
    have q := S.keep i v ho hs
    have hl := (Array.getElem?_eq_some_iff.mp q.1).1
    have hz := S.size
    rw [if_neg (by omega), if_neg (by omega)]
    exact q
end
/-- what stands in a sleeping end -/
def okE : End → Prop
  | .susp _ _ _ _ _ _ fs => splitAtGen fs = none
  | _ => True
theorem okE.tidy {e : End} (h : okE e) : tidy e.genState := by
  cases e with
  | ret r => trivial
  | susp v g l k c p fs => exact h
theorem split_app {a b : List Frame} (ha : splitAtGen a = none) (hb : splitAtGen b = none) : splitAtGen (a ++ b) = none := by
  rw [splitAtGen_append_none b ha, hb]; rfl
theorem split_ret {k h g l c p kp} {st : List Frame} (hs : splitAtGen (.ret k h g l c p kp :: st) = none) : splitAtGen st = none := by
  rw [splitAtGen_ret] at hs
  cases e : splitAtGen st with
  | none => rfl
  | some z => rw [e] at hs; cases hs
theorem no_run {M : Model} {Γ : Ctx} {p : Pos} {t : Sem PySem.Fin} {fs : List Frame} {s s' : Shared} {e : End} {w : String} (h : Runs M Γ p t fs s e s') : t = .unsupported w → False := by
  induction h <;> intro e <;> first | cases e | skip
  all_goals first | exact (by assumption : Sem.unsupported w = Sem.unsupported w → False) rfl | skip
section
variable {M : Model} {old : Array GenState}
theorem Sl.seen {G R : Array GenState} {g : Nat} {x : GenState} (S : Sl old G R) (h : G[g]? = some x) : ∃ y, R[g]? = some y ∧ y.seen = x.seen := by
  obtain ⟨y, hy, ⟨e, _⟩ | ⟨e, _, _⟩⟩ := S.other h
  · exact ⟨y, hy, by rw [e]⟩
  · exact ⟨y, hy, by rw [e, dull_seen]⟩
theorem Sl.le {G R : Array GenState} (S : Sl old G R) (g : Nat) {x : GenState} (h : G[g]? = some x) (hs : sleeps x = false) : ∀ y, old[g]? = some y → sleeps y = false := fun y hy => by
  cases e : sleeps y with
  | false => rfl
  | true =>
    have h1 := (S.keep g y hy e).1
    have h2 := S.awake h hs
    rw [h1] at h2
    cases h2
    rw [e] at hs
    exact absurd hs (by decide)
/-- a sleeping one that is woken: it is none of the old ones -/
theorem Sl.woken {G R : Array GenState} {g : Nat} {Γ : Ctx} {p : Pos} {r : Resume} {s s' : Shared} {e : End} {k l c p₀ fs cl} (S : Sl old G R) (h : G[g]? = some (.suspended k l c p₀ fs cl)) (hr : Runs M Γ p (k r) fs s e s') :
    R[g]? = some (.suspended k l c p₀ fs cl) ∧ splitAtGen fs = none ∧ ∀ y, old[g]? = some y → sleeps y = false := by
  obtain ⟨y, hy, ⟨e, t⟩ | ⟨e, hs, _⟩⟩ := S.other h
  · subst e
    refine ⟨hy, t, fun y' hy' => ?_⟩
    cases q : sleeps y' with
    | false => rfl
    | true =>
      have h1 := (S.keep g y' hy' q).2
      rw [h] at h1
      cases y' with
      | suspended k' l' c' p' fs' cl' => cases h1; exact (no_run hr rfl).elim
      | _ => cases q
  · cases y with
    | suspended k' l' c' p' fs' cl' => cases e; exact (no_run hr rfl).elim
    | _ => cases hs
/-- the run as it is -/
theorem runs_sleep {Γ : Ctx} {p : Pos} {t : Sem PySem.Fin} {fs : List Frame} {s s' : Shared} {e : End} (h : Runs M Γ p t fs s e s') : ∀ R, splitAtGen fs = none → Sl old s.gens R →
    okE e ∧ ∃ R', Sl old s'.gens R' ∧ Runs M Γ p t fs { s with gens := R } e { s' with gens := R' } := by
  induction h with
  | done => intro R _ S; exact ⟨trivial, R, S, .done⟩
  | raise => intro R _ S; exact ⟨trivial, R, S, .raise⟩
  | again hq _ ih => intro R hf S; obtain ⟨o, R', S', r⟩ := ih R hf S; exact ⟨o, R', S', .again hq r⟩
  | rule _ ih => intro R hf S; obtain ⟨o, R', S', r⟩ := ih R hf S; exact ⟨o, R', S', .rule r⟩
  | «at» _ ih => intro R hf S; obtain ⟨o, R', S', r⟩ := ih R hf S; exact ⟨o, R', S', .at r⟩
  | load ho _ ih => intro R hf S; obtain ⟨o, R', S', r⟩ := ih R hf S; exact ⟨o, R', S', .load ho r⟩
  | update ho _ ih => intro R hf S; obtain ⟨o, R', S', r⟩ := ih R hf S; exact ⟨o, R', S', .update ho r⟩
  | loadIfAlive _ ih => intro R hf S; obtain ⟨o, R', S', r⟩ := ih R hf S; exact ⟨o, R', S', .loadIfAlive r⟩
  | point _ ih => intro R hf S; obtain ⟨o, R', S', r⟩ := ih R hf S; exact ⟨o, R', S', .point r⟩
  | alloc _ ih => intro R hf S; obtain ⟨o, R', S', r⟩ := ih R hf S; exact ⟨o, R', S', .alloc r⟩
  | fresh _ ih => intro R hf S; obtain ⟨o, R', S', r⟩ := ih R hf S; exact ⟨o, R', S', .fresh r⟩
  | ask _ ih => intro R hf S; obtain ⟨o, R', S', r⟩ := ih R hf S; exact ⟨o, R', S', .ask r⟩
  | choose hn _ ih => intro R hf S; obtain ⟨o, R', S', r⟩ := ih R hf S; exact ⟨o, R', S', .choose hn r⟩
  | os _ ih => intro R hf S; obtain ⟨o, R', S', r⟩ := ih R hf S; exact ⟨o, R', S', .os r⟩
  | handled _ ih => intro R hf S; obtain ⟨o, R', S', r⟩ := ih R hf S; exact ⟨o, R', S', .handled r⟩
  | genState hg _ ih =>
    intro R hf S
    obtain ⟨y, hy, e⟩ := S.seen hg
    obtain ⟨o, R', S', r⟩ := ih R hf S
    exact ⟨o, R', S', .genState hy (by rw [e]; exact r)⟩
  | stack _ ih => intro R hf S; obtain ⟨o, R', S', r⟩ := ih R hf S; exact ⟨o, R', S', .stack r⟩
  | thread _ ih => intro R hf S; obtain ⟨o, R', S', r⟩ := ih R hf S; exact ⟨o, R', S', .thread r⟩
  | newGen _ ih =>
    intro R hf S
    obtain ⟨o, R', S', r⟩ := ih (R.push _) hf (S.push trivial)
    refine ⟨o, R', S', .newGen ?_⟩
    rw [S.size] at r
    exact r
  | call _ _ ih1 ih2 =>
    intro R hf S
    obtain ⟨_, R1, S1, r1⟩ := ih1 R rfl S
    obtain ⟨o, R', S', r⟩ := ih2 R1 hf S1
    exact ⟨o, R', S', .call r1 r⟩
  | callSusp _ ih =>
    intro R hf S
    obtain ⟨o, R', S', r⟩ := ih R rfl S
    exact ⟨split_app o rfl, R', S', .callSusp r⟩
  | yield => intro R _ S; exact ⟨rfl, R, S, .yield⟩
  | resumeFresh hg _ hq _ ih1 ih2 =>
    intro R hf S
    have hR := S.awake hg rfl
    have ho := S.le _ hg rfl
    obtain ⟨o1, R1, S1, r1⟩ := ih1 (R.setIfInBounds _ .running) rfl (S.set ho trivial)
    obtain ⟨o, R', S', r⟩ := ih2 (R1.setIfInBounds _ _) hf (S1.set ho o1.tidy)
    exact ⟨o, R', S', .resumeFresh hR r1 hq r⟩
  | resumeSuspended hg hr hq _ ih1 ih2 =>
    intro R hf S
    obtain ⟨hR, t, ho⟩ := S.woken hg hr
    obtain ⟨o1, R1, S1, r1⟩ := ih1 (R.setIfInBounds _ .running) t (S.set ho trivial)
    obtain ⟨o, R', S', r⟩ := ih2 (R1.setIfInBounds _ _) hf (S1.set ho o1.tidy)
    exact ⟨o, R', S', .resumeSuspended hR r1 hq r⟩
  | resumeJustStarted hg hv _ ih => intro R hf S; obtain ⟨o, R', S', r⟩ := ih R hf S; exact ⟨o, R', S', .resumeJustStarted (S.awake hg rfl) hv r⟩
  | resumeThrowFresh hg _ ih =>
    intro R hf S
    obtain ⟨o, R', S', r⟩ := ih (R.setIfInBounds _ .finished) hf (S.set (S.le _ hg rfl) trivial)
    exact ⟨o, R', S', .resumeThrowFresh (S.awake hg rfl) r⟩
  | resumeRunning hg _ ih => intro R hf S; obtain ⟨o, R', S', r⟩ := ih R hf S; exact ⟨o, R', S', .resumeRunning (S.awake hg rfl) r⟩
  | resumeFinished hg _ ih => intro R hf S; obtain ⟨o, R', S', r⟩ := ih R hf S; exact ⟨o, R', S', .resumeFinished (S.awake hg rfl) r⟩
  | segRet _ _ ih1 ih2 =>
    intro R hf S
    obtain ⟨_, R1, S1, r1⟩ := ih1 R rfl S
    obtain ⟨o, R', S', r⟩ := ih2 R1 (split_ret hf) S1
    exact ⟨o, R', S', .segRet r1 r⟩
  | segGen _ _ _ _ => intro R hf; cases hf
  | segSuspOut hn _ ih =>
    intro R hf S
    obtain ⟨o, R', S', r⟩ := ih R rfl S
    exact ⟨split_app o hf, R', S', .segSuspOut hn r⟩
  | segSuspGen hn _ _ _ _ _ => intro R hf; rw [hf] at hn; cases hn
theorem returns_sleep {Γ : Ctx} {p : Pos} {s s' : Shared} {r : Result} (h : Returns M Γ p s r s') {R : Array GenState} (S : Sl old s.gens R) : ∃ R', Sl old s'.gens R' ∧ Returns M Γ p { s with gens := R } r { s' with gens := R' } :=
  (runs_sleep h R rfl S).2
theorem wakes_sleep {Γ : Ctx} {p : Pos} {g : Nat} {r : Resume} {s s' : Shared} {res : GenResult} (h : Wakes M Γ p g r s res s') {R : Array GenState} (S : Sl old s.gens R) :
    ∃ R', Sl old s'.gens R' ∧ Wakes M Γ p g r { s with gens := R } res { s' with gens := R' } := by
  unfold Wakes at h
  cases hg : s.gens[g]? with
  | none => rw [hg] at h; exact h.elim
  | some x =>
    rw [hg] at h
    cases x with
    | fresh c =>
      have hR : R[g]? = some (.fresh c) := S.awake hg rfl
      have ho := S.le _ hg rfl
      cases r with
      | throw x =>
        obtain ⟨rfl, rfl⟩ := h
        exact ⟨R.setIfInBounds g .finished, S.set ho trivial, by unfold Wakes; dsimp only; rw [hR]; exact ⟨rfl, rfl⟩⟩
      | send v =>
        cases v with
        | none =>
          obtain ⟨e₁, s₁, hr, hq, rfl, rfl⟩ := h
          obtain ⟨o1, R1, S1, r1⟩ := runs_sleep hr (R.setIfInBounds g .running) rfl (S.set ho trivial)
          exact ⟨R1.setIfInBounds g e₁.genState, S1.set ho o1.tidy, by unfold Wakes; dsimp only; rw [hR]; exact ⟨e₁, _, r1, hq, rfl, rfl⟩⟩
        | _ =>
          obtain ⟨rfl, rfl⟩ := h
          exact ⟨R, S, by unfold Wakes; dsimp only; rw [hR]; exact ⟨rfl, rfl⟩⟩
    | suspended k l c p₀ fs cl =>
      obtain ⟨e₁, s₁, hr, hq, rfl, rfl⟩ := h
      obtain ⟨hR, t, ho⟩ := S.woken hg hr
      obtain ⟨o1, R1, S1, r1⟩ := runs_sleep hr (R.setIfInBounds g .running) t (S.set ho trivial)
      exact ⟨R1.setIfInBounds g e₁.genState, S1.set ho o1.tidy, by unfold Wakes; dsimp only; rw [hR]; exact ⟨e₁, _, r1, hq, rfl, rfl⟩⟩
    | running =>
      obtain ⟨rfl, rfl⟩ := h
      exact ⟨R, S, by unfold Wakes; dsimp only; rw [S.awake hg rfl]; exact ⟨rfl, rfl⟩⟩
    | finished =>
      obtain ⟨rfl, rfl⟩ := h
      exact ⟨R, S, by unfold Wakes; dsimp only; rw [S.awake hg rfl]; exact ⟨rfl, rfl⟩⟩
theorem wp_sleep {α : Type} {Γ : Ctx} (t : Sem α) : ∀ (Q : α → Pos → Shared → Prop) (E : Value → Pos → Shared → Prop) (p : Pos) (s : Shared) (R : Array GenState), Sl old s.gens R → wp M Γ t Q E p s →
    wp M Γ t (fun a p' s' => ∃ G, Sl old G s'.gens ∧ Q a p' { s' with gens := G }) (fun e p' s' => ∃ G, Sl old G s'.gens ∧ E e p' { s' with gens := G }) p { s with gens := R } := by
  induction t with
  | pure a => intro Q E p s R S h; exact ⟨s.gens, S, h⟩
  | raise e => intro Q E p s R S h; exact ⟨s.gens, S, h⟩
  | unsupported _ => intro Q E p s R _ h; exact h
  | finish _ => intro Q E p s R _ h; exact h
  | rule _ k ih => intro Q E p s R S h; exact ih () Q E p s R S h
  | «at» p' k ih => intro Q E p s R S h; exact ih () Q E p' s R S h
  | load a _ k ih => intro Q E p s R S h; obtain ⟨o, ho, h⟩ := h; exact ⟨o, ho, ih o Q E p s R S h⟩
  | update a _ f k ih => intro Q E p s R S h; exact ⟨h.1, ih () Q E p { s with heap := s.heap.update a f } R S h.2⟩
  | loadIfAlive a k ih => intro Q E p s R S h; exact ih _ Q E p s R S h
  | point _ k ih => intro Q E p s R S h; exact ih () Q E p s R S h
  | register _ _ => intro Q E p s R _ h; exact h
  | alloc o k ih => intro Q E p s R S h; exact ih _ Q E p { s with heap := s.heap.push o } R S h
  | fresh k ih => intro Q E p s R S h; exact ih _ Q E p { s with toks := s.toks + 1 } R S h
  | ask k ih => intro Q E p s R S h; exact ih _ Q E p s R S h
  | choose src m k ih => intro Q E p s R S h; exact ⟨h.1, ih _ Q E p { s with drawn := s.drawn.bump src } R S h.2⟩
  | os q _ k ih => intro Q E p s R S h; exact ih _ Q E p { s with os := (Os.step s.os q).1 } R S h
  | call c hd _ _ k ih =>
    intro Q E p s R S h
    obtain ⟨r, s', hr, h⟩ := h
    obtain ⟨R', S', hr'⟩ := returns_sleep hr S
    exact ⟨r, _, hr', ih r Q E p s' R' S' h⟩
  | handled own k ih => intro Q E p s R S h; exact ih _ Q E p s R S h
  | genState g k ih =>
    intro Q E p s R S h
    obtain ⟨st, hs, h⟩ := h
    obtain ⟨y, hy, e⟩ := S.seen hs
    exact ⟨y, hy, by rw [e]; exact ih _ Q E p s R S h⟩
  | newGen c k ih =>
    intro Q E p s R S h
    have q := ih _ Q E p { s with gens := s.gens.push (.fresh c) } (R.push (.fresh c)) (S.push trivial) h
    show wp M Γ (k R.size) _ _ _ _
    rw [← S.size]
    exact q
  | resume g r _ k ih =>
    intro Q E p s R S h
    obtain ⟨res, s', hw, h⟩ := h
    obtain ⟨R', S', hw'⟩ := wakes_sleep hw S
    exact ⟨res, _, hw', ih res Q E p s' R' S' h⟩
  | yield _ _ _ _ => intro Q E p s R _ h; exact h
  | stack k ih => intro Q E p s R S h; exact ih _ Q E p s R S h
  | fork _ _ => intro Q E p s R _ h; exact h
  | thread k ih => intro Q E p s R S h; exact ih _ Q E p s R S h
  | await _ _ _ _ _ => intro Q E p s R _ h; exact h
/-- what is shown with every sleeping generator made useless holds of the run as it is, and they sleep on -/
theorem wpAny_sleep {α : Type} {A : Around} {t : Sem α} {Q : α → Shared → Prop} {E : Value → Shared → Prop} {s : Shared} (h : wpAny M A t Q E { s with gens := s.gens.map dull }) :
    wpAny M A t (fun a s' => ∃ G, Sl s.gens G s'.gens ∧ Q a { s' with gens := G }) (fun e s' => ∃ G, Sl s.gens G s'.gens ∧ E e { s' with gens := G }) s :=
  fun Γ p hΓ => wp_sleep t _ _ p { s with gens := s.gens.map dull } s.gens (Sl.start s.gens) (h Γ p hΓ)
end
end Sl
set_option maxHeartbeats 4000000
/-! one run, one end -/
namespace Sl
open PySem
open Sem (wp)
variable {M : Model}
theorem runs_one {Γ : Ctx} {p : Pos} {t : Sem PySem.Fin} {fs : List Frame} {s s₁ : Shared} {e₁ : End} (h : Runs M Γ p t fs s e₁ s₁) : ∀ e₂ s₂, Runs M Γ p t fs s e₂ s₂ → e₂ = e₁ ∧ s₂ = s₁ := by
  induction h with
  | done => intro e₂ s₂ h; cases h; exact ⟨rfl, rfl⟩
  | raise => intro e₂ s₂ h; cases h; exact ⟨rfl, rfl⟩
  | again hq _ ih => intro e₂ s₂ h; cases h with | again _ h => exact ih _ _ h
  | rule _ ih => intro e₂ s₂ h; cases h with | rule h => exact ih _ _ h
  | «at» _ ih => intro e₂ s₂ h; cases h with | «at» h => exact ih _ _ h
  | load ho _ ih => intro e₂ s₂ h; cases h with | load ho' h => rw [ho] at ho'; cases ho'; exact ih _ _ h
  | update ho _ ih => intro e₂ s₂ h; cases h with | update _ h => exact ih _ _ h
  | loadIfAlive _ ih => intro e₂ s₂ h; cases h with | loadIfAlive h => exact ih _ _ h
  | point _ ih => intro e₂ s₂ h; cases h with | point h => exact ih _ _ h
  | alloc _ ih => intro e₂ s₂ h; cases h with | alloc h => exact ih _ _ h
  | fresh _ ih => intro e₂ s₂ h; cases h with | fresh h => exact ih _ _ h
  | ask _ ih => intro e₂ s₂ h; cases h with | ask h => exact ih _ _ h
  | choose hn _ ih => intro e₂ s₂ h; cases h with | choose _ h => exact ih _ _ h
  | os _ ih => intro e₂ s₂ h; cases h with | os h => exact ih _ _ h
  | handled _ ih => intro e₂ s₂ h; cases h with | handled h => exact ih _ _ h
  | genState hg _ ih => intro e₂ s₂ h; cases h with | genState hg' h => rw [hg] at hg'; cases hg'; exact ih _ _ h
  | stack _ ih => intro e₂ s₂ h; cases h with | stack h => exact ih _ _ h
  | thread _ ih => intro e₂ s₂ h; cases h with | thread h => exact ih _ _ h
  | newGen _ ih => intro e₂ s₂ h; cases h with | newGen h => exact ih _ _ h
  | call _ _ ih1 ih2 =>
    intro e₂ s₂ h
    cases h with
    | call h1 h2 =>
      obtain ⟨a, b⟩ := ih1 _ _ h1
      cases a; subst b
      exact ih2 _ _ h2
    | callSusp h1 => obtain ⟨a, _⟩ := ih1 _ _ h1; cases a
  | callSusp _ ih =>
    intro e₂ s₂ h
    cases h with
    | call h1 h2 => obtain ⟨a, _⟩ := ih _ _ h1; cases a
    | callSusp h1 => obtain ⟨a, b⟩ := ih _ _ h1; cases a; subst b; exact ⟨rfl, rfl⟩
  | yield => intro e₂ s₂ h; cases h; exact ⟨rfl, rfl⟩
  | resumeFresh hg _ hq _ ih1 ih2 =>
    intro e₂ s₂ h
    cases h with
    | resumeFresh hg' h1 _ h2 =>
      rw [hg] at hg'; cases hg'
      obtain ⟨a, b⟩ := ih1 _ _ h1
      subst a b
      exact ih2 _ _ h2
    | resumeSuspended hg' h1 _ h2 => rw [hg] at hg'; cases hg'
    | resumeJustStarted hg' hv h => exact absurd rfl hv
    | resumeRunning hg' h => rw [hg] at hg'; cases hg'
    | resumeFinished hg' h => rw [hg] at hg'; cases hg'
  | resumeSuspended hg _ hq _ ih1 ih2 =>
    intro e₂ s₂ h
    cases h with
    | resumeFresh hg' h1 _ h2 => rw [hg] at hg'; cases hg'
    | resumeSuspended hg' h1 _ h2 =>
      rw [hg] at hg'; cases hg'
      obtain ⟨a, b⟩ := ih1 _ _ h1
      subst a b
      exact ih2 _ _ h2
    | resumeJustStarted hg' hv h => rw [hg] at hg'; cases hg'
    | resumeThrowFresh hg' h => rw [hg] at hg'; cases hg'
    | resumeRunning hg' h => rw [hg] at hg'; cases hg'
    | resumeFinished hg' h => rw [hg] at hg'; cases hg'
  | resumeJustStarted hg hv _ ih =>
    intro e₂ s₂ h
    cases h with
    | resumeFresh hg' h1 _ h2 => exact absurd rfl hv
    | resumeSuspended hg' h1 _ h2 => rw [hg] at hg'; cases hg'
    | resumeJustStarted hg' hv h => exact ih _ _ h
    | resumeRunning hg' h => rw [hg] at hg'; cases hg'
    | resumeFinished hg' h => rw [hg] at hg'; cases hg'
  | resumeThrowFresh hg _ ih =>
    intro e₂ s₂ h
    cases h with
    | resumeSuspended hg' h1 _ h2 => rw [hg] at hg'; cases hg'
    | resumeThrowFresh hg' h => exact ih _ _ h
    | resumeRunning hg' h => rw [hg] at hg'; cases hg'
    | resumeFinished hg' h => rw [hg] at hg'; cases hg'
  | resumeRunning hg _ ih =>
    intro e₂ s₂ h
    cases h with
    | resumeFresh hg' h1 _ h2 => rw [hg] at hg'; cases hg'
    | resumeSuspended hg' h1 _ h2 => rw [hg] at hg'; cases hg'
    | resumeJustStarted hg' hv h => rw [hg] at hg'; cases hg'
    | resumeThrowFresh hg' h => rw [hg] at hg'; cases hg'
    | resumeRunning hg' h => exact ih _ _ h
    | resumeFinished hg' h => rw [hg] at hg'; cases hg'
  | resumeFinished hg _ ih =>
    intro e₂ s₂ h
    cases h with
    | resumeFresh hg' h1 _ h2 => rw [hg] at hg'; cases hg'
    | resumeSuspended hg' h1 _ h2 => rw [hg] at hg'; cases hg'
    | resumeJustStarted hg' hv h => rw [hg] at hg'; cases hg'
    | resumeThrowFresh hg' h => rw [hg] at hg'; cases hg'
    | resumeRunning hg' h => rw [hg] at hg'; cases hg'
    | resumeFinished hg' h => exact ih _ _ h
  | segRet _ _ ih1 ih2 =>
    intro e₂ s₂ h
    cases h with
    | segRet h1 h2 => obtain ⟨a, b⟩ := ih1 _ _ h1; cases a; subst b; exact ih2 _ _ h2
    | segSuspOut _ h1 => obtain ⟨a, _⟩ := ih1 _ _ h1; cases a
    | segSuspGen _ h1 _ _ => obtain ⟨a, _⟩ := ih1 _ _ h1; cases a
  | segGen _ _ ih1 ih2 =>
    intro e₂ s₂ h
    cases h with
    | segGen h1 h2 => obtain ⟨a, b⟩ := ih1 _ _ h1; cases a; subst b; exact ih2 _ _ h2
    | segSuspOut _ h1 => obtain ⟨a, _⟩ := ih1 _ _ h1; cases a
    | segSuspGen _ h1 _ _ => obtain ⟨a, _⟩ := ih1 _ _ h1; cases a
  | segSuspOut hn _ ih =>
    intro e₂ s₂ h
    cases h with
    | segRet h1 h2 => obtain ⟨a, _⟩ := ih _ _ h1; cases a
    | segGen h1 h2 => obtain ⟨a, _⟩ := ih _ _ h1; cases a
    | segSuspOut _ h1 => obtain ⟨a, b⟩ := ih _ _ h1; cases a; subst b; exact ⟨rfl, rfl⟩
    | segSuspGen hs h1 _ _ => rw [hn] at hs; cases hs
  | segSuspGen hs _ _ _ ih1 ih2 =>
    intro e₂ s₂ h
    cases h with
    | segRet h1 h2 => obtain ⟨a, _⟩ := ih1 _ _ h1; cases a
    | segGen h1 h2 => obtain ⟨a, _⟩ := ih1 _ _ h1; cases a
    | segSuspOut hn h1 => rw [hs] at hn; cases hn
    | segSuspGen hs' h1 _ h2 =>
      rw [hs] at hs'; cases hs'
      obtain ⟨a, b⟩ := ih1 _ _ h1
      cases a; subst b
      exact ih2 _ _ h2
theorem wakes_one {Γ : Ctx} {p : Pos} {g : Nat} {r : Resume} {s s₁ s₂ : Shared} {x₁ x₂ : GenResult} (h1 : Wakes M Γ p g r s x₁ s₁) (h2 : Wakes M Γ p g r s x₂ s₂) : x₂ = x₁ ∧ s₂ = s₁ := by
  unfold Wakes at h1 h2
  cases hg : s.gens[g]? with
  | none => rw [hg] at h1; exact h1.elim
  | some x =>
    rw [hg] at h1 h2
    cases x with
    | fresh c =>
      cases r with
      | throw y => obtain ⟨rfl, rfl⟩ := h1; obtain ⟨rfl, rfl⟩ := h2; exact ⟨rfl, rfl⟩
      | send v =>
        cases v with
        | none =>
          obtain ⟨e, t, hr, _, rfl, rfl⟩ := h1
          obtain ⟨e', t', hr', _, rfl, rfl⟩ := h2
          obtain ⟨rfl, rfl⟩ := runs_one hr _ _ hr'
          exact ⟨rfl, rfl⟩
        | _ => obtain ⟨rfl, rfl⟩ := h1; obtain ⟨rfl, rfl⟩ := h2; exact ⟨rfl, rfl⟩
    | suspended k l c p₀ fs cl =>
      obtain ⟨e, t, hr, _, rfl, rfl⟩ := h1
      obtain ⟨e', t', hr', _, rfl, rfl⟩ := h2
      obtain ⟨rfl, rfl⟩ := runs_one hr _ _ hr'
      exact ⟨rfl, rfl⟩
    | running => obtain ⟨rfl, rfl⟩ := h1; obtain ⟨rfl, rfl⟩ := h2; exact ⟨rfl, rfl⟩
    | finished => obtain ⟨rfl, rfl⟩ := h1; obtain ⟨rfl, rfl⟩ := h2; exact ⟨rfl, rfl⟩
theorem wp_both {α : Type} {Γ : Ctx} (t : Sem α) : ∀ (Q Q' : α → Pos → Shared → Prop) (E E' : Value → Pos → Shared → Prop) (p : Pos) (s : Shared), wp M Γ t Q E p s → wp M Γ t Q' E' p s →
    wp M Γ t (fun a p' s' => Q a p' s' ∧ Q' a p' s') (fun e p' s' => E e p' s' ∧ E' e p' s') p s := by
  induction t with
  | pure a => intro Q Q' E E' p s h h'; exact ⟨h, h'⟩
  | raise e => intro Q Q' E E' p s h h'; exact ⟨h, h'⟩
  | unsupported _ => intro Q Q' E E' p s h _; exact h
  | finish _ => intro Q Q' E E' p s h _; exact h
  | rule _ k ih => intro Q Q' E E' p s h h'; exact ih () _ _ _ _ _ _ h h'
  | «at» p' k ih => intro Q Q' E E' p s h h'; exact ih () _ _ _ _ _ _ h h'
  | load a _ k ih => intro Q Q' E E' p s h h'; obtain ⟨o, ho, h⟩ := h; obtain ⟨o', ho', h'⟩ := h'; rw [ho] at ho'; cases ho'; exact ⟨o, ho, ih o _ _ _ _ _ _ h h'⟩
  | update a _ f k ih => intro Q Q' E E' p s h h'; exact ⟨h.1, ih () _ _ _ _ _ _ h.2 h'.2⟩
  | loadIfAlive a k ih => intro Q Q' E E' p s h h'; exact ih _ _ _ _ _ _ _ h h'
  | point _ k ih => intro Q Q' E E' p s h h'; exact ih () _ _ _ _ _ _ h h'
  | register _ _ => intro Q Q' E E' p s h _; exact h
  | alloc o k ih => intro Q Q' E E' p s h h'; exact ih _ _ _ _ _ _ _ h h'
  | fresh k ih => intro Q Q' E E' p s h h'; exact ih _ _ _ _ _ _ _ h h'
  | ask k ih => intro Q Q' E E' p s h h'; exact ih _ _ _ _ _ _ _ h h'
  | choose src m k ih => intro Q Q' E E' p s h h'; exact ⟨h.1, ih _ _ _ _ _ _ _ h.2 h'.2⟩
  | os q _ k ih => intro Q Q' E E' p s h h'; exact ih _ _ _ _ _ _ _ h h'
  | call c hd _ _ k ih =>
    intro Q Q' E E' p s h h'
    obtain ⟨r, s₁, hr, h⟩ := h
    obtain ⟨r', s₁', hr', h'⟩ := h'
    obtain ⟨a, b⟩ := runs_one hr _ _ hr'
    cases a; subst b
    exact ⟨r, _, hr, ih r _ _ _ _ _ _ h h'⟩
  | handled own k ih => intro Q Q' E E' p s h h'; exact ih _ _ _ _ _ _ _ h h'
  | genState g k ih => intro Q Q' E E' p s h h'; obtain ⟨st, hs, h⟩ := h; obtain ⟨st', hs', h'⟩ := h'; rw [hs] at hs'; cases hs'; exact ⟨st, hs, ih _ _ _ _ _ _ _ h h'⟩
  | newGen c k ih => intro Q Q' E E' p s h h'; exact ih _ _ _ _ _ _ _ h h'
  | resume g r _ k ih =>
    intro Q Q' E E' p s h h'
    obtain ⟨x, s₁, hw, h⟩ := h
    obtain ⟨x', s₁', hw', h'⟩ := h'
    obtain ⟨rfl, rfl⟩ := wakes_one hw hw'
    exact ⟨_, _, hw, ih _ _ _ _ _ _ _ h h'⟩
  | yield _ _ _ _ => intro Q Q' E E' p s h _; exact h
  | stack k ih => intro Q Q' E E' p s h h'; exact ih _ _ _ _ _ _ _ h h'
  | fork _ _ => intro Q Q' E E' p s h _; exact h
  | thread k ih => intro Q Q' E E' p s h h'; exact ih _ _ _ _ _ _ _ h h'
  | await _ _ _ _ _ => intro Q Q' E E' p s h _; exact h
/-- what is shown twice of one run holds together -/
theorem wpAny_both {α : Type} {A : Around} {t : Sem α} {Q Q' : α → Shared → Prop} {E E' : Value → Shared → Prop} {s : Shared} (h : wpAny M A t Q E s) (h' : wpAny M A t Q' E' s) :
    wpAny M A t (fun a s' => Q a s' ∧ Q' a s') (fun e s' => E e s' ∧ E' e s') s :=
  fun Γ p hΓ => wp_both t _ _ _ _ p s (h Γ p hΓ) (h' Γ p hΓ)
theorem codeAny_both {A : Around} {c : Code} {R R' : Result → Shared → Prop} {s : Shared} (h : codeAny M A c R s) (h' : codeAny M A c R' s) : codeAny M A c (fun r s' => R r s' ∧ R' r s') s :=
  fun Γ p hc hΓ => by
    obtain ⟨r, s', hr, q⟩ := h Γ p hc hΓ
    obtain ⟨r', s'', hr', q'⟩ := h' Γ p hc hΓ
    obtain ⟨a, b⟩ := runs_one hr _ _ hr'
    cases a; subst b
    exact ⟨r, _, hr, q, q'⟩
end Sl
set_option maxHeartbeats 4000000
/-! what is shown of one run for every ghost holds for all at once -/
namespace Sl
open PySem
open Sem (wp)
variable {M : Model}
theorem wp_all {ι : Type} (i0 : ι) {α : Type} {Γ : Ctx} (t : Sem α) : ∀ (Q : ι → α → Pos → Shared → Prop) (E : ι → Value → Pos → Shared → Prop) (p : Pos) (s : Shared), (∀ i, wp M Γ t (Q i) (E i) p s) →
    wp M Γ t (fun a p' s' => ∀ i, Q i a p' s') (fun e p' s' => ∀ i, E i e p' s') p s := by
  induction t with
  | pure a => intro Q E p s h; exact h
  | raise e => intro Q E p s h; exact h
  | unsupported _ => intro Q E p s h; exact h i0
  | finish _ => intro Q E p s h; exact h i0
  | rule _ k ih => intro Q E p s h; exact ih () _ _ _ _ h
  | «at» p' k ih => intro Q E p s h; exact ih () _ _ _ _ h
  | load a _ k ih =>
    intro Q E p s h
    obtain ⟨o, ho, _⟩ := h i0
    refine ⟨o, ho, ih o _ _ _ _ fun i => ?_⟩
    obtain ⟨o', ho', h'⟩ := h i
    rw [ho] at ho'; cases ho'; exact h'
  | update a _ f k ih => intro Q E p s h; exact ⟨(h i0).1, ih () _ _ _ _ fun i => (h i).2⟩
  | loadIfAlive a k ih => intro Q E p s h; exact ih _ _ _ _ _ h
  | point _ k ih => intro Q E p s h; exact ih () _ _ _ _ h
  | register _ _ => intro Q E p s h; exact h i0
  | alloc o k ih => intro Q E p s h; exact ih _ _ _ _ _ h
  | fresh k ih => intro Q E p s h; exact ih _ _ _ _ _ h
  | ask k ih => intro Q E p s h; exact ih _ _ _ _ _ h
  | choose src m k ih => intro Q E p s h; exact ⟨(h i0).1, ih _ _ _ _ _ fun i => (h i).2⟩
  | os q _ k ih => intro Q E p s h; exact ih _ _ _ _ _ h
  | call c hd _ _ k ih =>
    intro Q E p s h
    obtain ⟨r, s₁, hr, _⟩ := h i0
    refine ⟨r, _, hr, ih r _ _ _ _ fun i => ?_⟩
    obtain ⟨r', s₁', hr', h'⟩ := h i
    obtain ⟨a, b⟩ := runs_one hr _ _ hr'
    cases a; subst b
    exact h'
  | handled own k ih => intro Q E p s h; exact ih _ _ _ _ _ h
  | genState g k ih =>
    intro Q E p s h
    obtain ⟨st, hs, _⟩ := h i0
    refine ⟨st, hs, ih _ _ _ _ _ fun i => ?_⟩
    obtain ⟨st', hs', h'⟩ := h i
    rw [hs] at hs'; cases hs'; exact h'
  | newGen c k ih => intro Q E p s h; exact ih _ _ _ _ _ h
  | resume g r _ k ih =>
    intro Q E p s h
    obtain ⟨x, s₁, hw, _⟩ := h i0
    refine ⟨_, _, hw, ih _ _ _ _ _ fun i => ?_⟩
    obtain ⟨x', s₁', hw', h'⟩ := h i
    obtain ⟨rfl, rfl⟩ := wakes_one hw hw'
    exact h'
  | yield _ _ _ _ => intro Q E p s h; exact h i0
  | stack k ih => intro Q E p s h; exact ih _ _ _ _ _ h
  | fork _ _ => intro Q E p s h; exact h i0
  | thread k ih => intro Q E p s h; exact ih _ _ _ _ _ h
  | await _ _ _ _ _ => intro Q E p s h; exact h i0
theorem wpAny_all {ι : Type} (i0 : ι) {α : Type} {A : Around} {t : Sem α} {Q : ι → α → Shared → Prop} {E : ι → Value → Shared → Prop} {s : Shared} (h : ∀ i, wpAny M A t (Q i) (E i) s) :
    wpAny M A t (fun a s' => ∀ i, Q i a s') (fun e s' => ∀ i, E i e s') s :=
  fun Γ p hΓ => wp_all i0 t _ _ p s fun i => h i Γ p hΓ
end Sl
set_option maxHeartbeats 4000000
/-! a generator that walks a forest of steps, by its raw heap -/
namespace Gn
open PySem PySem.Spec PyProof.Rows L2 GenW
section
variable {P : Program} {w : World} {A : Around} {R : GenEnd} {Y : Protocol} {n : Nat} {s₀ s : Shared} {fs : List Frame} {env : Env} {c : Code}
  {K : Flow → Sem PySem.Fin} {J : Value → Sem PySem.Fin} {gd : Bool → Bool} {lv : List Value → List Value}
/-- how the frame goes on behind a loop's turn -/
abbrev afterTurn (target : Expr) (it : Value) (body : List Stmt) (env : Env) : Flow → Sem PySem.Fin := fun f => match f with
  | .next | .cont => .pure (.again (.forLoop target it body [] env))
  | .brk => .pure (.done .next)
  | .ret v => .pure (.done (.ret v))
abbrev outOf (env : Env) : Value → Sem PySem.Fin := fun e => (do noteFrame e env; theTreesLotGoes e : Sem Unit).bind fun _ => .raise e
theorem seg_turn {target : Expr} {it : Value} {body : List Stmt}
    (h : wpAny (model P w) (A.over (.forLoop target it body [] env) fs) (pyNext it) (fun r s1 => match r with
      | none => Seg (model P w) A R Y n s₀ (.forLoop target it body [] env) (.pure (.again (.block [] env))) fs s1
      | some v => wpAny (model P w) (A.over (.forLoop target it body [] env) fs) (assign target env v) (fun _ s2 =>
          Seg (model P w) A R Y n s₀ (.forLoop target it body [] env) ((execs body env).wrap (afterTurn target it body env) (outOf env) id id) fs s2) (fun _ _ => False) s1) (fun _ _ => False) s)
    (ht : ∀ v, letOwnedTupleGo target it v = pure () := by intro _; rfl) :
    Seg (model P w) A R Y n s₀ (.forLoop target it body [] env) ((model P w).den (.forLoop target it body [] env)) fs s := by
  show Seg _ A R Y n s₀ _ ((forTurn target it body [] env).onRaise (fun x => do noteFrame x env; theTreesLotGoes x)) fs s
  unfold forTurn
  rw [Sem.onRaise_eq_wrap, Sem.bind_eq_wrap', Sem.wrap_wrap]
  refine seg_wrap (wpAny_standAt ?_)
  dsimp only
  rw [Sem.bind_eq_wrap', Sem.wrap_wrap]
  refine seg_wrap (wpAny_onRaise (wpAny_mono h (fun r s1 h1 => ?_) fun _ _ z => z.elim))
  cases r with
  | none => exact h1
  | some v =>
    show Seg _ A R Y n s₀ _ (Sem.wrap _ _ _ _ (letOwnedTupleGo target it v >>= _)) fs s1
    rw [ht v, Sem.bind_eq_wrap', Sem.wrap_wrap]
    refine seg_wrap (wpAny_pure ?_)
    rw [Sem.bind_eq_wrap', Sem.wrap_wrap]
    refine seg_wrap (wpAny_mono h1 (fun _ s2 h2 => ?_) fun _ _ z => z.elim)
    rw [Sem.bind_eq_wrap', Sem.wrap_wrap]
    exact (congrArg (fun t => Seg (model P w) A R Y n s₀ (.forLoop target it body [] env) t fs s2) (Sem.wrap_congr (execs body env) (H' := outOf env) id id (fun f => by cases f <;> rfl) (fun e => rfl))).mpr h2
/-- what a loop's frame does with what comes back -/
abbrev backFrom (env : Env) (K : Flow → Sem PySem.Fin) (J : Value → Sem PySem.Fin) (gd : Bool → Bool) (lv : List Value → List Value) : Result → Sem PySem.Fin := fun r =>
  ((match r with | .ok f => (.pure f : Sem Flow) | .error e => .raise e).onRaise fun (x : Value) => do
    if (← field x 1) == Value.none then unsupported "frame.own-activation:exception-without-traceback"
    setFlight x env.frame).wrap K J gd lv
theorem backFrom_ok (f : Flow) : backFrom env K J gd lv (.ok f) = K f := rfl
theorem seg_for {target iter : Expr} {body : List Stmt} {pos : Pos}
    (h : wpAny (model P w) (A.over c fs) (eval iter env) (fun x s1 => wpAny (model P w) (A.over c fs) (pyIter x) (fun it s2 =>
      ∀ p, Seg (model P w) A R Y n s₀ (.forLoop target it body [] env) ((model P w).den (.forLoop target it body [] env)) (.ret (backFrom env K J gd lv) none (gd false) (lv []) c p [] :: fs) s2) (fun _ _ => False) s1) (fun _ _ => False) s)
    (hs : ∀ x, foldedSetIterable iter env x = pure x := by intro _; rfl) :
    Seg (model P w) A R Y n s₀ c ((exec (.For target iter body [] pos) env).wrap K J gd lv) fs s := by
  rw [exec_For, Sem.bind_eq_wrap', Sem.wrap_wrap]
  refine seg_wrap (wpAny_standAt ?_)
  rw [Sem.bind_eq_wrap', Sem.wrap_wrap]
  refine seg_wrap (wpAny_mono h (fun x s1 h1 => ?_) fun _ _ z => z.elim)
  rw [hs x, Sem.bind_eq_wrap', Sem.wrap_wrap]
  refine seg_wrap (wpAny_pure ?_)
  rw [Sem.bind_eq_wrap', Sem.wrap_wrap]
  refine seg_wrap (wpAny_standAt ?_)
  rw [Sem.bind_eq_wrap', Sem.wrap_wrap]
  refine seg_wrap (wpAny_holding (wpAny_mono h1 (fun it s2 h2 => ?_) fun _ _ z => z.elim))
  exact seg_call h2
end
end Gn
set_option maxHeartbeats 4000000
/-! steps that leave the generators' table as it is -/
namespace Ex
open PySem PySem.Spec PyProof.Rows L2
structure PEg (X : Cx) (e : Expr) (t : TE) : Prop where
  go : ∀ (pins : List (Addr × Obj)) (s : Shared) (σ : L2.St) (H : Hp) (Q : VK), Inv X pins σ H s → t σ H Q → wpAny (model X.prog X.w) X.A (eval e X.env) (fun u s' => s'.gens = s.gens ∧ EP X pins σ Q u s') X.xe s
structure PSg (X : Cx) (st : Stmt) (t : TS) : Prop where
  go : ∀ (pins : List (Addr × Obj)) (s : Shared) (σ : L2.St) (H : Hp) (D : Ends), Inv X pins σ H s → t D σ H → wpAny (model X.prog X.w) X.A (exec st X.env) (fun f s' => s'.gens = s.gens ∧ SP X pins D f s') X.xe s
structure PBg (X : Cx) (st : List Stmt) (t : TS) : Prop where
  go : ∀ (pins : List (Addr × Obj)) (s : Shared) (σ : L2.St) (H : Hp) (D : Ends), Inv X pins σ H s → t D σ H → wpAny (model X.prog X.w) X.A (execs st X.env) (fun f s' => s'.gens = s.gens ∧ SP X pins D f s') X.xe s
structure FnG (P : Program) (w : World) (K : PySem.W.Frag) (mg : Str → Option Value) (base : Heap) (k : Nat) (f : Addr) (fd : FuncData) (ps : List Str) (sp : Sp) : Prop where
  len : ∀ vs H Q E, sp vs H Q E → vs.length = ps.length
  go : ∀ (A : Around) (outer : List Env) (s : Shared) (H : Hp) (args : Args) (us : List Value) (vs : List V) (Q : VK) (E : XK), Room k A → Env0 P w K mg base A outer s H → BindsTo s fd args (ps.zip us) → Vals vs us → sp vs H Q E →
    codeAny (model P w) A (.call (.ref f) args) (fun r s' => ∃ u, r = .ok (.ret u) ∧ s'.gens = s.gens ∧ CE outer P w H s Q u s') s
section
variable {X : Cx} {e a b : Expr} {te ta tb : TE} {pos : Pos}
theorem var (i : Nat) {x : Str} (hN : X.N[i]? = some x := by rfl) (hv : X.env.kindOf x = some .local := by rfl) (hd : (x == ("__debug__" : Str)) = false := by decide) : PEg X (.Name x pos) (tVar i) := by
  refine ⟨fun pins s σ H Q I ⟨v, e, h⟩ => ?_⟩
  obtain ⟨m, hn, hl⟩ := I.loc
  obtain ⟨u, r, l⟩ := hl i x v hN e (.inl hv)
  rcases l with ⟨hk, hm⟩ | ⟨hk, _⟩
  · exact wpAny_Name (wpAny_loadName_local I.ok.kind hk hn hm ⟨rfl, v, H, I, r, h⟩) hd
  · rcases hk with hk | hk <;> (rw [hv] at hk; cases hk)
theorem glob {x : Str} {v : V} {u : Value} (hg : Gl X x) (hm : X.mg x = some u) (r : RelV v u) (hd : (x == ("__debug__" : Str)) = false := by decide) : PEg X (.Name x pos) (tC v) :=
  ⟨fun _ _ _ H _ I h => ld_glob I hg hm ⟨rfl, v, H, I, r, h⟩ hd⟩
theorem num {i : Int} {j} : PEg X (.Constant (.int i) j pos) (tC (.int i)) := ⟨fun _ _ _ H _ I h => wpAny_Constant_int ⟨rfl, .int i, H, I.tok _, ⟨_, rfl⟩, h⟩⟩
theorem txt {x : Str} {j} : PEg X (.Constant (.str x) j pos) (tC (.str x)) := ⟨fun _ _ _ H _ I h => Calls.Constant_str ⟨rfl, .str x, H, I.tok _, ⟨_, rfl⟩, h⟩⟩
theorem fld {f : Str} (he : PEg X e te) (hb : attributeBase e f X.env (eval e X.env) = eval e X.env) : PEg X (.Attribute e f pos) (tFld X.K te f) := by
  refine ⟨fun pins s σ H Q I h => ?_⟩
  refine attr_of hb (thn (he.go pins s σ H _ I h) fun u s1 ⟨g1, x, H1, I1, rx, a, C, dx, fs, v, ex, ea, c, n, l, q⟩ => ?_)
  subst ex
  obtain rfl : u = Value.ref a := rx
  obtain ⟨mA, O, r, _, _, _⟩ := ins_get I1.hok ea
  obtain ⟨u, hu, ru⟩ := RelO.some_of (v := v) (o := mA f) (by rw [← l]; exact r f)
  exact get_map I1.kIn O (c.get f) c.hd n hu (handed_of ru) ⟨g1, v, H1, I1.tok _, ru, q⟩
/-- a binary operation by a rule that tells the state -/
def OpG (X : Cx) (f : Value → Value → Sem Value) (r : R2) : Prop := ∀ (pins : List (Addr × Obj)) (s : Shared) (σ : L2.St) (H : Hp) (x y : V) (v u : Value) (Q : VK), Inv X pins σ H s → RelV x v → RelV y u → r x y H Q →
  wpAny (model X.prog X.w) X.A (f v u) (fun z s' => s'.gens = s.gens ∧ EP X pins σ Q z s') X.xe s
theorem op {o : Operator} {r : R2} (ho : OpG X (binaryOp o) r) (ha : PEg X a ta) (hb : PEg X b tb) : PEg X (.BinOp a o b pos) (tOp r ta tb) := by
  refine ⟨fun pins s σ H Q I h => ?_⟩
  refine wpAny_BinOp (thn (ha.go pins s σ H _ I h) fun v s1 ⟨g1, x, H1, I1, r1, q1⟩ => thn (hb.go pins s1 σ H1 _ I1 q1) fun u s2 ⟨g2, y, H2, I2, r2, q2⟩ => ?_)
  exact thn (ho pins s2 σ H2 x y v u Q I2 r1 r2 q2) fun z s3 ⟨g3, q3⟩ => ⟨g3.trans (g2.trans g1), q3⟩
theorem opInt {f : Value → Value → Sem Value} {C : Int → Int → Prop} {g : Int → Int → Int}
    (rule : ∀ (i j : Int) (t u : Tok) (s : Shared) (Q : Value → Shared → Prop) (E : Value → Shared → Prop), C i j → Q (.int (g i j) s.toks) { s with toks := s.toks + 1 } → wpAny (model X.prog X.w) X.A (f (.int i t) (.int j u)) Q E s) :
    OpG X f (rI C fun i j => .int (g i j)) := by
  intro pins s σ H x y v u Q I rx ry ⟨i, j, ex, ey, hc, q⟩
  subst ex ey
  obtain ⟨t, rfl⟩ := rx
  obtain ⟨t', rfl⟩ := ry
  exact rule i j t t' s _ _ hc ⟨rfl, .int (g i j), H, I.tok _, ⟨_, rfl⟩, q⟩
theorem op_mod : OpG X (binaryOp .Mod) (rI (fun _ j => 0 < j) fun i j => .int (i % j)) := opInt fun i j _ _ _ _ _ hc q => by
  have h1 : (0 : Int) < j := hc
  exact mod_int' (by omega) (by rw [Int.fmod_eq_emod_of_nonneg i (by omega)]; exact q)
theorem op_fdiv : OpG X (binaryOp .FloorDiv) (rI CDiv fun i j => .int (i / j)) := opInt fun i j _ _ _ _ _ hc q => by
  have h1 : (0 : Int) < j := hc.1
  have h2 : j < 1073741824 := hc.2
  exact floordiv_int (by omega) (by rw [Int.fdiv_eq_ediv_of_nonneg i (by omega)]; exact q) (.inl (PyProof.noPylong_small (by omega)))
end
/-! ### statements -/
section
variable {X : Cx} {e : Expr} {te : TE} {pos : Pos} {st : Stmt} {rest : List Stmt} {t u : TS}
theorem cons (h1 : PSg X st t) (h2 : PBg X rest u) : PBg X (st :: rest) (tSeq t u) := by
  refine ⟨fun pins s σ H D I h => ?_⟩
  refine wpAny_execs_cons (thn (h1.go pins s σ H { D with nx := u D } I h) fun f s1 ⟨g1, q⟩ => ?_)
  cases f with
  | next =>
    obtain ⟨σ', H', I', q⟩ := q
    exact thn (h2.go pins s1 σ' H' D I' q) fun f s2 ⟨g2, q2⟩ => ⟨g2.trans g1, q2⟩
  | ret v => exact ⟨g1, q⟩
  | brk => exact ⟨g1, q⟩
  | cont => exact ⟨g1, q⟩
theorem one (h1 : PSg X st t) : PBg X [st] t := by
  refine ⟨fun pins s σ H D I h => ?_⟩
  refine wpAny_execs_cons (thn (h1.go pins s σ H D I h) fun f s1 q => ?_)
  cases f with
  | next => exact wpAny_execs_nil q
  | ret v => exact q
  | brk => exact q
  | cont => exact q
theorem ret (he : PEg X e te) : PSg X (.Return (some e) pos) (tRet te) := by
  refine ⟨fun pins s σ H D I h => ?_⟩
  exact wpAny_Return_some (thn (he.go pins s σ H _ I h) fun v s1 ⟨g1, x, H1, I1, r1, q1⟩ => ⟨g1, x, σ, H1, I1, r1, q1⟩)
/-- a second look at one run -/
theorem too {α : Type} {M : Model} {A : Around} {t : Sem α} {Q Q' : α → Shared → Prop} {E E' : Value → Shared → Prop} {s : Shared} (h : wpAny M A t Q E s) (h' : wpAny M A t Q' E' s) : wpAny M A t (fun a s' => Q' a s' ∧ Q a s') E s :=
  wpAny_mono (Sl.wpAny_both h h') (fun _ _ x => ⟨x.2, x.1⟩) fun _ _ x => x.1
theorem setN {i : Nat} {x : Str} {pos' : Pos} (hN : X.N.Nodup) (hi : X.N[i]? = some x) (hx : X.env.scope.names.lookup x = some .local) (he : PEg X e te) (hs : swapsWith e (some (.Name x pos')) pos.line X.env = pure false := by rfl) :
    PSg X (.Assign [.Name x pos'] e pos) (tAsg te (gName i)) := by
  refine ⟨fun pins s σ H D I h => ?_⟩
  refine wpAny_Assign_Name (thn (he.go pins s σ H _ I h) fun v s1 ⟨g1, y, H1, I1, r1, q1⟩ => ?_) hs
  obtain ⟨m, hn, _⟩ := id I1.loc
  have hcls : (X.env.scope.kind == .class || (X.env.scope.kind == .module && X.env.locals != X.env.globals)) = false := by rw [I1.ok.kind]; rfl
  refine thn (too (store_ok I1 hN hi (.inl hx) r1 (Q := fun _ s2 => Inv X pins (σ.set i (some y)) H1 s2) (fun s2 I2 => I2) (.inr hx))
    (wpAny_storeName_local (E := fun _ _ => True) (Q := fun _ s2 => s2.gens = s1.gens) hx hn (fun h' _ _ => rfl) hcls)) fun _ s2 ⟨g2, I2⟩ => ⟨g2.trans g1, _, H1, I2, q1⟩
end
/-! ### arguments, calls -/
section
variable {X : Cx} {e o : Expr} {es : List Expr} {te ta : TE} {t : TA} {pos : Pos}
structure PAg (X : Cx) (es : List Expr) (t : TA) : Prop where
  go : ∀ (pos : Pos) (pins : List (Addr × Obj)) (s : Shared) (σ : L2.St) (H : Hp) (Q : List V → Hp → Prop), Inv X pins σ H s → t σ H Q → wpAny (model X.prog X.w) X.A (spliced (backTo pos (starEach es X.env))) (fun us s' => s'.gens = s.gens ∧ AP X pins σ Q us s') X.xe s
theorem anil : PAg X [] tNil := ⟨fun _ _ _ _ H _ I h => Calls.spliced_nil ⟨rfl, [], H, I, .nil, h⟩⟩
theorem acons (he : PEg X e te) (ha : PAg X es t) (hs : starEach (e :: es) X.env = (false, eval e X.env) :: starEach es X.env := by rfl) : PAg X (e :: es) (tCons te t) := by
  refine ⟨fun pos pins s σ H Q I h => ?_⟩
  rw [hs]
  show wpAny _ _ (spliced ((false, eval e X.env) :: backTo pos (starEach es X.env))) _ _ s
  refine Calls.spliced_cons (thn (he.go pins s σ H _ I h) fun u s1 ⟨g1, x, H1, I1, r1, q1⟩ => ?_)
  exact thn (ha.go pos pins s1 σ H1 _ I1 q1) fun us s2 ⟨g2, vs, H2, I2, r2, q2⟩ => ⟨g2.trans g1, _, H2, I2, .cons r1 r2, q2⟩
/-- a built-in's rule and that it leaves the table -/
def CaG (X : Cx) (f : Value) (r : List V → Hp → VK → Prop) : Prop := ∀ (pins : List (Addr × Obj)) (s : Shared) (σ : L2.St) (H : Hp) (xs : List V) (us : List Value) (Q : VK), Inv X pins σ H s → Vals xs us → r xs H Q →
  wpAny (model X.prog X.w) X.A (call f us) (fun u s' => s'.gens = s.gens ∧ EP X pins σ Q u s') X.xe s
theorem callB {id : String} {r : List V → Hp → VK → Prop} {x : Str} {p : Pos} (hc : CaG X (.builtin id) r) (hg : Gl X x) (hm : X.mg x = none) (hv : bootBuiltins x = some (.builtin id)) (ha : PAg X (e :: es) t) (hn : x ≠ "__name__" := by decide) (hdb : (x == ("__debug__" : Str)) = false := by decide)
    (he : starEach (e :: es) X.env = (false, eval e X.env) :: starEach es X.env := by rfl) (hpl : (backTo pos (starEach es X.env)).any (·.1) = false := by rfl) : PEg X (.Call (.Name x p) (e :: es) [] pos) (tCB r t) := by
  refine ⟨fun pins s σ H Q I h => ?_⟩
  refine wpAny_Call_Name_kw (ld_blt I hg hm hv ?_ hn hdb)
  exact PyProof.Rows.callWith_builtin1 (thn (ha.go pos pins s σ H _ I h) fun us s1 ⟨g1, vs, H1, I1, r1, q1⟩ => thn (hc pins s1 σ H1 vs us Q I1 r1 q1) fun u s2 ⟨g2, q2⟩ => ⟨g2.trans g1, q2⟩) he hpl
theorem callT {T : String} {r : List V → Hp → VK → Prop} {x : Str} {p : Pos} (hc : CaG X (.type T) r) (hg : Gl X x) (hm : X.mg x = none) (hv : bootBuiltins x = some (.type T)) (ha : PAg X (e :: es) t) (hn : x ≠ "__name__" := by decide) (hdb : (x == ("__debug__" : Str)) = false := by decide)
    (he : starEach (e :: es) X.env = (false, eval e X.env) :: starEach es X.env := by rfl) (hpl : (backTo pos (starEach es X.env)).any (·.1) = false := by rfl) : PEg X (.Call (.Name x p) (e :: es) [] pos) (tCB r t) := by
  refine ⟨fun pins s σ H Q I h => ?_⟩
  refine wpAny_Call_Name_kw (ld_blt I hg hm hv ?_ hn hdb)
  exact PyProof.Rows.callWith_type1 (thn (ha.go pos pins s σ H _ I h) fun us s1 ⟨g1, vs, H1, I1, r1, q1⟩ => thn (hc pins s1 σ H1 vs us Q I1 r1 q1) fun u s2 ⟨g2, q2⟩ => ⟨g2.trans g1, q2⟩) he hpl
theorem lenQ : CaG X (.builtin "len") (fun xs H Q => ∃ p ys, xs = [.ref p] ∧ (SqL X.K H p ys ∨ SqT X.K H p ys) ∧ Q (.int ys.length) H) := by
  intro pins s σ H xs us Q I r h
  refine too (call_len_seq pins s σ H xs us Q I r h) (Q' := fun _ s' => s'.gens = s.gens) (E' := fun _ _ => True) ?_
  obtain ⟨p, ys, rfl, hq, q⟩ := h
  obtain ⟨u, rfl, rx⟩ := vals1 r
  cases rx
  have hn := line63
  rcases hq with hq | hq
  · obtain ⟨its, r', pl, hz⟩ := I.list hq
    have hlen := r'.length
    exact Calls.call_len_list pl.isList (by simp only [List.size_toArray] <;> omega) rfl
  · obtain ⟨its, r', pl, hz⟩ := I.tuple hq
    have hlen := r'.length
    exact len_tuple pl (by simp only [List.size_toArray] <;> omega) rfl
end
/-! ### dicts, sequences, fields -/
section
variable {X : Cx} {e o i : Expr} {te td ty tv : TE} {pos : Pos}
theorem dget (hu : X.A.units + 1 < cLine) (ho : PEg X o td) (hi : PEg X i ty) (hs : NoSl i) : PEg X (.Subscript o i pos) (tDGet td ty) := by
  refine ⟨fun pins s σ H Q I h => ?_⟩
  refine subD_of PySem.F.slot_dict_getitem.lookup hs (thn (ho.go pins s σ H _ I h) fun u s1 ⟨g1, x, H1, I1, rx, q1⟩ => thn (hi.go pins s1 σ H1 _ I1 q1) fun iv s2 ⟨g2, y, H2, I2, ry, a, v, ex, g, q2⟩ => ?_)
  subst ex
  obtain rfl : u = Value.ref a := rx
  refine ⟨dict_typeIs I2 g, thn (too (d_getItem (E := X.xe) hu I2 g ry (Q := fun w' s3 => EP X pins σ Q w' s3) fun w' s3 I3 rw' => ⟨v, H2, I3, rw', q2⟩) (Q' := fun _ s' => s'.gens = s2.gens) (E' := fun _ _ => True) ?_) fun _ s3 ⟨g3, q3⟩ => ⟨g3.trans (g2.trans g1), q3⟩⟩
  rcases g with ⟨kvs, k, e, ey, l⟩ | ⟨kvs, k, b, e, ey, eb, l⟩
  · subst ey
    obtain ⟨z, hd, vs, rel, dd⟩ := dk_rd I2.hok e
    obtain ⟨w', hw, rw'⟩ := RelO.some_of (v := v) (o := valueAt vs k) (by rw [l]; exact rel.val k)
    exact wpAny_getItem_of (kV_is ry) dd.mapOf hw rfl
  · subst ey
    cases (show iv = Value.ref b from ry)
    obtain ⟨z, hd, xs, rel, dd⟩ := dt_rd I2.hok e
    obtain ⟨w', hw, rw'⟩ := RelO.some_of (v := v) (o := (atKey xs k).map (·.2)) (by rw [l]; exact rel.val k)
    obtain ⟨p, hp, hp2⟩ := Option.map_eq_some_iff.mp hw
    exact wpAny_getItem_heap (tupleKind_room_in1 hu) (key_of I2.hok eb) dd hp rfl
/-- d[k] = v, text or number keys -/
theorem dput (hu : X.A.units + 1 < cLine) {value : Expr} {pos' : Pos} (ho : PEg X o td) (hi : PEg X i ty) (hv : PEg X value tv) (hs : swapsWith value (some (.Subscript o i pos')) pos.line X.env = pure false) :
    PSg X (.Assign [.Subscript o i pos'] value pos) (sDPut td ty tv) := by
  refine ⟨fun pins s σ H D I h => ?_⟩
  refine wpAny_Assign_Subscript (thn (hv.go pins s σ H _ I h) fun r s1 ⟨g1, v, H1, I1, rv, q1⟩ => thn (ho.go pins s1 σ H1 _ I1 q1) fun u s2 ⟨g2, x, H2, I2, rx, q2⟩ => thn (hi.go pins s2 σ H2 _ I2 q2) fun iv s3 ⟨g3, y, H3, I3, ry, a, H4, ex, g, q3⟩ => ?_) hs
  subst ex
  obtain rfl : u = Value.ref a := rx
  refine thn (too (d_setItem (E := X.xe) hu I3 g ry rv (Q := fun _ s4 => Inv X pins σ H4 s4) fun s4 I4 => I4) (Q' := fun _ s' => s'.gens = s3.gens) (E' := fun _ _ => True) ?_) fun _ s4 ⟨g4, I4⟩ => ⟨g4.trans (g3.trans (g2.trans g1)), σ, H4, I4, q3⟩
  rcases g with ⟨kvs, k, e, ey, l, eH⟩ | ⟨kvs, k, b, e, ey, eb, l, eH⟩
  · subst ey eH
    obtain ⟨z, hd, vs, rel, dd⟩ := dk_of I3.hok e
    have hz : vs.length ≤ sizeLine := by rw [← rel.length]; exact z
    exact wpAny_setItem_pairs (hsz := hz) (kV_is ry) dd fun h' dd' hs => rfl
  · subst ey eH
    cases (show iv = Value.ref b from ry)
    obtain ⟨z, hd, xs, rel, dd⟩ := dt_of I3.hok e
    have hz : xs.length ≤ sizeLine := by rw [← Paired.length rel]; exact z
    exact wpAny_setItem_heap (hsz := hz) (tupleKind_room_in1 hu) (key_of I3.hok eb) dd fun h' dd' hs => rfl
/-- a subscript by a rule and that it leaves the table -/
def IxG (X : Cx) (r : R2) : Prop := ∀ (value slice : Expr) (pins : List (Addr × Obj)) (s : Shared) (σ : L2.St) (H : Hp) (x y : V) (v u : Value) (Q : VK), Inv X pins σ H s → RelV x v → RelV y u → r x y H Q →
  subscripted slice false v u = operate [v, u] (getItem v u) → wpAny (model X.prog X.w) X.A (subscriptTail value slice v u) (fun z s' => s'.gens = s.gens ∧ EP X pins σ Q z s') X.xe s
theorem ix {a b : Expr} {ta tb : TE} {r : R2} (hr : IxG X r) (ha : PEg X a ta) (hb : PEg X b tb) (hs : PlainIx b) : PEg X (.Subscript a b pos) (tOp r ta tb) := by
  refine ⟨fun pins s σ H Q I h => ?_⟩
  refine Subscript_ (thn (ha.go pins s σ H _ I h) fun v s1 ⟨g1, x, H1, I1, rx, q1⟩ => thn (hb.go pins s1 σ H1 _ I1 q1) fun u s2 ⟨g2, y, H2, I2, ry, q2⟩ => ?_)
  exact thn (hr a b pins s2 σ H2 x y v u Q I2 rx ry q2 (hs _ _)) fun z s3 ⟨g3, q3⟩ => ⟨g3.trans (g2.trans g1), q3⟩
theorem ixD : IxG X (rIxD X.K X.w) := by
  intro value slice pins s σ H x y v u Q I rx ry h hs
  refine too (ix_kdict value slice pins s σ H x y v u Q I rx ry h hs) (Q' := fun _ s' => s'.gens = s.gens) (E' := fun _ _ => True) ?_
  obtain ⟨p, z, r, rfl, rfl, ⟨es, n, u0, hl, hk, e, ru⟩, q⟩ := h
  obtain rfl : v = Value.ref p := rx
  obtain ⟨t, rfl⟩ := ry
  have hm := PySem.W.mapOf_K (prog := X.prog) (w := X.w) I.kIn hl hk
  exact tail_any hm.typeIs slot_dict_getitem.lookup (wpAny_getItem_of (strKind_is X.prog X.w z t) hm (PySem.W.find_K hl e) rfl) hs
theorem ixT : IxG X (rIxT X.K) := by
  intro value slice pins s σ H x y v u Q I rx ry h hs
  refine too (ix_tup value slice pins s σ H x y v u Q I rx ry h hs) (Q' := fun _ s' => s'.gens = s.gens) (E' := fun _ _ => True) ?_
  obtain ⟨p, xs, i, z, rfl, rfl, hq, he, q⟩ := h
  cases rx
  obtain ⟨t, rfl⟩ := ry
  obtain ⟨its, r, pl, hz⟩ := I.tuple hq
  obtain ⟨j, h1, h2, h3, h4, h5⟩ := atI_get he
  obtain ⟨w, ew, rw'⟩ := r.get h2
  have hl := r.length
  have hn := line63
  exact subscriptTail_builtinR (x := w) pl.typeIs slot_tuple_getitem.lookup
    (getItem_tuple (j := j) (Q := fun r s' => r = w ∧ s'.gens = s.gens) pl (by omega) (by omega) (by rw [List.size_toArray, ← hl]; exact h1) (by simpa using ew) ⟨rfl, rfl⟩) hs
theorem ixL : IxG X (rIxL X.K) := by
  intro value slice pins s σ H x y v u Q I rx ry h hs
  refine too (ix_list value slice pins s σ H x y v u Q I rx ry h hs) (Q' := fun _ s' => s'.gens = s.gens) (E' := fun _ _ => True) ?_
  obtain ⟨p, xs, i, z, rfl, rfl, hq, he, q⟩ := h
  cases rx
  obtain ⟨t, rfl⟩ := ry
  obtain ⟨its, r, pl, hz⟩ := I.list hq
  obtain ⟨j, h1, h2, h3, h4, h5⟩ := atI_get he
  obtain ⟨w, ew, rw'⟩ := r.get h2
  have hl := r.length
  have hn := line63
  by_cases h0 : 0 ≤ i
  · have hj : i.toNat = j := by
      rw [seqIndex_of h0 h5] at h1
      exact Option.some.inj h1
    exact item_listR pl.isList h0 (by omega) (by rw [hj]; simpa using ew) rfl hs
  · have hj : (i + (its.toArray.size : Int)).toNat = j := by
      rw [seqIndex_neg (by omega) h4] at h1
      rw [List.size_toArray, ← hl]
      exact Option.some.inj h1
    exact subscriptTail_builtinR (x := w) pl.isList.typeIs slot_list_getitem.lookup
      (wpAny_getItem_list_neg (Q := fun r s' => r = w ∧ s'.gens = s.gens) pl.isList (by omega) (by rw [List.size_toArray] <;> omega) (by omega) (by rw [hj]; simpa using ew) ⟨rfl, rfl⟩) hs
theorem dnew : PEg X (.Dict [] [] pos) tDNewK := ⟨fun pins s σ H Q I h => too (pe_dnewK.run pins s σ H Q I h) (Q' := fun _ s' => s'.gens = s.gens) (E' := fun _ _ => True) (wpAny_Dict_empty rfl)⟩
theorem fset {f : Str} {value : Expr} {pos' : Pos} (ha : PEg X o te) (hv : PEg X value tv) (hs : swapsWith value (some (.Attribute o f pos')) pos.line X.env = pure false) : PSg X (.Assign [.Attribute o f pos'] value pos) (sFld X.K te tv f) := by
  refine ⟨fun pins s σ H D I h => ?_⟩
  refine plainObj_wpAny_Assign_Attribute (thn (hv.go pins s σ H _ I h) fun u s1 ⟨g1, y, H1, I1, ry, q⟩ => thn (ha.go pins s1 σ H1 _ I1 q) fun ov s2 ⟨g2, x, H2, I2, rx, a, C, dx, fs, ex, ea, c, n, l, q2⟩ => ?_) hs
  subst ex
  obtain rfl : ov = Value.ref a := rx
  refine thn (too (setattr_ok (E := X.xe) I2 ea c n l ry (Q := fun _ s3 => Inv X pins σ _ s3) fun s3 I3 => I3) (Q' := fun _ s' => s'.gens = s2.gens) (E' := fun _ _ => True) ?_) fun _ s3 ⟨g3, I3⟩ => ⟨g3.trans (g2.trans g1), σ, _, I3, q2⟩
  obtain ⟨mA, O, r, wi, _, ho⟩ := ins_get I2.hok ea
  have hz : (fs.map (·.1)).length ≤ sizeLine := by rw [List.length_map, sizeLine_eq]; omega
  exact set_map I2.kIn O c.sa c.po n.taker c.hd wi hz fun h' O' sb => rfl
theorem notIn : OpG X (compareOp .NotIn) (rIn X.K true) := by
  intro pins s σ H x y v u Q I rx ry h
  refine too (op_notIn_seq pins s σ H x y v u Q I rx ry h) (Q' := fun _ s' => s'.gens = s.gens) (E' := fun _ _ => True) ?_
  obtain ⟨p, xs, rfl, hq, fx, fs, q⟩ := h
  cases ry
  rcases hq with hq | hq
  · obtain ⟨its, r, pl, hz⟩ := I.list hq
    exact SeqAt.notIn_listAt (eqU x) pl.isList (fun w hw => mem_eqAt rx fx r fs w (by simpa using hw)) rfl
  · obtain ⟨its, r, pl, hz⟩ := I.tuple hq
    exact SeqAt.notIn_tupleAt (eqU x) pl (fun w hw => mem_eqAt rx fx r fs w (by simpa using hw)) rfl
theorem tup {es : List Expr} {t : TA} {x1} (h : PAg X es t) : PEg X (.Tuple es x1 pos) (tTup t) := by
  refine ⟨fun pins s σ H Q I hq => ?_⟩
  refine wpAny_Tuple_spliced (thn (h.go pos pins s σ H _ I hq) fun us s1 ⟨g1, xs, H1, I1, r, z, q⟩ => ⟨by rw [← r.length]; exact z, g1, ?_⟩)
  refine ⟨.ref s1.heap.objs.size, upd H1 s1.heap.objs.size (.tup xs), I1.laid (t' := s1.toks) (fun b u e => Heap.get?_push_of_some _ e) (Nat.le_refl _) ?_, rfl, q _ (I1.hok.fresh (Nat.le_refl _))⟩
  exact ⟨z, us, r, ⟨_, Heap.get?_push_size _ rfl, rfl, _, rfl⟩⟩
end
/-! ### tests -/
section
variable {X : Cx} {a b : Expr} {ta tb : TE} {tc tA tB : TT} {pos : Pos} {rest : List Expr}
structure PTg (X : Cx) (e : Expr) (t : TT) : Prop where
  go : ∀ (pins : List (Addr × Obj)) (s : Shared) (σ : L2.St) (H : Hp) (Q : Bool → Hp → Prop), Inv X pins σ H s → t σ H Q → wpAny (model X.prog X.w) X.A (isTrue e X.env (eval e X.env)) (fun c s' => s'.gens = s.gens ∧ TP X pins σ Q c s') X.xe s
structure PWg (X : Cx) (e : Expr) (t : TT) : Prop where
  go : ∀ (whole : Sem Value) (pins : List (Addr × Obj)) (s : Shared) (σ : L2.St) (H : Hp) (Q : Bool → Hp → Prop), Inv X pins σ H s → t σ H Q → wpAny (model X.prog X.w) X.A (isTrue e X.env whole) (fun c s' => s'.gens = s.gens ∧ TP X pins σ Q c s') X.xe s
theorem PWg.pt {e : Expr} {t : TT} (h : PWg X e t) : PTg X e t := ⟨h.go _⟩
theorem cmp {o : CmpOp} {r : R2} (ho : OpG X (compareOp o) r) (ha : PEg X a ta) (hb : PEg X b tb) (hm : behindInMarks o b = false) : PTg X (.Compare a [o] [b] pos) (tTest (tOp r ta tb)) := by
  refine ⟨fun pins s σ H Q I h => ?_⟩
  refine wpAny_isTrue_Compare1 (thn (ha.go pins s σ H _ I h) fun v s1 ⟨g1, x, H1, I1, r1, q1⟩ => thn (hb.go pins s1 σ H1 _ I1 q1) fun u s2 ⟨g2, y, H2, I2, r2, q2⟩ =>
    thn (ho pins s2 σ H2 x y v u _ I2 r1 r2 q2) fun c s3 ⟨g3, z, H3, I3, r3, k, e, q3⟩ => ?_) hm
  subst e
  cases r3
  exact wpAny_truthy_bool ⟨g3.trans (g2.trans g1), H3, I3, q3⟩
theorem or1 (ha : PTg X a tA) : PWg X (.BoolOp .Or [a] pos) tA := by
  refine ⟨fun wh pins s σ H Q I h => ?_⟩
  refine isTrue_or (thn (ha.go pins s σ H Q I h) fun c s1 e => ?_)
  cases c with
  | false => exact isTrue_or_nil e
  | true => exact e
theorem or2 (ha : PTg X a tA) (hb : PWg X (.BoolOp .Or (b :: rest) pos) tB) : PWg X (.BoolOp .Or (a :: b :: rest) pos) (tOr tA tB) := by
  refine ⟨fun wh pins s σ H Q I h => ?_⟩
  refine isTrue_or (thn (ha.go pins s σ H _ I h) fun c s1 ⟨g1, H1, I1, q1⟩ => ?_)
  cases c with
  | true => exact ⟨g1, H1, I1, q1⟩
  | false => exact thn (hb.go wh pins s1 σ H1 Q I1 q1) fun c s2 ⟨g2, q2⟩ => ⟨g2.trans g1, q2⟩
theorem ifs {c : Expr} {x y : List Stmt} {t u : TS} (hc : PTg X c tc) (ha : PBg X x t) (hb : PBg X y u) : PSg X (.If c x y pos) (tIfS tc t u) := by
  refine ⟨fun pins s σ H D I h => ?_⟩
  refine wpAny_If (thn (hc.go pins s σ H _ I h) fun d s1 ⟨g1, H1, I1, q1⟩ => ?_)
  cases d with
  | true => exact thn (ha.go pins s1 σ H1 D I1 q1) fun f s2 ⟨g2, q2⟩ => ⟨g2.trans g1, q2⟩
  | false => exact thn (hb.go pins s1 σ H1 D I1 q1) fun f s2 ⟨g2, q2⟩ => ⟨g2.trans g1, q2⟩
theorem nil : PBg X [] tNext := ⟨fun pins s σ H D I h => wpAny_execs_nil ⟨rfl, σ, H, I, h⟩⟩
theorem never {x : List Stmt} : PBg X x tNever := ⟨fun _ _ _ _ _ _ h => h.elim⟩
end
/-! ### defs -/
section
variable {P : Program} {w : World} {K : PySem.W.Frag} {mg : Str → Option Value} {base : Heap}
theorem fnG_of {k : Nat} {f : Addr} {name qual : Str} {params : Arguments} {body : List Stmt} {scope : Scope} {dV kV doc pm cdv ct oc : Value} {an od : Option Addr}
    {osl : Array (Option Value)} {N ps : List Str} {sp : Sp} (lk : K.lookup f = some ⟨oc, od, .func (PySem.W.fnOf name qual params body scope dV kV doc pm an cdv ct), osl⟩) (hcd : PySem.W.codeIn K cdv qual = true) (S : FnScope N ps scope)
    (len : ∀ vs H Q E, sp vs H Q E → vs.length = ps.length)
    (hbody : ∀ (A : Around) (outer : List Env) (s : Shared) (H : Hp) (vs : List V) (Q : VK) (E : XK), Room k (A.deeper (envOfC qual scope s.heap.objs.size f cdv)) → sp vs H Q E →
      ∃ t, PBg (cxOf CX0 P w K mg base N qual scope f cdv A outer s H E) body t ∧ t { nx := fun _ H' => Q .non H', rt := Q } (start N vs) H) :
    FnG P w K mg base (k + 1) f (PySem.W.fnOf name qual params body scope dV kV doc pm an cdv ct) ps sp := by
  refine ⟨len, fun A outer s H args us vs Q E hr e0 hb r hsp => ?_⟩
  have hl := len _ _ _ _ hsp
  have KX : K.In s.heap := e0.mod.kin.keeps fun b o e => (e0.bs b o e).1
  have lim : s.heap.NoLimit := e0.mod.nolimit.keeps fun b o e => (e0.bs b o e).1
  have hkind : ∀ y ∈ ps.zip us, scope.names.lookup y.1 = some .local ∨ (scope.names.lookup y.1 = some .cell ∧ ((cellsFrom (s.heap.objs.size + 1) scope.names []).lookup y.1).isSome = true) := fun ⟨n, v⟩ hy =>
    (S.par n (List.of_mem_zip hy).1).elim .inl fun q => .inr ⟨q, PySem.W.cellsFrom_some _ _ _ (.inl q)⟩
  refine codeAny_call_function hr.depth (KX _ _ lk) rfl S.co S.gen rfl (PySem.W.codeRec_of KX hcd) (hb _ _ _ _ ?_)
  refine wpAny_newFunctionEnv_cells S.kind hkind fun env he s1 x => ?_
  subst he
  refine ⟨lim.keeps x.toInCall.keep, codeAny_func ?_⟩
  obtain ⟨t, ht, hq⟩ := hbody A outer s H vs Q E (hr.deeper _) hsp
  have I : Inv (cxOf CX0 P w K mg base N qual scope f cdv A outer s H E) [] (start N vs) H s1 := inv_start S hr.hd e0 hl r x
  obtain ⟨h1, tk, es1, _⟩ := x.done
  have g1 : s1.gens = s.gens := by rw [es1]
  refine wpAny_mono (ht.go [] s1 (start N vs) H _ I hq) (fun fl s' ⟨g2, hs⟩ => ?_) fun e s' hs => ?_
  · cases fl with
    | ret u => obtain ⟨v, σ', H', J, rv, q⟩ := hs; exact ⟨u, rfl, g2.trans g1, v, H', J.os, J.bare, J.base, J.hok, rv, q⟩
    | next => obtain ⟨σ', H', J, q⟩ := hs; exact ⟨Value.none, rfl, g2.trans g1, .non, H', J.os, J.bare, J.base, J.hok, rfl, q⟩
    | brk => obtain ⟨_, _, _, q⟩ := hs; exact False.elim q
    | cont => obtain ⟨_, _, _, q⟩ := hs; exact False.elim q
  · exact wpAny_mono hs (fun _ _ z => z.elim) fun _ _ z => z.elim
end
section
variable {X : Cx} {k : Nat} {f C : Addr} {fd : FuncData} {ps : List Str} {sp : Sp} {dvs : List V} {ds : List Value} {m : Str} {p pos apos : Pos} {e o : Expr} {es : List Expr} {ta : TE} {t : TA}
theorem run_fnG {pins : List (Addr × Obj)} {σ : L2.St} {H : Hp} {s : Shared} {Q : VK} {us : List Value} {vs : List V} (F : FnG X.prog X.w X.K X.mg X.base k f fd ps sp) (hr : Room k X.A) (hb : Binds X.K fd ps ds) (hd : Vals dvs ds)
    (I : Inv X pins σ H s) (r : Vals vs us) (h : sp (vs ++ dvs) H Q E0) : wpAny (model X.prog X.w) X.A (call (.ref f) us) (fun u s' => s'.gens = s.gens ∧ EP X pins σ Q u s') X.xe s := by
  have r2 : Vals (vs ++ dvs) (us ++ ds) := r.append hd
  have hl : (us ++ ds).length = ps.length := by rw [← r2.length]; exact F.len _ _ _ _ h
  refine wpAny_call (codeAny_mono (F.go X.A X.stack s H ⟨us, []⟩ (us ++ ds) (vs ++ dvs) Q E0 hr I.env0 (hb s us I.kIn hl) r2 h) fun r s' hq => ?_)
  obtain ⟨u, rfl, g, q⟩ := hq
  exact ⟨g, I.after q⟩
theorem meth {pl : Sem Bool} (he : PEg X o ta) (c : Cls X.K C) (hm : Meth X.K C m f) (F : FnG X.prog X.w X.K X.mg X.base k f fd ps sp) (hr : Room k X.A) (hb : Binds X.K fd ps ds) (hd : Vals dvs ds) (ha : PAg X (e :: es) t)
    (hst : starEach (e :: es) X.env = (false, eval e X.env) :: starEach es X.env := by rfl) (hpl : (backTo pos (starEach es X.env)).any (·.1) = false := by rfl)
    (ht : eval (.Call (.Attribute o m apos) (e :: es) [] pos) X.env = (do
      let ov ← eval o X.env
      standAt apos.atName
      let (f, first) ← holding [ov] (getMethod ov m pl)
      callWith pos f first (backTo pos (starEach (e :: es) X.env)) (backToKw pos (keywordEach [] X.env))) := by rfl) :
    PEg X (.Call (.Attribute o m apos) (e :: es) [] pos) (tMeth C m sp dvs E0 ta t) := by
  refine ⟨fun pins s σ H Q I h => ?_⟩
  refine PySem.W.methodCall_KW (pl := pl) (thn (he.go pins s σ H _ I h) fun u s1 ⟨g1, x, H1, I1, rx, a, dx, fs, ex, ea, l, q⟩ => ?_) ht
  subst ex
  obtain rfl : u = Value.ref a := rx
  refine getmeth_ok I1 ea c hm l ?_
  refine PySem.W.callWith_K (first := [.ref a]) (h₀ := X.base) I.ok.mod.kin hm.kp (thn (ha.go pos pins s1 σ H1 _ I1 q) fun us s2 ⟨g2, vs, H2, I2, r, q2⟩ => ⟨I2.kIn, ?_⟩) hst hpl
  exact thn (run_fnG (us := .ref a :: us) (vs := .ref a :: vs) F hr hb hd I2 (.cons rfl r) q2) fun u s3 ⟨g3, q3⟩ => ⟨g3.trans (g2.trans g1), q3⟩
theorem meth0 {pl : Sem Bool} (he : PEg X o ta) (c : Cls X.K C) (hm : Meth X.K C m f) (F : FnG X.prog X.w X.K X.mg X.base k f fd ps sp) (hr : Room k X.A) (hb : Binds X.K fd ps ds) (hd : Vals dvs ds)
    (ht : eval (.Call (.Attribute o m apos) [] [] pos) X.env = (do
      let ov ← eval o X.env
      standAt apos.atName
      let (f, first) ← holding [ov] (getMethod ov m pl)
      callWith pos f first (backTo pos (starEach [] X.env)) (backToKw pos (keywordEach [] X.env))) := by rfl) :
    PEg X (.Call (.Attribute o m apos) [] [] pos) (tMeth C m sp dvs E0 ta tNil) := by
  refine ⟨fun pins s σ H Q I h => ?_⟩
  refine PySem.W.methodCall_KW (pl := pl) (thn (he.go pins s σ H _ I h) fun u s1 ⟨g1, x, H1, I1, rx, a, dx, fs, ex, ea, l, q⟩ => ?_) ht
  subst ex
  obtain rfl : u = Value.ref a := rx
  refine getmeth_ok I1 ea c hm l ?_
  exact PySem.W.callWith_K0 (first := [.ref a]) I1.kIn hm.kp (thn (run_fnG (us := [.ref a]) (vs := [.ref a]) F hr hb hd I1 (.cons rfl .nil) q) fun u s3 ⟨g3, q3⟩ => ⟨g3.trans g1, q3⟩)
end
/-! ### for -/
section
variable {X : Cx} {tg : Expr}
/-- next of this iterator leaves the table -/
def Still (P : Program) (w : World) (K : PySem.W.Frag) (it : Addr) (tn : Nat → Heap → Prop) (J : It) : Prop := ∀ (X : Cx), X.prog = P → X.w = w → X.K = K → X.calm = true → ∀ (i : Nat) (pins : List (Addr × Obj)) (s : Shared) (σ : L2.St) (H : Hp), Inv X pins σ H s → tn i s.heap → (J.go i H ∨ J.stop i H) →
  wpAny (model P w) X.A (pyNext (.ref it)) (fun _ s1 => s1.gens = s.gens) (fun _ _ => True) s
def PIEg (X : Cx) (pins : List (Addr × Obj)) (σ : L2.St) (tg : Expr) (R : It → Hp → Prop) (itv : Value) (s2 : Shared) : Prop :=
  ∃ (it : Addr) (fp : List Addr) (tn : Nat → Heap → Prop) (J : It) (H' : Hp), itv = .ref it ∧ Inv X pins σ H' s2 ∧ Turn X.prog X.w X.K tg J fp it tn ∧ tn 0 s2.heap ∧ (∀ b ∈ fp, FpOk X pins H' b) ∧ Still X.prog X.w X.K it tn J ∧ R J H'
structure PIg (X : Cx) (tg iter : Expr) (wi : TI) : Prop where
  go : ∀ (pins : List (Addr × Obj)) (s : Shared) (σ : L2.St) (H : Hp) (R : It → Hp → Prop), Inv X pins σ H s → wi σ H R →
    wpAny (model X.prog X.w) X.A (eval iter X.env) (fun v s1 => wpAny (model X.prog X.w) X.A (pyIter v) (fun itv s2 => s2.gens = s.gens ∧ PIEg X pins σ tg R itv s2) X.xe s1) X.xe s
theorem forG {x : Str} {i : Nat} {pt pos : Pos} {iter : Expr} {body : List Stmt} {wi : TI} {tb : TS} (hp : PassesOwn (model X.prog X.w) X.A X.env X.xe) (hc : X.calm = true) (hi : PIg X (.Name x pt) iter wi) (hN : X.N.Nodup) (hx : X.N[i]? = some x) (hl : X.env.scope.names.lookup x = some .local) (hb : PBg X body tb)
    (hs : ∀ x, foldedSetIterable iter X.env x = pure x := by intro _; rfl) : PSg X (.For (.Name x pt) iter body [] pos) (tFor wi (gName i) tb) := by
  refine ⟨fun pins s σ H D I h => ?_⟩
  refine wpAny_For (thn (hi.go pins s σ H _ I h) fun v s1 h1 => thn h1 fun itv s2 ⟨g2, h2⟩ => ?_) hs
  obtain ⟨it, fp, tn, J, H2, e, I2, T, st2, f2, still, W, ⟨m0, w0⟩, turn⟩ := h2
  subst e
  have stat : ∀ {H' : Hp}, (∀ b ∈ fp, H' b = none) → ∀ b ∈ fp, FpOk X pins H' b := fun hn b hb => ⟨hn b hb, (f2 b hb).2⟩
  refine codeAny_forLoop_any (fun n s' => s'.gens = s.gens ∧ ∃ i σ' H', Inv X pins σ' H' s' ∧ tn i s'.heap ∧ (∀ b ∈ fp, H' b = none) ∧ W i n σ' H') ?_ m0 ⟨g2, 0, σ, H2, I2, st2, fun b hb => (f2 b hb).1, w0⟩
  rintro n s3 ⟨g3, j, σ3, H3, I3, st3, fr3, w3⟩
  rcases turn j n σ3 H3 w3 with ⟨stop, qn⟩ | ⟨go, N, hN2, step⟩
  · refine wpAny_passesOwn hp (thn (too (T.done X rfl rfl rfl hc j pins s3 σ3 H3 X.xe I3 (stat fr3) st3 stop) (still X rfl rfl rfl hc j pins s3 σ3 H3 I3 st3 (.inr stop))) fun r s4 ⟨g4, hr, I4⟩ => ?_)
    subst hr
    exact wpAny_execs_nil ⟨g4.trans g3, σ3, H3, I4, qn⟩
  · refine wpAny_passesOwn hp (thn (too (T.item X rfl rfl rfl hc j pins s3 σ3 H3 X.xe I3 (stat fr3) st3 go) (still X rfl rfl rfl hc j pins s3 σ3 H3 I3 st3 (.inl go))) fun r s4 ⟨g4, u, hr, h4⟩ => ?_)
    subst hr
    refine wpAny_passesOwn hp (thn (too h4 (Q' := fun _ s5 => s5 = s4) (E' := fun _ _ => True) (wpAny_pure rfl)) fun _ s5 ⟨e5, y, H5, I5, r5, y5, st5, fr5⟩ => ?_)
    subst e5
    have I5' := I5.pinned (stat fr5) (T.obj _ _ st5)
    obtain ⟨mm, hn, _⟩ := id I5'.loc
    have hcls : (X.env.scope.kind == .class || (X.env.scope.kind == .module && X.env.locals != X.env.globals)) = false := by rw [I5.ok.kind]; rfl
    refine wpAny_passesOwn hp (wpAny_assign_Name (thn (too (store_ok (E := X.xe) I5' hN hx (.inl hl) r5 (Q := fun _ s6 => Inv X _ (σ3.set i (some y)) H5 s6) (fun s6 I6 => I6) (.inr hl))
      (wpAny_storeName_local (E := fun _ _ => True) (Q := fun _ s6 => s6.gens = s5.gens) hl hn (fun h' _ _ => rfl) hcls)) fun _ s6 ⟨g6, I6⟩ => ?_))
    refine wpAny_passesOwn hp (thn (hb.go _ s6 (σ3.set i (some y)) H5 _ I6 (step y H5 y5)) fun f s7 ⟨g7, q7⟩ => ?_)
    have g : s7.gens = s.gens := g7.trans (g6.trans (g4.trans g3))
    have again : ∀ {σ7 : L2.St} {H7 : Hp}, Inv X (pins ++ pinsAt fp s5.heap) σ7 H7 s7 → N σ7 H7 → ∃ m, m < n ∧ s7.gens = s.gens ∧ ∃ i σ' H', Inv X pins σ' H' s7 ∧ tn i s7.heap ∧ (∀ b ∈ fp, H' b = none) ∧ W i m σ' H' := fun {σ7 H7} I7 n7 => by
      obtain ⟨m', hm, w7⟩ := hN2 σ7 H7 n7
      refine ⟨m', hm, g, j + 1, σ7, H7, I7.unpinned, T.keep _ _ _ st5 fun b hb o e => (I7.pin (b, o) (List.mem_append_right _ (List.mem_append_right _ (mem_pinsAt hb e)))).1, fun b hb => ?_, w7⟩
      obtain ⟨o, e, d⟩ := T.obj _ _ st5 b hb
      exact (I7.pin (b, o) (List.mem_append_right _ (List.mem_append_right _ (mem_pinsAt hb e)))).2.1
    cases f with
    | next => obtain ⟨σ7, H7, I7, n7⟩ := q7; exact again I7 n7
    | cont => obtain ⟨σ7, H7, I7, n7⟩ := q7; exact again I7 n7
    | brk => obtain ⟨σ7, H7, I7, q7⟩ := q7; exact ⟨g, σ7, H7, I7.unpinned, q7⟩
    | ret v => obtain ⟨x7, σ7, H7, I7, r7, q7⟩ := q7; exact ⟨g, x7, σ7, H7, I7.unpinned, r7, q7⟩
theorem still_range {P : Program} {w : World} {K : PySem.W.Frag} (it : Addr) (lo : Int) (n : Nat) : Still P w K it (fun i h => IsRangeIter h it (lo + (i : Nat) * 1) ((n : Int) - (i : Nat)) 1) (Itr lo n) := by
  intro X hP hw hK hc i pins s σ H I st hg
  subst hP hw
  rcases hg with hg | hg
  · have hg : i < n := hg
    exact wpAny_pyNext_range_item st (by omega) fun h' _ _ => rfl
  · have hg : n ≤ i := hg
    exact wpAny_pyNext_range_end (I.ok.hd hc) st (by omega) fun h' _ => rfl
theorem still_rev {P : Program} {w : World} {K : PySem.W.Frag} (a it : Addr) (n : Nat) : Still P w K it (fun i h => i ≤ n ∧ h.IsRevIter it a ((n : Int) - 1 - (i : Nat))) (Itv K a n) := by
  intro X hP hw hK hc i pins s σ H I st hg
  subst hP hw hK
  obtain ⟨hin, hit⟩ := st
  rcases hg with hg | hg
  · obtain ⟨hin2, xs, x, hq, hx⟩ := hg
    obtain ⟨its, rv, p, hz⟩ := I.list hq
    obtain ⟨u, hu, ru⟩ := rv.get hx
    have e1 : (n : Int) - 1 - ((i : Nat) : Int) = ((n - 1 - i : Nat) : Int) := by omega
    rw [e1] at hit
    exact wpAny_pyNext_rev_item hit p.isList (x := u) (by simpa using hu) fun h' st' sb => rfl
  · have hge : n ≤ i := hg
    have e1 : (n : Int) - 1 - ((i : Nat) : Int) = -1 := by omega
    rw [e1] at hit
    exact wpAny_pyNext_rev_end (I.ok.hd hc) hit fun h' eb => rfl
theorem range1 {a : Expr} {ta : TA} {p pos : Pos} (hg : Gl X "range") (hm : X.mg "range" = none) (ha : PAg X [a] ta) (hs : starEach [a] X.env = [(false, eval a X.env)] := by rfl) : PIg X tg (.Call (.Name "range" p) [a] [] pos) (iRng1 ta) := by
  refine ⟨fun pins s σ H R I h => ?_⟩
  refine Call_ (ld_blt I hg hm boot_range (PyProof.Rows.callWith_type1 (thn (ha.go pos pins s σ H _ I h) fun us s1 ⟨g1, vs, H1, I1, r1, q1⟩ => ?_) hs rfl))
  obtain ⟨j, e, q1, q2, q⟩ := q1
  subst e
  cases r1 with
  | cons r rr =>
    cases rr
    obtain ⟨t, rfl⟩ := r
    refine call_range_1 ?_
    refine wpAny_pyIter_range (IsRange.new ..) (small_one (by omega) (by omega) q1 q2) ?_
    have I2 : Inv X pins σ H1 { s1 with heap := s1.heap.push { cls := .type "range", data := .fields #[.int 0 s1.toks, .int j t, .int 1 (s1.toks + 1)] }, toks := s1.toks + 1 + 1 } := I1.kept fun b o e => Heap.get?_push_of_some _ e
    refine ⟨g1, (s1.heap.push { cls := .type "range", data := .fields #[.int 0 s1.toks, .int j t, .int 1 (s1.toks + 1)] }).objs.size, [(s1.heap.push { cls := .type "range", data := .fields #[.int 0 s1.toks, .int j t, .int 1 (s1.toks + 1)] }).objs.size], _, _, H1, rfl,
      I2.kept (t' := s1.toks + 1 + 1) fun b o e => Heap.get?_push_of_some _ e, turn_range _ 0 j.toNat, ?_, fun b hb => ?_, still_range _ 0 j.toNat, q⟩
    · have e2 : ((j.toNat : Nat) : Int) - ((0 : Nat) : Int) = Builtin.Range.rangeSize 0 j 1 := by rw [rangeSize_one]; split <;> omega
      show IsRangeIter _ _ ((0 : Int) + ((0 : Nat) : Int) * 1) (((j.toNat : Nat) : Int) - ((0 : Nat) : Int)) 1
      rw [e2]
      exact Heap.get?_push_size _ rfl
    · have e : b = (s1.heap.push { cls := .type "range", data := .fields #[.int 0 s1.toks, .int j t, .int 1 (s1.toks + 1)] }).objs.size := by simpa using hb
      subst e
      exact I2.fpOk (Nat.le_refl _) (I2.hok.fresh (Nat.le_refl _))
theorem revL {e : Expr} {ta : TA} {p pos : Pos} (hg : Gl X "reversed") (hm : X.mg "reversed" = none) (ha : PAg X [e] ta) (hs : starEach [e] X.env = [(false, eval e X.env)] := by rfl) : PIg X tg (.Call (.Name "reversed" p) [e] [] pos) (iRev X.K ta) := by
  refine ⟨fun pins s σ H R I h => ?_⟩
  refine Call_ (ld_blt I hg hm PyProof.Rows.boot_reversed (PyProof.Rows.callWith_type1 (thn (ha.go pos pins s σ H _ I h) fun us s1 ⟨g1, vs, H1, I1, r1, q1⟩ => ?_) hs rfl))
  obtain ⟨a, xs, e, hq, q⟩ := q1
  subst e
  cases r1 with
  | cons r rr =>
    cases rr
    cases r
    obtain ⟨its, rv, p', hz⟩ := I1.list hq
    have hl := rv.length
    have e1 : ((its.toArray.size : Nat) : Int) - 1 = (xs.length : Int) - 1 - ((0 : Nat) : Int) := by simp only [List.size_toArray]; omega
    refine call_reversed_list p'.isList (wpAny_pyIter_revIter (l := a) (i := ((its.toArray.size : Nat) : Int) - 1) ⟨_, Heap.get?_push_size _ rfl, rfl, rfl⟩ ?_)
    refine ⟨g1, s1.heap.objs.size, [s1.heap.objs.size], _, _, H1, rfl, I1.kept (t' := s1.toks) fun b ob e => Heap.get?_push_of_some _ e, turn_rev a _ xs.length, ⟨Nat.zero_le _, ?_⟩, fun b hb => ?_, still_rev a _ xs.length, q⟩
    · rw [← e1]
      exact ⟨_, Heap.get?_push_size _ rfl, rfl, rfl⟩
    · have e : b = s1.heap.objs.size := by simpa using hb
      subst e
      exact I1.fpOk (Nat.le_refl _) (I1.hok.fresh (Nat.le_refl _))
/-- list(xs) -/
theorem listOf : CaG X (.type "list") (fun xs H Q => ∃ p ys, xs = [.ref p] ∧ (SqL X.K H p ys ∨ SqT X.K H p ys) ∧ ∀ l, H l = none → Q (.ref l) (upd H l (.lst ys))) := by
  intro pins s σ H xs us Q I r h
  refine too (call_list_of pins s σ H xs us Q I r h) (Q' := fun _ s' => s'.gens = s.gens) (E' := fun _ _ => True) ?_
  obtain ⟨p, ys, rfl, hq, q⟩ := h
  obtain ⟨u, rfl, rx⟩ := vals1 r
  cases rx
  rcases hq with hq | hq
  · obtain ⟨its, r', pl, hz⟩ := I.list hq
    have hlen := r'.length
    obtain ⟨o, ho, hc, n, hd⟩ := pl.isList
    exact call_list_seq p (.inl rfl) ho hc hd (fun h' c' kp e => rfl) (by simp only [List.size_toArray] <;> omega)
  · obtain ⟨its, r', pl, hz⟩ := I.tuple hq
    have hlen := r'.length
    obtain ⟨o, ho, hc, n, hd⟩ := pl
    exact call_list_seq p (.inr rfl) ho hc hd (fun h' c' kp e => rfl) (by simp only [List.size_toArray] <;> omega)
end
section
variable {X : Cx} {k : Nat} {C g : Addr} {fd : FuncData} {ps : List Str} {sp : Sp} {o i value : Expr} {to ti tv : TE} {pos pos' : Pos}
/-- o[i] = v by the class's own __setitem__ -/
theorem ownSet (m : Sm.SetM X.K C g) (F : FnG X.prog X.w X.K X.mg X.base k g fd ps sp) (hr : Room k X.A) (hb : Binds X.K fd ps []) (ho : PEg X o to) (hi : PEg X i ti) (hv : PEg X value tv) (hs : swapsWith value (some (.Subscript o i pos')) pos.line X.env = pure false) :
    PSg X (.Assign [.Subscript o i pos'] value pos) (tAsg tv (Sm.gOwnSet C sp (fun _ => E0) to ti)) := by
  refine ⟨fun pins s σ H D I h => ?_⟩
  refine wpAny_Assign_Subscript (thn (hv.go pins s σ H _ I h) fun r s1 ⟨g1, v, H1, I1, rv, q1⟩ => thn (ho.go pins s1 σ H1 _ I1 q1) fun u s2 ⟨g2, x, H2, I2, rx, q2⟩ => thn (hi.go pins s2 σ H2 _ I2 q2) fun iv s3 ⟨g3, y, H3, I3, ry, a, dx, fs, ex, ea, q⟩ => ?_) hs
  subst ex
  obtain rfl : u = Value.ref a := rx
  obtain ⟨ox, od, J⟩ := Sm.inst_of I3 ea
  obtain ⟨mm, hF⟩ := I3.fr
  refine PySem.W.ksp_setItem hF I3.ok.mod.kin J m.sq m.at_ m.is (thn (run_fnG (us := [.ref a, iv, r]) (vs := [.ref a, y, v]) (dvs := []) (ds := []) F hr hb .nil I3 (.cons rfl (.cons ry (.cons rv .nil))) q) fun z s4 ⟨g4, zv, H4, I4, _, q4⟩ => ?_)
  exact ⟨g4.trans (g3.trans (g2.trans g1)), σ, H4, I4, q4⟩
end
end Ex
set_option maxHeartbeats 4000000
/-! f(**d): a dict of texts as keywords -/
namespace Ex
open PySem PySem.Spec PyProof.Rows L2
section
variable {prog : Program} {w : World} {κ : Type} [DecidableEq κ] {knd : PySem.KeyKind prog w κ} {A : Around} {E : Value → Shared → Prop} {s : Shared}
/-- a key that is not there is put behind -/
theorem put_new {d : Addr} {kvs : List (κ × Value)} {k : κ} {key v : Value} {Q : Unit → Shared → Prop} (hkey : knd.is k key = true) (hm : s.heap.DictOf knd d kvs) (hn : k ∉ kvs.map (·.1))
    (hQ : ∀ h', h'.DictOf knd d (kvs ++ [(k, v)]) → Heap.SameBut d s.heap h' → Q () { s with heap := h' }) (hsz : kvs.length ≤ sizeLine) :
    wpAny (model prog w) A (do
      if true then
        if (← dictFind d key (knd.hash k)).isSome then rule "dict.merge.duplicate-key"; raiseNew (← newExc (.type "KeyError") [key])
      dictPut d (knd.hash k) key v) Q E s := by
  obtain ⟨o, es, ep, ho, hc, hd, hk, hp, hnd⟩ := hm
  have hes : es.size ≤ sizeLine := by
    have e1 := hp.length
    have e2 : es.toList.length = es.size := by simp
    omega
  have hidx : (es.findIdx? fun e => knd.is k e.key) = kvs.findIdx? fun kv => decide (kv.1 = k) := by
    rw [← hp.findIdx k]; obtain ⟨l⟩ := es; simp
  have hno : (es.findIdx? fun e => knd.is k e.key) = none := by
    rw [hidx, List.findIdx?_eq_none_iff]
    intro x hx
    exact decide_eq_false fun z => hn (List.mem_map.mpr ⟨x, hx, z⟩)
  rw [if_pos rfl]
  refine wpAny_bind (wpAny_dictFind_of hkey ho hd hk ?_)
  rw [hno, if_neg (by decide)]
  show wpAny _ _ (dictPut d (knd.hash k) key v) _ _ s
  unfold dictPut
  refine wpAny_bind (wpAny_dictFind_of hkey ho hd hk ?_)
  rw [hno]
  refine wpAny_updateDictKeys (hz := hes) ho hd (hQ _ ⟨_, _, ep + 1, Heap.get?_update_self _ ho (Obj.isFreed_of_dict (Obj.data_mapDictKeys hd _)), hc.mapDictKeys _, Obj.data_mapDictKeys hd _, hk.push hkey _, ?_, ?_⟩ (Heap.SameBut.update ..))
  · have := hp.append hkey (knd.hash k) v
    obtain ⟨l⟩ := es
    simpa using this
  · rw [List.map_append, List.nodup_append]
    refine ⟨hnd, by simp, fun a ha b hb => ?_⟩
    simp only [List.map_cons, List.map_nil, List.mem_singleton] at hb
    subst hb
    exact fun e => hn (e ▸ ha)
/-- d, empty, takes all of o -/
theorem mergeAll {d o : Addr} {more : List (κ × Value)} {Q : Unit → Shared → Prop} (hdo : d ≠ o) (hoS : (o == sysModules) = false) (hd : s.heap.DictOf knd d []) (ho : s.heap.DictOf knd o more)
    (hQ : ∀ h', h'.DictOf knd d more → h'.DictOf knd o more → Heap.SameBut d s.heap h' → Q () { s with heap := h' }) (hsz : more.length ≤ sizeLine) : wpAny (model prog w) A (mergeMapping d (.ref o) true) Q E s := by
  obtain ⟨od, esd, epd, hod, hcd, hdd, hkd, hpd, hnd⟩ := id hd
  obtain ⟨oo, eso, epo, hoo, hco, hdo', hko, hpo, hno⟩ := id ho
  unfold mergeMapping
  refine wpAny_bind (wpAny_isInstance ho.typeIs isSubtype_dict_dict ?_)
  rw [if_pos rfl]
  refine wpAny_bind (wpAny_specialOf ho.typeIs PySem.F.slot_dict_iter.lookup (wpAny_bind (wpAny_pure ?_)))
  rw [show (some (Value.builtin "dict.__iter__") == some (Value.builtin "dict.__iter__")) = true by decide]
  show wpAny _ _ (if (o == sysModules) = true then _ else _) _ _ s
  rw [if_neg (by rw [hoS]; exact Bool.false_ne_true)]
  refine wpAny_bind (wpAny_dictEntries hod hdd ?_)
  have h0 : esd = #[] := by
    have := hpd.length
    exact Array.eq_empty_of_size_eq_zero (by simpa using this)
  subst h0
  rw [if_pos (by rfl)]
  refine wpAny_bind (wpAny_dictEntries hoo hdo' ?_)
  refine wpAny_bind ?_
  rw [← Array.forIn_toList]
  refine wpAny_forIn_list _ (fun rest _ s' => s' = s ∧ ∀ e ∈ rest, e ∈ eso.toList) _ ?_ ?_ _ _ ⟨rfl, fun e he => he⟩
  · rintro e rest b s' ⟨rfl, he⟩
    obtain ⟨k', hk', _⟩ := hko e (Array.mem_toList_iff.mp (he e List.mem_cons_self))
    have hb := knd.byValue k' e.key hk'
    cases q : e.key with
    | ref a => rw [q] at hb; cases hb
    | _ => exact wpAny_pure ⟨rfl, fun e' h' => he e' (List.mem_cons_of_mem _ h')⟩
  · rintro b s' ⟨rfl, _⟩
    refine wpAny_bind (wpAny_dictEntries hoo hdo' ?_)
    refine wpAny_bind (wpAny_dictEpoch hoo hdo' ?_)
    refine wpAny_bind ?_
    have hlen : more.length = eso.size := by rw [← hpo.length]; simp
    refine wpAny_forIn_list _ (fun rest _ s2 => ∃ h' i, s2 = { s' with heap := h' } ∧ rest = List.range' i (eso.size - i) ∧ i ≤ eso.size ∧ h'.DictOf knd d (more.take i) ∧ h'.get? o = some oo ∧ Heap.SameBut d s'.heap h') _ ?_ ?_ _ _
      ⟨s'.heap, 0, rfl, by rw [List.range_eq_range']; rfl, Nat.zero_le _, hd, hoo, Heap.SameBut.refl _ _⟩
    · rintro x rest b s2 ⟨h', i, rfl, hr, hi, hd', hoo', hs'⟩
      have hlt : i < eso.size := by
        rcases Nat.lt_or_ge i eso.size with h | h
        · exact h
        · rw [Nat.sub_eq_zero_of_le h] at hr; simp at hr
      obtain ⟨rfl, hrest⟩ : x = i ∧ rest = List.range' (i + 1) (eso.size - (i + 1)) := by
        have e : eso.size - i = (eso.size - (i + 1)) + 1 := by omega
        rw [e, List.range'_succ] at hr
        injection hr with h1 h2
        exact ⟨h1, h2⟩
      refine wpAny_bind (wpAny_dictEntries hoo' hdo' ?_)
      rw [Array.getElem?_eq_getElem hlt]
      obtain ⟨kv, hkv⟩ : ∃ kv, more[x]? = some kv := ⟨more[x]'(by rw [hlen]; exact hlt), List.getElem?_eq_getElem _⟩
      obtain ⟨k, v⟩ := kv
      obtain ⟨hkey, hval⟩ := hpo.get? (e := eso[x]) (by simp [hlt]) hkv
      obtain ⟨k', hkey', hhash⟩ := hko eso[x] (Array.getElem_mem hlt)
      obtain rfl : k' = k := knd.inj _ _ _ hkey' hkey
      have hfresh : k' ∉ (more.take x).map (·.1) := fun z => by
        have h2 : more = more.take x ++ more.drop x := (List.take_append_drop x more).symm
        have h3 : more.drop x = (k', v) :: more.drop (x + 1) := by
          rw [List.drop_eq_getElem_cons (by rw [hlen]; exact hlt)]
          rw [List.getElem?_eq_getElem (by rw [hlen]; exact hlt)] at hkv
          rw [Option.some.inj hkv]
        rw [h2, h3, List.map_append, List.nodup_append] at hno
        exact hno.2.2 k' z k' (by simp) rfl
      dsimp only
      rw [hhash, hval]
      have hz : (more.take x).length ≤ sizeLine := Nat.le_trans (by rw [List.length_take]; exact Nat.min_le_right _ _) hsz
      have htk : more.take x ++ [(k', v)] = more.take (x + 1) := by rw [List.take_add_one, hkv]; rfl
      refine wpAny_bind (wpAny_holding ?_)
      refine put_new (s := { s' with heap := h' }) hkey hd' hfresh (fun h'' hd'' hs'' => ?_) hz
      have hoo'' : h''.get? o = some oo := (hs''.2 o (Ne.symm hdo)).trans hoo'
      refine wpAny_bind (wpAny_dictEpoch hoo'' hdo' ?_)
      rw [if_neg (by simp)]
      exact wpAny_pure ⟨h'', x + 1, rfl, hrest, hlt, by rw [← htk]; exact hd'', hoo'', hs'.trans hs''⟩
    · rintro b s2 ⟨h', i, rfl, hr, hi, hd', hoo', hs'⟩
      have hin : i = eso.size := by
        rcases Nat.lt_or_ge i eso.size with h | h
        · have e : eso.size - i = (eso.size - (i + 1)) + 1 := by omega
          rw [e, List.range'_succ] at hr; exact nomatch hr
        · exact Nat.le_antisymm hi h
      rw [hin, ← hlen, List.take_length] at hd'
      exact wpAny_pure (hQ h' hd' ⟨oo, eso, epo, hoo', hco, hdo', hko, hpo, hno⟩ hs')
end
section
variable {prog : Program} {w : World} {A : Around} {E : Value → Shared → Prop} {s : Shared}
/-- the texts among the keys of a dict of mixed keys -/
theorem keywords_of {d : Addr} {kws : List (Str × Value)} {f : Value} {Q : List (Str × Value) → Shared → Prop} (hd : s.heap.DictOf (mixKind prog w) d (kws.map fun p => ((Sum.inr p.1 : Key), p.2))) (h : Q kws s) :
    wpAny (model prog w) A (keywordsIn f d) Q E s := by
  obtain ⟨od, es, ep, ho, hc, hdd, hk, hp, hn⟩ := id hd
  unfold keywordsIn
  refine wpAny_bind (wpAny_dictEntries ho hdd ?_)
  refine wpAny_bind ?_
  rw [← Array.forIn_toList]
  have hlen : es.toList.length = kws.length := by rw [hp.length, List.length_map]
  refine wpAny_forIn_list _ (fun rest acc s' => s' = s ∧ ∃ i, rest = es.toList.drop i ∧ acc = kws.take i) _ ?_ ?_ _ _ ⟨rfl, 0, rfl, rfl⟩
  · rintro e rest acc s' ⟨rfl, i, hr, rfl⟩
    have hi : i < es.toList.length := by
      rcases Nat.lt_or_ge i es.toList.length with z | z
      · exact z
      · rw [List.drop_eq_nil_of_le z] at hr; cases hr
    rw [List.drop_eq_getElem_cons hi] at hr
    injection hr with h1 h2
    obtain ⟨kv, hkv⟩ : ∃ kv, kws[i]? = some kv := ⟨kws[i]'(by omega), List.getElem?_eq_getElem _⟩
    obtain ⟨hkey, hval⟩ := hp.get? (i := i) (e := e) (by rw [List.getElem?_eq_getElem hi, h1]) (by rw [List.getElem?_map, hkv]; rfl)
    obtain ⟨kx, kvv⟩ := kv
    have sh : ∃ tk, e.key = .str kx tk := by
      rcases keyIs_shape (show keyIs (Sum.inr kx) e.key = true from hkey) with ⟨j, t, e1, e2⟩ | ⟨y, t, e1, e2⟩
      · cases e1
      · cases e1; exact ⟨t, e2⟩
    obtain ⟨tk, ek⟩ := sh
    rw [ek]
    refine wpAny_pure ⟨rfl, i + 1, h2, ?_⟩
    rw [List.take_add_one, hkv, hval]
    rfl
  · rintro acc s' ⟨rfl, i, hr, rfl⟩
    have hi : es.toList.length ≤ i := by
      rcases Nat.lt_or_ge i es.toList.length with z | z
      · rw [List.drop_eq_getElem_cons z] at hr; cases hr
      · exact z
    refine wpAny_pure ?_
    rw [List.take_of_length_le (by omega)]
    exact h
/-- f(**d) -/
theorem starKw {f : Value} {x : Sem Value} {Q : Args → Shared → Prop}
    (h : wpAny (model prog w) A x (fun u s1 => ∃ (o : Addr) (kws : List (Str × Value)), u = .ref o ∧ (o == sysModules) = false ∧ o ≠ s.heap.objs.size ∧ s1.heap.get? s.heap.objs.size = some { cls := .type "dict", data := .dict #[] } ∧ kws.length ≤ sizeLine ∧ s1.heap.DictOf (mixKind prog w) o (kws.map fun p => ((Sum.inr p.1 : Key), p.2)) ∧
      ∀ h', (∀ b ob, s1.heap.get? b = some ob → b ≠ s.heap.objs.size → h'.get? b = some ob) → Q ⟨[], kws⟩ { s1 with heap := h' })
      E { s with heap := s.heap.push { cls := .type "dict", data := .dict #[] } }) :
    wpAny (model prog w) A (evalArgs f true [] [(none, x)]) Q E s := by
  unfold evalArgs
  refine wpAny_bind (wpAny_bind (Calls.spliced_nil (wpAny_pure ?_)))
  refine wpAny_bind (wpAny_pure ?_)
  show wpAny _ _ (holding [] _) _ _ s
  refine wpAny_holding ?_
  dsimp only
  rw [if_neg (show ¬ ([((none : Option Str), x)].all fun x => x.fst.isSome) = true from fun z => by cases z)]
  refine wpAny_bind ?_
  unfold mergedKeywords
  refine wpAny_bind (wpAny_alloc ?_)
  refine wpAny_bind (wpAny_holding ?_)
  dsimp only
  refine wpAny_bind ?_
  rw [List.forIn_cons]
  refine wpAny_bind ?_
  show wpAny _ _ ((if ([] : List (Str × Sem Value)).isEmpty = true then pure () else _) >>= _) _ _ _
  rw [if_pos (show ([] : List (Str × Sem Value)).isEmpty = true from rfl)]
  refine wpAny_bind (wpAny_pure ?_)
  refine wpAny_bind (wpAny_mono h (fun u s1 hu => ?_) fun _ _ z => z)
  obtain ⟨o, kws, rfl, hoS, hne, hd0, hlen, hdo, hQ⟩ := hu
  have D0 : s1.heap.DictOf (mixKind prog w) s.heap.objs.size [] := ⟨_, #[], 0, hd0, ⟨rfl, rfl, rfl⟩, rfl, fun e he => by simp at he, .nil, List.nodup_nil⟩
  refine wpAny_bind (wpAny_onRaise (wpAny_holding (wpAny_tryCatch (wpAny_onRaise (mergeAll (Ne.symm hne) hoS D0 hdo (fun h' h1 h2 sb => ?_) (by rw [List.length_map]; exact hlen))))))
  refine wpAny_pure ?_
  dsimp only
  rw [List.forIn_nil]
  refine wpAny_pure ?_
  rw [if_pos (show ([] : List (Str × Sem Value)).isEmpty = true from rfl)]
  refine wpAny_pure ?_
  refine wpAny_pure ?_
  refine wpAny_bind (wpAny_pure ?_)
  refine wpAny_bind (wpAny_holding (keywords_of h1 (wpAny_pure ?_)))
  exact hQ h' fun b ob e hb => (sb.2 b hb).trans e
end
end Ex
set_option maxHeartbeats 4000000
namespace Ex
open PySem PySem.Spec PyProof.Rows L2
section
variable {M : Model} {A : Around} {E : Value → Shared → Prop} {s : Shared} {K : PySem.W.Frag} {f : Value}
/-- a call with a dict of keywords: the call's node -/
theorem node {pos : Pos} {keywords : List (Option Str × Sem Value)} {Q : Value → Shared → Prop} (hk : PySem.W.keepIn K f = true) (hs : keywords.any (·.1.isNone) = true)
    (h : wpAny M A (evalArgs f true [] keywords) (fun a s1 => K.In s1.heap ∧ wpAny M A (call f a.pos a.kw) Q E s1) E s) : wpAny M A (callWith pos f [] [] keywords) Q E s := by
  unfold callWith
  refine wpAny_bind (wpAny_holding (wpAny_mono h (fun a s1 h1 => wpAny_bind (wpAny_standAt ?_)) fun _ _ x => x))
  obtain ⟨k, hk', L⟩ := PySem.W.keeps_K (M := M) hk _ h1.1
  simp only [List.any_nil, Bool.false_or, hs]
  refine wpAny_bind (L.here ?_)
  have tail : ∀ {t : Sem Value}, wpAny M A t Q E s1 → wpAny M A (t >>= fun r => holding [r] point >>= fun _ => pure r) Q E s1 :=
    fun ht => wpAny_bind (wpAny_mono ht (fun r s2 hr => wpAny_bind (wpAny_holding (wpAny_point (wpAny_pure hr)))) fun _ _ x => x)
  rcases hk' with rfl | rfl | rfl
  · refine tail ?_
    unfold callMarked
    exact Calls.wpAny_keep h1.2
  · refine tail ?_
    exact wpAny_operate' h1.2
  · refine tail ?_
    exact wpAny_operate' h1.2
end
/-! ### C(**d) -/
section
variable {X : Cx} {CX : CXT} {k n : Nat} {f' C : Addr} {fd : FuncData} {ps ks : List Str} {sp : Sp} {x : Str} {p pos kp : Pos} {e : Expr} {te : TE} {g : List Value → List Value → List Value} {gV : List V → List V → List V}
/-- C(**d), d a dict with the texts ks as keys, in their order -/
def tMakeD (C : Addr) (ks : List Str) (sp : Sp) (gV : List V → List V → List V) (E : XK) (te : TE) : TE := fun σ H Q => te σ H fun y H1 => ∃ (d : Addr) (vs : List V), y = .ref d ∧ vs.length = ks.length ∧ ks.length ≤ sizeLine ∧ H1 d = some (.dK ((ks.zip vs).map fun q => ((Sum.inr q.1 : Key), q.2))) ∧
  ∀ a dx, H1 a = none → H1 dx = none → dx ≠ a → sp (gV [.ref a] vs) (upd (upd H1 dx (.own a)) a (.ins C dx [])) (fun v H2 => v = .non ∧ Q (.ref a) H2) E
theorem kv_zip : ∀ {ks : List Str} {vs : List V} {kvs : List (Key × Value)}, vs.length = ks.length → KV ((ks.zip vs).map fun q => ((Sum.inr q.1 : Key), q.2)) kvs → ∃ ws, Vals vs ws ∧ kvs = (ks.zip ws).map fun q => ((Sum.inr q.1 : Key), q.2)
  | [], [], _, _, .nil => ⟨[], .nil, rfl⟩
  | [], _ :: _, _, h, _ => nomatch h
  | _ :: _, [], _, h, _ => nomatch h
  | a :: ks, v :: vs, _, h, .cons (b := q) r t => by
    obtain ⟨ws, rw1, e⟩ := kv_zip (Nat.succ.inj h) t
    obtain ⟨q1, q2⟩ := q
    obtain ⟨r1, r2⟩ := r
    dsimp only at r1 r2
    subst r1
    exact ⟨q2 :: ws, .cons r2 rw1, by rw [e]; rfl⟩
theorem pe_makeD {E : XK} (M : Mk X.K C f') (F : FnOk X.prog X.w X.K X.mg X.base CX k f' fd ps sp) (hr : Room (k + 1) X.A) (hg : Gl X x) (hm : X.mg x = some (.ref C)) (hb : KBn X.K fd ps 1 ks g gV) (hx : Passes CX X E) (he : PE X e te) (hdb : (x == ("__debug__" : Str)) = false := by decide) :
    PE X (.Call (.Name x p) [] [⟨none, e, kp⟩] pos) (tMakeD C ks sp gV E te) := by
  refine ⟨fun pins s σ H Q I h => ?_⟩
  refine wpAny_Call_Name_kw (ld_glob I hg hm ?_ hdb)
  show wpAny _ _ (callWith pos (.ref C) [] [] [(none, do let v ← eval e X.env; standAt pos; pure v)]) _ _ s
  refine node (K := X.K) M.kp rfl (starKw ?_)
  have fp : FpOk X pins H s.heap.objs.size := I.fpOk (Nat.le_refl _) (I.hok.fresh (Nat.le_refl _))
  have I0 : Inv X pins σ H { s with heap := s.heap.push { cls := .type "dict", data := .dict #[] } } := I.kept (t' := s.toks) fun b o e => Heap.get?_push_of_some _ e
  have I1 := I0.pinned (fp := [s.heap.objs.size]) (fun b hb => by rw [List.mem_singleton.mp hb]; exact fp) (fun b hb => by rw [List.mem_singleton.mp hb]; exact ⟨_, Heap.get?_push_size _ rfl, fun v z => by cases z⟩)
  refine wpAny_bind (thn (he.run _ _ σ H _ I1 h) fun u s1 ⟨y, H1, J, ry, d, vs, ey, l1, l2, ed, q⟩ => wpAny_bind (wpAny_standAt (wpAny_pure ?_)))
  subst ey
  obtain rfl : u = Value.ref d := ry
  obtain ⟨hz, hS, kvs, rel, dd⟩ := J.hok d _ ed
  obtain ⟨ws, rz, ekv⟩ := kv_zip l1 rel
  have hp := J.pin (s.heap.objs.size, _) (List.mem_append_right _ (List.mem_append_right _ (mem_pinsAt (List.mem_singleton.mpr rfl) (Heap.get?_push_size _ rfl))))
  have hne : d ≠ s.heap.objs.size := ne_of_none ed hp.2.1
  refine ⟨d, ks.zip ws, rfl, hS, hne, hp.1, ?_, by rw [← ekv]; exact dd, fun h' hk => ?_⟩
  · rw [List.length_zip]; exact Nat.le_trans (Nat.min_le_left _ _) l2
  · have J2 : Inv X pins σ H1 { s1 with heap := h' } := J.unpinned.turned (t' := s1.toks) (it := s.heap.objs.size) (fun b o hb e => hk b o e hb) hp.2.1 fp.2.1 fp.2.2.2.1 fp.2.2.2.2.1 fp.2.2.2.2.2
    refine ⟨J2.kIn, ?_⟩
    exact run_makeN (n := 0) (us := []) (vs := []) M F hr hb hx J2 .nil rz rfl l1 q
end
end Ex
set_option maxHeartbeats 4000000
/-! C(**d), the table as it is -/
namespace Ex
open PySem PySem.Spec PyProof.Rows L2
section
variable {X : Cx} {k n : Nat} {f' C : Addr} {fd : FuncData} {ps ks : List Str} {sp : Sp} {x : Str} {p pos kp : Pos} {e : Expr} {te : TE} {g : List Value → List Value → List Value} {gV : List V → List V → List V}
theorem run_makeG {pins : List (Addr × Obj)} {σ : L2.St} {H : Hp} {s : Shared} {Q : VK} {us ws : List Value} {vs zs : List V} (M : Mk X.K C f') (F : FnG X.prog X.w X.K X.mg X.base k f' fd ps sp) (hr : Room (k + 1) X.A) (hb : KBn X.K fd ps (n + 1) ks g gV)
    (I : Inv X pins σ H s) (r : Vals vs us) (rz : Vals zs ws) (l1 : vs.length = n) (l2 : zs.length = ks.length)
    (h : ∀ x dx, H x = none → H dx = none → dx ≠ x → sp (gV (.ref x :: vs) zs) (upd (upd H dx (.own x)) x (.ins C dx [])) (fun v H2 => v = .non ∧ Q (.ref x) H2) E0) :
    wpAny (model X.prog X.w) X.A (call (.ref C) us (ks.zip ws)) (fun u s' => s'.gens = s.gens ∧ EP X pins σ Q u s') X.xe s := by
  have hq := h (s.heap.objs.size + 1) s.heap.objs.size (I.hok.fresh (Nat.le_succ _)) (I.hok.fresh (Nat.le_refl _)) (Nat.ne_of_lt (Nat.lt_succ_self _))
  have I2 := Inv.made (C := C) I
  have r1 : Vals (V.ref (s.heap.objs.size + 1) :: vs) (Value.ref (s.heap.objs.size + 1) :: us) := .cons rfl r
  have e1 : (Value.ref (s.heap.objs.size + 1) :: us).length = n + 1 := r1.length.symm.trans (congrArg Nat.succ l1)
  have e2 : ws.length = ks.length := rz.length.symm.trans l2
  refine wpAny_call (make_map (f := f') I.kIn M.makes M.init (beq_iff_eq.mp M.fn) (codeAny_mono (F.go _ X.stack _ _ ⟨Value.ref (s.heap.objs.size + 1) :: us, ks.zip ws⟩ (g (Value.ref (s.heap.objs.size + 1) :: us) ws) _ _ E0 (hr.make C us (ks.zip ws))
    (I2.env0.make C us (ks.zip ws)) (hb.to _ (Value.ref (s.heap.objs.size + 1) :: us) ws I2.kIn e1 e2) (hb.rel r1 rz) hq) fun r s' hq' => ?_))
  obtain ⟨u, rfl, g1, hce⟩ := hq'
  obtain ⟨v, H', I3, rv, ev, q3⟩ := I2.after hce
  subst ev
  exact ⟨rv, g1, ⟨V.ref (s.heap.objs.size + 1), H', I3, rfl, q3⟩⟩
theorem makeD (M : Mk X.K C f') (F : FnG X.prog X.w X.K X.mg X.base k f' fd ps sp) (hr : Room (k + 1) X.A) (hg : Gl X x) (hm : X.mg x = some (.ref C)) (hb : KBn X.K fd ps 1 ks g gV) (he : PEg X e te) (hdb : (x == ("__debug__" : Str)) = false := by decide) :
    PEg X (.Call (.Name x p) [] [⟨none, e, kp⟩] pos) (tMakeD C ks sp gV E0 te) := by
  refine ⟨fun pins s σ H Q I h => ?_⟩
  refine wpAny_Call_Name_kw (ld_glob I hg hm ?_ hdb)
  show wpAny _ _ (callWith pos (.ref C) [] [] [(none, do let v ← eval e X.env; standAt pos; pure v)]) _ _ s
  refine node (K := X.K) M.kp rfl (starKw ?_)
  have fp : FpOk X pins H s.heap.objs.size := I.fpOk (Nat.le_refl _) (I.hok.fresh (Nat.le_refl _))
  have I0 : Inv X pins σ H { s with heap := s.heap.push { cls := .type "dict", data := .dict #[] } } := I.kept (t' := s.toks) fun b o e => Heap.get?_push_of_some _ e
  have I1 := I0.pinned (fp := [s.heap.objs.size]) (fun b hb => by rw [List.mem_singleton.mp hb]; exact fp) (fun b hb => by rw [List.mem_singleton.mp hb]; exact ⟨_, Heap.get?_push_size _ rfl, fun v z => by cases z⟩)
  refine wpAny_bind (thn (he.go _ _ σ H _ I1 h) fun u s1 ⟨g1, y, H1, J, ry, d, vs, ey, l1, l2, ed, q⟩ => wpAny_bind (wpAny_standAt (wpAny_pure ?_)))
  subst ey
  obtain rfl : u = Value.ref d := ry
  obtain ⟨hz, hS, kvs, rel, dd⟩ := J.hok d _ ed
  obtain ⟨ws, rz, ekv⟩ := kv_zip l1 rel
  have hp := J.pin (s.heap.objs.size, _) (List.mem_append_right _ (List.mem_append_right _ (mem_pinsAt (List.mem_singleton.mpr rfl) (Heap.get?_push_size _ rfl))))
  have hne : d ≠ s.heap.objs.size := ne_of_none ed hp.2.1
  refine ⟨d, ks.zip ws, rfl, hS, hne, hp.1, ?_, by rw [← ekv]; exact dd, fun h' hk => ?_⟩
  · rw [List.length_zip]; exact Nat.le_trans (Nat.min_le_left _ _) l2
  · have J2 : Inv X pins σ H1 { s1 with heap := h' } := J.unpinned.turned (t' := s1.toks) (it := s.heap.objs.size) (fun b o hb e => hk b o e hb) hp.2.1 fp.2.1 fp.2.2.2.1 fp.2.2.2.2.1 fp.2.2.2.2.2
    refine ⟨J2.kIn, ?_⟩
    exact thn (run_makeG (n := 0) (us := []) (vs := []) M F hr hb J2 .nil rz rfl l1 q) fun u s2 ⟨g2, q2⟩ => ⟨g2.trans g1, q2⟩
end
end Ex
set_option maxHeartbeats 4000000
namespace Ex
open PySem PySem.Spec PyProof.Rows L2
section
variable {P : Program} {w : World} {K : PySem.W.Frag} {mg : Str → Option Value} {base : Heap}
/-- a def by its body -/
theorem okG {x qual : Str} {st : Stmt} {f : Addr} {fd : FuncData} {N ps : List Str} {k : Nat} {sp : Sp} (F : Fun K x qual st f fd) (S : FnScope N ps (defScope st)) (len : ∀ vs H Q E, sp vs H Q E → vs.length = ps.length)
    (hbody : ∀ (cdv : Value) (A : Around) (outer : List Env) (s : Shared) (H : Hp) (vs : List V) (Q : VK) (E : XK), Room k (A.deeper (envOfC qual (defScope st) s.heap.objs.size f cdv)) → sp vs H Q E →
      ∃ t, PBg (cxOf CX0 P w K mg base N qual (defScope st) f cdv A outer s H E) (defBody st) t ∧ t { nx := fun _ H' => Q .non H', rt := Q } (start N vs) H) : FnG P w K mg base (k + 1) f fd ps sp := by
  obtain ⟨oc, od, kV, doc, pm, an, cdv, ct, osl, rfl, lk, hcd⟩ := F.ex
  exact fnG_of lk hcd S len fun A outer s H vs Q E hr h => hbody cdv A outer s H vs Q E hr h
theorem okGD {x qual : Str} {params : Arguments} {body : List Stmt} {scope : Scope} {dvs : List V} {kws : List (Str × V)} {f : Addr} {fd : FuncData} {N ps : List Str} {k : Nat} {sp : Sp} (F : FunD K x qual params body scope dvs kws f fd) (S : FnScope N ps scope) (len : ∀ vs H Q E, sp vs H Q E → vs.length = ps.length)
    (hbody : ∀ (cdv : Value) (A : Around) (outer : List Env) (s : Shared) (H : Hp) (vs : List V) (Q : VK) (E : XK), Room k (A.deeper (envOfC qual scope s.heap.objs.size f cdv)) → sp vs H Q E →
      ∃ t, PBg (cxOf CX0 P w K mg base N qual scope f cdv A outer s H E) body t ∧ t { nx := fun _ H' => Q .non H', rt := Q } (start N vs) H) : FnG P w K mg base (k + 1) f fd ps sp := by
  obtain ⟨oc, od, dV, kV, doc, pm, an, cdv, ct, osl, rfl, lk, hcd, _, _⟩ := F.ex
  exact fnG_of lk hcd S len fun A outer s H vs Q E hr h => hbody cdv A outer s H vs Q E hr h
end
end Ex
set_option maxHeartbeats 4000000
/-! a generator woken by next, in a for loop and in zip -/
namespace Gn
open PySem PySem.Spec PyProof.Rows L2 GenW
section
variable {P : Program} {w : World} {A : Around} {E : Value → Shared → Prop} {s : Shared}
abbrev EndR (F : Nat → Shared → Shared → Prop) : GenEnd := fun n s₀ r s₁ => ((r = .ok (.ret .none) ∨ r = .ok .next) ∧ F n s₀ s₁) ∨ ∃ e, r = .error e ∧ (fun (_ : Value) (_ : Shared) => False) e s₁
theorem wake_gen {a : Addr} {g n : Nat} {gs : GenState} {F : Nat → Shared → Shared → Prop} {Y : Protocol} {Q : PySem.Fin → Shared → Prop} (hh : A.handled = none)
    (hl : s.heap.NoLimit) (hroom : A.depth < recursionLimit) (hg : s.heap.IsGen a g) (hgs : s.gens[g]? = some gs)
    (hgo : gs.Goes (model P w) A (EndR F) Y n (.send .none) (s.setGen g .running))
    (hY : ∀ v s₁ gs', gs'.bare = true → Y (n - 1) (s.setGen g .running) v s₁ (fun r' s'' => match n with
        | 0 => False
        | m + 1 => gs'.Goes (model P w) A (EndR F) Y m r' s'') → Q (.done (.ret v)) (s₁.setGen g gs'))
    (hP : ∀ s₁, F n (s.setGen g .running) s₁ → ∀ h' e, (∀ b o, s₁.heap.get? b = some o → h'.get? b = some o) → (∃ o, h'.get? e = some o ∧ o.cls = .type "StopIteration") → E (.ref e) { s₁.setGen g .finished with heap := h' }) :
    wpAny (model P w) A (Builtin.Generator.genWake (.ref a) (.send .none)) Q E s := by
  unfold Builtin.Generator.genWake
  refine wpAny_bind (wpAny_holding (wpAny_genNumber hg (wpAny_bind (wpAny_genState hgs ?_))))
  cases gs with
  | running => exact hgo.elim
  | finished => exact hgo.elim
  | _ =>
    refine wpAny_bind (wpAny_roomToWake hl hroom ?_)
    show wpAny _ A (.resume g (.send .none) [] _) _ _ s
    refine wpAny_resumeQ hgs hgo (fun x s₁ hx => ?_) (fun v s₁ gs' hb hv => ?_)
    · rcases hx with ⟨hr, hp⟩ | ⟨e, rfl, he⟩
      · have hres : End.result (.ret x) = .returned .none := by
          rcases hr with hr | hr <;> rw [hr] <;> rfl
        first | rw [hres] | simp only [hres]
        show wpAny _ A (newExc (.type "StopIteration") [] >>= _) _ _ _
        refine wpAny_bind ?_
        simp only [newExc, newTuple]
        refine wpAny_bind (wpAny_newObj_type ?_ (by size_fits))
        refine wpAny_bind (m := firstArgMember _ _) (wpAny_of_eq (a := Value.none) (by first | rfl | (simp only [firstArgMember]; rfl)) ?_)
        refine wpAny_newObj_type ?_ (by size_fits)
        simp only [raiseNew]
        refine wpAny_bind (wpAny_bind (wpAny_handled ?_))
        rw [hh]
        refine wpAny_throw ?_
        exact hP s₁ hp _ _ (fun b o hb => Heap.get?_push_of_some _ (Heap.get?_push_of_some _ hb)) ⟨_, Heap.get?_push_size _ rfl, rfl⟩
      · exact he.elim
    · exact wpAny_pure (hY v s₁ gs' hb hv)
/-- next in a for loop -/
theorem next_of_wake {a : Addr} {g : Nat} {Q : Option Value → Shared → Prop} (hg : s.heap.IsGen a g)
    (h : wpAny (model P w) A.in1 (Builtin.Generator.genWake (.ref a) (.send .none)) (fun fin s' => ∃ v, fin = .done (.ret v) ∧ Q (some v) s') (fun e s' => ∃ a, e = .ref a ∧ (∃ o, s'.heap.get? a = some o ∧ o.cls = .type "StopIteration") ∧ Q none s') s) :
    wpAny (model P w) A (pyNext (.ref a)) Q E s := by
  unfold pyNext
  refine wpAny_bind (wpAny_attempt (wpAny_callSpecial?_slot (name := Str.ofString "__next__") hg.typeIs slot_gen_next
    (wpAny_call_entry slot_gen_next hg.typeIs entry_gen_next (wpAny_mono h (fun fin s' hq => ?_) fun e s' hq => ?_) (args_gen_next _))))
  · obtain ⟨v, rfl, q⟩ := hq
    exact ⟨v, rfl, wpAny_pure q⟩
  · obtain ⟨a', rfl, ⟨o, ho, hc⟩, q⟩ := hq
    refine wpAny_bind (wpAny_isInstance (T := "StopIteration") (b := true) ⟨o, ho, hc⟩ isSubtype_stop ?_)
    exact wpAny_pure q
/-- next in zip -/
theorem nextOf_of_wake {a : Addr} {g : Nat} {Q : Value → Shared → Prop} (hg : s.heap.IsGen a g)
    (h : wpAny (model P w) A.in1 (Builtin.Generator.genWake (.ref a) (.send .none)) (fun fin s' => ∃ v, fin = .done (.ret v) ∧ Q v s') E s) :
    wpAny (model P w) A (Builtin.SmallTypes.nextOf (.ref a)) Q E s := by
  unfold Builtin.SmallTypes.nextOf
  refine wpAny_bind (wpAny_callSpecial?_slot (name := Str.ofString "__next__") hg.typeIs slot_gen_next
    (wpAny_call_entry slot_gen_next hg.typeIs entry_gen_next (wpAny_mono h (fun fin s' hq => ?_) fun e s' hq => hq) (args_gen_next _)))
  obtain ⟨v, rfl, q⟩ := hq
  exact ⟨v, rfl, wpAny_pure q⟩
end
end Gn
set_option maxHeartbeats 1000000
/-! zip of two generators, at the library's level -/
namespace Gn
open PySem
open PySem.Sem (wp)
section
variable {prog : Program} {w : World} {A : Around} {E : Value → Shared → Prop} {s : Shared}
theorem zipG_next_item {z TI TO a1 a2 : Addr} {a b : Value} {Q : Value → Shared → Prop} (nTIz : TI ≠ z) (nTOz : TO ≠ z)
    (hz : IsZip s.heap z TI TO .none) (hTI : IsPair s.heap TI (.ref a1) (.ref a2)) (hTO : IsPair s.heap TO a b)
    (h1 : ∀ h₁, IsZip h₁ z TI TO .ellipsis → Heap.SameBut z s.heap h₁ → wpAny (model prog w) A (Builtin.SmallTypes.nextOf (.ref a1)) (fun x s₂ => IsPair s₂.heap TO a b ∧ ∀ h₃, IsPair h₃ TO x b → Heap.SameBut TO s₂.heap h₃ →
      wpAny (model prog w) A (Builtin.SmallTypes.nextOf (.ref a2)) (fun y s₄ => IsPair s₄.heap TO x b ∧ IsZip s₄.heap z TI TO .ellipsis ∧ ∀ h₈, IsZip h₈ z TI TO (rawInt s₄.heap.objs.size) → IsPair h₈ TO x y → IsPair h₈ s₄.heap.objs.size x y → h₈.objs.size = s₄.heap.objs.size + 1 →
        (∀ c o, c ≠ z → c ≠ TO → s₄.heap.get? c = some o → h₈.get? c = some o) → Q (.ref s₄.heap.objs.size) { s₄ with heap := h₈ }) (fun _ _ => False) { s₂ with heap := h₃ }) (fun _ _ => False) { s with heap := h₁ }) :
    wpAny (model prog w) A (Builtin.«zip.__next__» ⟨[.ref z], []⟩) (fun fin s' => ∃ v, fin = .done (.ret v) ∧ Q v s') E s := by
  show wpAny _ _ (field (.ref z) 2 >>= _) _ _ _
  refine wpAny_bind (wpAny_field hz rfl (x := .bool false) rfl ?_)
  show wpAny _ _ (field (.ref z) 3 >>= _) _ _ _
  refine wpAny_bind (wpAny_field hz rfl (x := .ref TI) rfl ?_)
  refine wpAny_bind (wpAny_seqItems hTI rfl ?_)
  show wpAny _ _ (Builtin.SmallTypes.ownedTupleIsFree (.ref z) >>= _) _ _ _
  refine wpAny_bind ?_
  unfold Builtin.SmallTypes.ownedTupleIsFree
  refine wpAny_bind (wpAny_field hz rfl (x := .none) rfl (wpAny_pure ?_))
  simp only [if_true]
  refine wpAny_bind (wpAny_rule ?_)
  refine wpAny_bind (wpAny_field hz rfl (x := .ref TO) rfl ?_)
  refine wpAny_bind (wpAny_setField_rec hz (by simp) fun h₁ hz₁ hs₁ => ?_)
  replace hz₁ : IsZip h₁ z TI TO .ellipsis := hz₁
  refine wpAny_bind ?_
  simp only [List.zipIdx_cons, List.zipIdx_nil, List.forIn_cons, List.forIn_nil]
  refine wpAny_bind (wpAny_bind (wpAny_onRaise ?_))
  show wpAny _ _ (Builtin.SmallTypes.nextOf (.ref a1) >>= _) _ _ _
  refine wpAny_bind (wpAny_mono (h1 h₁ hz₁ hs₁) (fun x s₂ h2 => wpAny_pure ?_) fun _ _ z => z.elim)
  obtain ⟨hTO₂, h2⟩ := h2
  refine wpAny_bind (wpAny_seqItems hTO₂ rfl ?_)
  refine wpAny_bind (wpAny_updateSeq_pair hTO₂ fun h₃ hTO₃ hs₃ => ?_)
  replace hTO₃ : IsPair h₃ TO x b := hTO₃
  refine wpAny_bind (wpAny_letGo (wpAny_pure ?_))
  refine wpAny_bind (wpAny_bind (wpAny_onRaise ?_))
  show wpAny _ _ (Builtin.SmallTypes.nextOf (.ref a2) >>= _) _ _ _
  refine wpAny_bind (wpAny_mono (h2 h₃ hTO₃ hs₃) (fun y s₄ h4 => wpAny_pure ?_) fun _ _ z => z.elim)
  obtain ⟨hTO₄, hz₄, h4⟩ := h4
  refine wpAny_bind (wpAny_seqItems hTO₄ rfl ?_)
  refine wpAny_bind (wpAny_updateSeq_pair hTO₄ fun h₅ hTO₅ hs₅ => ?_)
  replace hTO₅ : IsPair h₅ TO x y := hTO₅
  refine wpAny_bind (wpAny_letGo (wpAny_pure (wpAny_pure ?_)))
  refine wpAny_bind (wpAny_seqItems hTO₅ rfl ?_)
  refine wpAny_bind (wpAny_newTuple ?_)
  have hsz : h₅.objs.size = s₄.heap.objs.size := by rw [hs₅.1]
  have hz₅ : IsZip h₅ z TI TO .ellipsis := hs₅.extBut _ _ nTOz.symm hz₄
  have hzlt : z < h₅.objs.size := Heap.lt_size hz₅
  show wpAny _ _ (Builtin.SmallTypes.ownedTupleHandOut (.ref z) (.ref h₅.objs.size) >>= _) _ _ _
  refine wpAny_bind ?_
  unfold Builtin.SmallTypes.ownedTupleHandOut
  have hz₆ : IsZip (h₅.push { cls := .type "tuple", data := .seq #[x, y] }) z TI TO .ellipsis := Heap.get?_push_of_some _ hz₅
  refine wpAny_bind (wpAny_setField_rec hz₆ (by simp) fun h₇ hz₇ hs₇ => ?_)
  replace hz₇ : IsZip h₇ z TI TO (rawInt h₅.objs.size) := hz₇
  refine wpAny_setField_rec hz₇ (by simp) fun h₈ hz₈ hs₈ => ?_
  replace hz₈ : IsZip h₈ z TI TO (rawInt h₅.objs.size) := hz₈
  have up : ∀ c o, c ≠ z → h₅.get? c = some o → h₈.get? c = some o := fun c o c1 e => hs₈.extBut _ _ c1 (hs₇.extBut _ _ c1 (Heap.get?_push_of_some _ e))
  have hT₈ : IsPair h₈ h₅.objs.size x y := hs₈.extBut _ _ (Nat.ne_of_gt hzlt) (hs₇.extBut _ _ (Nat.ne_of_gt hzlt) (Heap.get?_push_size _ rfl))
  have hz8 : h₈.objs.size = h₅.objs.size + 1 := by rw [hs₈.1, hs₇.1, Heap.size_push]
  rw [hsz] at hz₈ hT₈ hz8
  refine wpAny_pure ⟨_, rfl, ?_⟩
  show Q (.ref h₅.objs.size) _
  rw [hsz]
  exact h4 h₈ hz₈ (up _ _ nTOz hTO₅) hT₈ hz8 fun c o c1 c2 e => up c o c1 (hs₅.extBut _ _ c2 e)
theorem zipG_next_end {z TI TO a1 a2 : Addr} {a b : Value} {Q : PySem.Fin → Shared → Prop}
    (hz : IsZip s.heap z TI TO .none) (hTI : IsPair s.heap TI (.ref a1) (.ref a2)) (hTO : IsPair s.heap TO a b)
    (h1 : ∀ h₁, IsZip h₁ z TI TO .ellipsis → Heap.SameBut z s.heap h₁ → wpAny (model prog w) A (Builtin.SmallTypes.nextOf (.ref a1)) (fun _ _ => False)
      (fun e s₂ => IsZip s₂.heap z TI TO .ellipsis ∧ ∀ h₃, Heap.SameBut z s₂.heap h₃ → E e { s₂ with heap := h₃ }) { s with heap := h₁ }) :
    wpAny (model prog w) A (Builtin.«zip.__next__» ⟨[.ref z], []⟩) Q E s := by
  show wpAny _ _ (field (.ref z) 2 >>= _) _ _ _
  refine wpAny_bind (wpAny_field hz rfl (x := .bool false) rfl ?_)
  show wpAny _ _ (field (.ref z) 3 >>= _) _ _ _
  refine wpAny_bind (wpAny_field hz rfl (x := .ref TI) rfl ?_)
  refine wpAny_bind (wpAny_seqItems hTI rfl ?_)
  show wpAny _ _ (Builtin.SmallTypes.ownedTupleIsFree (.ref z) >>= _) _ _ _
  refine wpAny_bind ?_
  unfold Builtin.SmallTypes.ownedTupleIsFree
  refine wpAny_bind (wpAny_field hz rfl (x := .none) rfl (wpAny_pure ?_))
  simp only [if_true]
  refine wpAny_bind (wpAny_rule ?_)
  refine wpAny_bind (wpAny_field hz rfl (x := .ref TO) rfl ?_)
  refine wpAny_bind (wpAny_setField_rec hz (by simp) fun h₁ hz₁ hs₁ => ?_)
  replace hz₁ : IsZip h₁ z TI TO .ellipsis := hz₁
  refine wpAny_bind ?_
  simp only [List.zipIdx_cons, List.zipIdx_nil, List.forIn_cons, List.forIn_nil]
  refine wpAny_bind (wpAny_bind (wpAny_onRaise ?_))
  show wpAny _ _ (Builtin.SmallTypes.nextOf (.ref a1) >>= _) _ _ _
  refine wpAny_bind (wpAny_mono (h1 h₁ hz₁ hs₁) (fun _ _ z => z.elim) fun e s₂ h2 => ?_)
  obtain ⟨hz₂, h2⟩ := h2
  exact wpAny_setField_rec hz₂ (by simp) fun h₃ _ hs₃ => h2 h₃ hs₃
theorem pyNext_zipG_item {z TI TO a1 a2 : Addr} {a b : Value} {Q : Option Value → Shared → Prop} (nTIz : TI ≠ z) (nTOz : TO ≠ z)
    (hz : IsZip s.heap z TI TO .none) (hTI : IsPair s.heap TI (.ref a1) (.ref a2)) (hTO : IsPair s.heap TO a b)
    (h1 : ∀ h₁, IsZip h₁ z TI TO .ellipsis → Heap.SameBut z s.heap h₁ → wpAny (model prog w) A.in1 (Builtin.SmallTypes.nextOf (.ref a1)) (fun x s₂ => IsPair s₂.heap TO a b ∧ ∀ h₃, IsPair h₃ TO x b → Heap.SameBut TO s₂.heap h₃ →
      wpAny (model prog w) A.in1 (Builtin.SmallTypes.nextOf (.ref a2)) (fun y s₄ => IsPair s₄.heap TO x b ∧ IsZip s₄.heap z TI TO .ellipsis ∧ ∀ h₈, IsZip h₈ z TI TO (rawInt s₄.heap.objs.size) → IsPair h₈ TO x y → IsPair h₈ s₄.heap.objs.size x y → h₈.objs.size = s₄.heap.objs.size + 1 →
        (∀ c o, c ≠ z → c ≠ TO → s₄.heap.get? c = some o → h₈.get? c = some o) → Q (some (.ref s₄.heap.objs.size)) { s₄ with heap := h₈ }) (fun _ _ => False) { s₂ with heap := h₃ }) (fun _ _ => False) { s with heap := h₁ }) :
    wpAny (model prog w) A (pyNext (.ref z)) Q E s := by
  have hT : s.TypeIs (.ref z) "zip" := ⟨_, hz, rfl⟩
  unfold pyNext
  exact wpAny_bind (wpAny_attempt (wpAny_callSpecial?_slot (name := Str.ofString "__next__") hT F.slot_zip_next
    (wpAny_call_entry F.slot_zip_next hT F.entry_zip_next
      (zipG_next_item (Q := fun v s' => wpAny (model prog w) A (pure (some v)) Q E s') nTIz nTOz hz hTI hTO fun h₁ a1 a2 => wpAny_mono (h1 h₁ a1 a2) (fun x s₂ ⟨b1, b2⟩ => ⟨b1, fun h₃ c1 c2 => wpAny_mono (b2 h₃ c1 c2) (fun y s₄ ⟨d1, d2, d3⟩ => ⟨d1, d2, fun h₈ e1 e2 e3 e4 e5 => wpAny_pure (d3 h₈ e1 e2 e3 e4 e5)⟩) fun _ _ z => z⟩) fun _ _ z => z) (F.args_zip_next_1 _))))
theorem pyNext_zipG_end {z TI TO a1 a2 : Addr} {a b : Value} {Q : Option Value → Shared → Prop}
    (hz : IsZip s.heap z TI TO .none) (hTI : IsPair s.heap TI (.ref a1) (.ref a2)) (hTO : IsPair s.heap TO a b)
    (h1 : ∀ h₁, IsZip h₁ z TI TO .ellipsis → Heap.SameBut z s.heap h₁ → wpAny (model prog w) A.in1 (Builtin.SmallTypes.nextOf (.ref a1)) (fun _ _ => False)
      (fun e s₂ => IsZip s₂.heap z TI TO .ellipsis ∧ (∃ c, e = .ref c ∧ ∃ o, s₂.heap.get? c = some o ∧ o.cls = .type "StopIteration") ∧ ∀ h₃, Heap.SameBut z s₂.heap h₃ → Q none { s₂ with heap := h₃ }) { s with heap := h₁ }) :
    wpAny (model prog w) A (pyNext (.ref z)) Q E s := by
  have hT : s.TypeIs (.ref z) "zip" := ⟨_, hz, rfl⟩
  unfold pyNext
  refine wpAny_bind (wpAny_attempt (wpAny_callSpecial?_slot (name := Str.ofString "__next__") hT F.slot_zip_next
    (wpAny_call_entry F.slot_zip_next hT F.entry_zip_next (zipG_next_end hz hTI hTO fun h₁ a1 a2 => wpAny_mono (h1 h₁ a1 a2) (fun _ _ z => z) fun e s₂ hb => ⟨hb.1, fun h₃ hs => ?_⟩) (F.args_zip_next_1 _))))
  obtain ⟨b1, ⟨c, rfl, o, ho, hc⟩, b2⟩ := hb
  have hcz : c ≠ z := fun x => by subst x; rw [b1] at ho; cases ho; simp at hc
  refine wpAny_bind (wpAny_isInstance (T := "StopIteration") (b := true) ⟨o, (hs.2 _ hcz).trans ho, hc⟩ isSubtype_stop ?_)
  exact wpAny_pure (b2 h₃ hs)
end
abbrev zG3 (h : Heap) (a1 a2 : Addr) : Heap := h.push { cls := .type "tuple", data := .seq #[.ref a1, .ref a2] }
abbrev zG4 (h : Heap) (a1 a2 : Addr) : Heap := (zG3 h a1 a2).push { cls := .type "tuple", data := .seq #[.none, .none] }
abbrev zG5 (h : Heap) (a1 a2 : Addr) : Heap := (zG4 h a1 a2).push { cls := .type "zip", data := .fields #[.none, .bool false, .bool false, .ref h.objs.size, .ref (zG3 h a1 a2).objs.size] }
theorem meets_zipG_new (a1 a2 : Addr) (g1 g2 : Nat) :
    Meets (Builtin.«zip.__new__» ⟨[.type "zip", .ref a1, .ref a2], []⟩) (fun _ R s => s.heap.IsGen a1 g1 ∧ s.heap.IsGen a2 g2 ∧
      R (.ok (.ret (.ref (zG4 s.heap a1 a2).objs.size))) { s with heap := zG5 s.heap a1 a2 }) :=
  .of_wp fun prog w A R s h => by
    obtain ⟨hp, g, d, tk, os⟩ := s; obtain ⟨hl1, hl2, h⟩ := h
    have hsub := sub_zip
    have hL1 : Heap.IsGen (Shared.heap ⟨hp, g, d, tk, os⟩) a1 g1 := hl1
    have hL2 : Heap.IsGen (Shared.heap ⟨hp, g, d, tk, os⟩) a2 g2 := hl2
    wp_walk using wpAny_pyIter_gen hL1, wpAny_pyIter_gen hL2
    exact ⟨_, rfl, h⟩
section
variable {prog : Program} {w : World} {A : Around} {E : Value → Shared → Prop} {s : Shared}
theorem call_zipG {a1 a2 : Addr} {g1 g2 : Nat} {Q : Value → Shared → Prop} (hl1 : s.heap.IsGen a1 g1) (hl2 : s.heap.IsGen a2 g2)
    (h : ∀ h', IsZip h' (s.heap.objs.size + 2) s.heap.objs.size (s.heap.objs.size + 1) .none → IsPair h' s.heap.objs.size (.ref a1) (.ref a2) →
      IsPair h' (s.heap.objs.size + 1) .none .none → h'.objs.size = s.heap.objs.size + 3 →
      (∀ c o, s.heap.get? c = some o → h'.get? c = some o) → Q (.ref (s.heap.objs.size + 2)) { s with heap := h' }) :
    wpAny (model prog w) A (call (.type "zip") [.ref a1, .ref a2]) Q E s := by
  refine callType_new F.called_zip (by decide) (F.typeCall_zip_2 _ _) (F.newCall_zip_2 _ _) (fun obj => F.args_object_init_3 obj _ _) F.entry_zip_new
    (meets_zipG_new a1 a2 g1 g2) ⟨hl1, hl2, ?_⟩
  have z3 : (zG3 s.heap a1 a2).objs.size = s.heap.objs.size + 1 := Heap.size_push ..
  have z4 : (zG4 s.heap a1 a2).objs.size = s.heap.objs.size + 2 := by rw [Heap.size_push, z3]
  have z5 : (zG5 s.heap a1 a2).objs.size = s.heap.objs.size + 3 := by rw [Heap.size_push, z4]
  have g5 : (zG5 s.heap a1 a2).get? (zG4 s.heap a1 a2).objs.size = some _ := Heap.get?_push_size _ rfl
  have g4 : (zG5 s.heap a1 a2).get? (zG3 s.heap a1 a2).objs.size = some _ := Heap.get?_push_of_some _ (Heap.get?_push_size _ rfl)
  have g3 : (zG5 s.heap a1 a2).get? s.heap.objs.size = some _ := Heap.get?_push_of_some _ (Heap.get?_push_of_some _ (Heap.get?_push_size _ rfl))
  show _ ∧ _
  rw [z3, z4] at g5
  rw [z3] at g4
  rw [z4]
  exact ⟨⟨_, g5, rfl⟩, h _ g5 g3 g4 z5 fun c o x => Heap.get?_push_of_some _ (Heap.get?_push_of_some _ (Heap.get?_push_of_some _ x))⟩
end
end Gn
set_option maxHeartbeats 4000000
/-! in and != over lists of nested values, within one model -/
namespace PySem.SeqAt
open AutoSeq1 (wpAny_loadPart')
open MeetsSeq MeetsSeq2 MeetsSeq3 SeqRoads2
section
variable {prog : Program} {w : World}
theorem contains_loopP (l : Addr) (items : Array Value) (n : Nat) (dd : Option Addr) (sl : Array (Option Value)) (x : Value) (e : Nat → Bool) (k : Nat) :
    ∀ i : Nat, items.size - i = k → MeetsIn prog w (Builtin.«list.__contains__.loop» ⟨[.ref l, x, rawInt i], []⟩)
      (fun A R s => s.heap.get? l = some { cls := .type "list", dict := dd, data := .seq items n, slots := sl } ∧ (∀ j (h : j < items.size), EqP prog w A.in1 s items[j] x (e j)) ∧ R (.ok (.ret (.bool (((List.range items.size).drop i).any e)))) s) := by
  induction k with
  | zero =>
    intro i hk A R s h
    obtain ⟨hp, g, d, tk, os⟩ := s; obtain ⟨hl, he, h⟩ := h
    wp_walk using wpAny_loadPart' hl
    have hi : items[((i : Nat) : Int).toNat]? = none := by simp; omega
    have hd : (List.range items.size).drop i = [] := by simp; omega
    rw [hd] at h
    rw [hi]
    wp_walk
    exact h
  | succ k ih =>
    intro i hk A R s h
    obtain ⟨hp, g, d, tk, os⟩ := s; obtain ⟨hl, he, h⟩ := h
    wp_walk using wpAny_loadPart' hl
    have hlt : i < items.size := by omega
    have hi : items[((i : Nat) : Int).toNat]? = some items[i] := by simp [hlt]
    have hd : (List.range items.size).drop i = i :: (List.range items.size).drop (i + 1) := by simp [List.drop_eq_getElem_cons, hlt]
    rw [hd, List.any_cons] at h
    rw [hi]
    refine wpAny_bind (he i hlt _ _ ?_)
    cases hb : e i with
    | true =>
      rw [hb] at h
      wp_walk
      exact h
    | false =>
      rw [hb] at h
      have hc : ((i : Int) + 1) = ((i + 1 : Nat) : Int) := by push_cast; rfl
      wp_walk
      rw [hc]
      exact ⟨plainId_quiet plain_contains_loop _, codeAny_builtin entry_contains_loop (by
        rw [Around.under_plainId plain_contains_loop _]
        exact ih (i + 1) (by omega) A R _ ⟨hl, he, by simpa using h⟩)⟩
theorem list_containsP (l : Addr) (items : Array Value) (n : Nat) (dd : Option Addr) (sl : Array (Option Value)) (x : Value) (e : Nat → Bool) :
    MeetsIn prog w (Builtin.«list.__contains__» ⟨[.ref l, x], []⟩)
      (fun A R s => s.heap.get? l = some { cls := .type "list", dict := dd, data := .seq items n, slots := sl } ∧ (∀ j (h : j < items.size), EqP prog w A.in1 s items[j] x (e j)) ∧ R (.ok (.ret (.bool ((List.range items.size).any e)))) s) := by
  intro A R s h
  obtain ⟨hp, g, d, tk, os⟩ := s; obtain ⟨hl, he, h⟩ := h
  wp_walk using wpAny_loadPart' hl
  exact ⟨plainId_quiet plain_contains_loop _, codeAny_builtin entry_contains_loop (by
    rw [Around.under_plainId plain_contains_loop _]
    exact contains_loopP l items n dd sl x e _ 0 rfl A R _ ⟨hl, he, by simpa using h⟩)⟩
theorem in_listP {A : Around} {E : Value → Shared → Prop} {s : Shared} {l : Addr} {items : Array Value} {x : Value} {Q : Value → Shared → Prop} (e : Nat → Bool) (hl : s.heap.IsList l items) (he : ∀ j (h : j < items.size), EqP prog w A.in1 s items[j] x (e j))
    (h : Q (.bool ((List.range items.size).any e)) s) : wpAny (model prog w) A (compareOp .In x (.ref l)) Q E s := by
  obtain ⟨⟨cls, dd, data, sl⟩, ho, hc, n, hd⟩ := id hl
  simp only at hc hd
  subst hc hd
  have hT : s.TypeIs (.ref l) "list" := ⟨_, ho, rfl⟩
  show wpAny _ A (do return .bool (← contains (.ref l) x)) Q E s
  refine wpAny_bind (wpAny_contains_slot hT F.slot_list_contains (wpAny_mono (call_meetsIn F.slot_list_contains hT F.entry_list_contains (F.args_list_contains_2 _ _) (list_containsP l items n dd sl x e)
    (Q := fun v s' => ∃ b, v = .bool b ∧ Q (.bool b) s') (E := E) ⟨ho, he, _, rfl, h⟩) (fun v s' hv => ?_) fun _ _ e => e))
  obtain ⟨b, rfl, hq⟩ := hv
  exact wpAny_truthy_bool (wpAny_pure hq)
theorem ne_loopP (l b : Addr) (items items2 : Array Value) (n n2 : Nat) (dd dd2 : Option Addr) (sl sl2 : Array (Option Value)) (hsz : items.size = items2.size) (e : Nat → Bool) (k : Nat) :
    ∀ i : Nat, items.size - i = k → MeetsIn prog w (Builtin.«list.__eq__.loop» ⟨[.ref l, .ref b, rawInt i, rawInt 3], []⟩)
      (fun A R s => s.heap.get? l = some { cls := .type "list", dict := dd, data := .seq items n, slots := sl } ∧ s.heap.get? b = some { cls := .type "list", dict := dd2, data := .seq items2 n2, slots := sl2 } ∧
        (∀ j (h1 : j < items.size) (h2 : j < items2.size), EqP prog w A.in1 s items[j] items2[j] (e j)) ∧
        R (.ok (.ret (.bool (!((List.range items.size).drop i).all e)))) s) := by
  induction k with
  | zero =>
    intro i hk A R s h
    obtain ⟨hp, g, d, tk, os⟩ := s; obtain ⟨hl, hb, he, h⟩ := h
    wp_walk using wpAny_loadPart' hl, wpAny_loadPart' hb
    have hi1 : items[((i : Nat) : Int).toNat]? = none := by simp; omega
    have hi2 : items2[((i : Nat) : Int).toNat]? = none := by simp; omega
    have hd : (List.range items.size).drop i = [] := by simp; omega
    rw [hd] at h
    rw [hi1, hi2]
    wp_walk using wpAny_loadPart' hl, wpAny_loadPart' hb
    show R (.ok (.ret (.bool (items.size != items2.size)))) _
    rw [hsz]
    simpa using h
  | succ k ih =>
    intro i hk A R s h
    obtain ⟨hp, g, d, tk, os⟩ := s; obtain ⟨hl, hb, he, h⟩ := h
    wp_walk using wpAny_loadPart' hl, wpAny_loadPart' hb
    have hlt : i < items.size := by omega
    have hlt2 : i < items2.size := by omega
    have hi1 : items[((i : Nat) : Int).toNat]? = some items[i] := by simp [hlt]
    have hi2 : items2[((i : Nat) : Int).toNat]? = some items2[i] := by simp [hlt2]
    have hd : (List.range items.size).drop i = i :: (List.range items.size).drop (i + 1) := by simp [List.drop_eq_getElem_cons, hlt]
    have hc : ((i : Int) + 1) = ((i + 1 : Nat) : Int) := by push_cast; rfl
    rw [hd, List.all_cons] at h
    rw [hi1, hi2]
    refine wpAny_bind (he i hlt hlt2 _ _ ?_)
    cases hb' : e i with
    | true =>
      rw [hb'] at h
      wp_walk
      rw [hc]
      exact ⟨plainId_quiet plain_eq_loop _, codeAny_builtin entry_eq_loop (by
        rw [Around.under_plainId plain_eq_loop _]
        exact ih (i + 1) (by omega) A R _ ⟨hl, hb, he, by simpa using h⟩)⟩
    | false =>
      rw [hb'] at h
      wp_walk using wpAny_loadPart' hl, wpAny_loadPart' hb
      rw [hi1, hi2]
      wp_walk
      simpa using h
theorem list_neP (l b : Addr) (items items2 : Array Value) (n n2 : Nat) (dd dd2 : Option Addr) (sl sl2 : Array (Option Value)) (hsz : items.size = items2.size) (e : Nat → Bool) :
    MeetsIn prog w (Builtin.«list.__ne__» ⟨[.ref l, .ref b], []⟩)
      (fun A R s => s.heap.get? l = some { cls := .type "list", dict := dd, data := .seq items n, slots := sl } ∧ s.heap.get? b = some { cls := .type "list", dict := dd2, data := .seq items2 n2, slots := sl2 } ∧
        (∀ j (h1 : j < items.size) (h2 : j < items2.size), EqP prog w A.in1 s items[j] items2[j] (e j)) ∧
        R (.ok (.ret (.bool (!(List.range items.size).all e)))) s) := by
  intro A R s h
  obtain ⟨hp, g, d, tk, os⟩ := s; obtain ⟨hl, hb, he, h⟩ := h
  have f3 := AutoSeq1.sub_list_list
  have hne : ¬ (items.size != items2.size) = true := by simp [hsz]
  wp_walk using wpAny_loadPart' hl, wpAny_loadPart' hb
  exact ⟨plainId_quiet plain_eq_loop _, codeAny_builtin entry_eq_loop (by
    rw [Around.under_plainId plain_eq_loop _]
    exact ne_loopP l b items items2 n n2 dd dd2 sl sl2 hsz e _ 0 rfl A R _ ⟨hl, hb, he, by simpa using h⟩)⟩
theorem neP_lists {A : Around} {s : Shared} {l b : Addr} {items items2 : Array Value} {e : Nat → Bool} (hl : s.heap.IsList l items) (hb : s.heap.IsList b items2) (hsz : items.size = items2.size) (hu : A.units < cLine)
    (he : ∀ j (h1 : j < items.size) (h2 : j < items2.size), EqP prog w A.in1 s items[j] items2[j] (e j)) (E Q : Value → Shared → Prop) (h : Q (.bool (!(List.range items.size).all e)) s) : wpAny (model prog w) A (compareOp .NotEq (.ref l) (.ref b)) Q E s := by
  obtain ⟨⟨cls, dd, data, sl⟩, ho, hc, n, hd⟩ := id hl
  obtain ⟨⟨cls2, dd2, data2, sl2⟩, ho2, hc2, n2, hd2⟩ := id hb
  simp only at hc hd hc2 hd2
  subst hc hd hc2 hd2
  have ta : s.TypeIs (.ref l) "list" := ⟨_, ho, rfl⟩
  have tb : s.TypeIs (.ref b) "list" := ⟨_, ho2, rfl⟩
  exact wpAny_richCompare_same_room (op := .NotEq) ta tb F.slot_list_ne (call_meetsIn F.slot_list_ne ta F.entry_list_ne (F.args_list_ne_2 _ _) (list_neP l b items items2 n n2 dd dd2 sl sl2 hsz e)
    ⟨ho, ho2, he, show Value.bool (!(List.range items.size).all e) ≠ Value.notImplemented ∧ Q (.bool (!(List.range items.size).all e)) s from ⟨(fun x => nomatch x), h⟩⟩) hu
end
end PySem.SeqAt
set_option maxHeartbeats 4000000
namespace Sm
open PySem PySem.Spec PyProof.Rows L2
theorem beqD {α : Type} [BEq α] [LawfulBEq α] [DecidableEq α] (a b : α) : (a == b) = decide (a = b) := by
  rw [Bool.eq_iff_iff, beq_iff_eq, decide_eq_true_eq]
theorem eqP_str {P : Program} {w : World} {A : Around} {s : Shared} {c d : Str} {v u : Value} (r1 : RelV (.str c) v) (r2 : RelV (.str d) u) : SeqAt.EqP P w A s v u (decide (c = d)) := by
  have h := mem_eqAt (A := A) (s := s) (x := .str d) (v := u) r2 rfl (xs := [.str c]) (us := [v]) (.cons r1 .nil) rfl v (List.mem_singleton.mpr rfl)
  rw [eqU_of r1 rfl] at h
  have e : eqV (.str c) (.str d) = decide (c = d) := by
    show (c == d) = _
    exact beqD c d
  rw [e] at h
  exact h.eqP
/-- two dicts of texts over the same keys -/
structure DkEq (H : Hp) (p a : Addr) (b : Bool) : Prop where
  of : (p = a ∧ b = true) ∨ (p ≠ a ∧ ∃ ks ls, H p = some (.dK ks) ∧ H a = some (.dK ls) ∧ ks.length = ls.length ∧ (∀ q ∈ ks, ∃ c d : Str, q.2 = .str c ∧ valV ls q.1 = some (.str d)) ∧ b = ks.all fun q => decide (valV ls q.1 = some q.2))
section
variable {X : Cx} {pins : List (Addr × Obj)} {σ : L2.St} {H : Hp} {s : Shared}
theorem hits_str {P : Program} {w : World} {A : Around} {s : Shared} {ls : List (Key × V)} {vb : List (Key × Value)} (rb : KV ls vb) {ks : List (Key × V)} {va : List (Key × Value)}
    (ra : KV ks va) : (∀ q ∈ ks, ∃ c d : Str, q.2 = .str c ∧ valV ls q.1 = some (.str d)) → PySem.W.KeqHitsP P w A s vb va (ks.all fun q => decide (valV ls q.1 = some q.2)) := by
  unfold KV at ra
  induction ra with
  | nil => intro _; exact .nil
  | @cons p q ps qs h t k =>
    intro hp
    obtain ⟨h1, h2⟩ := h
    obtain ⟨c, d, e1, e2⟩ := hp p List.mem_cons_self
    have rr : RelO (some (V.str d)) (valueAt vb p.1) := by rw [← e2]; exact rb.val p.1
    obtain ⟨y, hy, ry⟩ := rr.some_of
    obtain ⟨key, v⟩ := q
    have h1' : p.1 = key := h1
    rw [h1'] at hy
    rw [List.all_cons]
    have e3 : decide (valV ls p.1 = some p.2) = decide (c = d) := by
      rw [e2, e1]
      exact decide_eq_decide.mpr ⟨fun z => by cases z; rfl, fun z => by rw [z]⟩
    rw [e3]
    exact .hit hy (eqP_str (by rw [← e1]; exact h2) ry) (k fun p' hm => hp p' (List.mem_cons_of_mem _ hm))
theorem dk_eqP (I : Inv X pins σ H s) {A : Around} (hu : A.units < cLine) {p a : Addr} {b : Bool} (h : DkEq H p a b) : SeqAt.EqP X.prog X.w A s (.ref p) (.ref a) b := by
  rcases h.of with ⟨rfl, rfl⟩ | ⟨ne, ks, ls, ep, ea, hl, hv, rfl⟩
  · exact (SeqAt.EqAt.same _).eqP
  · obtain ⟨_, ya, va, ra, da⟩ := (show ObjOk X.prog X.w H s.heap p (.dK ks) from I.hok p _ ep)
    obtain ⟨_, yb, vb, rb, db⟩ := (show ObjOk X.prog X.w H s.heap a (.dK ls) from I.hok a _ ea)
    refine SeqAt.eqP_refs ne fun E Q q => ?_
    refine PySem.W.rcP_dicts (knd := mixKind X.prog X.w) ya yb da db hu (fun _ => hits_str rb ra hv) E Q ?_
    have e : va.length = vb.length := by rw [← ra.length, ← rb.length]; exact hl
    rw [show (va.length == vb.length) = true from by rw [e]; simp, Bool.true_and]
    exact q
end
section
variable {X : Cx}
/-- a dict of texts in a list of such -/
def rInDk (K : PySem.W.Frag) : R2 := fun x y H Q => ∃ (a l : Addr) (ps : List Addr) (e : Nat → Bool), x = .ref a ∧ y = .ref l ∧ SqL K H l (ps.map V.ref) ∧ (∀ (j : Nat) (p : Addr), ps[j]? = some p → DkEq H p a (e j)) ∧ Q (.bl ((List.range ps.length).any e)) H
theorem refs_get {ps : List Addr} {its : List Value} (r : Vals (ps.map V.ref) its) {j : Nat} (h : j < its.length) : ∃ p, ps[j]? = some p ∧ its[j] = .ref p := by
  have hl := r.length
  rw [List.length_map] at hl
  have hj : j < ps.length := by omega
  obtain ⟨u, hu, ru⟩ := r.get (i := j) (x := .ref ps[j]) (by rw [List.getElem?_map, List.getElem?_eq_getElem hj]; rfl)
  rw [List.getElem?_eq_getElem h] at hu
  cases hu
  exact ⟨ps[j], List.getElem?_eq_getElem hj, ru⟩
theorem op_inDk (hu : X.A.units + 1 < cLine) : OpR X (compareOp .In) (rInDk X.K) := by
  intro pins s σ H x y v u Q I rx ry h
  obtain ⟨a, l, ps, e, rfl, rfl, hq, he, q⟩ := h
  cases (show v = Value.ref a from rx)
  cases (show u = Value.ref l from ry)
  obtain ⟨its, r, pl, hz⟩ := I.list hq
  have hl := r.length
  rw [List.length_map] at hl
  refine SeqAt.in_listP e pl.isList (fun j hj => ?_) ?_
  · obtain ⟨p, hp, ep⟩ := refs_get r (j := j) (by simpa using hj)
    have := dk_eqP I (A := X.A.in1) (by show X.A.units + 1 < cLine; omega) (he j p hp)
    rw [← ep] at this
    simpa using this
  · rw [List.size_toArray, ← hl]
    exact ⟨.bl _, H, I, rfl, q⟩
/-- two equal lists, !=  -/
def rNeLV (K : PySem.W.Frag) : R2 := fun x y H Q => ∃ n a b xs ys, n ≤ 60 ∧ x = .ref a ∧ y = .ref b ∧ SqL K H a xs ∧ SqL K H b ys ∧ Paired (EqV K H n) xs ys ∧ Q (.bl false) H
theorem op_neLV (hu : X.A.units + 64 < cLine) : OpR X (compareOp .NotEq) (rNeLV X.K) := by
  intro pins s σ H x y v u Q I rx ry h
  obtain ⟨n, a, b, xs, ys, hn, rfl, rfl, ha, hb, hp, q⟩ := h
  cases (show v = Value.ref a from rx)
  cases (show u = Value.ref b from ry)
  obtain ⟨us, r1, p1, _⟩ := I.list ha
  obtain ⟨ws, r2, p2, _⟩ := I.list hb
  have hsz : us.toArray.size = ws.toArray.size := by
    rw [List.size_toArray, List.size_toArray, ← r1.length, ← r2.length]
    exact Paired.length hp
  refine SeqAt.neP_lists (e := fun _ => true) p1.isList p2.isList hsz (by omega) (fun j h1 h2 => ?_) _ _ ?_
  · have k := items_run (A := X.A.in1) (eqV_run I n X.A.in1 (by show X.A.units + 1 + n < cLine; omega)) hp r1 r2 j (by simpa using h1) (by simpa using h2)
    simpa using k
  · rw [show ((List.range us.toArray.size).all fun _ => true) = true from List.all_eq_true.mpr fun _ _ => rfl]
    exact ⟨.bl _, H, I, rfl, q⟩
theorem neP_dicts {P : Program} {w : World} {K : Type} [DecidableEq K] {knd : KeyKind P w K} {A : Around} {s : Shared} {a b : Addr} {ka kb : List (K × Value)} {r : Bool} (ha : (a == sysModules) = false) (hb : (b == sysModules) = false)
    (da : s.heap.DictOf knd a ka) (db : s.heap.DictOf knd b kb) (hu : A.units < cLine) (hits : ka.length = kb.length → PySem.W.KeqHitsP P w A.in1 s kb ka r) (E Q : Value → Shared → Prop) (h : Q (.bool (!(ka.length == kb.length && r))) s) : wpAny (model P w) A (richCompare .NotEq (.ref a) (.ref b)) Q E s := by
  refine wpAny_richCompare_same_room (op := .NotEq) da.typeIs db.typeIs PySem.F.slot_dict_ne (wpAny_call_entry PySem.F.slot_dict_ne da.typeIs PySem.F.entry_dict_ne ?_ (PySem.F.args_dict_ne_2 _ _)) hu
  show wpAny _ _ (Builtin.Dict.dictSlotArgs "__ne__" ⟨[.ref a, .ref b], []⟩ >>= _) _ _ s
  refine wpAny_bind ?_
  unfold Builtin.Dict.dictSlotArgs
  refine wpAny_bind (wpAny_notOrdered_dict da.typeIs ?_)
  show wpAny _ _ (pure (Value.ref a, Value.ref b)) _ _ s
  refine wpAny_pure ?_
  refine wpAny_bind (wpAny_isInstance (T := "dict") db.typeIs PySem.F.sub_dict_dict ?_)
  simp only [Bool.not_true, Bool.false_eq_true, if_false]
  refine wpAny_bind (wpAny_pure (wpAny_bind (wpAny_pure ?_)))
  refine wpAny_bind (PySem.W.samePairsP ha hb da db hits ?_)
  refine wpAny_pure ⟨_, rfl, ?_, ?_⟩
  · exact fun x => nomatch x
  · simpa using h
/-- two equal dicts, != -/
def rNeDV (K : PySem.W.Frag) : R2 := fun x y H Q => ∃ n a b ks ls, n ≤ 60 ∧ x = .ref a ∧ y = .ref b ∧ H a = some (.dK ks) ∧ H b = some (.dK ls) ∧ ks.length = ls.length ∧ (∀ p ∈ ks, ∃ u, valV ls p.1 = some u ∧ EqV K H n p.2 u) ∧ Q (.bl false) H
theorem op_neDV (hu : X.A.units + 64 < cLine) : OpR X (compareOp .NotEq) (rNeDV X.K) := by
  intro pins s σ H x y v u Q I rx ry h
  obtain ⟨n, a, b, ks, ls, hn, rfl, rfl, ha, hb, hl, hp, q⟩ := h
  cases (show v = Value.ref a from rx)
  cases (show u = Value.ref b from ry)
  obtain ⟨_, ya, va, ra, da⟩ := (show ObjOk X.prog X.w H s.heap a (.dK ks) from I.hok a _ ha)
  obtain ⟨_, yb, vb, rb, db⟩ := (show ObjOk X.prog X.w H s.heap b (.dK ls) from I.hok b _ hb)
  refine neP_dicts (knd := mixKind X.prog X.w) (r := true) ya yb da db (by omega) (fun _ => hits_run (eqV_run I n X.A.in1 (by show X.A.units + 1 + n < cLine; omega)) rb ra hp) _ _ ?_
  have e : va.length = vb.length := by rw [← ra.length, ← rb.length]; exact hl
  rw [show (!(va.length == vb.length && true)) = false from by rw [e]; simp]
  exact ⟨.bl _, H, I, rfl, q⟩
/-- d == {} -/
def rEqE : R2 := fun x y H Q => ∃ a b ks, x = .ref a ∧ y = .ref b ∧ H a = some (.dK ks) ∧ H b = some (.dK []) ∧ Q (.bl (decide (ks.length = 0))) H
theorem op_eqE (hu : X.A.units < cLine) : OpR X (compareOp .Eq) rEqE := by
  intro pins s σ H x y v u Q I rx ry h
  obtain ⟨a, b, ks, rfl, rfl, ha, hb, q⟩ := h
  cases (show v = Value.ref a from rx)
  cases (show u = Value.ref b from ry)
  obtain ⟨_, ya, va, ra, da⟩ := (show ObjOk X.prog X.w H s.heap a (.dK ks) from I.hok a _ ha)
  obtain ⟨_, yb, vb, rb, db⟩ := (show ObjOk X.prog X.w H s.heap b (.dK []) from I.hok b _ hb)
  have e0 : vb.length = 0 := by rw [← rb.length]; rfl
  have ea : va.length = ks.length := ra.length.symm
  refine PySem.W.rcP_dicts (knd := mixKind X.prog X.w) (r := true) ya yb da db hu (fun h => ?_) _ _ ?_
  · have : va = [] := List.eq_nil_of_length_eq_zero (by omega)
    subst this
    exact .nil
  · rw [show (va.length == vb.length && true) = decide (ks.length = 0) from by rw [e0, ea, Bool.and_true]; exact beqD _ _]
    exact ⟨.bl _, H, I, rfl, q⟩
/-- xs == [] -/
def rEqL0 (K : PySem.W.Frag) : R2 := fun x y H Q => ∃ a b xs, x = .ref a ∧ y = .ref b ∧ SqL K H a xs ∧ SqL K H b [] ∧ Q (.bl (decide (xs.length = 0))) H
theorem op_eqL0 (hu : X.A.units < cLine) : OpR X (compareOp .Eq) (rEqL0 X.K) := by
  intro pins s σ H x y v u Q I rx ry h
  obtain ⟨a, b, xs, rfl, rfl, ha, hb, q⟩ := h
  cases (show v = Value.ref a from rx)
  cases (show u = Value.ref b from ry)
  obtain ⟨us, r1, p1, _⟩ := I.list ha
  obtain ⟨ws, r2, p2, _⟩ := I.list hb
  have l1 := r1.length
  have l2 := r2.length
  by_cases hz : xs.length = 0
  · refine SeqAt.eq_listAt (e := fun _ => true) p1.isList p2.isList (by rw [List.size_toArray, List.size_toArray, ← l1, ← l2]; exact hz) hu (fun j h1 h2 => ?_) ?_
    · rw [List.size_toArray, ← l1] at h1
      omega
    · rw [show ((List.range us.toArray.size).all fun _ => true) = true from List.all_eq_true.mpr fun _ _ => rfl]
      rw [decide_eq_true hz] at q
      exact ⟨.bl _, H, I, rfl, q⟩
  · refine SeqAt.eq_list_lengthsAt p1.isList p2.isList ?_ hu ?_
    · rw [List.size_toArray, List.size_toArray, ← l1, ← l2]
      simpa using hz
    · rw [decide_eq_false hz] at q
      exact ⟨.bl _, H, I, rfl, q⟩
end
end Sm
set_option maxHeartbeats 4000000
namespace Sm
open PySem PySem.Spec PyProof.Rows L2
section
variable {X : Cx} {CX : CXT} {k : Nat} {C f : Addr} {fd : FuncData} {ps : List Str} {sp : Sp} {E : L2.St → XK} {x : Str} {p pos : Pos} {e : Expr} {es : List Expr} {t : TA}
theorem run_makeS {pins : List (Addr × Obj)} {σ : L2.St} {H : Hp} {s : Shared} {Q : VK} {us : List Value} {vs : List V} (M : Mk X.K C f) (F : FnOk X.prog X.w X.K X.mg X.base CX k f fd ps sp) (hr : Room (k + 1) X.A) (hb : Binds X.K fd ps [])
    (hx : PassesAt CX X σ (E σ)) (I : Inv X pins σ H s) (r : Vals vs us)
    (h : ∀ x dx, H x = none → H dx = none → dx ≠ x → sp (.ref x :: vs) (upd (upd H dx (.own x)) x (.ins C dx [])) (fun v H2 => v = .non ∧ Q (.ref x) H2) (E σ)) :
    wpAny (model X.prog X.w) X.A (call (.ref C) us) (EP X pins σ Q) X.xe s := by
  have hq := h (s.heap.objs.size + 1) s.heap.objs.size (I.hok.fresh (Nat.le_succ _)) (I.hok.fresh (Nat.le_refl _)) (Nat.ne_of_lt (Nat.lt_succ_self _))
  have I2 := Inv.made (C := C) I
  have r2 : Vals (V.ref (s.heap.objs.size + 1) :: vs) (Value.ref (s.heap.objs.size + 1) :: us) := .cons rfl r
  have hl : (Value.ref (s.heap.objs.size + 1) :: us).length = ps.length := by
    have e := r2.length
    rw [F.len _ _ _ _ hq] at e
    exact e.symm
  have b := hb _ (Value.ref (s.heap.objs.size + 1) :: us) I2.kIn (by rw [List.append_nil]; exact hl)
  rw [List.append_nil] at b
  refine wpAny_call (make_map (f := f) I.kIn M.makes M.init (beq_iff_eq.mp M.fn) (codeAny_mono (F.run _ X.stack _ _ ⟨Value.ref (s.heap.objs.size + 1) :: us, []⟩ (Value.ref (s.heap.objs.size + 1) :: us) _ _ (E σ) (hr.make C us [])
    (I2.env0.make C us []) b r2 hq) fun r s' hq' => ?_))
  cases r with
  | error e => exact hx pins _ _ e s' I2 hq'
  | ok fl =>
    cases fl with
    | ret u =>
      obtain ⟨v, H', I3, rv, ev, q3⟩ := I2.after hq'
      subst ev
      exact ⟨rv, ⟨V.ref (s.heap.objs.size + 1), H', I3, rfl, q3⟩⟩
    | next => exact False.elim hq'
    | brk => exact False.elim hq'
    | cont => exact False.elim hq'
def tMakeS (C : Addr) (sp : Sp) (E : L2.St → XK) (t : TA) : TE := fun σ H Q => t σ H fun vs H1 => ∀ x dx, H1 x = none → H1 dx = none → dx ≠ x → sp (.ref x :: vs) (upd (upd H1 dx (.own x)) x (.ins C dx [])) (fun v H2 => v = .non ∧ Q (.ref x) H2) (E σ)
theorem r_makeS {σ : L2.St} {H : Hp} {Q : VK} (h : t σ H fun vs H1 => ∀ x dx, H1 x = none → H1 dx = none → dx ≠ x → sp (.ref x :: vs) (upd (upd H1 dx (.own x)) x (.ins C dx [])) (fun v H2 => v = .non ∧ Q (.ref x) H2) (E σ)) : tMakeS C sp E t σ H Q := h
theorem pe_makeS (M : Mk X.K C f) (F : FnOk X.prog X.w X.K X.mg X.base CX k f fd ps sp) (hr : Room (k + 1) X.A) (hg : Gl X x) (hm : X.mg x = some (.ref C)) (hb : Binds X.K fd ps []) (hx : ∀ σ, PassesAt CX X σ (E σ))
    (ha : PA X (e :: es) t) (hdb : (x == ("__debug__" : Str)) = false := by decide) (he : starEach (e :: es) X.env = (false, eval e X.env) :: starEach es X.env := by rfl) (hpl : (backTo pos (starEach es X.env)).any (·.1) = false := by rfl) :
    PE X (.Call (.Name x p) (e :: es) [] pos) (tMakeS C sp E t) := by
  refine ⟨fun pins s σ H Q I h => ?_⟩
  refine wpAny_Call_Name_kw (ld_glob I hg hm ?_ hdb)
  refine PySem.W.callWith_K (h₀ := X.base) I.ok.mod.kin M.kp (thn (ha.run pos pins s σ H _ I h) fun us s1 ⟨vs, H1, I1, r, q⟩ => ⟨I1.kIn, ?_⟩) he hpl
  exact run_makeS M F hr hb (hx σ) I1 r q
end
/-- x in o by the class's own __contains__ -/
def rOwnIn (C : Addr) (sp : Sp) (E : XK) : R2 := fun x y H Q => ∃ a dx fs, y = .ref a ∧ H a = some (.ins C dx fs) ∧ sp [y, x] H (fun r H1 => ∃ b, r = .bl b ∧ Q (.bl b) H1) E
theorem op_ownIn {X : Cx} {CX : CXT} {k : Nat} {C g : Addr} {fd : FuncData} {ps : List Str} {sp : Sp} {E : XK} (hs : PySem.W.findIn X.K (.ref C) "__contains__" = some (some (.ref g))) (hf : PySem.W.isFn X.K (.ref g) = true) (F : FnOk X.prog X.w X.K X.mg X.base CX k g fd ps sp)
    (hr : Room k X.A) (hb : Binds X.K fd ps []) (hx : Passes CX X E) : OpR X (compareOp .In) (rOwnIn C sp E) := by
  intro pins s σ H x y v u Q I rx ry h
  obtain ⟨a, dx, fs, rfl, ea, q⟩ := h
  cases (show u = Value.ref a from ry)
  obtain ⟨ox, od, J⟩ := inst_of I ea
  obtain ⟨m, hF⟩ := I.fr
  refine PySem.W.in_K hF I.ok.mod.kin J hs hf ?_
  refine thn (run_fn (us := [.ref a, v]) (vs := [.ref a, x]) F hr hb .nil hx I (.cons rfl (.cons rx .nil)) q) fun w s' z => ?_
  obtain ⟨z', H', I', rz, b, rfl, qz⟩ := z
  cases (show w = Value.bool b from rz)
  exact wpAny_truthy_bool ⟨.bl b, H', I', rfl, qz⟩
/-- a and b, the second one without effect: told at once -/
def tAndB (ta tb : TE) : TE := fun σ H Q => ta σ H fun x H1 => ∃ c d : Bool, x = .bl c ∧ (c = true → tb σ H1 fun y H2 => H2 = H1 ∧ y = .bl d) ∧ Q (.bl (c && d)) H1
theorem pe_andB {X : Cx} {a b : Expr} {rest : List Expr} {ta tb : TE} {pos : Pos} (ha : PE X a ta) (hb : PE X (.BoolOp .And (b :: rest) pos) tb) : PE X (.BoolOp .And (a :: b :: rest) pos) (tAndB ta tb) := by
  refine ⟨fun pins s σ H Q I h => ?_⟩
  refine BoolOp_and (thn (ha.run pins s σ H _ I h) fun v s1 ⟨x, H1, I1, r1, q1⟩ => ?_)
  obtain ⟨c, d, rfl, hq, q1⟩ := q1
  cases r1
  refine wpAny_truthy_bool ?_
  cases c with
  | true =>
    refine thn (hb.run pins s1 σ H1 _ I1 (hq rfl)) fun v2 s2 ⟨y, H2, I2, r2, e2, ey⟩ => ?_
    subst e2 ey
    exact ⟨.bl d, _, I2, r2, q1⟩
  | false => exact ⟨.bl false, H1, I1, rfl, q1⟩
theorem r_andB {ta tb : TE} {σ : L2.St} {H : Hp} {Q : VK} (h : ta σ H fun x H1 => ∃ c d : Bool, x = .bl c ∧ (c = true → tb σ H1 fun y H2 => H2 = H1 ∧ y = .bl d) ∧ Q (.bl (c && d)) H1) : tAndB ta tb σ H Q := h
end Sm
set_option maxHeartbeats 4000000
namespace Sm
open PySem PySem.Spec PyProof.Rows L2
def top (i : Nat) : Stmt := PySem.Challenge.pw_stickymarks_k53_menu_of_any_options.main.body.getD i (.Pass ⟨0, 0, 0, 0⟩)
abbrev s__law_cell : Stmt := top 14
theorem sc__law_cell : FnScope ["script", "k"] ["script", "k"] (defScope s__law_cell) := ⟨rfl, rfl, rfl, by decide +kernel, rfl, by decide +kernel, by decide +kernel⟩
abbrev s__law_entries : Stmt := top 15
theorem sc__law_entries : FnScope [] [] (defScope s__law_entries) := ⟨rfl, rfl, rfl, by decide +kernel, rfl, by decide +kernel, by decide +kernel⟩
abbrev s__law_choices : Stmt := top 16
theorem sc__law_choices : FnScope ["entry", "told"] ["entry"] (defScope s__law_choices) := ⟨rfl, rfl, rfl, by decide +kernel, rfl, by decide +kernel, by decide +kernel⟩
abbrev s__law_picks : Stmt := top 17
theorem sc__law_picks : FnScope ["cell", "bases", "names", "base", "mode", "rest", "picks", "k", "name", "told"] ["cell"] (defScope s__law_picks) := ⟨rfl, rfl, rfl, by decide +kernel, rfl, by decide +kernel, by decide +kernel⟩
abbrev s__law_book : Stmt := top 18
theorem sc__law_book : FnScope ["picks", "book", "name"] ["picks"] (defScope s__law_book) := ⟨rfl, rfl, rfl, by decide +kernel, rfl, by decide +kernel, by decide +kernel⟩
abbrev s__law_digits : Stmt := top 19
theorem sc__law_digits : FnScope ["cell", "many", "salt", "digits", "rest", "k"] ["cell", "many", "salt"] (defScope s__law_digits) := ⟨rfl, rfl, rfl, by decide +kernel, rfl, by decide +kernel, by decide +kernel⟩
abbrev s__law_large_options : Stmt := top 20
theorem sc__law_large_options : FnScope ["digits", "most", "options", "count", "k", "digit", "name", "told", "many", "stride", "j"] ["digits", "most"] (defScope s__law_large_options) := ⟨rfl, rfl, rfl, by decide +kernel, rfl, by decide +kernel, by decide +kernel⟩
abbrev s__law_menu_books : Stmt := top 21
theorem sc__law_menu_books : FnScope ["base", "options", "found", "name", "longer", "picks", "choice", "bent"] ["base", "options"] (defScope s__law_menu_books) := ⟨rfl, rfl, rfl, by decide +kernel, rfl, by decide +kernel, by decide +kernel⟩
abbrev s__law_read_book : Stmt := top 22
theorem sc__law_read_book : FnScope ["book", "picks", "name"] ["book"] (defScope s__law_read_book) := ⟨rfl, rfl, rfl, by decide +kernel, rfl, by decide +kernel, by decide +kernel⟩
abbrev s__law_refused : Stmt := top 23
theorem sc__law_refused : FnScope ["book", "options", "e"] ["book", "options"] (defScope s__law_refused) := ⟨rfl, rfl, rfl, by decide +kernel, rfl, by decide +kernel, by decide +kernel⟩
abbrev s__law_copied : Stmt := top 24
theorem sc__law_copied : FnScope ["options", "copied", "name"] ["options"] (defScope s__law_copied) := ⟨rfl, rfl, rfl, by decide +kernel, rfl, by decide +kernel, by decide +kernel⟩
abbrev s__law_count : Stmt := top 25
theorem sc__law_count : FnScope ["options", "count", "name"] ["options"] (defScope s__law_count) := ⟨rfl, rfl, rfl, by decide +kernel, rfl, by decide +kernel, by decide +kernel⟩
abbrev s__law_spoilt : Stmt := top 26
theorem sc__law_spoilt : FnScope ["options", "digits", "word", "way", "bent", "name", "row", "place", "words", "wrong", "one"] ["options", "digits"] (defScope s__law_spoilt) := ⟨rfl, rfl, rfl, by decide +kernel, rfl, by decide +kernel, by decide +kernel⟩
abbrev s__law_walked : Stmt := top 27
theorem sc__law_walked : FnScope ["menu", "due", "turn", "kept", "one", "k", "two"] ["menu", "due"] (defScope s__law_walked) := ⟨rfl, rfl, rfl, by decide +kernel, rfl, by decide +kernel, by decide +kernel⟩
abbrev s_law : Stmt := top 28
theorem sc_law : FnScope ["script", "base", "digits", "options", "book", "given", "menu", "due", "near", "name", "told", "picks", "held"] ["script"] (defScope s_law) := ⟨rfl, rfl, rfl, by decide +kernel, rfl, by decide +kernel, by decide +kernel⟩
abbrev s_Book___init__ : Stmt := inClass (top 8) 0
theorem sc_Book___init__ : FnScope ["self", "work", "write", "meet", "test", "partly", "value", "path", "loop", "guard", "call", "told", "at"] ["self", "work", "write", "meet", "test", "partly", "value", "path", "loop", "guard", "call"] (defScope s_Book___init__) := ⟨rfl, rfl, rfl, by decide +kernel, rfl, by decide +kernel, by decide +kernel⟩
abbrev s_Book___getitem__ : Stmt := inClass (top 8) 2
theorem sc_Book___getitem__ : FnScope ["self", "entry"] ["self", "entry"] (defScope s_Book___getitem__) := ⟨rfl, rfl, rfl, by decide +kernel, rfl, by decide +kernel, by decide +kernel⟩
abbrev s_Book___setitem__ : Stmt := inClass (top 8) 3
theorem sc_Book___setitem__ : FnScope ["self", "entry", "choice"] ["self", "entry", "choice"] (defScope s_Book___setitem__) := ⟨rfl, rfl, rfl, by decide +kernel, rfl, by decide +kernel, by decide +kernel⟩
abbrev s_Book_copied : Stmt := inClass (top 8) 9
theorem sc_Book_copied : FnScope ["self"] ["self"] (defScope s_Book_copied) := ⟨rfl, rfl, rfl, by decide +kernel, rfl, by decide +kernel, by decide +kernel⟩
abbrev s_Menu___init__ : Stmt := inClass (top 12) 0
theorem sc_Menu___init__ : FnScope ["self", "base", "options", "entry", "told", "choice"] ["self", "base", "options"] (defScope s_Menu___init__) := ⟨rfl, rfl, rfl, by decide +kernel, rfl, by decide +kernel, by decide +kernel⟩
abbrev s_Menu___contains__ : Stmt := inClass (top 12) 1
theorem sc_Menu___contains__ : FnScope ["self", "book", "entry"] ["self", "book"] (defScope s_Menu___contains__) := ⟨rfl, rfl, rfl, by decide +kernel, rfl, by decide +kernel, by decide +kernel⟩
abbrev s_Menu_numbered : Stmt := inClass (top 12) 2
theorem sc_Menu_numbered : FnScope ["self", "number", "made", "rest", "entry", "told"] ["self", "number"] (defScope s_Menu_numbered) := ⟨rfl, rfl, rfl, by decide +kernel, rfl, by decide +kernel, by decide +kernel⟩
abbrev s_Menu_books : Stmt := inClass (top 12) 3
theorem sc_Menu_books : GScope ["self", "number"] ["self"] (defScope s_Menu_books) := ⟨rfl, rfl, rfl, by decide +kernel, rfl, by decide +kernel, by decide +kernel⟩
def fn : List He.DefD := [
  defD "_law_cell" none "_law_cell" "_law_cell" s__law_cell [] [],
  defD "_law_entries" none "_law_entries" "_law_entries" s__law_entries [] [],
  defD "_law_choices" none "_law_choices" "_law_choices" s__law_choices [] [],
  defD "_law_picks" none "_law_picks" "_law_picks" s__law_picks [] [],
  defD "_law_book" none "_law_book" "_law_book" s__law_book [] [],
  defD "_law_digits" none "_law_digits" "_law_digits" s__law_digits [] [],
  defD "_law_large_options" none "_law_large_options" "_law_large_options" s__law_large_options [] [],
  defD "_law_menu_books" none "_law_menu_books" "_law_menu_books" s__law_menu_books [] [],
  defD "_law_read_book" none "_law_read_book" "_law_read_book" s__law_read_book [] [],
  defD "_law_refused" none "_law_refused" "_law_refused" s__law_refused [] [],
  defD "_law_copied" none "_law_copied" "_law_copied" s__law_copied [] [],
  defD "_law_count" none "_law_count" "_law_count" s__law_count [] [],
  defD "_law_spoilt" none "_law_spoilt" "_law_spoilt" s__law_spoilt [] [],
  defD "_law_walked" none "_law_walked" "_law_walked" s__law_walked [] [],
  defD "law" none "law" "law" s_law [] [],
  defD "Book" (some "__init__") "__init__" "Book.__init__" s_Book___init__ [] [("work", .str "join"), ("write", .str "stop"), ("meet", .str "raise"), ("test", .str "stop"), ("partly", .str "stop"), ("value", .str "stop"), ("path", .str "stop"), ("loop", .str "stop"), ("guard", .str "stop"), ("call", .str "stop")],
  defD "Book" (some "__getitem__") "__getitem__" "Book.__getitem__" s_Book___getitem__ [] [],
  defD "Book" (some "__setitem__") "__setitem__" "Book.__setitem__" s_Book___setitem__ [] [],
  defD "Book" (some "copied") "copied" "Book.copied" s_Book_copied [] [],
  defD "Menu" (some "__init__") "__init__" "Menu.__init__" s_Menu___init__ [] [],
  defD "Menu" (some "__contains__") "__contains__" "Menu.__contains__" s_Menu___contains__ [] [],
  defD "Menu" (some "numbered") "numbered" "Menu.numbered" s_Menu_numbered [] [],
  defD "Menu" (some "books") "books" "Menu.books" s_Menu_books [] []]
def ts : List Test := [
  fun K => He.Fa.ok K (.glo "_law_cell"),
  fun K => He.Fa.ok K (.keep "_law_cell"),
  fun K => He.Fa.ok K (.glo "_law_entries"),
  fun K => He.Fa.ok K (.keep "_law_entries"),
  fun K => He.Fa.ok K (.glo "_law_choices"),
  fun K => He.Fa.ok K (.keep "_law_choices"),
  fun K => He.Fa.ok K (.glo "_law_picks"),
  fun K => He.Fa.ok K (.keep "_law_picks"),
  fun K => He.Fa.ok K (.glo "_law_book"),
  fun K => He.Fa.ok K (.keep "_law_book"),
  fun K => He.Fa.ok K (.glo "_law_digits"),
  fun K => He.Fa.ok K (.keep "_law_digits"),
  fun K => He.Fa.ok K (.glo "_law_large_options"),
  fun K => He.Fa.ok K (.keep "_law_large_options"),
  fun K => He.Fa.ok K (.glo "_law_menu_books"),
  fun K => He.Fa.ok K (.keep "_law_menu_books"),
  fun K => He.Fa.ok K (.glo "_law_read_book"),
  fun K => He.Fa.ok K (.keep "_law_read_book"),
  fun K => He.Fa.ok K (.glo "_law_refused"),
  fun K => He.Fa.ok K (.keep "_law_refused"),
  fun K => He.Fa.ok K (.glo "_law_copied"),
  fun K => He.Fa.ok K (.keep "_law_copied"),
  fun K => He.Fa.ok K (.glo "_law_count"),
  fun K => He.Fa.ok K (.keep "_law_count"),
  fun K => He.Fa.ok K (.glo "_law_spoilt"),
  fun K => He.Fa.ok K (.keep "_law_spoilt"),
  fun K => He.Fa.ok K (.glo "_law_walked"),
  fun K => He.Fa.ok K (.keep "_law_walked"),
  fun K => He.Fa.ok K (.glo "law"),
  fun K => He.Fa.ok K (.keep "law"),
  fun K => He.Fa.ok K (.meth "Book" "__init__"),
  fun K => He.Fa.ok K (.meth "Book" "__getitem__"),
  fun K => He.Fa.ok K (.meth "Book" "__setitem__"),
  fun K => He.Fa.ok K (.meth "Book" "copied"),
  fun K => He.Fa.ok K (.meth "Menu" "__init__"),
  fun K => He.Fa.ok K (.meth "Menu" "__contains__"),
  fun K => He.Fa.ok K (.meth "Menu" "numbered"),
  fun K => He.Fa.ok K (.meth "Menu" "books"),
  fun K => He.Fa.ok K (.free "len"),
  fun K => He.Fa.ok K (.free "int"),
  fun K => He.Fa.ok K (.free "range"),
  fun K => He.Fa.ok K (.free "isinstance"),
  fun K => He.Fa.ok K (.free "str"),
  fun K => He.Fa.ok K (.free "dict"),
  fun K => He.Fa.ok K (.free "ValueError"),
  fun K => He.Fa.ok K (.free "list"),
  fun K => He.Fa.ok K (.free "bool"),
  fun K => He.Fa.ok K (.free "reversed"),
  fun K => He.Fa.ok K (.free "zip"),
  fun K => He.Fa.ok K (.glo "Book"),
  fun K => He.Fa.ok K (.cls "Book"),
  fun K => He.Fa.ok K (.mkr "Book"),
  fun K => He.Fa.ok K (.noat "Book" "held"),
  fun K => He.Fa.ok K (.keep "Book"),
  fun K => He.Fa.ok K (.glo "Menu"),
  fun K => He.Fa.ok K (.cls "Menu"),
  fun K => He.Fa.ok K (.mkr "Menu"),
  fun K => He.Fa.ok K (.noat "Menu" "base"),
  fun K => He.Fa.ok K (.noat "Menu" "entries"),
  fun K => He.Fa.ok K (.noat "Menu" "options"),
  fun K => He.Fa.ok K (.noat "Menu" "count"),
  fun K => He.Fa.ok K (.keep "Menu"),
  fun K => He.Fa.ok K (.glo "MarkError"),
  fun K => He.Fa.ok K (.exc "MarkError"),
  fun K => He.Fa.ok K (.glo "InvalidBook"),
  fun K => He.Fa.ok K (.exc "InvalidBook"),
  fun K => He.Fa.ok K (.glo "InvalidInput"),
  fun K => He.Fa.ok K (.exc "InvalidInput"),
  fun K => He.Fa.ok K (.exm "InvalidInput" "InvalidInput" true),
  fun K => He.Fa.ok K (.exm "InvalidBook" "InvalidInput" false),
  fun K => He.Fa.ok K (.glo "ENTRIES"),
  fun K => He.Fa.ok K (.glo "CHOICES"),
  fun K => He.Fa.ok K (.int "MOST_BOOKS" 24),
  fun K => He.tupB K "ENTRIES" (entriesL.map He.Dv.str),
  tabAt "CHOICES" (ent 0) (chs 0),
  tabAt "CHOICES" (ent 1) (chs 1),
  tabAt "CHOICES" (ent 2) (chs 2),
  tabAt "CHOICES" (ent 3) (chs 3),
  tabAt "CHOICES" (ent 4) (chs 4),
  tabAt "CHOICES" (ent 5) (chs 5),
  tabAt "CHOICES" (ent 6) (chs 6),
  tabAt "CHOICES" (ent 7) (chs 7),
  tabAt "CHOICES" (ent 8) (chs 8),
  tabAt "CHOICES" (ent 9) (chs 9),
  getB "Book",
  setB "Book",
  cmpB "Menu" "__contains__",
  excB "InvalidInput",
  kitB "InvalidInput" "MarkError" true,
  kitB "InvalidInput" "InvalidBook" false,
  kitTB "InvalidInput" "ValueError" true]
def tb : List Tab := [((fun K => He.ga K "CHOICES"), entriesL)]
structure Tx (w : World) (K : PySem.W.Frag) (mg : Str → Option Value) : Prop where
  X : ∃ h : Heap, K.In h ∧ h.Ns mainGlobals mg
  c : Known ts fn tb w K
section
variable {w : World} {K : PySem.W.Frag} {mg : Str → Option Value}
theorem Tx.kd_CHOICES (T : Tx w K mg) : ∃ es n, KDict K w (He.ga K "CHOICES") es n := T.c.tab 0
theorem Tx.g__law_cell (T : Tx w K mg) : mg "_law_cell" = some (.ref (He.ga K "_law_cell")) := by
  obtain ⟨h, X, G⟩ := T.X
  exact He.glo_ok X G (T.c.test 0)
theorem Tx.k__law_cell (T : Tx w K mg) : PySem.W.keepIn K (.ref (He.ga K "_law_cell")) = true := He.keep_ok (T.c.test 1)
theorem Tx.g__law_entries (T : Tx w K mg) : mg "_law_entries" = some (.ref (He.ga K "_law_entries")) := by
  obtain ⟨h, X, G⟩ := T.X
  exact He.glo_ok X G (T.c.test 2)
theorem Tx.k__law_entries (T : Tx w K mg) : PySem.W.keepIn K (.ref (He.ga K "_law_entries")) = true := He.keep_ok (T.c.test 3)
theorem Tx.g__law_choices (T : Tx w K mg) : mg "_law_choices" = some (.ref (He.ga K "_law_choices")) := by
  obtain ⟨h, X, G⟩ := T.X
  exact He.glo_ok X G (T.c.test 4)
theorem Tx.k__law_choices (T : Tx w K mg) : PySem.W.keepIn K (.ref (He.ga K "_law_choices")) = true := He.keep_ok (T.c.test 5)
theorem Tx.g__law_picks (T : Tx w K mg) : mg "_law_picks" = some (.ref (He.ga K "_law_picks")) := by
  obtain ⟨h, X, G⟩ := T.X
  exact He.glo_ok X G (T.c.test 6)
theorem Tx.k__law_picks (T : Tx w K mg) : PySem.W.keepIn K (.ref (He.ga K "_law_picks")) = true := He.keep_ok (T.c.test 7)
theorem Tx.g__law_book (T : Tx w K mg) : mg "_law_book" = some (.ref (He.ga K "_law_book")) := by
  obtain ⟨h, X, G⟩ := T.X
  exact He.glo_ok X G (T.c.test 8)
theorem Tx.k__law_book (T : Tx w K mg) : PySem.W.keepIn K (.ref (He.ga K "_law_book")) = true := He.keep_ok (T.c.test 9)
theorem Tx.g__law_digits (T : Tx w K mg) : mg "_law_digits" = some (.ref (He.ga K "_law_digits")) := by
  obtain ⟨h, X, G⟩ := T.X
  exact He.glo_ok X G (T.c.test 10)
theorem Tx.k__law_digits (T : Tx w K mg) : PySem.W.keepIn K (.ref (He.ga K "_law_digits")) = true := He.keep_ok (T.c.test 11)
theorem Tx.g__law_large_options (T : Tx w K mg) : mg "_law_large_options" = some (.ref (He.ga K "_law_large_options")) := by
  obtain ⟨h, X, G⟩ := T.X
  exact He.glo_ok X G (T.c.test 12)
theorem Tx.k__law_large_options (T : Tx w K mg) : PySem.W.keepIn K (.ref (He.ga K "_law_large_options")) = true := He.keep_ok (T.c.test 13)
theorem Tx.g__law_menu_books (T : Tx w K mg) : mg "_law_menu_books" = some (.ref (He.ga K "_law_menu_books")) := by
  obtain ⟨h, X, G⟩ := T.X
  exact He.glo_ok X G (T.c.test 14)
theorem Tx.k__law_menu_books (T : Tx w K mg) : PySem.W.keepIn K (.ref (He.ga K "_law_menu_books")) = true := He.keep_ok (T.c.test 15)
theorem Tx.g__law_read_book (T : Tx w K mg) : mg "_law_read_book" = some (.ref (He.ga K "_law_read_book")) := by
  obtain ⟨h, X, G⟩ := T.X
  exact He.glo_ok X G (T.c.test 16)
theorem Tx.k__law_read_book (T : Tx w K mg) : PySem.W.keepIn K (.ref (He.ga K "_law_read_book")) = true := He.keep_ok (T.c.test 17)
theorem Tx.g__law_refused (T : Tx w K mg) : mg "_law_refused" = some (.ref (He.ga K "_law_refused")) := by
  obtain ⟨h, X, G⟩ := T.X
  exact He.glo_ok X G (T.c.test 18)
theorem Tx.k__law_refused (T : Tx w K mg) : PySem.W.keepIn K (.ref (He.ga K "_law_refused")) = true := He.keep_ok (T.c.test 19)
theorem Tx.g__law_copied (T : Tx w K mg) : mg "_law_copied" = some (.ref (He.ga K "_law_copied")) := by
  obtain ⟨h, X, G⟩ := T.X
  exact He.glo_ok X G (T.c.test 20)
theorem Tx.k__law_copied (T : Tx w K mg) : PySem.W.keepIn K (.ref (He.ga K "_law_copied")) = true := He.keep_ok (T.c.test 21)
theorem Tx.g__law_count (T : Tx w K mg) : mg "_law_count" = some (.ref (He.ga K "_law_count")) := by
  obtain ⟨h, X, G⟩ := T.X
  exact He.glo_ok X G (T.c.test 22)
theorem Tx.k__law_count (T : Tx w K mg) : PySem.W.keepIn K (.ref (He.ga K "_law_count")) = true := He.keep_ok (T.c.test 23)
theorem Tx.g__law_spoilt (T : Tx w K mg) : mg "_law_spoilt" = some (.ref (He.ga K "_law_spoilt")) := by
  obtain ⟨h, X, G⟩ := T.X
  exact He.glo_ok X G (T.c.test 24)
theorem Tx.k__law_spoilt (T : Tx w K mg) : PySem.W.keepIn K (.ref (He.ga K "_law_spoilt")) = true := He.keep_ok (T.c.test 25)
theorem Tx.g__law_walked (T : Tx w K mg) : mg "_law_walked" = some (.ref (He.ga K "_law_walked")) := by
  obtain ⟨h, X, G⟩ := T.X
  exact He.glo_ok X G (T.c.test 26)
theorem Tx.k__law_walked (T : Tx w K mg) : PySem.W.keepIn K (.ref (He.ga K "_law_walked")) = true := He.keep_ok (T.c.test 27)
theorem Tx.g_law (T : Tx w K mg) : mg "law" = some (.ref (He.ga K "law")) := by
  obtain ⟨h, X, G⟩ := T.X
  exact He.glo_ok X G (T.c.test 28)
theorem Tx.k_law (T : Tx w K mg) : PySem.W.keepIn K (.ref (He.ga K "law")) = true := He.keep_ok (T.c.test 29)
theorem Tx.m_Book___init__ (T : Tx w K mg) : Meth K (He.ga K "Book") "__init__" (He.fAd K ("Book", some "__init__")) := He.meth_ok (T.c.test 30)
theorem Tx.m_Book___getitem__ (T : Tx w K mg) : Meth K (He.ga K "Book") "__getitem__" (He.fAd K ("Book", some "__getitem__")) := He.meth_ok (T.c.test 31)
theorem Tx.m_Book___setitem__ (T : Tx w K mg) : Meth K (He.ga K "Book") "__setitem__" (He.fAd K ("Book", some "__setitem__")) := He.meth_ok (T.c.test 32)
theorem Tx.m_Book_copied (T : Tx w K mg) : Meth K (He.ga K "Book") "copied" (He.fAd K ("Book", some "copied")) := He.meth_ok (T.c.test 33)
theorem Tx.m_Menu___init__ (T : Tx w K mg) : Meth K (He.ga K "Menu") "__init__" (He.fAd K ("Menu", some "__init__")) := He.meth_ok (T.c.test 34)
theorem Tx.m_Menu___contains__ (T : Tx w K mg) : Meth K (He.ga K "Menu") "__contains__" (He.fAd K ("Menu", some "__contains__")) := He.meth_ok (T.c.test 35)
theorem Tx.m_Menu_numbered (T : Tx w K mg) : Meth K (He.ga K "Menu") "numbered" (He.fAd K ("Menu", some "numbered")) := He.meth_ok (T.c.test 36)
theorem Tx.m_Menu_books (T : Tx w K mg) : Meth K (He.ga K "Menu") "books" (He.fAd K ("Menu", some "books")) := He.meth_ok (T.c.test 37)
theorem Tx.n_len (T : Tx w K mg) : mg "len" = none := by
  obtain ⟨h, X, G⟩ := T.X
  exact He.free_ok X G (T.c.test 38)
theorem Tx.n_int (T : Tx w K mg) : mg "int" = none := by
  obtain ⟨h, X, G⟩ := T.X
  exact He.free_ok X G (T.c.test 39)
theorem Tx.n_range (T : Tx w K mg) : mg "range" = none := by
  obtain ⟨h, X, G⟩ := T.X
  exact He.free_ok X G (T.c.test 40)
theorem Tx.n_isinstance (T : Tx w K mg) : mg "isinstance" = none := by
  obtain ⟨h, X, G⟩ := T.X
  exact He.free_ok X G (T.c.test 41)
theorem Tx.n_str (T : Tx w K mg) : mg "str" = none := by
  obtain ⟨h, X, G⟩ := T.X
  exact He.free_ok X G (T.c.test 42)
theorem Tx.n_dict (T : Tx w K mg) : mg "dict" = none := by
  obtain ⟨h, X, G⟩ := T.X
  exact He.free_ok X G (T.c.test 43)
theorem Tx.n_ValueError (T : Tx w K mg) : mg "ValueError" = none := by
  obtain ⟨h, X, G⟩ := T.X
  exact He.free_ok X G (T.c.test 44)
theorem Tx.n_list (T : Tx w K mg) : mg "list" = none := by
  obtain ⟨h, X, G⟩ := T.X
  exact He.free_ok X G (T.c.test 45)
theorem Tx.n_bool (T : Tx w K mg) : mg "bool" = none := by
  obtain ⟨h, X, G⟩ := T.X
  exact He.free_ok X G (T.c.test 46)
theorem Tx.n_reversed (T : Tx w K mg) : mg "reversed" = none := by
  obtain ⟨h, X, G⟩ := T.X
  exact He.free_ok X G (T.c.test 47)
theorem Tx.n_zip (T : Tx w K mg) : mg "zip" = none := by
  obtain ⟨h, X, G⟩ := T.X
  exact He.free_ok X G (T.c.test 48)
theorem Tx.g_Book (T : Tx w K mg) : mg "Book" = some (.ref (He.ga K "Book")) := by
  obtain ⟨h, X, G⟩ := T.X
  exact He.glo_ok X G (T.c.test 49)
theorem Tx.c_Book (T : Tx w K mg) : Cls K (He.ga K "Book") := He.cls_ok (T.c.test 50)
theorem Tx.mk_Book (T : Tx w K mg) : Mk K (He.ga K "Book") (He.fAd K ("Book", some "__init__")) := He.mkr_ok (T.c.test 51)
theorem Tx.a_Book_held (T : Tx w K mg) : NoAttr K (He.ga K "Book") "held" := He.noat_ok (T.c.test 52)
theorem Tx.k_Book (T : Tx w K mg) : PySem.W.keepIn K (.ref (He.ga K "Book")) = true := He.keep_ok (T.c.test 53)
theorem Tx.g_Menu (T : Tx w K mg) : mg "Menu" = some (.ref (He.ga K "Menu")) := by
  obtain ⟨h, X, G⟩ := T.X
  exact He.glo_ok X G (T.c.test 54)
theorem Tx.c_Menu (T : Tx w K mg) : Cls K (He.ga K "Menu") := He.cls_ok (T.c.test 55)
theorem Tx.mk_Menu (T : Tx w K mg) : Mk K (He.ga K "Menu") (He.fAd K ("Menu", some "__init__")) := He.mkr_ok (T.c.test 56)
theorem Tx.a_Menu_base (T : Tx w K mg) : NoAttr K (He.ga K "Menu") "base" := He.noat_ok (T.c.test 57)
theorem Tx.a_Menu_entries (T : Tx w K mg) : NoAttr K (He.ga K "Menu") "entries" := He.noat_ok (T.c.test 58)
theorem Tx.a_Menu_options (T : Tx w K mg) : NoAttr K (He.ga K "Menu") "options" := He.noat_ok (T.c.test 59)
theorem Tx.a_Menu_count (T : Tx w K mg) : NoAttr K (He.ga K "Menu") "count" := He.noat_ok (T.c.test 60)
theorem Tx.k_Menu (T : Tx w K mg) : PySem.W.keepIn K (.ref (He.ga K "Menu")) = true := He.keep_ok (T.c.test 61)
theorem Tx.g_MarkError (T : Tx w K mg) : mg "MarkError" = some (.ref (He.ga K "MarkError")) := by
  obtain ⟨h, X, G⟩ := T.X
  exact He.glo_ok X G (T.c.test 62)
theorem Tx.e_MarkError (T : Tx w K mg) : PySem.W.excIn K (He.ga K "MarkError") He.veBase "ValueError.__new__" = true ∧ PySem.W.keepIn K (.ref (He.ga K "MarkError")) = true ∧ PySem.W.subIn K (.ref (He.ga K "MarkError")) (.type "BaseException") = some true ∧ PySem.W.typeIn K (.ref (He.ga K "MarkError")) = some (.type "type") := He.exc_ok (T.c.test 63)
theorem Tx.g_InvalidBook (T : Tx w K mg) : mg "InvalidBook" = some (.ref (He.ga K "InvalidBook")) := by
  obtain ⟨h, X, G⟩ := T.X
  exact He.glo_ok X G (T.c.test 64)
theorem Tx.e_InvalidBook (T : Tx w K mg) : PySem.W.excIn K (He.ga K "InvalidBook") He.veBase "ValueError.__new__" = true ∧ PySem.W.keepIn K (.ref (He.ga K "InvalidBook")) = true ∧ PySem.W.subIn K (.ref (He.ga K "InvalidBook")) (.type "BaseException") = some true ∧ PySem.W.typeIn K (.ref (He.ga K "InvalidBook")) = some (.type "type") := He.exc_ok (T.c.test 65)
theorem Tx.g_InvalidInput (T : Tx w K mg) : mg "InvalidInput" = some (.ref (He.ga K "InvalidInput")) := by
  obtain ⟨h, X, G⟩ := T.X
  exact He.glo_ok X G (T.c.test 66)
theorem Tx.e_InvalidInput (T : Tx w K mg) : PySem.W.excIn K (He.ga K "InvalidInput") He.veBase "ValueError.__new__" = true ∧ PySem.W.keepIn K (.ref (He.ga K "InvalidInput")) = true ∧ PySem.W.subIn K (.ref (He.ga K "InvalidInput")) (.type "BaseException") = some true ∧ PySem.W.typeIn K (.ref (He.ga K "InvalidInput")) = some (.type "type") := He.exc_ok (T.c.test 67)
theorem Tx.x_InvalidInput_InvalidInput (T : Tx w K mg) : PySem.W.exmOne K (.ref (He.ga K "InvalidInput")) (.ref (He.ga K "InvalidInput")) = some true := He.exm_ok (T.c.test 68)
theorem Tx.x_InvalidBook_InvalidInput (T : Tx w K mg) : PySem.W.exmOne K (.ref (He.ga K "InvalidBook")) (.ref (He.ga K "InvalidInput")) = some false := He.exm_ok (T.c.test 69)
theorem Tx.g_ENTRIES (T : Tx w K mg) : mg "ENTRIES" = some (.ref (He.ga K "ENTRIES")) := by
  obtain ⟨h, X, G⟩ := T.X
  exact He.glo_ok X G (T.c.test 70)
theorem Tx.g_CHOICES (T : Tx w K mg) : mg "CHOICES" = some (.ref (He.ga K "CHOICES")) := by
  obtain ⟨h, X, G⟩ := T.X
  exact He.glo_ok X G (T.c.test 71)
theorem Tx.i_MOST_BOOKS (T : Tx w K mg) : ∃ t, mg "MOST_BOOKS" = some (.int 24 t) := by
  obtain ⟨h, X, G⟩ := T.X
  exact He.int_ok X G (T.c.test 72)
theorem Tx.ENTRIES (T : Tx w K mg) : He.tupB K "ENTRIES" (entriesL.map He.Dv.str) = true := T.c.test 73
theorem Tx.CH0 (T : Tx w K mg) : tabAt "CHOICES" (ent 0) (chs 0) K = true := T.c.test 74
theorem Tx.CH1 (T : Tx w K mg) : tabAt "CHOICES" (ent 1) (chs 1) K = true := T.c.test 75
theorem Tx.CH2 (T : Tx w K mg) : tabAt "CHOICES" (ent 2) (chs 2) K = true := T.c.test 76
theorem Tx.CH3 (T : Tx w K mg) : tabAt "CHOICES" (ent 3) (chs 3) K = true := T.c.test 77
theorem Tx.CH4 (T : Tx w K mg) : tabAt "CHOICES" (ent 4) (chs 4) K = true := T.c.test 78
theorem Tx.CH5 (T : Tx w K mg) : tabAt "CHOICES" (ent 5) (chs 5) K = true := T.c.test 79
theorem Tx.CH6 (T : Tx w K mg) : tabAt "CHOICES" (ent 6) (chs 6) K = true := T.c.test 80
theorem Tx.CH7 (T : Tx w K mg) : tabAt "CHOICES" (ent 7) (chs 7) K = true := T.c.test 81
theorem Tx.CH8 (T : Tx w K mg) : tabAt "CHOICES" (ent 8) (chs 8) K = true := T.c.test 82
theorem Tx.CH9 (T : Tx w K mg) : tabAt "CHOICES" (ent 9) (chs 9) K = true := T.c.test 83
theorem Tx.gm_Book (T : Tx w K mg) : GetM K (He.ga K "Book") (He.fAd K ("Book", some "__getitem__")) := getB_ok (T.c.test 84)
theorem Tx.sm_Book (T : Tx w K mg) : SetM K (He.ga K "Book") (He.fAd K ("Book", some "__setitem__")) := setB_ok (T.c.test 85)
theorem Tx.cm_Menu___contains__ (T : Tx w K mg) : PySem.W.findIn K (.ref (He.ga K "Menu")) "__contains__" = some (some (.ref (He.fAd K ("Menu", some "__contains__")))) ∧ PySem.W.isFn K (.ref (He.fAd K ("Menu", some "__contains__"))) = true := cmpB_ok (T.c.test 86)
theorem Tx.ex_InvalidInput (T : Tx w K mg) : ExcC K (He.ga K "InvalidInput") := excB_ok (T.c.test 87)
theorem Tx.kt_InvalidInput_MarkError (T : Tx w K mg) : PySem.W.kitOne K (.ref (He.ga K "InvalidInput")) (.ref (He.ga K "MarkError")) = some true := kitB_ok (T.c.test 88)
theorem Tx.kt_InvalidInput_InvalidBook (T : Tx w K mg) : PySem.W.kitOne K (.ref (He.ga K "InvalidInput")) (.ref (He.ga K "InvalidBook")) = some false := kitB_ok (T.c.test 89)
theorem Tx.kt_InvalidInput_ValueError (T : Tx w K mg) : PySem.W.kitOne K (.ref (He.ga K "InvalidInput")) (.type "ValueError") = some true := kitTB_ok (T.c.test 90)
theorem Tx.F__law_cell (T : Tx w K mg) : ∃ fd, Fun K "_law_cell" "_law_cell" s__law_cell (He.fAd K ("_law_cell", none)) fd := by
  obtain ⟨fd, F⟩ := T.c.fun_ 0
  exact ⟨fd, Fun.of F⟩
theorem Tx.F__law_entries (T : Tx w K mg) : ∃ fd, Fun K "_law_entries" "_law_entries" s__law_entries (He.fAd K ("_law_entries", none)) fd := by
  obtain ⟨fd, F⟩ := T.c.fun_ 1
  exact ⟨fd, Fun.of F⟩
theorem Tx.F__law_choices (T : Tx w K mg) : ∃ fd, Fun K "_law_choices" "_law_choices" s__law_choices (He.fAd K ("_law_choices", none)) fd := by
  obtain ⟨fd, F⟩ := T.c.fun_ 2
  exact ⟨fd, Fun.of F⟩
theorem Tx.F__law_picks (T : Tx w K mg) : ∃ fd, Fun K "_law_picks" "_law_picks" s__law_picks (He.fAd K ("_law_picks", none)) fd := by
  obtain ⟨fd, F⟩ := T.c.fun_ 3
  exact ⟨fd, Fun.of F⟩
theorem Tx.F__law_book (T : Tx w K mg) : ∃ fd, Fun K "_law_book" "_law_book" s__law_book (He.fAd K ("_law_book", none)) fd := by
  obtain ⟨fd, F⟩ := T.c.fun_ 4
  exact ⟨fd, Fun.of F⟩
theorem Tx.F__law_digits (T : Tx w K mg) : ∃ fd, Fun K "_law_digits" "_law_digits" s__law_digits (He.fAd K ("_law_digits", none)) fd := by
  obtain ⟨fd, F⟩ := T.c.fun_ 5
  exact ⟨fd, Fun.of F⟩
theorem Tx.F__law_large_options (T : Tx w K mg) : ∃ fd, Fun K "_law_large_options" "_law_large_options" s__law_large_options (He.fAd K ("_law_large_options", none)) fd := by
  obtain ⟨fd, F⟩ := T.c.fun_ 6
  exact ⟨fd, Fun.of F⟩
theorem Tx.F__law_menu_books (T : Tx w K mg) : ∃ fd, Fun K "_law_menu_books" "_law_menu_books" s__law_menu_books (He.fAd K ("_law_menu_books", none)) fd := by
  obtain ⟨fd, F⟩ := T.c.fun_ 7
  exact ⟨fd, Fun.of F⟩
theorem Tx.F__law_read_book (T : Tx w K mg) : ∃ fd, Fun K "_law_read_book" "_law_read_book" s__law_read_book (He.fAd K ("_law_read_book", none)) fd := by
  obtain ⟨fd, F⟩ := T.c.fun_ 8
  exact ⟨fd, Fun.of F⟩
theorem Tx.F__law_refused (T : Tx w K mg) : ∃ fd, Fun K "_law_refused" "_law_refused" s__law_refused (He.fAd K ("_law_refused", none)) fd := by
  obtain ⟨fd, F⟩ := T.c.fun_ 9
  exact ⟨fd, Fun.of F⟩
theorem Tx.F__law_copied (T : Tx w K mg) : ∃ fd, Fun K "_law_copied" "_law_copied" s__law_copied (He.fAd K ("_law_copied", none)) fd := by
  obtain ⟨fd, F⟩ := T.c.fun_ 10
  exact ⟨fd, Fun.of F⟩
theorem Tx.F__law_count (T : Tx w K mg) : ∃ fd, Fun K "_law_count" "_law_count" s__law_count (He.fAd K ("_law_count", none)) fd := by
  obtain ⟨fd, F⟩ := T.c.fun_ 11
  exact ⟨fd, Fun.of F⟩
theorem Tx.F__law_spoilt (T : Tx w K mg) : ∃ fd, Fun K "_law_spoilt" "_law_spoilt" s__law_spoilt (He.fAd K ("_law_spoilt", none)) fd := by
  obtain ⟨fd, F⟩ := T.c.fun_ 12
  exact ⟨fd, Fun.of F⟩
theorem Tx.F__law_walked (T : Tx w K mg) : ∃ fd, Fun K "_law_walked" "_law_walked" s__law_walked (He.fAd K ("_law_walked", none)) fd := by
  obtain ⟨fd, F⟩ := T.c.fun_ 13
  exact ⟨fd, Fun.of F⟩
theorem Tx.F_law (T : Tx w K mg) : ∃ fd, Fun K "law" "law" s_law (He.fAd K ("law", none)) fd := by
  obtain ⟨fd, F⟩ := T.c.fun_ 14
  exact ⟨fd, Fun.of F⟩
theorem Tx.F_Book___init__ (T : Tx w K mg) : ∃ fd, FunD K "__init__" "Book.__init__" (defArgs s_Book___init__) (defBody s_Book___init__) (defScope s_Book___init__) [] [("work", V.str "join"), ("write", V.str "stop"), ("meet", V.str "raise"), ("test", V.str "stop"), ("partly", V.str "stop"), ("value", V.str "stop"), ("path", V.str "stop"), ("loop", V.str "stop"), ("guard", V.str "stop"), ("call", V.str "stop")] (He.fAd K ("Book", some "__init__")) fd := T.c.fun_ 15
theorem Tx.F_Book___getitem__ (T : Tx w K mg) : ∃ fd, Fun K "__getitem__" "Book.__getitem__" s_Book___getitem__ (He.fAd K ("Book", some "__getitem__")) fd := by
  obtain ⟨fd, F⟩ := T.c.fun_ 16
  exact ⟨fd, Fun.of F⟩
theorem Tx.F_Book___setitem__ (T : Tx w K mg) : ∃ fd, Fun K "__setitem__" "Book.__setitem__" s_Book___setitem__ (He.fAd K ("Book", some "__setitem__")) fd := by
  obtain ⟨fd, F⟩ := T.c.fun_ 17
  exact ⟨fd, Fun.of F⟩
theorem Tx.F_Book_copied (T : Tx w K mg) : ∃ fd, Fun K "copied" "Book.copied" s_Book_copied (He.fAd K ("Book", some "copied")) fd := by
  obtain ⟨fd, F⟩ := T.c.fun_ 18
  exact ⟨fd, Fun.of F⟩
theorem Tx.F_Menu___init__ (T : Tx w K mg) : ∃ fd, Fun K "__init__" "Menu.__init__" s_Menu___init__ (He.fAd K ("Menu", some "__init__")) fd := by
  obtain ⟨fd, F⟩ := T.c.fun_ 19
  exact ⟨fd, Fun.of F⟩
theorem Tx.F_Menu___contains__ (T : Tx w K mg) : ∃ fd, Fun K "__contains__" "Menu.__contains__" s_Menu___contains__ (He.fAd K ("Menu", some "__contains__")) fd := by
  obtain ⟨fd, F⟩ := T.c.fun_ 20
  exact ⟨fd, Fun.of F⟩
theorem Tx.F_Menu_numbered (T : Tx w K mg) : ∃ fd, Fun K "numbered" "Menu.numbered" s_Menu_numbered (He.fAd K ("Menu", some "numbered")) fd := by
  obtain ⟨fd, F⟩ := T.c.fun_ 21
  exact ⟨fd, Fun.of F⟩
theorem Tx.F_Menu_books (T : Tx w K mg) : ∃ fd, Fun K "books" "Menu.books" s_Menu_books (He.fAd K ("Menu", some "books")) fd := by
  obtain ⟨fd, F⟩ := T.c.fun_ 22
  exact ⟨fd, Fun.of F⟩
end
end Sm
set_option maxHeartbeats 4000000
namespace Sm
open PySem PySem.Spec PyProof.Rows L2
local macro_rules | `(tactic| walk_at "rd1") => `(tactic| first
  | (with_reducible refine r_seq ?_) | (with_reducible refine r_asg ?_) | (with_reducible refine r_gname ?_)
  | ((with_reducible refine' r_var ?e ?_); (case e => rfl)) | (with_reducible refine r_c ?_)
  | (with_reducible refine r_ret ?_) | (with_reducible refine r_retN ?_) | (with_reducible refine r_drop ?_) | (with_reducible refine r_next ?_) | (with_reducible refine r_ifs ?_)
  | (with_reducible refine r_op ?_) | (with_reducible refine r_rI0 ?_)
  | (with_reducible refine r_test ?_) | (with_reducible refine r_tb ?_) | (with_reducible refine Exists.intro _ (And.intro (Eq.refl (V.bl _)) ?_))
  | (with_reducible refine r_nil ?_) | (with_reducible refine r_cons ?_) | (with_reducible refine r_cb ?_) | (with_reducible refine r_call ?_)
  | (with_reducible refine r_callS ?_) | (with_reducible refine r_meth ?_) | (with_reducible refine r_ownIx ?_) | (with_reducible refine r_ownSet ?_)
  | (with_reducible refine r_not ?_) | (with_reducible refine r_and ?_) | (with_reducible refine r_or ?_)
  | (with_reducible refine r_lst ?_) | (with_reducible refine r_tup ?_) | (with_reducible refine Or.inl (Exists.intro _ (And.intro (Eq.refl [V.int _]) ?_)))
  | ((with_reducible refine r_rI ?c ?_); (case c => first | (show (0 : Int) < _; decide) | exact ⟨by decide, by decide⟩))
  | (with_reducible refine r_for ?_) | (with_reducible refine r_rng1 ?_) | (with_reducible refine r_rng2 ?_) | (with_reducible refine r_ilist ?_) | (with_reducible refine r_itup ?_)
  | (with_reducible refine r_m0 ?_) | (with_reducible refine r_m1 ?_) | (with_reducible refine r_isStr ?_) | (with_reducible refine r_newS ?_) | (with_reducible refine r_fld ?_)
  | (with_reducible refine r_bm ?_) | (with_reducible refine r_bm0 ?_) | (with_reducible refine r_sl ?_) | (with_reducible refine r_nopart ?_) | (with_reducible refine r_part ?_)
  | (with_reducible refine r_pcons ?_) | (with_reducible refine r_pnil ?_) | (with_reducible refine r_dget2 ?_) | (with_reducible refine r_dget1 ?_)
  | (with_reducible refine r_lc ?_) | (with_reducible refine r_yes ?_)
  | (with_reducible refine r_un ?_) | (with_reducible refine r_rU ?_)
  | (with_reducible refine r_disp ?_) | (with_reducible refine r_andV ?_) | (with_reducible refine r_orV ?_) | (with_reducible refine r_notV ?_) | (with_reducible refine r_dnewK ?_)
  | (with_reducible refine r_dget ?_) | (with_reducible refine r_dput ?_)
  | ((with_reducible refine r_rEq ?e ?_); (case e => rfl)) | ((with_reducible refine r_rNe ?e ?_); (case e => rfl)))
local macro_rules | `(tactic| walk_at "rd") => `(tactic| repeat (walk_at "rd1"))
section
variable {P : Program} {w : World} {K : PySem.W.Frag} {mg : Str → Option Value} {base : Heap}
/-- a cell of the script -/
def cellAt (ns : List Int) (k : Int) : Int := if k < ns.length then ns.getD k.toNat 0 else 0
def sp_cell (K : PySem.W.Frag) : Sp := fun vs H Q _ => ∃ (a : Addr) (ns : List Int) (k : Int), vs = [.ref a, .int k] ∧ SqL K H a (ns.map V.int) ∧ 0 ≤ k ∧ Q (.int (cellAt ns k)) H
theorem ok_cell (T : Tx w K mg) : ∃ fd, FnOk P w K mg base CX0 1 (He.fAd K ("_law_cell", none)) fd ["script", "k"] (sp_cell K) ∧ Binds K fd ["script", "k"] [] := by
  obtain ⟨fd, F⟩ := T.F__law_cell
  refine ⟨fd, F.ok sc__law_cell (fun vs H Q E h => ?_) (fun cdv A outer s H vs Q E hr h => ?_), F.binds fun _ _ _ _ _ _ us hl => match us, hl with | [_, _], _ => rfl⟩
  · obtain ⟨a, ns, k, rfl, _⟩ := h
    rfl
  · obtain ⟨a, ns, k, rfl, hs, hk, q⟩ := h
    refine ⟨_, (pss_cons (ps_if (pt_cmpR op_lt (pv 1) (pe_callB call_len_seq (by rfl) T.n_len PySem.boot_len (pa_cons (pv 0) pa_nil)) (nomark _))
        (pss_one (ps_ret (pe_ix ix_list (pv 0) (pv 1) (fun _ _ => rfl))))
        pss_nil)
      (pss_one (ps_ret pe_int))), ?_⟩
    walk_at "rd"
    refine ⟨_, _, rfl, .inl hs, ?_⟩
    walk_at "rd"
    rw [List.length_map]
    refine r_ite (fun hlt => ?_) (fun hge => ?_)
    · walk_at "rd"
      refine r_ixL hs (atI_of hk (v := .int (ns.getD k.toNat 0)) ?_) ?_
      · rw [List.getElem?_map, List.getD_eq_getElem?_getD]
        have : k.toNat < ns.length := by omega
        rw [List.getElem?_eq_getElem this]; rfl
      · unfold cellAt at q; rw [if_pos hlt] at q; exact q
    · walk_at "rd"
      unfold cellAt at q; rw [if_neg hge] at q; exact q
def sp_entries : Sp := fun vs H Q _ => vs = [] ∧ ∀ p, H p = none → Q (.ref p) (upd H p (.lst (entriesL.map V.str)))
theorem ok_entries (T : Tx w K mg) : ∃ fd, FnOk P w K mg base CX0 1 (He.fAd K ("_law_entries", none)) fd [] sp_entries ∧ Binds K fd [] [] := by
  obtain ⟨fd, F⟩ := T.F__law_entries
  refine ⟨fd, F.ok sc__law_entries (fun vs H Q E h => ?_) (fun cdv A outer s H vs Q E hr h => ?_), F.binds fun _ _ _ _ _ _ us hl => match us, hl with | [], _ => rfl⟩
  · obtain ⟨rfl, _⟩ := h
    rfl
  · obtain ⟨rfl, q⟩ := h
    refine ⟨_, (pss_one (ps_ret (pe_lst (pa_cons pe_str (pa_cons pe_str (pa_cons pe_str (pa_cons pe_str (pa_cons pe_str (pa_cons pe_str (pa_cons pe_str (pa_cons pe_str (pa_cons pe_str (pa_cons pe_str pa_nil))))))))))))), ?_⟩
    exact ⟨by show 10 ≤ sizeLine; decide, q⟩
def sp_choices : Sp := fun vs H Q _ => ∃ (i : Nat), i < 10 ∧ vs = [.str (ent i)] ∧ ∀ p H', H p = none → Chg [] H H' → H' p = some (.lst ((chs i).map V.str)) → Q (.ref p) H'
def toldD : List (Key × V) := [(.inr "work", .str "drop left short join"), (.inr "write", .str "raise partly skip stop"), (.inr "meet", .str "leave raise"), (.inr "test", .str "ignore raise stop"), (.inr "partly", .str "pass stop"), (.inr "value", .str "show blank skip stop"), (.inr "path", .str "show blank skip stop")]
theorem told_of : ∀ i, i < 10 → ∃ s : Str, (valV (mergeK [] toldD) (Sum.inr (ent i) : Key)).getD (.str "forget stick stop") = .str s ∧ Txt.split s " " = chs i ∧ s.length + 2 ≤ sizeLine := by
  refine ten ?_ ?_ ?_ ?_ ?_ ?_ ?_ ?_ ?_ ?_
  all_goals exact ⟨_, rfl, by decide +kernel, by decide⟩
theorem ok_choices (T : Tx w K mg) : ∃ fd, FnOk P w K mg base CX0 1 (He.fAd K ("_law_choices", none)) fd ["entry"] sp_choices ∧ Binds K fd ["entry"] [] := by
  obtain ⟨fd, F⟩ := T.F__law_choices
  refine ⟨fd, F.ok sc__law_choices (fun vs H Q E h => ?_) (fun cdv A outer s H vs Q E hr h => ?_), F.binds fun _ _ _ _ _ _ us hl => match us, hl with | [_], _ => rfl⟩
  · obtain ⟨i, _, rfl, _⟩ := h
    rfl
  · obtain ⟨i, hi, rfl, q⟩ := h
    have hu := hu_of hr
    refine ⟨_, (pss_cons (ps_set (i := 1) sc__law_choices.nd rfl (Or.inl rfl) (pe_disp (pps_cons pe_str pe_str (pps_cons pe_str pe_str (pps_cons pe_str pe_str (pps_cons pe_str pe_str (pps_cons pe_str pe_str (pps_cons pe_str pe_str (pps_cons pe_str pe_str pps_nil))))))) (by rfl) (by rfl) (fun z => by cases z) (by decide)))
      (pss_one (ps_ret (pe_split (pe_dget2 hu (pv 1) (pv 0) pe_str ⟨rfl, rfl, rfl, rfl⟩) pe_str)))), ?_⟩
    walk_at "rd"
    intro p hp
    walk_at "rd"
    refine ⟨upd_same, toldD, rfl, by decide, ?_⟩
    rw [upd_upd]
    walk_at "rd"
    refine ⟨_, rfl, isD upd_same, ?_⟩
    walk_at "rd"
    refine ⟨_, DGet.k (k := Sum.inr (ent i)) upd_same, ?_⟩
    obtain ⟨s, e1, e2, e3⟩ := told_of i hi
    rw [e1]
    walk_at "rd"
    refine ⟨_, _, rfl, rfl, rfl, e3, ?_⟩
    rw [e2]
    walk_at "rd"
    intro l hl
    refine q l _ ?_ ?_ upd_same
    · exact (Chg.new (S := []) hp).fresh hl
    · exact (Chg.new hp).trans (Chg.new hl)
theorem nat_of_mod (c m : Int) (h : 0 < m) : ∃ n : Nat, c % m = (n : Int) ∧ (n : Int) < m := ⟨(c % m).toNat, (Int.toNat_of_nonneg (Int.emod_nonneg _ (by omega))).symm, by rw [Int.toNat_of_nonneg (Int.emod_nonneg _ (by omega))]; exact Int.emod_lt_of_pos _ h⟩
theorem chs_pick {i : Nat} (hi : i < 10) (c : Int) : ∃ (n : Nat) (x : Str), c % ((chs i).length : Int) = (n : Int) ∧ (chs i)[n]? = some x ∧ x ∈ chs i := by
  obtain ⟨h1, h2⟩ := chs_pos i hi
  obtain ⟨n, e, l⟩ := nat_of_mod c ((chs i).length : Int) (by omega)
  have l' : n < (chs i).length := by omega
  exact ⟨n, (chs i)[n], e, List.getElem?_eq_getElem l', List.getElem_mem l'⟩
def sp_picks : Sp := fun vs H Q _ => ∃ c : Int, vs = [.int c] ∧ ∀ cs p H', OkB cs → H p = none → Chg [] H H' → H' p = some (.dK (dcs cs)) → Q (.ref p) H'
theorem ok_picks (T : Tx w K mg) : ∃ fd, FnOk P w K mg base CX0 2 (He.fAd K ("_law_picks", none)) fd ["cell"] sp_picks ∧ Binds K fd ["cell"] [] := by
  obtain ⟨fd, F⟩ := T.F__law_picks
  obtain ⟨fdE, G__law_entries, b__law_entries⟩ := ok_entries (P := P) (w := w) (base := base) T
  obtain ⟨fdC, G__law_choices, b__law_choices⟩ := ok_choices (P := P) (w := w) (base := base) T
  refine ⟨fd, F.ok sc__law_picks (fun vs H Q E h => ?_) (fun cdv A outer s H vs Q E hr h => ?_), F.binds fun _ _ _ _ _ _ us hl => match us, hl with | [_], _ => rfl⟩
  · obtain ⟨c, rfl, _⟩ := h
    rfl
  · obtain ⟨c, rfl, q⟩ := h
    have hu := hu_of hr
    refine ⟨_, (pss_cons (ps_set (i := 1) sc__law_picks.nd rfl (Or.inl rfl) (pe_lst (pa_cons pe_str (pa_cons pe_str (pa_cons pe_str (pa_cons pe_str (pa_cons pe_str (pa_cons pe_str (pa_cons pe_str (pa_cons pe_str (pa_cons pe_str (pa_cons pe_str pa_nil))))))))))))
      (pss_cons (ps_set (i := 2) sc__law_picks.nd rfl (Or.inl rfl) (pe_call0 G__law_entries (hr.mono (by decide)) (by rfl) T.g__law_entries T.k__law_entries b__law_entries .nil pass0))
      (pss_cons (ps_set (i := 3) sc__law_picks.nd rfl (Or.inl rfl) (pe_split (pe_ix ix_list (pv 1) (pe_op op_mod (pe_callTy call_int1 (by rfl) T.n_int (by decide +kernel) (pa_cons (pv 0) pa_nil)) pe_int) (fun _ _ => rfl)) pe_str))
      (pss_cons (ps_set (i := 4) sc__law_picks.nd rfl (Or.inl rfl) (pe_op op_mod (pe_callTy call_int1 (by rfl) T.n_int (by decide +kernel) (pa_cons (pe_op op_fdiv (pv 0) pe_int) pa_nil)) pe_int))
      (pss_cons (ps_set (i := 5) sc__law_picks.nd rfl (Or.inl rfl) (pe_op op_fdiv (pv 0) pe_int))
      (pss_cons (ps_set (i := 6) sc__law_picks.nd rfl (Or.inl rfl) pe_dnewK)
      (pss_cons (ps_for PassesOwn.never rfl (pi_range1 rfl T.n_range (pa_cons pe_int pa_nil)) (pg_name (i := 7) sc__law_picks.nd rfl (Or.inl rfl))
        (pss_one (ps_dput hu (pv 6) (pe_ix ix_list (pv 2) (pv 7) (fun _ _ => rfl)) (pe_ix ix_list (pv 3) (pv 7) (fun _ _ => rfl)) rfl)))
      (C8.pss_cut (ps_if (pt_cmpR op_eq (pv 4) pe_int (nomark _))
        (pss_cons (ps_set (i := 8) sc__law_picks.nd rfl (Or.inl rfl) (pe_ix ix_list (pv 2) (pe_op op_mod (pe_callTy call_int1 (by rfl) T.n_int (by decide +kernel) (pa_cons (pv 5) pa_nil)) pe_int) (fun _ _ => rfl)))
      (pss_cons (ps_set (i := 9) sc__law_picks.nd rfl (Or.inl rfl) (pe_call G__law_choices (hr.mono (by decide)) (by rfl) T.g__law_choices T.k__law_choices b__law_choices .nil pass0 (pa_cons (pv 8) pa_nil)))
      (pss_one (ps_dput hu (pv 6) (pv 8) (pe_ix ix_list (pv 9) (pe_op op_mod (pe_callTy call_int1 (by rfl) T.n_int (by decide +kernel) (pa_cons (pe_op op_fdiv (pv 5) pe_int) pa_nil)) (pe_callB call_len_seq (by rfl) T.n_len PySem.boot_len (pa_cons (pv 9) pa_nil))) (fun _ _ => rfl)) rfl))))
        pss_nil)
      (C8.pss_cut (ps_if (pt_cmpR op_eq (pv 4) pe_int (nomark _))
        (pss_one (ps_for PassesOwn.never rfl (pi_range1 rfl T.n_range (pa_cons pe_int pa_nil)) (pg_name (i := 7) sc__law_picks.nd rfl (Or.inl rfl))
        (pss_cons (ps_set (i := 9) sc__law_picks.nd rfl (Or.inl rfl) (pe_call G__law_choices (hr.mono (by decide)) (by rfl) T.g__law_choices T.k__law_choices b__law_choices .nil pass0 (pa_cons (pe_ix ix_list (pv 2) (pv 7) (fun _ _ => rfl)) pa_nil)))
      (pss_cons (ps_dput hu (pv 6) (pe_ix ix_list (pv 2) (pv 7) (fun _ _ => rfl)) (pe_ix ix_list (pv 9) (pe_op op_mod (pe_callTy call_int1 (by rfl) T.n_int (by decide +kernel) (pa_cons (pe_op op_add (pv 5) (pv 7)) pa_nil)) (pe_callB call_len_seq (by rfl) T.n_len PySem.boot_len (pa_cons (pv 9) pa_nil))) (fun _ _ => rfl)) rfl)
      (pss_one (ps_set (i := 5) sc__law_picks.nd rfl (Or.inl rfl) (pe_op op_fdiv (pv 5) (pe_callB call_len_seq (by rfl) T.n_len PySem.boot_len (pa_cons (pv 9) pa_nil)))))))))
        pss_nil)
      (pss_one (ps_ret (pv 6)))))))))))), ?_⟩
    walk_at "rd"
    refine ⟨by show 10 ≤ sizeLine; decide, fun l1 h1 => ?_⟩
    generalize eH : upd H l1 _ = H1
    obtain ⟨e1, _, c1, _⟩ : H1 l1 = some (.lst (basesL.map V.str)) ∧ _ := laid (S := []) eH Chg.refl h1
    walk_at "rd"
    refine ⟨rfl, fun l2 h2 => ?_⟩
    generalize eH : upd H1 l2 _ = H2
    obtain ⟨e2, k2, c2, n2⟩ := laid eH c1 h2
    have e1 := k2.at e1
    walk_at "rd"
    obtain ⟨n, hn, hn2⟩ := nat_of_mod c 10 (by decide)
    obtain ⟨s, hs, ho, hz⟩ := bases_ok n (by omega)
    refine r_ixL (sqL e1) (by rw [hn]; exact atI_ofNat (strs_at hs)) ?_
    walk_at "rd"
    refine ⟨_, _, rfl, rfl, rfl, hz, ?_⟩
    generalize Txt.split s " " = bs at ho
    walk_at "rd"
    intro l3 h3
    generalize eH : upd H2 l3 _ = H3
    obtain ⟨e3, k3, c3, n3⟩ := laid eH c2 h3
    have e2 := k3.at e2
    walk_at "rd"
    intro d hd
    generalize eH : upd H3 d _ = H4
    obtain ⟨e4, k4, c4, n4⟩ := laid eH c3 hd
    have e2 := k4.at e2
    have e3 := k4.at e3
    walk_at "rd"
    generalize c / 30 = rest
    generalize c / 10 % 3 = mode
    refine ⟨_, rfl, by decide, by decide, for_range (n := 10) (fun i σ H' => ∃ v7, σ = [some (.int c), some (.ref l1), some (.ref l2), some (.ref l3), some (.int mode), some (.int rest), some (.ref d), v7, none, none] ∧ Chg [d] H4 H' ∧ H' d = some (.dK ((dcs bs).take i))) ⟨none, rfl, Chg.refl, e4⟩ ?_ ?_⟩
    · rintro i σ H5 hi ⟨v7, rfl, c5, e5⟩
      obtain ⟨b, hb, hbc⟩ := ho.at hi
      have hd2 : l2 ≠ d := ne_of e2 e4 (by intro z; cases z)
      have hd3 : l3 ≠ d := ne_of e3 e4 (by intro z; cases z)
      walk_at "rd"
      rw [show (0 : Int) + (i : Nat) = (i : Nat) by omega]
      refine r_ixL (sqL (c5.at1 e3 hd3)) (atI_ofNat (strs_at hb)) ?_
      walk_at "rd"
      refine r_ixL (sqL (c5.at1 e2 hd2)) (atI_ofNat (strs_at (ent_at hi))) ?_
      refine ⟨_, _, rfl, DPut.k (k := Sum.inr (ent i)) e5 (small1000 (by rw [List.length_take]; omega)), ?_⟩
      rw [dcs_take_put ho.len hi hb]
      generalize eH : upd H5 d _ = H6
      obtain ⟨e6, k6⟩ := put eH e5
      exact ⟨_, rfl, c5.trans k6, e6⟩
    · rintro σ H5 ⟨v7, rfl, c5, e5⟩
      rw [List.take_of_length_le (Nat.le_of_eq (dcs_len ho.len))] at e5
      have hd2 : l2 ≠ d := ne_of e2 e4 (by intro z; cases z)
      have e2 := c5.at1 e2 hd2
      have c6 : Chg [] H H5 := c4.then c5 (c3.fresh hd)
      -- if mode == 1
      refine ⟨fun σ' H' => ∃ cs v7 v8 v9, OkB cs ∧ σ' = [some (.int c), some (.ref l1), some (.ref l2), some (.ref l3), some (.int mode), some (.int rest), some (.ref d), v7, v8, v9] ∧ Chg [] H H' ∧ H' d = some (.dK (dcs cs)) ∧ H' l2 = some (.lst (entriesL.map V.str)), ?_, ?_⟩
      · walk_at "rd"
        refine r_ite (fun hm => ?_) (fun hm => ?_)
        · walk_at "rd"
          obtain ⟨n, hn, hn2⟩ := nat_of_mod rest 10 (by decide)
          have hn10 : n < 10 := by omega
          refine r_ixL (sqL e2) (by rw [hn]; exact atI_ofNat (strs_at (ent_at hn10))) ?_
          walk_at "rd"
          refine ⟨n, hn10, rfl, fun l4 H6 h4 k6 e6 => ?_⟩
          walk_at "rd"
          obtain ⟨m, x, hx, hxe, hxc⟩ := chs_pick hn10 (rest / 10)
          obtain ⟨p1, p2⟩ := chs_pos n hn10
          refine ⟨_, _, rfl, .inl (sqL e6), ?_⟩
          rw [List.length_map]
          refine r_rI (by show (0 : Int) < _; omega) ?_
          rw [hx]
          refine r_ixL (sqL e6) (atI_ofNat (strs_at hxe)) ?_
          walk_at "rd"
          refine ⟨_, _, rfl, DPut.k (k := Sum.inr (ent n)) (k6.at e5) (small1000 (by rw [dcs_len ho.len]; decide)), ?_⟩
          rw [dcs_put ho.len hn10]
          generalize eH : upd H6 d _ = H7
          obtain ⟨e7, k7⟩ := put eH (k6.at e5)
          exact ⟨_, _, _, _, ho.set hxc, rfl, (c6.trans k6).then k7 n4, e7, k7.at1 (k6.at e2) hd2⟩
        · walk_at "rd"
          exact ⟨bs, _, _, _, ho, rfl, c6, e5, e2⟩
      · rintro σ' H' ⟨cs, v7, v8, v9, hcs, rfl, c7, e7, e2⟩
        -- if mode == 2
        refine ⟨fun σ' H'' => ∃ cs v5 v7 v8 v9, OkB cs ∧ σ' = [some (.int c), some (.ref l1), some (.ref l2), some (.ref l3), some (.int mode), v5, some (.ref d), v7, v8, v9] ∧ Chg [] H H'' ∧ H'' d = some (.dK (dcs cs)), ?_, ?_⟩
        · walk_at "rd"
          refine r_ite (fun hm => ?_) (fun hm => ?_)
          · walk_at "rd"
            refine ⟨_, rfl, by decide, by decide, for_range (n := 10) (fun i σ H'' => ∃ cs rest v7 v9, OkB cs ∧ σ = [some (.int c), some (.ref l1), some (.ref l2), some (.ref l3), some (.int mode), some (.int rest), some (.ref d), v7, v8, v9] ∧ Chg [d] H' H'' ∧ H'' d = some (.dK (dcs cs))) ⟨cs, rest, v7, v9, hcs, rfl, Chg.refl, e7⟩ ?_ ?_⟩
            · rintro i σ H5 hi ⟨cs, rest, v7, v9, hcs, rfl, c8, e8⟩
              have e2 := c8.at1 e2 hd2
              walk_at "rd"
              rw [show (0 : Int) + (i : Nat) = (i : Nat) by omega]
              refine r_ixL (sqL e2) (atI_ofNat (strs_at (ent_at hi))) ?_
              walk_at "rd"
              refine ⟨i, hi, rfl, fun l4 H6 h4 k6 e6 => ?_⟩
              obtain ⟨p1, p2⟩ := chs_pos i hi
              walk_at "rd"
              obtain ⟨m, x, hx, hxe, hxc⟩ := chs_pick hi (rest + (i : Nat))
              refine ⟨_, _, rfl, .inl (sqL e6), ?_⟩
              rw [List.length_map]
              refine r_rI (by show (0 : Int) < _; omega) ?_
              rw [hx]
              refine r_ixL (sqL e6) (atI_ofNat (strs_at hxe)) ?_
              walk_at "rd"
              refine r_ixL (sqL (k6.at e2)) (atI_ofNat (strs_at (ent_at hi))) ?_
              have e8' := k6.at e8
              refine ⟨_, _, rfl, DPut.k (k := Sum.inr (ent i)) e8' (small1000 (by rw [dcs_len hcs.len]; decide)), ?_⟩
              rw [dcs_put hcs.len hi]
              generalize eH : upd H6 d _ = H7
              obtain ⟨e7, k7⟩ := put eH e8'
              walk_at "rd"
              refine ⟨_, _, rfl, .inl (sqL (k7.at1 e6 (ne_of e6 e8' (by intro z; cases z)))), ?_⟩
              rw [List.length_map]
              refine r_rI ⟨by omega, by omega⟩ ?_
              exact ⟨_, _, _, _, hcs.set hxc, rfl, (c8.trans k6.up).trans k7, e7⟩
            · rintro σ H5 ⟨cs, rest, v7, v9, hcs, rfl, c8, e8⟩
              exact ⟨cs, _, _, _, _, hcs, rfl, c7.then c8 n4, e8⟩
          · walk_at "rd"
            exact ⟨cs, _, _, _, _, hcs, rfl, c7, e7⟩
        · rintro σ' H'' ⟨cs, v5, v7, v8, v9, hcs, rfl, c8, e8⟩
          walk_at "rd"
          exact q cs d H'' hcs n4 c8 e8
end
end Sm
set_option maxHeartbeats 4000000
namespace Sm
open PySem PySem.Spec PyProof.Rows L2
local macro_rules | `(tactic| walk_at "rd1") => `(tactic| first
  | (with_reducible refine r_seq ?_) | (with_reducible refine r_asg ?_) | (with_reducible refine r_gname ?_)
  | ((with_reducible refine' r_var ?e ?_); (case e => rfl)) | (with_reducible refine r_c ?_)
  | (with_reducible refine r_ret ?_) | (with_reducible refine r_retN ?_) | (with_reducible refine r_drop ?_) | (with_reducible refine r_next ?_) | (with_reducible refine r_ifs ?_)
  | (with_reducible refine r_op ?_) | (with_reducible refine r_rI0 ?_)
  | (with_reducible refine r_test ?_) | (with_reducible refine r_tb ?_) | (with_reducible refine Exists.intro _ (And.intro (Eq.refl (V.bl _)) ?_))
  | (with_reducible refine r_nil ?_) | (with_reducible refine r_cons ?_) | (with_reducible refine r_cb ?_) | (with_reducible refine r_call ?_)
  | (with_reducible refine r_callS ?_) | (with_reducible refine r_meth ?_) | (with_reducible refine r_ownIx ?_) | (with_reducible refine r_ownSet ?_)
  | (with_reducible refine r_not ?_) | (with_reducible refine r_and ?_) | (with_reducible refine r_or ?_)
  | (with_reducible refine r_lst ?_) | (with_reducible refine r_tup ?_) | (with_reducible refine Or.inl (Exists.intro _ (And.intro (Eq.refl [V.int _]) ?_)))
  | ((with_reducible refine r_rI ?c ?_); (case c => first | (show (0 : Int) < _; decide) | exact ⟨by decide, by decide⟩))
  | (with_reducible refine r_for ?_) | (with_reducible refine r_rng1 ?_) | (with_reducible refine r_rng2 ?_) | (with_reducible refine r_ilist ?_) | (with_reducible refine r_itup ?_)
  | (with_reducible refine r_m0 ?_) | (with_reducible refine r_m1 ?_) | (with_reducible refine r_isStr ?_) | (with_reducible refine r_newS ?_) | (with_reducible refine r_fld ?_)
  | (with_reducible refine r_bm ?_) | (with_reducible refine r_bm0 ?_) | (with_reducible refine r_sl ?_) | (with_reducible refine r_nopart ?_) | (with_reducible refine r_part ?_)
  | (with_reducible refine r_pcons ?_) | (with_reducible refine r_pnil ?_) | (with_reducible refine r_dget2 ?_) | (with_reducible refine r_dget1 ?_)
  | (with_reducible refine r_lc ?_) | (with_reducible refine r_yes ?_)
  | (with_reducible refine r_un ?_) | (with_reducible refine r_rU ?_)
  | (with_reducible refine r_disp ?_) | (with_reducible refine r_andV ?_) | (with_reducible refine r_orV ?_) | (with_reducible refine r_notV ?_) | (with_reducible refine r_dnewK ?_)
  | (with_reducible refine r_dget ?_) | (with_reducible refine r_dput ?_)
  | ((with_reducible refine r_rEq ?e ?_); (case e => rfl)) | ((with_reducible refine r_rNe ?e ?_); (case e => rfl)))
local macro_rules | `(tactic| walk_at "rd") => `(tactic| repeat (walk_at "rd1"))
section
variable {P : Program} {w : World} {K : PySem.W.Frag} {mg : Str → Option Value} {base : Heap}
/-- digits: many numbers below 5040 -/
def sp_digits : Sp := fun vs H Q _ => ∃ (c salt : Int) (n : Nat), vs = [.int c, .int (n : Int), .int salt] ∧ n ≤ 100 ∧ ∀ (ds : List Int) p H', ds.length = n → (∀ (i : Nat) (x : Int), ds[i]? = some x → 0 ≤ x ∧ x < 5040) → H p = none → Chg [] H H' → H' p = some (.lst (ds.map V.int)) → Q (.ref p) H'
theorem ok_digits (T : Tx w K mg) : ∃ fd, FnOk P w K mg base CX0 1 (He.fAd K ("_law_digits", none)) fd ["cell", "many", "salt"] sp_digits ∧ Binds K fd ["cell", "many", "salt"] [] := by
  obtain ⟨fd, F⟩ := T.F__law_digits
  refine ⟨fd, F.ok sc__law_digits (fun vs H Q E h => ?_) (fun cdv A outer s H vs Q E hr h => ?_), F.binds fun _ _ _ _ _ _ us hl => match us, hl with | [_, _, _], _ => rfl⟩
  · obtain ⟨c, salt, n, rfl, _⟩ := h
    rfl
  · obtain ⟨c, salt, n, rfl, hn, q⟩ := h
    have hu := hu_of hr
    refine ⟨_, (pss_cons (ps_set (i := 3) sc__law_digits.nd rfl (Or.inl rfl) (pe_lst pa_nil))
      (pss_cons (ps_set (i := 4) sc__law_digits.nd rfl (Or.inl rfl) (pv 0))
      (pss_cons (ps_for PassesOwn.never rfl (pi_range1 rfl T.n_range (pa_cons (pv 1) pa_nil)) (pg_name (i := 5) sc__law_digits.nd rfl (Or.inl rfl))
        (pss_cons (ps_expr (pe_bm PySem.F.plainAttrs_list PySem.F.slot_list_append PySem.F.type_list_append mt_append (pv 3) (pa_cons (pe_op op_mod (pe_callTy call_int1 (by rfl) T.n_int (by decide +kernel) (pa_cons (pe_op op_add (pv 4) (pe_op op_mul (pe_op op_add (pv 5) pe_int) (pv 2))) pa_nil)) pe_int) pa_nil)))
      (pss_one (ps_set (i := 4) sc__law_digits.nd rfl (Or.inl rfl) (pe_op op_fdiv (pv 4) pe_int)))))
      (pss_one (ps_ret (pv 3)))))), ?_⟩
    walk_at "rd"
    refine ⟨by show 0 ≤ sizeLine; decide, fun l1 h1 => ?_⟩
    generalize eH : upd H l1 _ = H1
    obtain ⟨e1, _, c1, n1⟩ : H1 l1 = some (.lst []) ∧ _ := laid (S := []) eH Chg.refl h1
    walk_at "rd"
    refine ⟨_, rfl, by omega, by omega, ?_⟩
    rw [Int.toNat_natCast]
    refine for_range (n := n) (fun i σ H' => ∃ (ds : List Int) (r : Int) (v5 : Option V), σ = [some (.int c), some (.int (n : Int)), some (.int salt), some (.ref l1), some (.int r), v5] ∧ Chg [l1] H1 H' ∧ H' l1 = some (.lst (ds.map V.int)) ∧ ds.length = i ∧ (∀ (i : Nat) (x : Int), ds[i]? = some x → 0 ≤ x ∧ x < 5040)) ⟨[], c, none, rfl, Chg.refl, e1, rfl, fun i x h => by simp at h⟩ ?_ ?_
    · rintro i σ H2 hi ⟨ds, r, v5, rfl, c2, e2, hl, hd⟩
      walk_at "rd"
      refine ⟨.inl ⟨rfl, _, sqL e2⟩, ?_⟩
      walk_at "rd"
      refine r_rI (.inl ⟨by omega, by omega⟩) ?_
      walk_at "rd"
      refine r_rAppend e2 (by rw [List.length_map]; exact small1000 (by omega)) ?_
      generalize eH : upd H2 l1 _ = H3
      obtain ⟨e3, k3⟩ := put eH e2
      walk_at "rd"
      refine ⟨ds ++ [(r + (0 + (i : Int) + 1) * salt) % 5040], _, _, rfl, c2.trans k3, ?_, ?_, ?_⟩
      · rw [List.map_append]; exact e3
      · rw [List.length_append, hl]; rfl
      · intro j x hj
        by_cases z : j < ds.length
        · rw [List.getElem?_append_left z] at hj
          exact hd j x hj
        · rw [List.getElem?_append_right (by omega)] at hj
          have : x = (r + (0 + (i : Int) + 1) * salt) % 5040 := by
            cases e : j - ds.length with
            | zero => rw [e] at hj; exact (Option.some.inj hj).symm
            | succ m => rw [e] at hj; simp at hj
          rw [this]
          exact ⟨Int.emod_nonneg _ (by decide), Int.emod_lt_of_pos _ (by decide)⟩
    · rintro σ H2 ⟨ds, r, v5, rfl, c2, e2, hl, hd⟩
      walk_at "rd"
      exact q ds l1 H2 hl hd n1 (c1.then c2 n1) e2
end
end Sm
set_option maxHeartbeats 4000000
namespace Sm
open PySem PySem.Spec PyProof.Rows L2
local macro_rules | `(tactic| walk_at "rd1") => `(tactic| first
  | (with_reducible refine r_seq ?_) | (with_reducible refine r_asg ?_) | (with_reducible refine r_gname ?_)
  | ((with_reducible refine' r_var ?e ?_); (case e => rfl)) | (with_reducible refine r_c ?_)
  | (with_reducible refine r_ret ?_) | (with_reducible refine r_retN ?_) | (with_reducible refine r_drop ?_) | (with_reducible refine r_next ?_) | (with_reducible refine r_ifs ?_)
  | (with_reducible refine r_op ?_) | (with_reducible refine r_rI0 ?_)
  | (with_reducible refine r_test ?_) | (with_reducible refine r_tb ?_) | (with_reducible refine Exists.intro _ (And.intro (Eq.refl (V.bl _)) ?_))
  | (with_reducible refine r_nil ?_) | (with_reducible refine r_cons ?_) | (with_reducible refine r_cb ?_) | (with_reducible refine r_call ?_)
  | (with_reducible refine r_callS ?_) | (with_reducible refine r_meth ?_) | (with_reducible refine r_ownIx ?_) | (with_reducible refine r_ownSet ?_)
  | (with_reducible refine r_not ?_) | (with_reducible refine r_and ?_) | (with_reducible refine r_or ?_)
  | (with_reducible refine r_lst ?_) | (with_reducible refine r_tup ?_) | (with_reducible refine Or.inl (Exists.intro _ (And.intro (Eq.refl [V.int _]) ?_)))
  | ((with_reducible refine r_rI ?c ?_); (case c => first | (show (0 : Int) < _; decide) | exact ⟨by decide, by decide⟩))
  | (with_reducible refine r_for ?_) | (with_reducible refine r_rng1 ?_) | (with_reducible refine r_rng2 ?_) | (with_reducible refine r_ilist ?_) | (with_reducible refine r_itup ?_)
  | (with_reducible refine r_m0 ?_) | (with_reducible refine r_m1 ?_) | (with_reducible refine r_isStr ?_) | (with_reducible refine r_newS ?_) | (with_reducible refine r_fld ?_)
  | (with_reducible refine r_bm ?_) | (with_reducible refine r_bm0 ?_) | (with_reducible refine r_sl ?_) | (with_reducible refine r_nopart ?_) | (with_reducible refine r_part ?_)
  | (with_reducible refine r_pcons ?_) | (with_reducible refine r_pnil ?_) | (with_reducible refine r_dget2 ?_) | (with_reducible refine r_dget1 ?_)
  | (with_reducible refine r_lc ?_) | (with_reducible refine r_yes ?_)
  | (with_reducible refine r_un ?_) | (with_reducible refine r_rU ?_)
  | (with_reducible refine r_disp ?_) | (with_reducible refine r_andV ?_) | (with_reducible refine r_orV ?_) | (with_reducible refine r_notV ?_) | (with_reducible refine r_dnewK ?_)
  | (with_reducible refine r_dget ?_) | (with_reducible refine r_dput ?_)
  | ((with_reducible refine r_rEq ?e ?_); (case e => rfl)) | ((with_reducible refine r_rNe ?e ?_); (case e => rfl)))
local macro_rules | `(tactic| walk_at "rd") => `(tactic| repeat (walk_at "rd1"))
section
variable {P : Program} {w : World} {K : PySem.W.Frag} {mg : Str → Option Value} {base : Heap}
/-! ### books -/
def bookFs (d : Addr) : List (Str × V) := [("held", .ref d)]
/-- a book at p with the choices cs, its dict at d -/
structure BookAt (K : PySem.W.Frag) (H : Hp) (p d : Addr) (cs : List Str) : Prop where
  ob : ∃ dx, H p = some (.ins (He.ga K "Book") dx (bookFs d))
  dc : H d = some (.dK (dcs cs))
theorem BookAt.ne {H : Hp} {p d : Addr} {cs : List Str} (b : BookAt K H p d cs) : p ≠ d := by
  obtain ⟨dx, e⟩ := b.ob
  exact ne_of e b.dc (by intro z; cases z)
theorem BookAt.chg {S : List Addr} {H H' : Hp} {p d : Addr} {cs : List Str} (b : BookAt K H p d cs) (c : Chg S H H') (h1 : p ∉ S) (h2 : d ∉ S) : BookAt K H' p d cs := by
  obtain ⟨dx, e⟩ := b.ob
  exact ⟨⟨dx, c.keep _ _ e h1⟩, c.keep _ _ b.dc h2⟩
/-- the choices of the i-th entry, off the module's table -/
theorem Tx.ch (T : Tx w K mg) : ∀ i, i < 10 → tabAt "CHOICES" (ent i) (chs i) K = true := ten T.CH0 T.CH1 T.CH2 T.CH3 T.CH4 T.CH5 T.CH6 T.CH7 T.CH8 T.CH9
theorem Tx.choices (T : Tx w K mg) {i : Nat} (hi : i < 10) : ∃ a, KDct K w (He.ga K "CHOICES") (ent i) (.ref a) ∧ ∀ H, SqT K H a ((chs i).map V.str) := by
  obtain ⟨a, e, h⟩ := tabAt_ok (T.ch i hi)
  obtain ⟨es, n, D⟩ := T.kd_CHOICES
  exact ⟨a, ⟨es, n, _, D.at_, D.lit, e, rfl⟩, h⟩
theorem Tx.entries (T : Tx w K mg) (H : Hp) : SqT K H (He.ga K "ENTRIES") (entriesL.map V.str) := He.tupB_ok T.ENTRIES H
theorem flat_strs (ys : List Str) : (ys.map V.str).all flatV = true := by
  rw [List.all_eq_true]
  intro x hx
  obtain ⟨y, _, rfl⟩ := List.mem_map.mp hx
  rfl
theorem inV_strs (x : Str) (ys : List Str) : inV (.str x) (ys.map V.str) = decide (x ∈ ys) := by
  induction ys with
  | nil => rfl
  | cons y r ih =>
    have h1 : inV (.str x) ((y :: r).map V.str) = (eqV (.str y) (.str x) || inV (.str x) (r.map V.str)) := rfl
    rw [h1, ih]
    have h2 : eqV (.str y) (.str x) = decide (y = x) := rfl
    rw [h2]
    by_cases e : y = x
    · subst e; simp
    · have e2 : ¬ x = y := fun z => e z.symm
      simp [e, e2]
/-- a raise of the class x without an __init__ -/
abbrev Bad (K : PySem.W.Frag) (x : Str) (S : List Addr) (H : Hp) (E : XK) : Prop := ∀ H', Chg S H H' → E (.ref (He.ga K x)) none H'
def sp_Book_init (K : PySem.W.Frag) : Sp := fun vs H Q E => ∃ (p dx : Addr) (ws : List Str), vs = .ref p :: ws.map V.str ∧ ws.length = 10 ∧ H p = some (.ins (He.ga K "Book") dx []) ∧
  (OkB ws → ∀ d H', H d = none → Chg [p] H H' → BookAt K H' p d ws → Q .non H') ∧ (¬ OkB ws → Bad K "InvalidBook" [p] H E)
theorem ok_Book_init (T : Tx w K mg) : ∃ fd, FnOk P w K mg base (L2.CX P w) 1 (He.fAd K ("Book", some "__init__")) fd ["self", "work", "write", "meet", "test", "partly", "value", "path", "loop", "guard", "call"] (sp_Book_init K) ∧
    FunD K "__init__" "Book.__init__" (defArgs s_Book___init__) (defBody s_Book___init__) (defScope s_Book___init__) [] [("work", V.str "join"), ("write", V.str "stop"), ("meet", V.str "raise"), ("test", V.str "stop"), ("partly", V.str "stop"), ("value", V.str "stop"), ("path", V.str "stop"), ("loop", V.str "stop"), ("guard", V.str "stop"), ("call", V.str "stop")] (He.fAd K ("Book", some "__init__")) fd := by
  obtain ⟨fd, F⟩ := T.F_Book___init__
  refine ⟨fd, F.ok sc_Book___init__ (fun vs H Q E h => ?_) (fun cdv A outer s H vs Q E hr h => ?_), F⟩
  · obtain ⟨p, dx, ws, rfl, hl, _⟩ := h
    rw [List.length_cons, List.length_map, hl]
    rfl
  · obtain ⟨p, dx, ws, rfl, hl, hp, qg, qb⟩ := h
    have hu := hu_of hr
    obtain ⟨w0, w1, w2, w3, w4, w5, w6, w7, w8, w9, rfl⟩ : ∃ a b c d e f g h i j, ws = [a, b, c, d, e, f, g, h, i, j] := by
      match ws, hl with
      | [a, b, c, d, e, f, g, h, i, j], _ => exact ⟨a, b, c, d, e, f, g, h, i, j, rfl⟩
    refine ⟨_, (pss_cons (ps_set (i := 11) sc_Book___init__.nd rfl (Or.inl rfl) (pe_tup (pa_cons (pv 1) (pa_cons (pv 2) (pa_cons (pv 3) (pa_cons (pv 4) (pa_cons (pv 5) (pa_cons (pv 6) (pa_cons (pv 7) (pa_cons (pv 8) (pa_cons (pv 9) (pa_cons (pv 10) pa_nil))))))))))))
      (pss_cons (ps_fld (pv 0) pe_dnewK rfl)
      (pss_one (ps_for (passes_of rfl) rfl (pi_range1 rfl T.n_range (pa_cons (pe_callB call_len_seq (by rfl) T.n_len PySem.boot_len (pa_cons (pe_glob (v := .ref (He.ga K "ENTRIES")) rfl T.g_ENTRIES rfl) pa_nil)) pa_nil)) (pg_name (i := 12) sc_Book___init__.nd rfl (Or.inl rfl))
        (pss_cons (ps_if (pt_cmpR op_notIn_seq (pe_ix ix_tup (pv 11) (pv 12) (fun _ _ => rfl)) (pe_ix ix_kdict (pe_glob (v := .ref (He.ga K "CHOICES")) rfl T.g_CHOICES rfl) (pe_ix ix_tup (pe_glob (v := .ref (He.ga K "ENTRIES")) rfl T.g_ENTRIES rfl) (pv 12) (fun _ _ => rfl)) (fun _ _ => rfl)) rfl)
        (pss_one (ps_raise rfl (takes_of rfl rfl rfl rfl) (pmk_own PySem.F.excBase_ValueError (T.e_InvalidBook).1 T.g_InvalidBook (T.e_InvalidBook).2.1 (raises_own (T.e_InvalidBook).2.2.1 (T.e_InvalidBook).2.2.2) rfl)))
        pss_nil)
      (pss_one (ps_dput hu (pe_fld (pv 0) (by rfl)) (pe_ix ix_tup (pe_glob (v := .ref (He.ga K "ENTRIES")) rfl T.g_ENTRIES rfl) (pv 12) (fun _ _ => rfl)) (pe_ix ix_tup (pv 11) (pv 12) (fun _ _ => rfl)) rfl))))))), ?_⟩
    walk_at "rd"
    refine ⟨by show 10 ≤ sizeLine; decide, fun t ht => ?_⟩
    generalize eH : upd H t _ = H1
    obtain ⟨e1, k1, c1, n1⟩ : H1 t = some (.tup ([w0, w1, w2, w3, w4, w5, w6, w7, w8, w9].map V.str)) ∧ _ := laid (S := []) eH Chg.refl ht
    generalize hws : [w0, w1, w2, w3, w4, w5, w6, w7, w8, w9] = ws at *
    walk_at "rd"
    intro d hd
    generalize eH : upd H1 d _ = H2
    obtain ⟨e2, k2, c2, n2⟩ := laid eH c1 hd
    have e1 := k2.at e1
    walk_at "rd"
    refine ⟨p, _, dx, [], rfl, c2.at hp, T.c_Book, T.a_Book_held, by decide, ?_⟩
    generalize eH : upd H2 p _ = H3
    obtain ⟨e3, k3⟩ := put eH (c2.at hp)
    have npd : d ≠ p := (ne_of_none hp n2).symm
    have npt : t ≠ p := (ne_of_none hp n1).symm
    have e2 := k3.at1 e2 npd
    have e1 := k3.at1 e1 npt
    have c3 : Chg [p] H H3 := c2.up.trans k3
    walk_at "rd"
    refine ⟨_, _, rfl, .inr (T.entries H3), _, rfl, by decide, by decide, ?_⟩
    refine for_range (n := 10) (fun i σ H' => ∃ v12, σ = [some (.ref p), some (.str w0), some (.str w1), some (.str w2), some (.str w3), some (.str w4), some (.str w5), some (.str w6), some (.str w7), some (.str w8), some (.str w9), some (.ref t), v12] ∧ Chg [d] H3 H' ∧ H' d = some (.dK ((dcs ws).take i)) ∧ ∀ j (c : Str), j < i → ws[j]? = some c → c ∈ chs j) ⟨none, by rw [← hws]; rfl, Chg.refl, e2, fun j c h => absurd h (by omega)⟩ ?_ ?_
    · rintro i σ H4 hi ⟨v12, rfl, c4, e4, hg⟩
      have hdt : t ≠ d := ne_of e1 e2 (by intro z; cases z)
      have e1 := c4.at1 e1 hdt
      have e3 := c4.at1 e3 npd.symm
      obtain ⟨x, hx⟩ : ∃ x, ws[i]? = some x := ⟨ws[i]'(by omega), List.getElem?_eq_getElem _⟩
      obtain ⟨ca, hca, hct⟩ := T.choices hi
      walk_at "rd"
      rw [show (0 : Int) + (i : Nat) = (i : Nat) by omega]
      refine r_ixT (sqT e1) (atI_ofNat (strs_at hx)) ?_
      walk_at "rd"
      refine r_ixT (T.entries H4) (atI_ofNat (strs_at (ent_at hi))) ?_
      refine ⟨_, _, _, rfl, rfl, hca, ?_⟩
      refine ⟨_, _, rfl, .inr (hct H4), rfl, flat_strs _, ?_⟩
      rw [inV_strs]
      walk_at "rd"
      show if (!decide (x ∈ chs i)) = true then _ else _
      refine r_iteN (fun hbad => ?_) (fun hok => ?_)
      · exact qb (fun o => hbad (o.ch i x hx)) H4 (c3.then c4 n2)
      · walk_at "rd"
        refine r_ixT (sqT e1) (atI_ofNat (strs_at hx)) ?_
        walk_at "rd"
        refine ⟨_, _, _, _, _, rfl, e3, T.c_Book, T.a_Book_held, rfl, ?_⟩
        walk_at "rd"
        refine r_ixT (T.entries H4) (atI_ofNat (strs_at (ent_at hi))) ?_
        refine ⟨_, _, rfl, DPut.k (k := Sum.inr (ent i)) e4 (small1000 (by rw [List.length_take]; omega)), ?_⟩
        rw [dcs_take_put hl hi hx]
        generalize eH : upd H4 d _ = H5
        obtain ⟨e5, k5⟩ := put eH e4
        refine ⟨_, rfl, c4.trans k5, e5, fun j c hj hc => ?_⟩
        by_cases z : j < i
        · exact hg j c z hc
        · have : j = i := by omega
          subst this
          rw [hx] at hc
          cases hc
          exact hok
    · rintro σ H4 ⟨v12, rfl, c4, e4, hg⟩
      rw [List.take_of_length_le (Nat.le_of_eq (dcs_len hl))] at e4
      walk_at "rd"
      refine qg ⟨hl, fun i c hc => hg i c ?_ hc⟩ d H4 n2 (c3.then c4 n2) ⟨⟨dx, c4.at1 e3 npd.symm⟩, e4⟩
      rw [← hl]
      exact (List.getElem?_eq_some_iff.mp hc).1
end
end Sm
set_option maxHeartbeats 4000000
namespace Sm
open PySem PySem.Spec PyProof.Rows L2
local macro_rules | `(tactic| walk_at "rd1") => `(tactic| first
  | (with_reducible refine r_seq ?_) | (with_reducible refine r_asg ?_) | (with_reducible refine r_gname ?_)
  | ((with_reducible refine' r_var ?e ?_); (case e => rfl)) | (with_reducible refine r_c ?_)
  | (with_reducible refine r_ret ?_) | (with_reducible refine r_retN ?_) | (with_reducible refine r_drop ?_) | (with_reducible refine r_next ?_) | (with_reducible refine r_ifs ?_)
  | (with_reducible refine r_op ?_) | (with_reducible refine r_rI0 ?_)
  | (with_reducible refine r_test ?_) | (with_reducible refine r_tb ?_) | (with_reducible refine Exists.intro _ (And.intro (Eq.refl (V.bl _)) ?_))
  | (with_reducible refine r_nil ?_) | (with_reducible refine r_cons ?_) | (with_reducible refine r_cb ?_) | (with_reducible refine r_call ?_)
  | (with_reducible refine r_callS ?_) | (with_reducible refine r_meth ?_) | (with_reducible refine r_ownIx ?_) | (with_reducible refine r_ownSet ?_)
  | (with_reducible refine r_not ?_) | (with_reducible refine r_and ?_) | (with_reducible refine r_or ?_)
  | (with_reducible refine r_lst ?_) | (with_reducible refine r_tup ?_) | (with_reducible refine Or.inl (Exists.intro _ (And.intro (Eq.refl [V.int _]) ?_)))
  | ((with_reducible refine r_rI ?c ?_); (case c => first | (show (0 : Int) < _; decide) | exact ⟨by decide, by decide⟩))
  | (with_reducible refine r_for ?_) | (with_reducible refine r_rng1 ?_) | (with_reducible refine r_rng2 ?_) | (with_reducible refine r_ilist ?_) | (with_reducible refine r_itup ?_)
  | (with_reducible refine r_m0 ?_) | (with_reducible refine r_m1 ?_) | (with_reducible refine r_isStr ?_) | (with_reducible refine r_newS ?_) | (with_reducible refine r_fld ?_)
  | (with_reducible refine r_bm ?_) | (with_reducible refine r_bm0 ?_) | (with_reducible refine r_sl ?_) | (with_reducible refine r_nopart ?_) | (with_reducible refine r_part ?_)
  | (with_reducible refine r_pcons ?_) | (with_reducible refine r_pnil ?_) | (with_reducible refine r_dget2 ?_) | (with_reducible refine r_dget1 ?_)
  | (with_reducible refine r_lc ?_) | (with_reducible refine r_yes ?_)
  | (with_reducible refine r_un ?_) | (with_reducible refine r_rU ?_)
  | (with_reducible refine r_disp ?_) | (with_reducible refine r_andV ?_) | (with_reducible refine r_orV ?_) | (with_reducible refine r_notV ?_) | (with_reducible refine r_dnewK ?_)
  | (with_reducible refine r_dget ?_) | (with_reducible refine r_dput ?_)
  | ((with_reducible refine r_rEq ?e ?_); (case e => rfl)) | ((with_reducible refine r_rNe ?e ?_); (case e => rfl)))
local macro_rules | `(tactic| walk_at "rd") => `(tactic| repeat (walk_at "rd1"))
section
variable {P : Program} {w : World} {K : PySem.W.Frag} {mg : Str → Option Value} {base : Heap}
theorem mem_entries {e : Str} (h : e ∈ entriesL) : ∃ i, i < 10 ∧ e = ent i := by
  obtain ⟨i, hi, he⟩ := List.getElem_of_mem h
  have h10 : i < 10 := hi
  have := ent_at h10
  rw [List.getElem?_eq_getElem hi] at this
  exact ⟨i, h10, he.symm.trans (Option.some.inj this)⟩
theorem ent_mem {i : Nat} (h : i < 10) : ent i ∈ entriesL := List.mem_of_getElem? (ent_at h)
def sp_Book_get (K : PySem.W.Frag) : Sp := fun vs H Q E => ∃ (p d : Addr) (cs : List Str) (e : Str), vs = [.ref p, .str e] ∧ BookAt K H p d cs ∧ cs.length = 10 ∧
  (∀ (i : Nat) (c : Str), i < 10 → e = ent i → cs[i]? = some c → Q (.str c) H) ∧ (¬ e ∈ entriesL → Bad K "InvalidBook" [] H E)
theorem ok_Book_get (T : Tx w K mg) : ∃ fd, FnOk P w K mg base (L2.CX P w) 1 (He.fAd K ("Book", some "__getitem__")) fd ["self", "entry"] (sp_Book_get K) ∧ Binds K fd ["self", "entry"] [] := by
  obtain ⟨fd, F⟩ := T.F_Book___getitem__
  refine ⟨fd, F.okX sc_Book___getitem__ (fun vs H Q E h => ?_) (fun cdv A outer s H vs Q E hr h => ?_), F.binds fun _ _ _ _ _ _ us hl => match us, hl with | [_, _], _ => rfl⟩
  · obtain ⟨p, d, cs, e, rfl, _⟩ := h
    rfl
  · obtain ⟨p, d, cs, e, rfl, B, hl, qg, qb⟩ := h
    have hu := hu_of hr
    obtain ⟨⟨dx, ep⟩, ed⟩ := id B
    refine ⟨_, (pss_cons (ps_if (pt_cmpR op_notIn_seq (pv 1) (pe_glob (v := .ref (He.ga K "ENTRIES")) rfl T.g_ENTRIES rfl) rfl)
        (pss_one (ps_raise rfl (takes_of rfl rfl rfl rfl) (pmk_own PySem.F.excBase_ValueError (T.e_InvalidBook).1 T.g_InvalidBook (T.e_InvalidBook).2.1 (raises_own (T.e_InvalidBook).2.2.1 (T.e_InvalidBook).2.2.2) rfl)))
        pss_nil)
      (pss_one (ps_ret (pe_dget hu (pe_fld (pv 0) (by rfl)) (pv 1) (fun _ _ => rfl))))), ?_⟩
    walk_at "rd"
    refine ⟨_, _, rfl, .inr (T.entries H), rfl, flat_strs _, ?_⟩
    rw [inV_strs]
    walk_at "rd"
    show if (!decide (e ∈ entriesL)) = true then _ else _
    refine r_iteN (fun hbad => ?_) (fun hok => ?_)
    · exact qb hbad H Chg.refl
    · obtain ⟨i, hi, rfl⟩ := mem_entries hok
      obtain ⟨c, hc⟩ : ∃ c, cs[i]? = some c := ⟨cs[i]'(by omega), List.getElem?_eq_getElem _⟩
      walk_at "rd"
      refine ⟨_, _, _, _, _, rfl, ep, T.c_Book, T.a_Book_held, rfl, ?_⟩
      walk_at "rd"
      refine ⟨_, _, rfl, ?_, qg i c hi rfl hc⟩
      have z := DGet.k (k := Sum.inr (ent i)) ed
      rw [dcs_get hl hi hc] at z
      exact z
def sp_Book_set (K : PySem.W.Frag) : Sp := fun vs H Q E => ∃ (p d : Addr) (cs : List Str) (e c : Str), vs = [.ref p, .str e, .str c] ∧ BookAt K H p d cs ∧ cs.length = 10 ∧
  (∀ i, i < 10 → e = ent i → c ∈ chs i → ∀ H', Chg [d] H H' → BookAt K H' p d (cs.set i c) → Q .non H') ∧ (¬ (∃ i, i < 10 ∧ e = ent i ∧ c ∈ chs i) → Bad K "InvalidBook" [] H E)
theorem ok_Book_set (T : Tx w K mg) : ∃ fd, FnOk P w K mg base (L2.CX P w) 1 (He.fAd K ("Book", some "__setitem__")) fd ["self", "entry", "choice"] (sp_Book_set K) ∧ Binds K fd ["self", "entry", "choice"] [] := by
  obtain ⟨fd, F⟩ := T.F_Book___setitem__
  refine ⟨fd, F.okX sc_Book___setitem__ (fun vs H Q E h => ?_) (fun cdv A outer s H vs Q E hr h => ?_), F.binds fun _ _ _ _ _ _ us hl => match us, hl with | [_, _, _], _ => rfl⟩
  · obtain ⟨p, d, cs, e, c, rfl, _⟩ := h
    rfl
  · obtain ⟨p, d, cs, e, c, rfl, B, hl, qg, qb⟩ := h
    have hu := hu_of hr
    obtain ⟨⟨dx, ep⟩, ed⟩ := id B
    refine ⟨_, (pss_cons (ps_if (PW.pt (pw_or (pt_cmpR op_notIn_seq (pv 1) (pe_glob (v := .ref (He.ga K "ENTRIES")) rfl T.g_ENTRIES rfl) rfl) (pw_or1 (pt_cmpR op_notIn_seq (pv 2) (pe_ix ix_kdict (pe_glob (v := .ref (He.ga K "CHOICES")) rfl T.g_CHOICES rfl) (pv 1) (fun _ _ => rfl)) rfl))))
        (pss_one (ps_raise rfl (takes_of rfl rfl rfl rfl) (pmk_own PySem.F.excBase_ValueError (T.e_InvalidBook).1 T.g_InvalidBook (T.e_InvalidBook).2.1 (raises_own (T.e_InvalidBook).2.2.1 (T.e_InvalidBook).2.2.2) rfl)))
        pss_nil)
      (pss_one (ps_dput hu (pe_fld (pv 0) (by rfl)) (pv 1) (pv 2) rfl))), ?_⟩
    walk_at "rd"
    refine ⟨_, _, rfl, .inr (T.entries H), rfl, flat_strs _, ?_⟩
    rw [inV_strs]
    walk_at "rd"
    show if (!decide (e ∈ entriesL)) = true then _ else _
    refine r_iteN (fun hbad => ?_) (fun hok => ?_)
    · refine iteT ?_
      exact qb (fun ⟨i, hi, he, _⟩ => hbad (by rw [he]; exact ent_mem hi)) H Chg.refl
    · obtain ⟨i, hi, rfl⟩ := mem_entries hok
      obtain ⟨ca, hca, hct⟩ := T.choices hi
      walk_at "rd"
      refine ⟨_, _, _, rfl, rfl, hca, ?_⟩
      refine ⟨_, _, rfl, .inr (hct H), rfl, flat_strs _, ?_⟩
      rw [inV_strs]
      walk_at "rd"
      show if (!decide (c ∈ chs i)) = true then _ else _
      refine r_iteN (fun hbad => ?_) (fun hok => ?_)
      · exact qb (fun ⟨j, hj, he, hc⟩ => hbad (by rw [ent_inj hi hj he]; exact hc)) H Chg.refl
      · walk_at "rd"
        refine ⟨_, _, _, _, _, rfl, ep, T.c_Book, T.a_Book_held, rfl, ?_⟩
        walk_at "rd"
        refine ⟨_, _, rfl, DPut.k (k := Sum.inr (ent i)) ed (small1000 (by rw [dcs_len hl]; decide)), ?_⟩
        rw [dcs_put hl hi]
        generalize eH : upd H d _ = H1
        obtain ⟨e1, k1⟩ := put eH ed
        exact qg i hi rfl hok H1 k1 ⟨⟨dx, k1.at1 ep B.ne⟩, e1⟩
/-- the ten keyword defaults bound: Book() -/
theorem binds_Book0 {fd : FuncData} (F : FunD K "__init__" "Book.__init__" (defArgs s_Book___init__) (defBody s_Book___init__) (defScope s_Book___init__) [] [("work", V.str "join"), ("write", V.str "stop"), ("meet", V.str "raise"), ("test", V.str "stop"), ("partly", V.str "stop"), ("value", V.str "stop"), ("path", V.str "stop"), ("loop", V.str "stop"), ("guard", V.str "stop"), ("call", V.str "stop")] (He.fAd K ("Book", some "__init__")) fd) :
    ∃ ds, Vals ((["join", "stop", "raise", "stop", "stop", "stop", "stop", "stop", "stop", "stop"] : List Str).map V.str) ds ∧ Binds K fd ["self", "work", "write", "meet", "test", "partly", "value", "path", "loop", "guard", "call"] ds :=
  F.binds0 1 (by simp) rfl fun D doc pm an cdv ct us ks h1 h2 => match us, ks, h1, h2 with
    | [u], [k0, k1, k2, k3, k4, k5, k6, k7, k8, k9], _, _ => by
      refine ⟨_, _, _, _, _, _, rfl, rfl, ?_⟩
      refine ⟨_, _, _, _, _, _, rfl, rfl, ?_⟩
      refine ⟨_, _, _, _, _, _, rfl, rfl, ?_⟩
      refine ⟨_, _, _, _, _, _, rfl, rfl, ?_⟩
      refine ⟨_, _, _, _, _, _, rfl, rfl, ?_⟩
      refine ⟨_, _, _, _, _, _, rfl, rfl, ?_⟩
      refine ⟨_, _, _, _, _, _, rfl, rfl, ?_⟩
      refine ⟨_, _, _, _, _, _, rfl, rfl, ?_⟩
      refine ⟨_, _, _, _, _, _, rfl, rfl, ?_⟩
      refine ⟨_, _, _, _, _, _, rfl, rfl, ?_⟩
      rfl
def defaultB : List Str := ["join", "stop", "raise", "stop", "stop", "stop", "stop", "stop", "stop", "stop"]
theorem okB_default : OkB defaultB := OkB.of (by decide +kernel)
end
end Sm
set_option maxHeartbeats 4000000
namespace Sm
open PySem PySem.Spec PyProof.Rows L2
local macro_rules | `(tactic| walk_at "rd1") => `(tactic| first
  | (with_reducible refine r_seq ?_) | (with_reducible refine r_asg ?_) | (with_reducible refine r_gname ?_)
  | ((with_reducible refine' r_var ?e ?_); (case e => rfl)) | (with_reducible refine r_c ?_)
  | (with_reducible refine r_ret ?_) | (with_reducible refine r_retN ?_) | (with_reducible refine r_drop ?_) | (with_reducible refine r_next ?_) | (with_reducible refine r_ifs ?_)
  | (with_reducible refine r_op ?_) | (with_reducible refine r_rI0 ?_)
  | (with_reducible refine r_test ?_) | (with_reducible refine r_tb ?_) | (with_reducible refine Exists.intro _ (And.intro (Eq.refl (V.bl _)) ?_))
  | (with_reducible refine r_nil ?_) | (with_reducible refine r_cons ?_) | (with_reducible refine r_cb ?_) | (with_reducible refine r_call ?_)
  | (with_reducible refine r_callS ?_) | (with_reducible refine r_meth ?_) | (with_reducible refine r_ownIx ?_) | (with_reducible refine r_ownSet ?_)
  | (with_reducible refine r_not ?_) | (with_reducible refine r_and ?_) | (with_reducible refine r_or ?_)
  | (with_reducible refine r_lst ?_) | (with_reducible refine r_tup ?_) | (with_reducible refine Or.inl (Exists.intro _ (And.intro (Eq.refl [V.int _]) ?_)))
  | ((with_reducible refine r_rI ?c ?_); (case c => first | (show (0 : Int) < _; decide) | exact ⟨by decide, by decide⟩))
  | (with_reducible refine r_for ?_) | (with_reducible refine r_rng1 ?_) | (with_reducible refine r_rng2 ?_) | (with_reducible refine r_ilist ?_) | (with_reducible refine r_itup ?_)
  | (with_reducible refine r_m0 ?_) | (with_reducible refine r_m1 ?_) | (with_reducible refine r_isStr ?_) | (with_reducible refine r_newS ?_) | (with_reducible refine r_fld ?_)
  | (with_reducible refine r_bm ?_) | (with_reducible refine r_bm0 ?_) | (with_reducible refine r_sl ?_) | (with_reducible refine r_nopart ?_) | (with_reducible refine r_part ?_)
  | (with_reducible refine r_pcons ?_) | (with_reducible refine r_pnil ?_) | (with_reducible refine r_dget2 ?_) | (with_reducible refine r_dget1 ?_)
  | (with_reducible refine r_lc ?_) | (with_reducible refine r_yes ?_)
  | (with_reducible refine r_un ?_) | (with_reducible refine r_rU ?_)
  | (with_reducible refine r_disp ?_) | (with_reducible refine r_andV ?_) | (with_reducible refine r_orV ?_) | (with_reducible refine r_notV ?_) | (with_reducible refine r_dnewK ?_)
  | (with_reducible refine r_dget ?_) | (with_reducible refine r_dput ?_)
  | ((with_reducible refine r_rEq ?e ?_); (case e => rfl)) | ((with_reducible refine r_rNe ?e ?_); (case e => rfl)))
local macro_rules | `(tactic| walk_at "rd") => `(tactic| repeat (walk_at "rd1"))
section
variable {P : Program} {w : World} {K : PySem.W.Frag} {mg : Str → Option Value} {base : Heap}
def sp_lawbook (K : PySem.W.Frag) : Sp := fun vs H Q _ => ∃ (a : Addr) (cs : List Str), vs = [.ref a] ∧ OkB cs ∧ H a = some (.dK (dcs cs)) ∧ ∀ p d H', H p = none → H d = none → Chg [] H H' → BookAt K H' p d cs → Q (.ref p) H'
theorem ok_lawbook (T : Tx w K mg) : ∃ fd, FnOk P w K mg base CX0 3 (He.fAd K ("_law_book", none)) fd ["picks"] (sp_lawbook K) ∧ Binds K fd ["picks"] [] := by
  obtain ⟨fd, F⟩ := T.F__law_book
  obtain ⟨fdI, G_Book___init__, FI⟩ := ok_Book_init (P := P) (w := w) (base := base) T
  obtain ⟨ds, hds, b_Book___init__⟩ := binds_Book0 FI
  obtain ⟨fdS, G_set, b_set⟩ := ok_Book_set (P := P) (w := w) (base := base) T
  obtain ⟨fdE, G__law_entries, b__law_entries⟩ := ok_entries (P := P) (w := w) (base := base) T
  refine ⟨fd, F.ok sc__law_book (fun vs H Q E h => ?_) (fun cdv A outer s H vs Q E hr h => ?_), F.binds fun _ _ _ _ _ _ us hl => match us, hl with | [_], _ => rfl⟩
  · obtain ⟨a, cs, rfl, _⟩ := h
    rfl
  · obtain ⟨a, cs, rfl, hcs, ha, q⟩ := h
    have hu := hu_of hr
    have hr1 : Room 1 _ := hr.mono (by decide)
    refine ⟨_, (pss_cons (ps_set (i := 1) sc__law_book.nd rfl (Or.inl rfl) (pe_make0 T.mk_Book G_Book___init__ hr (by rfl) T.g_Book b_Book___init__ hds passL))
      (pss_cons (ps_for PassesOwn.never rfl (pi_list (pe_call0 G__law_entries (hr.mono (by decide)) (by rfl) T.g__law_entries T.k__law_entries b__law_entries .nil pass0)) (pg_name (i := 2) sc__law_book.nd rfl (Or.inl rfl))
        (pss_one (ps_asg (pe_dget hu (pv 0) (pv 2) (fun _ _ => rfl)) (pg_ownSet T.sm_Book G_set hr1 b_set (fun _ => passAt0) (pv 1) (pv 2)))))
      (pss_one (ps_ret (pv 1))))), ?_⟩
    walk_at "rd"
    intro p dx hp hdx hne
    refine ⟨p, dx, defaultB, rfl, rfl, upd_same, fun _ d H1 hd c1 B1 => ⟨rfl, ?_⟩, fun z => (z okB_default).elim⟩
    have c0 : Chg [] H (upd (upd H dx (.own p)) p (.ins (He.ga K "Book") dx [])) := (Chg.new hdx).trans (Chg.new (by rw [upd_ne hne.symm]; exact hp))
    have n_d : H d = none := c0.fresh hd
    have c1 : Chg [] H H1 := c0.then c1 hp
    walk_at "rd"
    refine ⟨rfl, fun l h2 => ?_⟩
    generalize eH : upd H1 l _ = H2
    obtain ⟨e2, k2, c2, n2⟩ := laid eH c1 h2
    have B2 := B1.chg k2 nm0 nm0
    refine ⟨_, rfl, ⟨_, sqL e2⟩, ?_⟩
    have hld : l ≠ d := ne_of e2 B2.dc (by intro z; cases z)
    refine for_list (K := K) (a := l) (xs := entriesL.map V.str) (fun i σ H' => ∃ (v2 : Option V) (bs : List Str), σ = [some (.ref a), some (.ref p), v2] ∧ Chg [d] H2 H' ∧ BookAt K H' p d bs ∧ OkB bs ∧ (∀ j, j < i → bs[j]? = cs[j]?)) ⟨none, defaultB, rfl, Chg.refl, B2, okB_default, fun j h => absurd h (by omega)⟩
      (fun i σ H' _ ⟨_, _, _, c3, _⟩ => sqL (c3.at1 e2 hld)) ?_ ?_
    · rintro i y σ H3 hy ⟨v2, bs, rfl, c3, B3, hb, h1⟩
      obtain ⟨hi, rfl⟩ : i < 10 ∧ y = .str (ent i) := by
        have hi : i < (entriesL.map V.str).length := (List.getElem?_eq_some_iff.mp hy).1
        have hi10 : i < 10 := by rw [List.length_map] at hi; exact hi
        rw [strs_at (ent_at hi10)] at hy
        exact ⟨hi10, (Option.some.inj hy).symm⟩
      obtain ⟨c, hc, hcc⟩ := hcs.at hi
      have had : a ≠ d := ne_of_none ha n_d
      have ea := c3.at1 (c2.at ha) had
      obtain ⟨⟨dx3, ep3⟩, _⟩ := id B3
      walk_at "rd"
      refine ⟨_, _, rfl, DGet.k (k := Sum.inr (ent i)) ea |> (fun z => by rw [dcs_get hcs.len hi hc] at z; exact z), ?_⟩
      walk_at "rd"
      refine ⟨p, dx3, _, rfl, ep3, ?_⟩
      refine ⟨p, d, bs, _, _, rfl, B3, hb.len, fun j hj he hcj H4 k4 B4 => ?_, fun hbad => (hbad ⟨i, hi, rfl, hcc⟩).elim⟩
      have := ent_inj hi hj he
      subst this
      refine ⟨_, bs.set i c, rfl, c3.trans k4, B4, hb.set hcj, fun j hj => ?_⟩
      by_cases z : j = i
      · subst z
        rw [List.getElem?_set_self (by rw [hb.len]; exact hi), hc]
      · rw [List.getElem?_set_ne (Ne.symm z)]
        exact h1 j (by omega)
    · rintro σ H3 ⟨v2, bs, rfl, c3, B3, hb, h1⟩
      have hbs : bs = cs := List.ext_getElem? fun j => by
        by_cases z : j < 10
        · exact h1 j (by rw [List.length_map]; exact z)
        · rw [List.getElem?_eq_none (by rw [hb.len]; omega), List.getElem?_eq_none (by rw [hcs.len]; omega)]
      subst hbs
      walk_at "rd"
      exact q p d H3 hp n_d (c2.then c3 n_d) B3
end
end Sm
set_option maxHeartbeats 4000000
namespace Sm
open PySem PySem.Spec PyProof.Rows L2
local macro_rules | `(tactic| walk_at "rd1") => `(tactic| first
  | (with_reducible refine r_seq ?_) | (with_reducible refine r_asg ?_) | (with_reducible refine r_gname ?_)
  | ((with_reducible refine' r_var ?e ?_); (case e => rfl)) | (with_reducible refine r_c ?_)
  | (with_reducible refine r_ret ?_) | (with_reducible refine r_retN ?_) | (with_reducible refine r_drop ?_) | (with_reducible refine r_next ?_) | (with_reducible refine r_ifs ?_)
  | (with_reducible refine r_op ?_) | (with_reducible refine r_rI0 ?_)
  | (with_reducible refine r_test ?_) | (with_reducible refine r_tb ?_) | (with_reducible refine Exists.intro _ (And.intro (Eq.refl (V.bl _)) ?_))
  | (with_reducible refine r_nil ?_) | (with_reducible refine r_cons ?_) | (with_reducible refine r_cb ?_) | (with_reducible refine r_call ?_)
  | (with_reducible refine r_callS ?_) | (with_reducible refine r_meth ?_) | (with_reducible refine r_ownIx ?_) | (with_reducible refine r_ownSet ?_)
  | (with_reducible refine r_not ?_) | (with_reducible refine r_and ?_) | (with_reducible refine r_or ?_)
  | (with_reducible refine r_lst ?_) | (with_reducible refine r_tup ?_) | (with_reducible refine Or.inl (Exists.intro _ (And.intro (Eq.refl [V.int _]) ?_)))
  | ((with_reducible refine r_rI ?c ?_); (case c => first | (show (0 : Int) < _; decide) | exact ⟨by decide, by decide⟩))
  | (with_reducible refine r_for ?_) | (with_reducible refine r_rng1 ?_) | (with_reducible refine r_rng2 ?_) | (with_reducible refine r_ilist ?_) | (with_reducible refine r_itup ?_)
  | (with_reducible refine r_m0 ?_) | (with_reducible refine r_m1 ?_) | (with_reducible refine r_isStr ?_) | (with_reducible refine r_newS ?_) | (with_reducible refine r_fld ?_)
  | (with_reducible refine r_bm ?_) | (with_reducible refine r_bm0 ?_) | (with_reducible refine r_sl ?_) | (with_reducible refine r_nopart ?_) | (with_reducible refine r_part ?_)
  | (with_reducible refine r_pcons ?_) | (with_reducible refine r_pnil ?_) | (with_reducible refine r_dget2 ?_) | (with_reducible refine r_dget1 ?_)
  | (with_reducible refine r_lc ?_) | (with_reducible refine r_yes ?_)
  | (with_reducible refine r_un ?_) | (with_reducible refine r_rU ?_)
  | (with_reducible refine r_disp ?_) | (with_reducible refine r_andV ?_) | (with_reducible refine r_orV ?_) | (with_reducible refine r_notV ?_) | (with_reducible refine r_dnewK ?_)
  | (with_reducible refine r_dget ?_) | (with_reducible refine r_dput ?_)
  | ((with_reducible refine r_rEq ?e ?_); (case e => rfl)) | ((with_reducible refine r_rNe ?e ?_); (case e => rfl)))
local macro_rules | `(tactic| walk_at "rd") => `(tactic| repeat (walk_at "rd1"))
section
variable {P : Program} {w : World} {K : PySem.W.Frag} {mg : Str → Option Value} {base : Heap}
def sp_rb (K : PySem.W.Frag) : Sp := fun vs H Q _ => ∃ (b d : Addr) (cs : List Str), vs = [.ref b] ∧ BookAt K H b d cs ∧ OkB cs ∧ ∀ p H', H p = none → Chg [] H H' → H' p = some (.dK (dcs cs)) → Q (.ref p) H'
theorem ok_rb (T : Tx w K mg) : ∃ fd, FnOk P w K mg base CX0 3 (He.fAd K ("_law_read_book", none)) fd ["book"] (sp_rb K) ∧ Binds K fd ["book"] [] := by
  obtain ⟨fd, F⟩ := T.F__law_read_book
  obtain ⟨fdE, G__law_entries, b__law_entries⟩ := ok_entries (P := P) (w := w) (base := base) T
  obtain ⟨fdG, G_Book_get, b_Book_get⟩ := ok_Book_get (P := P) (w := w) (base := base) T
  refine ⟨fd, F.ok sc__law_read_book (fun vs H Q E h => ?_) (fun cdv A outer s H vs Q E hr h => ?_), F.binds fun _ _ _ _ _ _ us hl => match us, hl with | [_], _ => rfl⟩
  · obtain ⟨b, d, cs, rfl, _⟩ := h
    rfl
  · obtain ⟨b, d, cs, rfl, B, hc, q⟩ := h
    have hu := hu_of hr
    refine ⟨_, (pss_cons (ps_set (i := 1) sc__law_read_book.nd rfl (Or.inl rfl) pe_dnewK)
      (pss_cons (ps_for PassesOwn.never rfl (pi_list (pe_call0 G__law_entries (hr.mono (by decide)) (by rfl) T.g__law_entries T.k__law_entries b__law_entries .nil pass0)) (pg_name (i := 2) sc__law_read_book.nd rfl (Or.inl rfl))
        (pss_one (ps_dput hu (pv 1) (pv 2) (pe_ownIx T.gm_Book G_Book_get (hr.mono (by decide)) b_Book_get (fun _ => passAt0) (pv 0) (pv 2)) rfl)))
      (pss_one (ps_ret (pv 1))))), ?_⟩
    walk_at "rd"
    intro p hp
    generalize eH : upd H p _ = H1
    obtain ⟨e1, _, c1, n1⟩ := laid (S := []) eH Chg.refl hp
    walk_at "rd"
    refine ⟨rfl, fun l h2 => ?_⟩
    generalize eH : upd H1 l _ = H2
    obtain ⟨e2, k2, c2, n2⟩ := laid eH c1 h2
    have hlp : l ≠ p := Ne.symm (ne_of_none e1 h2)
    refine ⟨_, rfl, ⟨_, sqL e2⟩, ?_⟩
    refine for_list (K := K) (a := l) (xs := entriesL.map V.str) (fun i σ H' => ∃ (v2 : Option V), σ = [some (.ref b), some (.ref p), v2] ∧ Chg [p] H2 H' ∧ H' p = some (.dK ((dcs cs).take i))) ⟨none, rfl, Chg.refl, k2.at e1⟩
      (fun i σ H' _ ⟨_, _, c3, _⟩ => sqL (c3.at1 e2 hlp)) ?_ ?_
    · rintro i y σ H3 hy ⟨v2, rfl, c3, e3⟩
      obtain ⟨hi, rfl⟩ : i < 10 ∧ y = .str (ent i) := by
        have hi : i < (entriesL.map V.str).length := (List.getElem?_eq_some_iff.mp hy).1
        have hi10 : i < 10 := by rw [List.length_map] at hi; exact hi
        rw [strs_at (ent_at hi10)] at hy
        exact ⟨hi10, (Option.some.inj hy).symm⟩
      obtain ⟨c, hcc, _⟩ := hc.at hi
      have c13 := c2.then c3 n1
      have B3 := B.chg c13 nm0 nm0
      obtain ⟨⟨dx, ep⟩, _⟩ := id B3
      walk_at "rd"
      refine ⟨b, dx, _, rfl, ep, ?_⟩
      refine ⟨b, d, cs, ent i, rfl, B3, hc.len, fun i' c' hi' he hc' => ?_, fun hb => absurd (ent_mem hi) hb⟩
      have := ent_inj hi hi' he
      subst this
      rw [hcc] at hc'
      cases hc'
      walk_at "rd"
      refine ⟨_, _, rfl, DPut.k (k := Sum.inr (ent i)) e3 (small1000 (by rw [List.length_take]; omega)), ?_⟩
      rw [dcs_take_put hc.len hi hcc]
      generalize eH : upd H3 p _ = H4
      obtain ⟨e4, k4⟩ := put eH e3
      exact ⟨_, rfl, c3.trans k4, e4⟩
    · rintro σ H3 ⟨v2, rfl, c3, e3⟩
      rw [List.length_map, entries_len, List.take_of_length_le (Nat.le_of_eq (dcs_len hc.len))] at e3
      walk_at "rd"
      exact q p H3 hp (c2.then c3 n1) e3
end
end Sm
set_option maxHeartbeats 4000000
namespace Sm
open PySem PySem.Spec PyProof.Rows L2
local macro_rules | `(tactic| walk_at "rd1") => `(tactic| first
  | (with_reducible refine r_seq ?_) | (with_reducible refine r_asg ?_) | (with_reducible refine r_gname ?_)
  | ((with_reducible refine' r_var ?e ?_); (case e => rfl)) | (with_reducible refine r_c ?_)
  | (with_reducible refine r_ret ?_) | (with_reducible refine r_retN ?_) | (with_reducible refine r_drop ?_) | (with_reducible refine r_next ?_) | (with_reducible refine r_ifs ?_)
  | (with_reducible refine r_op ?_) | (with_reducible refine r_rI0 ?_)
  | (with_reducible refine r_test ?_) | (with_reducible refine r_tb ?_) | (with_reducible refine Exists.intro _ (And.intro (Eq.refl (V.bl _)) ?_))
  | (with_reducible refine r_nil ?_) | (with_reducible refine r_cons ?_) | (with_reducible refine r_cb ?_) | (with_reducible refine r_call ?_)
  | (with_reducible refine r_callS ?_) | (with_reducible refine r_meth ?_) | (with_reducible refine r_ownIx ?_) | (with_reducible refine r_ownSet ?_)
  | (with_reducible refine r_not ?_) | (with_reducible refine r_and ?_) | (with_reducible refine r_or ?_)
  | (with_reducible refine r_lst ?_) | (with_reducible refine r_tup ?_) | (with_reducible refine Or.inl (Exists.intro _ (And.intro (Eq.refl [V.int _]) ?_)))
  | ((with_reducible refine r_rI ?c ?_); (case c => first | (show (0 : Int) < _; decide) | exact ⟨by decide, by decide⟩))
  | (with_reducible refine r_for ?_) | (with_reducible refine r_rng1 ?_) | (with_reducible refine r_rng2 ?_) | (with_reducible refine r_ilist ?_) | (with_reducible refine r_itup ?_)
  | (with_reducible refine r_m0 ?_) | (with_reducible refine r_m1 ?_) | (with_reducible refine r_isStr ?_) | (with_reducible refine r_newS ?_) | (with_reducible refine r_fld ?_)
  | (with_reducible refine r_bm ?_) | (with_reducible refine r_bm0 ?_) | (with_reducible refine r_sl ?_) | (with_reducible refine r_nopart ?_) | (with_reducible refine r_part ?_)
  | (with_reducible refine r_pcons ?_) | (with_reducible refine r_pnil ?_) | (with_reducible refine r_dget2 ?_) | (with_reducible refine r_dget1 ?_)
  | (with_reducible refine r_lc ?_) | (with_reducible refine r_yes ?_)
  | (with_reducible refine r_un ?_) | (with_reducible refine r_rU ?_)
  | (with_reducible refine r_disp ?_) | (with_reducible refine r_andV ?_) | (with_reducible refine r_orV ?_) | (with_reducible refine r_notV ?_) | (with_reducible refine r_dnewK ?_)
  | (with_reducible refine r_dget ?_) | (with_reducible refine r_dput ?_)
  | ((with_reducible refine r_rEq ?e ?_); (case e => rfl)) | ((with_reducible refine r_rNe ?e ?_); (case e => rfl)))
local macro_rules | `(tactic| walk_at "rd") => `(tactic| repeat (walk_at "rd1"))
section
variable {P : Program} {w : World} {K : PySem.W.Frag} {mg : Str → Option Value} {base : Heap}
theorem kb_all {fd : FuncData} (F : FunD K "__init__" "Book.__init__" (defArgs s_Book___init__) (defBody s_Book___init__) (defScope s_Book___init__) [] [("work", V.str "join"), ("write", V.str "stop"), ("meet", V.str "raise"), ("test", V.str "stop"), ("partly", V.str "stop"), ("value", V.str "stop"), ("path", V.str "stop"), ("loop", V.str "stop"), ("guard", V.str "stop"), ("call", V.str "stop")] (He.fAd K ("Book", some "__init__")) fd) :
    ∃ mv : List Value, KBn K fd ["self", "work", "write", "meet", "test", "partly", "value", "path", "loop", "guard", "call"] 1 entriesL (fun us ws => us ++ (mv.take 0 ++ ws)) (fun vs zs => vs ++ ((([] : List (Str × V)).map (·.2)).take 0 ++ zs)) :=
  F.kbinds0 1 entriesL [] (fun us mv ws => us ++ (mv.take 0 ++ ws)) (by simp) (by simp) (fun r1 r2 r3 => r1.append ((r2.take 0).append r3))
    fun D doc pm an cdv ct us mv ws h1 h2 h3 => match us, mv, ws, h1, h2, h3 with
    | [u], [], [w0, w1, w2, w3, w4, w5, w6, w7, w8, w9], _, _, _ => by
      rfl
end
end Sm
set_option maxHeartbeats 4000000
namespace Sm
open PySem PySem.Spec PyProof.Rows L2
local macro_rules | `(tactic| walk_at "rd1") => `(tactic| first
  | (with_reducible refine r_seq ?_) | (with_reducible refine r_asg ?_) | (with_reducible refine r_gname ?_)
  | ((with_reducible refine' r_var ?e ?_); (case e => rfl)) | (with_reducible refine r_c ?_)
  | (with_reducible refine r_ret ?_) | (with_reducible refine r_retN ?_) | (with_reducible refine r_drop ?_) | (with_reducible refine r_next ?_) | (with_reducible refine r_ifs ?_)
  | (with_reducible refine r_op ?_) | (with_reducible refine r_rI0 ?_)
  | (with_reducible refine r_test ?_) | (with_reducible refine r_tb ?_) | (with_reducible refine Exists.intro _ (And.intro (Eq.refl (V.bl _)) ?_))
  | (with_reducible refine r_nil ?_) | (with_reducible refine r_cons ?_) | (with_reducible refine r_cb ?_) | (with_reducible refine r_call ?_)
  | (with_reducible refine r_callS ?_) | (with_reducible refine r_meth ?_) | (with_reducible refine r_ownIx ?_) | (with_reducible refine r_ownSet ?_)
  | (with_reducible refine r_not ?_) | (with_reducible refine r_and ?_) | (with_reducible refine r_or ?_)
  | (with_reducible refine r_lst ?_) | (with_reducible refine r_tup ?_) | (with_reducible refine Or.inl (Exists.intro _ (And.intro (Eq.refl [V.int _]) ?_)))
  | ((with_reducible refine r_rI ?c ?_); (case c => first | (show (0 : Int) < _; decide) | exact ⟨by decide, by decide⟩))
  | (with_reducible refine r_for ?_) | (with_reducible refine r_rng1 ?_) | (with_reducible refine r_rng2 ?_) | (with_reducible refine r_ilist ?_) | (with_reducible refine r_itup ?_)
  | (with_reducible refine r_m0 ?_) | (with_reducible refine r_m1 ?_) | (with_reducible refine r_isStr ?_) | (with_reducible refine r_newS ?_) | (with_reducible refine r_fld ?_)
  | (with_reducible refine r_bm ?_) | (with_reducible refine r_bm0 ?_) | (with_reducible refine r_sl ?_) | (with_reducible refine r_nopart ?_) | (with_reducible refine r_part ?_)
  | (with_reducible refine r_pcons ?_) | (with_reducible refine r_pnil ?_) | (with_reducible refine r_dget2 ?_) | (with_reducible refine r_dget1 ?_)
  | (with_reducible refine r_lc ?_) | (with_reducible refine r_yes ?_)
  | (with_reducible refine r_un ?_) | (with_reducible refine r_rU ?_)
  | (with_reducible refine r_disp ?_) | (with_reducible refine r_andV ?_) | (with_reducible refine r_orV ?_) | (with_reducible refine r_notV ?_) | (with_reducible refine r_dnewK ?_)
  | (with_reducible refine r_dget ?_) | (with_reducible refine r_dput ?_)
  | ((with_reducible refine r_rEq ?e ?_); (case e => rfl)) | ((with_reducible refine r_rNe ?e ?_); (case e => rfl)))
local macro_rules | `(tactic| walk_at "rd") => `(tactic| repeat (walk_at "rd1"))
section
variable {P : Program} {w : World} {K : PySem.W.Frag} {mg : Str → Option Value} {base : Heap}
theorem dcs_zip (cs : List Str) : dcs cs = (entriesL.zip (cs.map V.str)).map fun q => ((Sum.inr q.1 : Key), q.2) := by
  unfold dcs
  rw [List.zip_map_right, List.map_map]
  rfl
def sp_copied (K : PySem.W.Frag) : Sp := fun vs H Q _ => ∃ (b d : Addr) (cs : List Str), vs = [.ref b] ∧ BookAt K H b d cs ∧ OkB cs ∧ ∀ p e H', H p = none → H e = none → Chg [] H H' → BookAt K H' p e cs → Q (.ref p) H'
theorem ok_copied (T : Tx w K mg) : ∃ fd, FnOk P w K mg base CX0 3 (He.fAd K ("Book", some "copied")) fd ["self"] (sp_copied K) ∧ Binds K fd ["self"] [] := by
  obtain ⟨fd, F⟩ := T.F_Book_copied
  obtain ⟨fdI, G_I, FI⟩ := ok_Book_init (P := P) (w := w) (base := base) T
  obtain ⟨mv, kb⟩ := kb_all FI
  refine ⟨fd, F.ok sc_Book_copied (fun vs H Q E h => ?_) (fun cdv A outer s H vs Q E hr h => ?_), F.binds fun _ _ _ _ _ _ us hl => match us, hl with | [_], _ => rfl⟩
  · obtain ⟨b, d, cs, rfl, _⟩ := h
    rfl
  · obtain ⟨b, d, cs, rfl, B, hc, q⟩ := h
    obtain ⟨⟨dx, ep⟩, ed⟩ := id B
    refine ⟨_, (pss_one (ps_ret (Ex.pe_makeD T.mk_Book G_I (hr.mono (by decide)) (by rfl) T.g_Book kb passL (pe_fld (pv 0) (by rfl))))), ?_⟩
    walk_at "rd"
    refine ⟨_, rfl, _, _, _, _, _, rfl, ep, T.c_Book, T.a_Book_held, rfl, ?_⟩
    refine ⟨d, cs.map V.str, rfl, by rw [List.length_map, hc.len]; rfl, by decide, by rw [← dcs_zip]; exact ed, fun p dx' hp hdx hne => ?_⟩
    have c0 : Chg [] H (upd (upd H dx' (.own p)) p (.ins (He.ga K "Book") dx' [])) := (Chg.new hdx).trans (Chg.new (by rw [upd_ne hne.symm]; exact hp))
    exact ⟨p, dx', cs, rfl, hc.len, upd_same, fun o e H' he c1 B1 => ⟨rfl, q p e H' hp (c0.fresh he) (c0.then c1 hp) B1⟩, fun z => (z hc).elim⟩
end
end Sm
set_option maxHeartbeats 4000000
namespace Sm
open PySem PySem.Spec PyProof.Rows L2
local macro_rules | `(tactic| walk_at "rd1") => `(tactic| first
  | (with_reducible refine r_seq ?_) | (with_reducible refine r_asg ?_) | (with_reducible refine r_gname ?_)
  | ((with_reducible refine' r_var ?e ?_); (case e => rfl)) | (with_reducible refine r_c ?_)
  | (with_reducible refine r_ret ?_) | (with_reducible refine r_retN ?_) | (with_reducible refine r_drop ?_) | (with_reducible refine r_next ?_) | (with_reducible refine r_ifs ?_)
  | (with_reducible refine r_op ?_) | (with_reducible refine r_rI0 ?_)
  | (with_reducible refine r_test ?_) | (with_reducible refine r_tb ?_) | (with_reducible refine Exists.intro _ (And.intro (Eq.refl (V.bl _)) ?_))
  | (with_reducible refine r_nil ?_) | (with_reducible refine r_cons ?_) | (with_reducible refine r_cb ?_) | (with_reducible refine r_call ?_)
  | (with_reducible refine r_callS ?_) | (with_reducible refine r_meth ?_) | (with_reducible refine r_ownIx ?_) | (with_reducible refine r_ownSet ?_)
  | (with_reducible refine r_not ?_) | (with_reducible refine r_and ?_) | (with_reducible refine r_or ?_)
  | (with_reducible refine r_lst ?_) | (with_reducible refine r_tup ?_) | (with_reducible refine Or.inl (Exists.intro _ (And.intro (Eq.refl [V.int _]) ?_)))
  | ((with_reducible refine r_rI ?c ?_); (case c => first | (show (0 : Int) < _; decide) | exact ⟨by decide, by decide⟩))
  | (with_reducible refine r_for ?_) | (with_reducible refine r_rng1 ?_) | (with_reducible refine r_rng2 ?_) | (with_reducible refine r_ilist ?_) | (with_reducible refine r_itup ?_)
  | (with_reducible refine r_m0 ?_) | (with_reducible refine r_m1 ?_) | (with_reducible refine r_isStr ?_) | (with_reducible refine r_newS ?_) | (with_reducible refine r_fld ?_)
  | (with_reducible refine r_bm ?_) | (with_reducible refine r_bm0 ?_) | (with_reducible refine r_sl ?_) | (with_reducible refine r_nopart ?_) | (with_reducible refine r_part ?_)
  | (with_reducible refine r_pcons ?_) | (with_reducible refine r_pnil ?_) | (with_reducible refine r_dget2 ?_) | (with_reducible refine r_dget1 ?_)
  | (with_reducible refine r_lc ?_) | (with_reducible refine r_yes ?_)
  | (with_reducible refine r_un ?_) | (with_reducible refine r_rU ?_)
  | (with_reducible refine r_disp ?_) | (with_reducible refine r_andV ?_) | (with_reducible refine r_orV ?_) | (with_reducible refine r_notV ?_) | (with_reducible refine r_dnewK ?_)
  | (with_reducible refine r_dget ?_) | (with_reducible refine r_dput ?_)
  | ((with_reducible refine r_rEq ?e ?_); (case e => rfl)) | ((with_reducible refine r_rNe ?e ?_); (case e => rfl)))
local macro_rules | `(tactic| walk_at "rd") => `(tactic| repeat (walk_at "rd1"))
section
variable {P : Program} {w : World} {K : PySem.W.Frag} {mg : Str → Option Value} {base : Heap}
/-- the exact __setitem__ -/
def sp_setx (K : PySem.W.Frag) : Sp := fun vs H Q _ => ∃ (p d : Addr) (cs : List Str) (i : Nat) (c : Str), vs = [.ref p, .str (ent i), .str c] ∧ i < 10 ∧ c ∈ chs i ∧ BookAt K H p d cs ∧ cs.length = 10 ∧ ∀ H', Chg [d] H H' → BookAt K H' p d (cs.set i c) → Q .non H'
theorem ok_setx (T : Tx w K mg) : ∃ fd, Ex.FnG P w K mg base 1 (He.fAd K ("Book", some "__setitem__")) fd ["self", "entry", "choice"] (sp_setx K) ∧ Binds K fd ["self", "entry", "choice"] [] := by
  obtain ⟨fd, F⟩ := T.F_Book___setitem__
  refine ⟨fd, Ex.okG F sc_Book___setitem__ (fun vs H Q E h => ?_) (fun cdv A outer s H vs Q E hr h => ?_), F.binds fun _ _ _ _ _ _ us hl => match us, hl with | [_, _, _], _ => rfl⟩
  · obtain ⟨p, d, cs, i, c, rfl, _⟩ := h
    rfl
  · obtain ⟨p, d, cs, i, c, rfl, hi, hcc, B, hl, q⟩ := h
    have hu := hu_of hr
    obtain ⟨⟨dx, ep⟩, ed⟩ := id B
    obtain ⟨ca, hca, hct⟩ := T.choices hi
    refine ⟨_, (Ex.cons (Ex.ifs (Ex.PWg.pt (Ex.or2 (Ex.cmp Ex.notIn (Ex.var 1) (Ex.glob (v := .ref (He.ga K "ENTRIES")) rfl T.g_ENTRIES rfl) rfl) (Ex.or1 (Ex.cmp Ex.notIn (Ex.var 2) (Ex.ix Ex.ixD (Ex.glob (v := .ref (He.ga K "CHOICES")) rfl T.g_CHOICES rfl) (Ex.var 1) (fun _ _ => rfl)) rfl)))) Ex.never Ex.nil)
      (Ex.one (Ex.dput hu (Ex.fld (Ex.var 0) (by rfl)) (Ex.var 1) (Ex.var 2) rfl))), ?_⟩
    walk_at "rd"
    refine ⟨_, _, rfl, .inr (T.entries H), rfl, flat_strs _, ?_⟩
    rw [inV_strs]
    rw [decide_eq_true (ent_mem hi)]
    refine ⟨_, rfl, ?_⟩
    refine iteF ?_
    walk_at "rd"
    refine ⟨_, _, _, rfl, rfl, hca, ?_⟩
    refine ⟨_, _, rfl, .inr (hct H), rfl, flat_strs _, ?_⟩
    rw [inV_strs, decide_eq_true hcc]
    refine ⟨_, rfl, ?_⟩
    refine iteF ?_
    walk_at "rd"
    refine ⟨_, _, _, _, _, rfl, ep, T.c_Book, T.a_Book_held, rfl, ?_⟩
    walk_at "rd"
    refine ⟨_, _, rfl, DPut.k (k := Sum.inr (ent i)) ed (small1000 (by rw [dcs_len hl]; decide)), ?_⟩
    rw [dcs_put hl hi]
    generalize eH : upd H d _ = H1
    obtain ⟨e1, k1⟩ := put eH ed
    exact q H1 k1 ⟨⟨dx, k1.at1 ep B.ne⟩, e1⟩
end
end Sm
set_option maxHeartbeats 4000000
namespace Sm
open PySem PySem.Spec PyProof.Rows L2
local macro_rules | `(tactic| walk_at "rd1") => `(tactic| first
  | (with_reducible refine r_seq ?_) | (with_reducible refine r_asg ?_) | (with_reducible refine r_gname ?_)
  | ((with_reducible refine' r_var ?e ?_); (case e => rfl)) | (with_reducible refine r_c ?_)
  | (with_reducible refine r_ret ?_) | (with_reducible refine r_retN ?_) | (with_reducible refine r_drop ?_) | (with_reducible refine r_next ?_) | (with_reducible refine r_ifs ?_)
  | (with_reducible refine r_op ?_) | (with_reducible refine r_rI0 ?_)
  | (with_reducible refine r_test ?_) | (with_reducible refine r_tb ?_) | (with_reducible refine Exists.intro _ (And.intro (Eq.refl (V.bl _)) ?_))
  | (with_reducible refine r_nil ?_) | (with_reducible refine r_cons ?_) | (with_reducible refine r_cb ?_) | (with_reducible refine r_call ?_)
  | (with_reducible refine r_callS ?_) | (with_reducible refine r_meth ?_) | (with_reducible refine r_ownIx ?_) | (with_reducible refine r_ownSet ?_)
  | (with_reducible refine r_not ?_) | (with_reducible refine r_and ?_) | (with_reducible refine r_or ?_)
  | (with_reducible refine r_lst ?_) | (with_reducible refine r_tup ?_) | (with_reducible refine Or.inl (Exists.intro _ (And.intro (Eq.refl [V.int _]) ?_)))
  | ((with_reducible refine r_rI ?c ?_); (case c => first | (show (0 : Int) < _; decide) | exact ⟨by decide, by decide⟩))
  | (with_reducible refine r_for ?_) | (with_reducible refine r_rng1 ?_) | (with_reducible refine r_rng2 ?_) | (with_reducible refine r_ilist ?_) | (with_reducible refine r_itup ?_)
  | (with_reducible refine r_m0 ?_) | (with_reducible refine r_m1 ?_) | (with_reducible refine r_isStr ?_) | (with_reducible refine r_newS ?_) | (with_reducible refine r_fld ?_)
  | (with_reducible refine r_bm ?_) | (with_reducible refine r_bm0 ?_) | (with_reducible refine r_sl ?_) | (with_reducible refine r_nopart ?_) | (with_reducible refine r_part ?_)
  | (with_reducible refine r_pcons ?_) | (with_reducible refine r_pnil ?_) | (with_reducible refine r_dget2 ?_) | (with_reducible refine r_dget1 ?_)
  | (with_reducible refine r_lc ?_) | (with_reducible refine r_yes ?_)
  | (with_reducible refine r_un ?_) | (with_reducible refine r_rU ?_)
  | (with_reducible refine r_disp ?_) | (with_reducible refine r_andV ?_) | (with_reducible refine r_orV ?_) | (with_reducible refine r_notV ?_) | (with_reducible refine r_dnewK ?_)
  | (with_reducible refine r_dget ?_) | (with_reducible refine r_dput ?_)
  | ((with_reducible refine r_rEq ?e ?_); (case e => rfl)) | ((with_reducible refine r_rNe ?e ?_); (case e => rfl)))
local macro_rules | `(tactic| walk_at "rd") => `(tactic| repeat (walk_at "rd1"))
section
variable {P : Program} {w : World} {K : PySem.W.Frag} {mg : Str → Option Value} {base : Heap}
/-- the exact __init__ of ten choices -/
def sp_initx (K : PySem.W.Frag) : Sp := fun vs H Q _ => ∃ (p dx : Addr) (ws : List Str), vs = .ref p :: ws.map V.str ∧ OkB ws ∧ H p = some (.ins (He.ga K "Book") dx []) ∧ ∀ d H', H d = none → Chg [p] H H' → BookAt K H' p d ws → Q .non H'
theorem ok_initx (T : Tx w K mg) : ∃ fd, Ex.FnG P w K mg base 1 (He.fAd K ("Book", some "__init__")) fd ["self", "work", "write", "meet", "test", "partly", "value", "path", "loop", "guard", "call"] (sp_initx K) ∧
    FunD K "__init__" "Book.__init__" (defArgs s_Book___init__) (defBody s_Book___init__) (defScope s_Book___init__) [] [("work", V.str "join"), ("write", V.str "stop"), ("meet", V.str "raise"), ("test", V.str "stop"), ("partly", V.str "stop"), ("value", V.str "stop"), ("path", V.str "stop"), ("loop", V.str "stop"), ("guard", V.str "stop"), ("call", V.str "stop")] (He.fAd K ("Book", some "__init__")) fd := by
  obtain ⟨fd, F⟩ := T.F_Book___init__
  refine ⟨fd, Ex.okGD F sc_Book___init__ (fun vs H Q E h => ?_) (fun cdv A outer s H vs Q E hr h => ?_), F⟩
  · obtain ⟨p, dx, ws, rfl, hl, _⟩ := h
    rw [List.length_cons, List.length_map, hl.len]
    rfl
  · obtain ⟨p, dx, ws, rfl, hok0, hp, qg⟩ := h
    have hl := hok0.len
    have hu := hu_of hr
    obtain ⟨w0, w1, w2, w3, w4, w5, w6, w7, w8, w9, rfl⟩ : ∃ a b c d e f g h i j, ws = [a, b, c, d, e, f, g, h, i, j] := by
      match ws, hl with
      | [a, b, c, d, e, f, g, h, i, j], _ => exact ⟨a, b, c, d, e, f, g, h, i, j, rfl⟩
    refine ⟨_, (Ex.cons (Ex.setN (i := 11) sc_Book___init__.nd rfl rfl (Ex.tup (Ex.acons (Ex.var 1) (Ex.acons (Ex.var 2) (Ex.acons (Ex.var 3) (Ex.acons (Ex.var 4) (Ex.acons (Ex.var 5) (Ex.acons (Ex.var 6) (Ex.acons (Ex.var 7) (Ex.acons (Ex.var 8) (Ex.acons (Ex.var 9) (Ex.acons (Ex.var 10) Ex.anil)))))))))))) (Ex.cons (Ex.fset (Ex.var 0) Ex.dnew rfl) (Ex.one (Ex.forG (i := 12) (passes_of rfl) rfl (Ex.range1 rfl T.n_range (Ex.acons (Ex.callB Ex.lenQ (by rfl) T.n_len PySem.boot_len (Ex.acons (Ex.glob (v := .ref (He.ga K "ENTRIES")) rfl T.g_ENTRIES rfl) Ex.anil)) Ex.anil)) sc_Book___init__.nd rfl rfl
      (Ex.cons (Ex.ifs (Ex.cmp Ex.notIn (Ex.ix Ex.ixT (Ex.var 11) (Ex.var 12) (fun _ _ => rfl)) (Ex.ix Ex.ixD (Ex.glob (v := .ref (He.ga K "CHOICES")) rfl T.g_CHOICES rfl) (Ex.ix Ex.ixT (Ex.glob (v := .ref (He.ga K "ENTRIES")) rfl T.g_ENTRIES rfl) (Ex.var 12) (fun _ _ => rfl)) (fun _ _ => rfl)) rfl) Ex.never Ex.nil) (Ex.one (Ex.dput hu (Ex.fld (Ex.var 0) (by rfl)) (Ex.ix Ex.ixT (Ex.glob (v := .ref (He.ga K "ENTRIES")) rfl T.g_ENTRIES rfl) (Ex.var 12) (fun _ _ => rfl)) (Ex.ix Ex.ixT (Ex.var 11) (Ex.var 12) (fun _ _ => rfl)) rfl))))))), ?_⟩
    walk_at "rd"
    refine ⟨by show 10 ≤ sizeLine; decide, fun t ht => ?_⟩
    generalize eH : upd H t _ = H1
    obtain ⟨e1, k1, c1, n1⟩ : H1 t = some (.tup ([w0, w1, w2, w3, w4, w5, w6, w7, w8, w9].map V.str)) ∧ _ := laid (S := []) eH Chg.refl ht
    generalize hws : [w0, w1, w2, w3, w4, w5, w6, w7, w8, w9] = ws at *
    walk_at "rd"
    intro d hd
    generalize eH : upd H1 d _ = H2
    obtain ⟨e2, k2, c2, n2⟩ := laid eH c1 hd
    have e1 := k2.at e1
    walk_at "rd"
    refine ⟨p, _, dx, [], rfl, c2.at hp, T.c_Book, T.a_Book_held, by decide, ?_⟩
    generalize eH : upd H2 p _ = H3
    obtain ⟨e3, k3⟩ := put eH (c2.at hp)
    have npd : d ≠ p := (ne_of_none hp n2).symm
    have npt : t ≠ p := (ne_of_none hp n1).symm
    have e2 := k3.at1 e2 npd
    have e1 := k3.at1 e1 npt
    have c3 : Chg [p] H H3 := c2.up.trans k3
    walk_at "rd"
    refine ⟨_, _, rfl, .inr (T.entries H3), _, rfl, by decide, by decide, ?_⟩
    refine for_range (n := 10) (fun i σ H' => ∃ v12, σ = [some (.ref p), some (.str w0), some (.str w1), some (.str w2), some (.str w3), some (.str w4), some (.str w5), some (.str w6), some (.str w7), some (.str w8), some (.str w9), some (.ref t), v12] ∧ Chg [d] H3 H' ∧ H' d = some (.dK ((dcs ws).take i)) ∧ ∀ j (c : Str), j < i → ws[j]? = some c → c ∈ chs j) ⟨none, by rw [← hws]; rfl, Chg.refl, e2, fun j c h => absurd h (by omega)⟩ ?_ ?_
    · rintro i σ H4 hi ⟨v12, rfl, c4, e4, hg⟩
      have hdt : t ≠ d := ne_of e1 e2 (by intro z; cases z)
      have e1 := c4.at1 e1 hdt
      have e3 := c4.at1 e3 npd.symm
      obtain ⟨x, hx⟩ : ∃ x, ws[i]? = some x := ⟨ws[i]'(by omega), List.getElem?_eq_getElem _⟩
      obtain ⟨ca, hca, hct⟩ := T.choices hi
      walk_at "rd"
      rw [show (0 : Int) + (i : Nat) = (i : Nat) by omega]
      refine r_ixT (sqT e1) (atI_ofNat (strs_at hx)) ?_
      walk_at "rd"
      refine r_ixT (T.entries H4) (atI_ofNat (strs_at (ent_at hi))) ?_
      refine ⟨_, _, _, rfl, rfl, hca, ?_⟩
      refine ⟨_, _, rfl, .inr (hct H4), rfl, flat_strs _, ?_⟩
      rw [inV_strs]
      walk_at "rd"
      show if (!decide (x ∈ chs i)) = true then _ else _
      refine r_iteN (fun hbad => ?_) (fun hok => ?_)
      · exact (hbad (hok0.ch i x hx)).elim
      · walk_at "rd"
        refine r_ixT (sqT e1) (atI_ofNat (strs_at hx)) ?_
        walk_at "rd"
        refine ⟨_, _, _, _, _, rfl, e3, T.c_Book, T.a_Book_held, rfl, ?_⟩
        walk_at "rd"
        refine r_ixT (T.entries H4) (atI_ofNat (strs_at (ent_at hi))) ?_
        refine ⟨_, _, rfl, DPut.k (k := Sum.inr (ent i)) e4 (small1000 (by rw [List.length_take]; omega)), ?_⟩
        rw [dcs_take_put hl hi hx]
        generalize eH : upd H4 d _ = H5
        obtain ⟨e5, k5⟩ := put eH e4
        refine ⟨_, rfl, c4.trans k5, e5, fun j c hj hc => ?_⟩
        by_cases z : j < i
        · exact hg j c z hc
        · have : j = i := by omega
          subst this
          rw [hx] at hc
          cases hc
          exact hok
    · rintro σ H4 ⟨v12, rfl, c4, e4, hg⟩
      rw [List.take_of_length_le (Nat.le_of_eq (dcs_len hl))] at e4
      walk_at "rd"
      exact qg d H4 n2 (c3.then c4 n2) ⟨⟨dx, c4.at1 e3 npd.symm⟩, e4⟩
end
end Sm
set_option maxHeartbeats 4000000
namespace Sm
open PySem PySem.Spec PyProof.Rows L2
local macro_rules | `(tactic| walk_at "rd1") => `(tactic| first
  | (with_reducible refine r_seq ?_) | (with_reducible refine r_asg ?_) | (with_reducible refine r_gname ?_)
  | ((with_reducible refine' r_var ?e ?_); (case e => rfl)) | (with_reducible refine r_c ?_)
  | (with_reducible refine r_ret ?_) | (with_reducible refine r_retN ?_) | (with_reducible refine r_drop ?_) | (with_reducible refine r_next ?_) | (with_reducible refine r_ifs ?_)
  | (with_reducible refine r_op ?_) | (with_reducible refine r_rI0 ?_)
  | (with_reducible refine r_test ?_) | (with_reducible refine r_tb ?_) | (with_reducible refine Exists.intro _ (And.intro (Eq.refl (V.bl _)) ?_))
  | (with_reducible refine r_nil ?_) | (with_reducible refine r_cons ?_) | (with_reducible refine r_cb ?_) | (with_reducible refine r_call ?_)
  | (with_reducible refine r_callS ?_) | (with_reducible refine r_meth ?_) | (with_reducible refine r_ownIx ?_) | (with_reducible refine r_ownSet ?_)
  | (with_reducible refine r_not ?_) | (with_reducible refine r_and ?_) | (with_reducible refine r_or ?_)
  | (with_reducible refine r_lst ?_) | (with_reducible refine r_tup ?_) | (with_reducible refine Or.inl (Exists.intro _ (And.intro (Eq.refl [V.int _]) ?_)))
  | ((with_reducible refine r_rI ?c ?_); (case c => first | (show (0 : Int) < _; decide) | exact ⟨by decide, by decide⟩))
  | (with_reducible refine r_for ?_) | (with_reducible refine r_rng1 ?_) | (with_reducible refine r_rng2 ?_) | (with_reducible refine r_ilist ?_) | (with_reducible refine r_itup ?_)
  | (with_reducible refine r_m0 ?_) | (with_reducible refine r_m1 ?_) | (with_reducible refine r_isStr ?_) | (with_reducible refine r_newS ?_) | (with_reducible refine r_fld ?_)
  | (with_reducible refine r_bm ?_) | (with_reducible refine r_bm0 ?_) | (with_reducible refine r_sl ?_) | (with_reducible refine r_nopart ?_) | (with_reducible refine r_part ?_)
  | (with_reducible refine r_pcons ?_) | (with_reducible refine r_pnil ?_) | (with_reducible refine r_dget2 ?_) | (with_reducible refine r_dget1 ?_)
  | (with_reducible refine r_lc ?_) | (with_reducible refine r_yes ?_)
  | (with_reducible refine r_un ?_) | (with_reducible refine r_rU ?_)
  | (with_reducible refine r_disp ?_) | (with_reducible refine r_andV ?_) | (with_reducible refine r_orV ?_) | (with_reducible refine r_notV ?_) | (with_reducible refine r_dnewK ?_)
  | (with_reducible refine r_dget ?_) | (with_reducible refine r_dput ?_)
  | ((with_reducible refine r_rEq ?e ?_); (case e => rfl)) | ((with_reducible refine r_rNe ?e ?_); (case e => rfl)))
local macro_rules | `(tactic| walk_at "rd") => `(tactic| repeat (walk_at "rd1"))
section
variable {P : Program} {w : World} {K : PySem.W.Frag} {mg : Str → Option Value} {base : Heap}
theorem ok_copiedx (T : Tx w K mg) : ∃ fd, Ex.FnG P w K mg base 3 (He.fAd K ("Book", some "copied")) fd ["self"] (sp_copied K) ∧ Binds K fd ["self"] [] := by
  obtain ⟨fd, F⟩ := T.F_Book_copied
  obtain ⟨fdI, G_I, FI⟩ := ok_initx (P := P) (w := w) (base := base) T
  obtain ⟨mv, kb⟩ := kb_all FI
  refine ⟨fd, Ex.okG F sc_Book_copied (fun vs H Q E h => ?_) (fun cdv A outer s H vs Q E hr h => ?_), F.binds fun _ _ _ _ _ _ us hl => match us, hl with | [_], _ => rfl⟩
  · obtain ⟨b, d, cs, rfl, _⟩ := h
    rfl
  · obtain ⟨b, d, cs, rfl, B, hc, q⟩ := h
    obtain ⟨⟨dx, ep⟩, ed⟩ := id B
    refine ⟨_, (Ex.one (Ex.ret (Ex.makeD T.mk_Book G_I (hr.mono (by decide)) (by rfl) T.g_Book kb (Ex.fld (Ex.var 0) (by rfl))))), ?_⟩
    walk_at "rd"
    refine ⟨_, rfl, _, _, _, _, _, rfl, ep, T.c_Book, T.a_Book_held, rfl, ?_⟩
    refine ⟨d, cs.map V.str, rfl, by rw [List.length_map, hc.len]; rfl, by decide, by rw [← dcs_zip]; exact ed, fun p dx' hp hdx hne => ?_⟩
    have c0 : Chg [] H (upd (upd H dx' (.own p)) p (.ins (He.ga K "Book") dx' [])) := (Chg.new hdx).trans (Chg.new (by rw [upd_ne hne.symm]; exact hp))
    exact ⟨p, dx', cs, rfl, hc, upd_same, fun e H' he c1 B1 => ⟨rfl, q p e H' hp (c0.fresh he) (c0.then c1 hp) B1⟩⟩
end
end Sm
set_option maxHeartbeats 4000000
namespace Sm
open PySem PySem.Spec PyProof.Rows L2
local macro_rules | `(tactic| walk_at "rd1") => `(tactic| first
  | (with_reducible refine r_seq ?_) | (with_reducible refine r_asg ?_) | (with_reducible refine r_gname ?_)
  | ((with_reducible refine' r_var ?e ?_); (case e => rfl)) | (with_reducible refine r_c ?_)
  | (with_reducible refine r_ret ?_) | (with_reducible refine r_retN ?_) | (with_reducible refine r_drop ?_) | (with_reducible refine r_next ?_) | (with_reducible refine r_ifs ?_)
  | (with_reducible refine r_op ?_) | (with_reducible refine r_rI0 ?_)
  | (with_reducible refine r_test ?_) | (with_reducible refine r_tb ?_) | (with_reducible refine Exists.intro _ (And.intro (Eq.refl (V.bl _)) ?_))
  | (with_reducible refine r_nil ?_) | (with_reducible refine r_cons ?_) | (with_reducible refine r_cb ?_) | (with_reducible refine r_call ?_)
  | (with_reducible refine r_callS ?_) | (with_reducible refine r_meth ?_) | (with_reducible refine r_ownIx ?_) | (with_reducible refine r_ownSet ?_)
  | (with_reducible refine r_not ?_) | (with_reducible refine r_and ?_) | (with_reducible refine r_or ?_)
  | (with_reducible refine r_lst ?_) | (with_reducible refine r_tup ?_) | (with_reducible refine Or.inl (Exists.intro _ (And.intro (Eq.refl [V.int _]) ?_)))
  | ((with_reducible refine r_rI ?c ?_); (case c => first | (show (0 : Int) < _; decide) | exact ⟨by decide, by decide⟩))
  | (with_reducible refine r_for ?_) | (with_reducible refine r_rng1 ?_) | (with_reducible refine r_rng2 ?_) | (with_reducible refine r_ilist ?_) | (with_reducible refine r_itup ?_)
  | (with_reducible refine r_m0 ?_) | (with_reducible refine r_m1 ?_) | (with_reducible refine r_isStr ?_) | (with_reducible refine r_newS ?_) | (with_reducible refine r_fld ?_)
  | (with_reducible refine r_bm ?_) | (with_reducible refine r_bm0 ?_) | (with_reducible refine r_sl ?_) | (with_reducible refine r_nopart ?_) | (with_reducible refine r_part ?_)
  | (with_reducible refine r_pcons ?_) | (with_reducible refine r_pnil ?_) | (with_reducible refine r_dget2 ?_) | (with_reducible refine r_dget1 ?_)
  | (with_reducible refine r_lc ?_) | (with_reducible refine r_yes ?_)
  | (with_reducible refine r_un ?_) | (with_reducible refine r_rU ?_)
  | (with_reducible refine r_disp ?_) | (with_reducible refine r_andV ?_) | (with_reducible refine r_orV ?_) | (with_reducible refine r_notV ?_) | (with_reducible refine r_dnewK ?_)
  | (with_reducible refine r_dget ?_) | (with_reducible refine r_dput ?_)
  | ((with_reducible refine r_rEq ?e ?_); (case e => rfl)) | ((with_reducible refine r_rNe ?e ?_); (case e => rfl)))
local macro_rules | `(tactic| walk_at "rd") => `(tactic| repeat (walk_at "rd1"))
section
variable {P : Program} {w : World} {K : PySem.W.Frag} {mg : Str → Option Value} {base : Heap}
/-! ### a menu -/
structure MenuAt (K : PySem.W.Frag) (H : Hp) (m : Addr) (cs : List Str) (os : Ops) (n : Int) (b db l d : Addr) (rs : List Addr) : Prop where
  ins : ∃ dm, H m = some (.ins (He.ga K "Menu") dm [("base", .ref b), ("entries", .ref l), ("options", .ref d), ("count", .int n)])
  B : BookAt K H b db cs
  L : H l = some (.lst (osN os))
  O : OptsAt H d os rs
theorem MenuAt.chg0 {H H' : Hp} {m b db l d : Addr} {cs : List Str} {os : Ops} {rs : List Addr} {n : Int} (h : MenuAt K H m cs os n b db l d rs) (c : Chg [] H H') : MenuAt K H' m cs os n b db l d rs := by
  obtain ⟨⟨dm, e⟩, B, L, O⟩ := h
  exact ⟨⟨dm, c.at e⟩, B.chg c nm0 nm0, c.at L, O.chg0 c⟩
theorem r_rev {K : PySem.W.Frag} {ta : TA} {σ : L2.St} {H : Hp} {R : It → Hp → Prop} (h : ta σ H fun vs H1 => ∃ (a : Addr) (xs : List V), vs = [.ref a] ∧ SqL K H1 a xs ∧ R (Itv K a xs.length) H1) : iRev K ta σ H R := h
/-- the exact numbered -/
def sp_numx (K : PySem.W.Frag) : Sp := fun vs H Q _ => ∃ (m : Addr) (k : Int) (cs : List Str) (os : Ops) (n : Int) (b db l d : Addr) (rs : List Addr), vs = [.ref m, .int k] ∧ MenuAt K H m cs os n b db l d rs ∧ OkB cs ∧ OkOs os ∧
  ∀ p e H', H p = none → H e = none → Chg [] H H' → BookAt K H' p e (numB os (cs, k)).1 → Q (.ref p) H'
theorem ok_numx (T : Tx w K mg) : ∃ fd, Ex.FnG P w K mg base 4 (He.fAd K ("Menu", some "numbered")) fd ["self", "number"] (sp_numx K) ∧ Binds K fd ["self", "number"] [] := by
  obtain ⟨fd, F⟩ := T.F_Menu_numbered
  obtain ⟨fdC, G_C, b_C⟩ := ok_copiedx (P := P) (w := w) (base := base) T
  obtain ⟨fdS, G_S, b_S⟩ := ok_setx (P := P) (w := w) (base := base) T
  refine ⟨fd, Ex.okG F sc_Menu_numbered (fun vs H Q E h => ?_) (fun cdv A outer s H vs Q E hr h => ?_), F.binds fun _ _ _ _ _ _ us hl => match us, hl with | [_, _], _ => rfl⟩
  · obtain ⟨m, k, cs, os, n, b, db, l, d, rs, rfl, _⟩ := h
    rfl
  · obtain ⟨m, k, cs, os, n, b, db, l, d, rs, rfl, M, hc, ho, q⟩ := h
    have hu := hu_of hr
    obtain ⟨⟨dm, em⟩, B, eL, O⟩ := id M
    have hlen : os.length ≤ 10 := ho.small
    refine ⟨_, (Ex.cons (Ex.setN (i := 2) sc_Menu_numbered.nd rfl rfl (Ex.meth0 (Ex.fld (Ex.var 0) (by rfl)) T.c_Book T.m_Book_copied G_C (hr.mono (by decide)) b_C .nil)) (Ex.cons (Ex.setN (i := 3) sc_Menu_numbered.nd rfl rfl (Ex.var 1))
      (Ex.cons (Ex.forG (i := 4) (passes_of rfl) rfl (Ex.revL rfl T.n_reversed (Ex.acons (Ex.callT Ex.listOf rfl T.n_list PyProof.Rows.boot_list (Ex.acons (Ex.fld (Ex.var 0) (by rfl)) Ex.anil)) Ex.anil)) sc_Menu_numbered.nd rfl rfl
        (Ex.cons (Ex.setN (i := 5) sc_Menu_numbered.nd rfl rfl (Ex.dget hu (Ex.fld (Ex.var 0) (by rfl)) (Ex.var 4) (fun _ _ => rfl)))
          (Ex.cons (Ex.ownSet T.sm_Book G_S (hr.mono (by decide)) b_S (Ex.var 2) (Ex.var 4) (Ex.ix Ex.ixL (Ex.var 5) (Ex.op Ex.op_mod (Ex.var 3) (Ex.callB Ex.lenQ (by rfl) T.n_len PySem.boot_len (Ex.acons (Ex.var 5) Ex.anil))) (fun _ _ => rfl)) rfl)
            (Ex.one (Ex.setN (i := 3) sc_Menu_numbered.nd rfl rfl (Ex.op Ex.op_fdiv (Ex.var 3) (Ex.callB Ex.lenQ (by rfl) T.n_len PySem.boot_len (Ex.acons (Ex.var 5) Ex.anil)))))))) (Ex.one (Ex.ret (Ex.var 2)))))), ?_⟩
    walk_at "rd"
    refine ⟨_, _, _, _, _, rfl, em, T.c_Menu, T.a_Menu_base, rfl, ?_⟩
    obtain ⟨⟨dxb, eb⟩, edb⟩ := id B
    refine ⟨_, _, _, rfl, eb, rfl, ?_⟩
    walk_at "rd"
    refine ⟨b, db, cs, rfl, B, hc, fun p e H1 hp he c1 B1 => ?_⟩
    walk_at "rd"
    refine r_rev ?_
    walk_at "rd"
    refine ⟨_, _, _, _, _, rfl, c1.at em, T.c_Menu, T.a_Menu_entries, rfl, ?_⟩
    walk_at "rd"
    refine ⟨l, osN os, rfl, .inl (sqL (c1.at eL)), fun l2 h2 => ?_⟩
    generalize eH : upd H1 l2 _ = H2
    obtain ⟨e2, k2, c2, n2⟩ := laid eH c1 h2
    walk_at "rd"
    refine ⟨l2, osN os, rfl, sqL e2, ?_⟩
    have B2 := B1.chg k2 nm0 nm0
    have hle : l2 ≠ e := ne_of e2 B2.dc (by intro z; cases z)
    refine RT.for_Itv (K := K) (a := l2) (xs := osN os) (fun i σ H' => ∃ (v4 v5 : Option V), σ = [some (.ref m), some (.int k), some (.ref p), some (.int (numB (os.drop (os.length - i)) (cs, k)).2), v4, v5] ∧ Chg [e] H2 H' ∧ BookAt K H' p e (numB (os.drop (os.length - i)) (cs, k)).1) ⟨none, none, ?_, Chg.refl, ?_⟩
      (fun i σ H' ⟨_, _, _, c3, _⟩ => sqL (c3.at1 e2 hle)) ?_ ?_
    · rw [Nat.sub_zero, List.drop_length]; rfl
    · rw [Nat.sub_zero, List.drop_length]; exact B2
    · rintro i y σ H3 hi hy ⟨v4, v5, rfl, c3, B3⟩
      rw [osN_len] at hi hy
      obtain ⟨o, hoo⟩ : ∃ o, os[os.length - 1 - i]? = some o := ⟨os[os.length - 1 - i]'(by omega), List.getElem?_eq_getElem _⟩
      rw [osN_at hoo] at hy
      cases hy
      obtain ⟨r, hrr⟩ : ∃ r, rs[os.length - 1 - i]? = some r := ⟨rs[os.length - 1 - i]'(by rw [O.len]; omega), List.getElem?_eq_getElem _⟩
      have hom := List.mem_of_getElem? hoo
      have c13 := c2.then c3 he
      have er := c13.at (O.at_ _ _ _ hoo hrr)
      rw [numB_drop hi hoo]
      have hbs : OkB (numB (os.drop (os.length - i)) (cs, k)).1 := numB_ok (fun o ho' => ho.ch o (List.mem_of_mem_drop ho')) (fun o ho' => ho.ne o (List.mem_of_mem_drop ho')) hc
      generalize numB (os.drop (os.length - i)) (cs, k) = st at *
      obtain ⟨bs, kk⟩ := st
      obtain ⟨j, c, ej, hj, hjm, hje⟩ := pick_at kk (ho.ne o hom)
      walk_at "rd"
      refine ⟨_, _, _, _, _, rfl, c13.at em, T.c_Menu, T.a_Menu_options, rfl, ?_⟩
      walk_at "rd"
      refine ⟨_, _, rfl, DGet.k (k := Sum.inr (ent o.1)) (c13.at O.d) |> (fun z => by rw [osD_get ho O.len hoo hrr] at z; exact z), ?_⟩
      walk_at "rd"
      refine ⟨r, _, rfl, .inl (sqL er), ?_⟩
      rw [List.length_map]
      have hp : 0 < (o.2.length : Int) := by
        have := List.length_pos_iff.mpr (ho.ne o hom)
        omega
      refine r_rI hp ?_
      rw [ej]
      refine r_ixL (sqL er) (atI_ofNat (strs_at hj)) ?_
      obtain ⟨⟨dxp, ep⟩, _⟩ := id B3
      walk_at "rd"
      refine ⟨p, dxp, _, rfl, ep, ?_⟩
      refine ⟨p, e, bs, o.1, c, rfl, ho.lt o hom, ho.ch o hom c hjm, B3, hbs.len, fun H4 k4 B4 => ?_⟩
      walk_at "rd"
      have er4 := k4.at1 er (ne_of er B3.dc (by intro z; unfold wordsV at z; cases z))
      refine ⟨r, _, rfl, .inl (sqL er4), ?_⟩
      rw [List.length_map]
      have hlt : (o.2.length : Int) < 1073741824 := by
        have := ho.len4 o hom
        omega
      refine r_rI ⟨hp, hlt⟩ ?_
      exact ⟨_, _, by unfold pickB; rfl, c3.trans k4, by unfold pickB; rw [hje]; exact B4⟩
    · rintro σ H3 ⟨v4, v5, rfl, c3, B3⟩
      rw [osN_len, Nat.sub_self, List.drop_zero] at B3
      walk_at "rd"
      exact q p e H3 hp he (c2.then c3 he) B3
end
end Sm
set_option maxHeartbeats 4000000
namespace Sm
open PySem PySem.Spec PyProof.Rows L2
local macro_rules | `(tactic| walk_at "rd1") => `(tactic| first
  | (with_reducible refine r_seq ?_) | (with_reducible refine r_asg ?_) | (with_reducible refine r_gname ?_)
  | ((with_reducible refine' r_var ?e ?_); (case e => rfl)) | (with_reducible refine r_c ?_)
  | (with_reducible refine r_ret ?_) | (with_reducible refine r_retN ?_) | (with_reducible refine r_drop ?_) | (with_reducible refine r_next ?_) | (with_reducible refine r_ifs ?_)
  | (with_reducible refine r_op ?_) | (with_reducible refine r_rI0 ?_)
  | (with_reducible refine r_test ?_) | (with_reducible refine r_tb ?_) | (with_reducible refine Exists.intro _ (And.intro (Eq.refl (V.bl _)) ?_))
  | (with_reducible refine r_nil ?_) | (with_reducible refine r_cons ?_) | (with_reducible refine r_cb ?_) | (with_reducible refine r_call ?_)
  | (with_reducible refine r_callS ?_) | (with_reducible refine r_meth ?_) | (with_reducible refine r_ownIx ?_) | (with_reducible refine r_ownSet ?_)
  | (with_reducible refine r_not ?_) | (with_reducible refine r_and ?_) | (with_reducible refine r_or ?_)
  | (with_reducible refine r_lst ?_) | (with_reducible refine r_tup ?_) | (with_reducible refine Or.inl (Exists.intro _ (And.intro (Eq.refl [V.int _]) ?_)))
  | ((with_reducible refine r_rI ?c ?_); (case c => first | (show (0 : Int) < _; decide) | exact ⟨by decide, by decide⟩))
  | (with_reducible refine r_for ?_) | (with_reducible refine r_rng1 ?_) | (with_reducible refine r_rng2 ?_) | (with_reducible refine r_ilist ?_) | (with_reducible refine r_itup ?_)
  | (with_reducible refine r_m0 ?_) | (with_reducible refine r_m1 ?_) | (with_reducible refine r_isStr ?_) | (with_reducible refine r_newS ?_) | (with_reducible refine r_fld ?_)
  | (with_reducible refine r_bm ?_) | (with_reducible refine r_bm0 ?_) | (with_reducible refine r_sl ?_) | (with_reducible refine r_nopart ?_) | (with_reducible refine r_part ?_)
  | (with_reducible refine r_pcons ?_) | (with_reducible refine r_pnil ?_) | (with_reducible refine r_dget2 ?_) | (with_reducible refine r_dget1 ?_)
  | (with_reducible refine r_lc ?_) | (with_reducible refine r_yes ?_)
  | (with_reducible refine r_un ?_) | (with_reducible refine r_rU ?_)
  | (with_reducible refine r_disp ?_) | (with_reducible refine r_andV ?_) | (with_reducible refine r_orV ?_) | (with_reducible refine r_notV ?_) | (with_reducible refine r_dnewK ?_)
  | (with_reducible refine r_dget ?_) | (with_reducible refine r_dput ?_)
  | ((with_reducible refine r_rEq ?e ?_); (case e => rfl)) | ((with_reducible refine r_rNe ?e ?_); (case e => rfl)))
local macro_rules | `(tactic| walk_at "rd") => `(tactic| repeat (walk_at "rd1"))
section
variable {P : Program} {w : World} {K : PySem.W.Frag} {mg : Str → Option Value} {base : Heap}
/-! ### the generator books() -/
structure Gm where
  m : Addr
  cs : List Str
  os : Ops
  n : Nat
  b : Addr
  db : Addr
  l : Addr
  d : Addr
  rs : List Addr
def Gm.At (G : Gm) (K : PySem.W.Frag) (H : Hp) : Prop := MenuAt K H G.m G.cs G.os (G.n : Int) G.b G.db G.l G.d G.rs
structure Gm.Ok (G : Gm) : Prop where
  cs : OkB G.cs
  os : OkOs G.os
/-- what the consumer knows at a wake -/
structure Gh where
  pins : List (Addr × Obj)
  σ : L2.St
  H : Hp
structure Vd (X : Cx) (G : Gm) (fp : List Addr) (h : Gh) (s : Shared) : Prop where
  inv : Inv X h.pins h.σ h.H s
  at_ : G.At X.K h.H
  fp : ∀ b ∈ fp, FpOk X h.pins h.H b
/-- what it knows behind the i-th item -/
def Pst (X : Cx) (G : Gm) (fp : List Addr) (i : Nat) (h : Gh) (v : Value) (s : Shared) : Prop :=
  ∃ p e H', v = .ref p ∧ Inv X h.pins h.σ H' s ∧ h.H p = none ∧ h.H e = none ∧ Chg [] h.H H' ∧ BookAt X.K H' p e (numB G.os (G.cs, (i : Int))).1 ∧ ∀ b ∈ fp, H' b = none
abbrev envB (L f : Addr) (cdv : Value) : Env := envOfC "Menu.books" (defScope s_Menu_books) L f cdv
/-- the generator's own objects -/
def OwnL (G : Gm) (L : Addr) (h : Heap) : Prop := ∃ mm, h.Ns L mm ∧ mm "self" = some (.ref G.m)
def Own (G : Gm) (L it : Addr) (i : Nat) (h : Heap) : Prop := OwnL G L h ∧ IsRangeIter h it (i : Int) ((G.n : Int) - (i : Nat)) 1
def YB (X : Cx) (G : Gm) (L it : Addr) : Protocol := fun k s₀ v s kap =>
  ∃ i, k + 1 + i = G.n ∧ s.gens = s₀.gens ∧ (∀ h, Vd X G [L, it] h s₀ → Pst X G [L, it] i h v s) ∧ Own G L it (i + 1) s.heap ∧ ∀ s', Own G L it (i + 1) s'.heap → (∃ h, Vd X G [L, it] h s') → kap (.send .none) s' ∧ kap (.send (.int 0 0)) s'
def FB (X : Cx) (G : Gm) (L it : Addr) : Nat → Shared → Shared → Prop := fun k s₀ s => k = 0 ∧ s.gens = s₀.gens ∧ ∀ h, Vd X G [L, it] h s₀ → Inv X h.pins h.σ h.H s
abbrev RB (X : Cx) (G : Gm) (L it : Addr) : GenEnd := Gn.EndR (FB X G L it)
abbrev bkIt : Expr := .Call (.Name "range" ⟨114, 22, 114, 27⟩) [.Attribute (.Name "self" ⟨114, 28, 114, 32⟩) "count" ⟨114, 28, 114, 38⟩] [] ⟨114, 22, 114, 39⟩
abbrev bkEl : Expr := .Call (.Attribute (.Name "self" ⟨115, 18, 115, 22⟩) "numbered" ⟨115, 18, 115, 31⟩) [.Name "number" ⟨115, 32, 115, 38⟩] [] ⟨115, 18, 115, 39⟩
abbrev bkBd : List Stmt := [.Expr (.Yield (some bkEl) ⟨115, 12, 115, 39⟩) ⟨115, 12, 115, 39⟩]
abbrev bkTg : Expr := .Name "number" ⟨114, 12, 114, 18⟩
abbrev bkBody : List Stmt := [.For bkTg bkIt bkBd [] ⟨114, 8, 115, 39⟩]
theorem bk_shape : defBody s_Menu_books = bkBody := rfl
section
variable {X : Cx} {G : Gm} {L it f : Addr} {cdv : Value} {A : Around} {s : Shared} {h : Gh}
theorem Vd.turned {fp ch : List Addr} {h' : Heap} {t' : Nat} (V : Vd X G fp h s) (k : ∀ b o, b ∉ ch → s.heap.get? b = some o → h'.get? b = some o) (hs : ∀ b ∈ ch, b ∈ fp) : Vd X G fp h { s with heap := h', toks := t' } :=
  ⟨V.inv.turnedL k fun b hb => V.fp b (hs b hb), V.at_, V.fp⟩
theorem young_base (I : Inv X h.pins h.σ h.H s) {b : Addr} (F : FpOk X h.pins h.H b) : X.base.get? b = none := by
  cases e : X.base.get? b with
  | none => rfl
  | some o =>
    obtain ⟨_, _, _, hy, _⟩ := F
    rcases hy with hy | hy
    · exact absurd hy (I.ok.noex b o e)
    · exact absurd (Nat.lt_of_lt_of_le (Heap.lt_size e) (Nat.le_trans I.ok.bsz hy)) (Nat.lt_irrefl _)
theorem fp_stk (I : Inv X h.pins h.σ h.H s) {b : Addr} (F : FpOk X h.pins h.H b) : b ∉ frs X.stack := fun hb => by
  rcases List.mem_cons.mp (I.stkSub b hb) with z | z
  · exact F.2.1 z
  · exact F.2.2.1 z
/-- self.numbered(number), seen from the consumer -/
theorem eval_num (T : Tx X.w X.K X.mg) (hok : G.Ok) {j : Nat} {tk : Tok} {mm : Str → Option Value} (hr : Room 4 (A.deeper (envB L f cdv))) (hfr : A.frames = some X.stack) (hL : s.heap.Ns L mm) (hm : mm "self" = some (.ref G.m)) (hn : mm "number" = some (.int (j : Int) tk))
    (hI : ∃ o, s.heap.get? it = some o) (V : Vd X G [L, it] h s) (hne : L ≠ it) :
    wpAny (model X.prog X.w) (A.deeper (envB L f cdv)) (eval bkEl (envB L f cdv)) (fun v s' => s'.gens = s.gens ∧ Pst X G [L, it] j h v s' ∧
      (∃ o sl, s.heap.get? L = some o ∧ s'.heap.get? L = some { o with slots := sl }) ∧ (∀ o, s.heap.get? it = some o → s'.heap.get? it = some o)) (fun _ _ => False) s := by
  obtain ⟨fd, G_num, b_num⟩ := ok_numx (P := X.prog) (base := X.base) T
  have I := V.inv
  obtain ⟨⟨dm, em⟩, _⟩ := id V.at_
  refine PySem.W.methodCall_KW (pl := (do return (← importBound (.Name "self" ⟨115, 18, 115, 22⟩) (envB L f cdv)).getD true)) (wpAny_Name (wpAny_loadName_local rfl rfl hL hm ?_) (by decide)) (by kernel_rfl)
  refine getmeth_ok I em T.c_Menu T.m_Menu_numbered (by rfl) ?_
  refine PySem.W.callWith_K (first := [.ref G.m]) (h₀ := X.base) I.ok.mod.kin T.m_Menu_numbered.kp ?_ (by rfl) (by rfl)
  rw [show starEach [.Name "number" ⟨115, 32, 115, 38⟩] (envB L f cdv) = (false, eval (.Name "number" ⟨115, 32, 115, 38⟩) (envB L f cdv)) :: starEach [] (envB L f cdv) from by rfl]
  show wpAny _ _ (spliced ((false, eval (.Name "number" ⟨115, 32, 115, 38⟩) (envB L f cdv)) :: backTo _ (starEach [] (envB L f cdv)))) _ _ s
  refine Calls.spliced_cons (wpAny_Name (wpAny_loadName_local rfl rfl hL hn ?_) (by decide))
  refine Calls.spliced_nil ⟨I.kIn, ?_⟩
  have fL := V.fp L (List.mem_cons_self ..)
  have fI := V.fp it (List.mem_cons_of_mem _ (List.mem_cons_self ..))
  have eo : frs (envB L f cdv :: X.stack) = L :: frs X.stack := rfl
  have E0 : Env0 X.prog X.w X.K X.mg X.base (A.deeper (envB L f cdv)) (envB L f cdv :: X.stack) s h.H :=
    ⟨Around.frames_deeper hfr, I.ok.mod, I.bs, Nat.le_trans I.ok.bsz I.sz, .cons (by show ScopeKind.function ≠ _; decide) rfl hL (young_base I fL) I.stack, fun b hb => by
      rw [eo] at hb
      rcases List.mem_cons.mp hb with z | z
      · rw [z]; exact fL.1
      · exact I.stkFree b z, I.hok, I.bare⟩
  have hsp : sp_numx X.K [.ref G.m, .int (j : Int)] h.H (fun v H' => ∃ p e, v = .ref p ∧ h.H p = none ∧ h.H e = none ∧ Chg [] h.H H' ∧ BookAt X.K H' p e (numB G.os (G.cs, (j : Int))).1) L2.E0 :=
    ⟨G.m, j, G.cs, G.os, G.n, G.b, G.db, G.l, G.d, G.rs, rfl, V.at_, hok.cs, hok.os, fun p e H' hp he c B => ⟨p, e, rfl, hp, he, c, B⟩⟩
  have hb := b_num s [.ref G.m, .int (j : Int) tk] I.kIn rfl
  rw [List.append_nil] at hb
  have hv : Vals [.ref G.m, .int (j : Int)] [.ref G.m, .int (j : Int) tk] := .cons rfl (.cons ⟨_, rfl⟩ .nil)
  have go := G_num.go (A.deeper (envB L f cdv)) (envB L f cdv :: X.stack) s h.H _ _ _ _ _ hr E0 hb hv hsp
  show wpAny _ _ (call (.ref (He.fAd X.K ("Menu", some "numbered"))) [.ref G.m, .int (j : Int) tk]) _ _ s
  refine wpAny_call (codeAny_mono go fun r s' hq => ?_)
  · obtain ⟨u, rfl, g1, v, H', os, bare, un, hok', r, p, e, rfl, hp, he, c, B⟩ := hq
    obtain rfl : u = Value.ref p := r
    rw [eo] at un
    have ch : ∀ b ∈ [L], (b ∈ X.ex ∨ X.s_0.heap.objs.size ≤ b) ∧ b ≠ X.env.locals ∧ (∀ x c, X.env.cells.lookup x = some c → c ≠ b) ∧ ∀ p ∈ X.pn ++ h.pins, p.1 ≠ b := fun b hb => by
      rw [List.mem_singleton.mp hb]
      exact ⟨fL.2.2.2.1, fL.2.1, fL.2.2.2.2.1, fL.2.2.2.2.2⟩
    have un2 : Un (frs X.stack) [L] h.H H' s.heap s'.heap := ⟨fun b o e1 n1 n2 n3 => un.keep b o e1 n1 (fun z => (List.mem_cons.mp z).elim (fun y => n3 (by rw [y]; exact List.mem_singleton.mpr rfl)) n2) (fun z => nomatch z),
      fun b o e1 n1 n2 n3 => un.slot b o e1 n1 (List.mem_cons_of_mem _ n2) (fun z => nomatch z), fun b o e1 n1 n2 => un.free b o e1 n1 (fun z => nomatch z), fun b o e1 n1 => un.there b o e1 (fun z => nomatch z), un.tups, un.frzs, un.tbls⟩
    have I' : Inv X h.pins h.σ H' s' := I.call' (ch := [L]) os un2 hok' bare ch
    obtain ⟨oL, es, ep, eL, r⟩ := id hL
    have fr : ∀ b ∈ [L, it], H' b = none := fun b hb => by
      rcases List.mem_cons.mp hb with z | z
      · rw [z]; exact un.free L oL eL fL.1 (fun z => nomatch z)
      · obtain ⟨oi, ei⟩ := hI
        rw [List.mem_singleton.mp z]; exact un.free it oi ei fI.1 (fun z => nomatch z)
    refine ⟨g1, ⟨p, e, H', rfl, I', hp, he, c, B, fr⟩, ⟨oL, ?_⟩, fun o eo' => un.keep it o eo' fI.1 (fun z => ?_) (fun z => nomatch z)⟩
    · obtain ⟨sl, e2⟩ := un.slot L oL eL fL.1 (List.mem_cons_self ..) (fun z => nomatch z)
      exact ⟨sl, eL, e2⟩
    · rcases List.mem_cons.mp z with z | z
      · exact hne z.symm
      · exact fp_stk I fI z
/-- what is behind the loop in the body -/
abbrev bkK (L f : Addr) (cdv : Value) : Flow → Sem PySem.Fin := fun fl => match fl with
  | .next => (execs [] (envB L f cdv)).wrap (fun fl => .pure (.done (.ret (match fl with | .ret v => v | _ => .none)))) (fun e => (leaving (envB L f cdv) e).wrap (fun _ => .raise e) .raise id id) id id
  | fl => .pure (.done (.ret (match fl with | .ret v => v | _ => .none)))
abbrev bkJ (L f : Addr) (cdv : Value) : Value → Sem PySem.Fin := fun e => (leaving (envB L f cdv) e).wrap (fun _ => .raise e) .raise id id
abbrev bkFs (L f : Addr) (cdv : Value) (p : Pos) : List Frame := [.ret (Gn.backFrom (envB L f cdv) (bkK L f cdv) (bkJ L f cdv) id id) none (id false) (id []) (.func bkBody (envB L f cdv)) p []]
abbrev bkLoop (L f it : Addr) (cdv : Value) : Code := .forLoop bkTg (.ref it) bkBd [] (envB L f cdv)
theorem bk_over {p : Pos} : A.over (bkLoop L f it cdv) (bkFs L f cdv p) = A.deeper (envB L f cdv) := (GenW.over_loop rfl rfl).trans GenW.over_func
theorem turnB (T : Tx X.w X.K X.mg) (hok : G.Ok) (hr : Room 4 (A.deeper (envB L f cdv))) (hfr : A.frames = some X.stack) (hne : L ≠ it) (p : Pos) :
    ∀ (r i : Nat) (s₀ s : Shared), i + r = G.n → Own G L it i s.heap → s.gens = s₀.gens → (∃ h, Vd X G [L, it] h s₀) → (∀ h, Vd X G [L, it] h s₀ → Vd X G [L, it] h s) →
      Seg (model X.prog X.w) A (RB X G L it) (YB X G L it) r s₀ (bkLoop L f it cdv) ((model X.prog X.w).den (bkLoop L f it cdv)) (bkFs L f cdv p) s := by
  intro r
  induction r with
  | zero =>
    intro i s₀ s hi ho hg ⟨h0, V0⟩ hV
    obtain ⟨⟨mm, hL, hm⟩, hit⟩ := ho
    refine Gn.seg_turn ?_
    rw [bk_over]
    refine wpAny_pyNext_range_end hr.hd hit (by omega) fun h' eb => ?_
    refine seg_again rfl ?_
    show Seg _ _ _ _ _ _ _ (leafOf (.ok .next)) _ _
    refine seg_leaf (.ok .next) ?_
    show Seg _ _ _ _ _ _ _ (leafOf (.ok (.ret .none))) [] _
    refine seg_end (.ok (.ret .none)) (.inl ⟨.inl rfl, rfl, hg, fun h Vh => ?_⟩)
    exact ((hV h Vh).turned (ch := [it]) (h' := h') (t' := s.toks) (fun b o hb e => eb b o (fun z => hb (by rw [z]; exact List.mem_singleton.mpr rfl)) e) (fun b hb => by rw [List.mem_singleton.mp hb]; exact List.mem_cons_of_mem _ (List.mem_cons_self ..))).inv
  | succ r ih =>
    intro i s₀ s hi ho hg ⟨h0, V0⟩ hV
    obtain ⟨⟨mm, hL, hm⟩, hit⟩ := ho
    refine Gn.seg_turn ?_
    rw [bk_over]
    refine wpAny_pyNext_range_item hit (by omega) fun h1 hit1 sb1 => ?_
    show wpAny _ _ (assign bkTg (envB L f cdv) (.int (i : Int) s.toks)) _ _ _
    refine wpAny_assign_Name (wpAny_storeName_local (m := mm) rfl (hL.sameBut sb1 hne) (fun h2 hL2 sb2 => ?_) (by rfl))
    refine seg_execs_cons ?_
    refine seg_Expr_Yield rfl rfl rfl ?_ rfl rfl
    rw [bk_over]
    have k2 : ∀ b o, b ∉ [L, it] → s.heap.get? b = some o → h2.get? b = some o := fun b o hb e => by
      have n1 : b ≠ L := fun z => hb (by rw [z]; exact List.mem_cons_self ..)
      have n2 : b ≠ it := fun z => hb (by rw [z]; exact List.mem_cons_of_mem _ (List.mem_cons_self ..))
      exact (sb2.2 b n1).trans ((sb1.2 b n2).trans e)
    have V2 : ∀ h, Vd X G [L, it] h s₀ → Vd X G [L, it] h { s with heap := h2, toks := s.toks + 1 + 1 } := fun h Vh => (hV h Vh).turned (ch := [L, it]) k2 fun b hb => hb
    have eit : h2.get? it = some { cls := .type "range_iterator", dict := none, data := .fields #[rawInt ((i : Int) + 1), rawInt ((G.n : Int) - (i : Nat) - 1), rawInt 1], slots := #[] } := (sb2.2 it (Ne.symm hne)).trans hit1
    refine wpAny_mono (Sl.wpAny_all (ι := { h : Gh // Vd X G [L, it] h s₀ }) ⟨h0, V0⟩ (E := fun _ _ _ => False) fun x => eval_num (X := X) (G := G) (L := L) (it := it) (f := f) (cdv := cdv) (A := A) (h := x.1) (j := i) (tk := s.toks) T hok hr hfr hL2 (by show (if _ then _ else _) = _; rw [if_neg (by decide)]; exact hm) (by show (if _ then _ else _) = _; rw [if_pos rfl]) ⟨_, eit⟩ (V2 x.1 x.2) hne) (fun v s' hq => ?_) fun x s' hx => (hx ⟨h0, V0⟩).elim
    intro kap hk
    obtain ⟨g1, _, ⟨oL, sl, e1, e2⟩, kit⟩ := hq ⟨h0, V0⟩
    refine ⟨i, by omega, g1.trans hg, fun h Vh => (hq ⟨h, Vh⟩).2.1, ⟨?_, ?_⟩, fun s'' ho'' hv'' => ?_⟩
    · obtain ⟨o', es, ep, e3, r3⟩ := hL2
      have e4 : h2.get? L = some o' := e3
      rw [show h2.get? L = some oL from e1] at e4
      cases e4
      exact ⟨_, ⟨_, es, ep, e2, r3⟩, by show (if _ then _ else _) = _; rw [if_neg (by decide)]; exact hm⟩
    · have q := kit _ eit
      show s'.heap.get? it = _
      rw [q]
      have e5 : (((i + 1 : Nat) : Nat) : Int) = (i : Int) + 1 := by omega
      have e6 : (G.n : Int) - ((i : Int) + 1) = (G.n : Int) - (i : Nat) - 1 := by omega
      rw [e5, e6]
    · have go : Seg (model X.prog X.w) A (RB X G L it) (YB X G L it) r s'' (bkLoop L f it cdv) ((execs [] (envB L f cdv)).wrap (Gn.afterTurn bkTg (.ref it) bkBd (envB L f cdv)) (Gn.outOf (envB L f cdv)) id id) (bkFs L f cdv p) s'' := by
        refine seg_execs_nil ?_
        refine seg_again rfl ?_
        exact ih (i + 1) s'' s'' (by omega) ho'' rfl hv'' fun h Vh => Vh
      exact ⟨hk .none s'' go, hk (.int 0 0) s'' go⟩
/-- the first wake -/
theorem firstB (T : Tx X.w X.K X.mg) (hok : G.Ok) (hr : Room 4 (A.deeper (envB L f cdv))) (hfr : A.frames = some X.stack) (hn : G.n < 2 ^ 62) (hL : OwnL G L s.heap) (V : ∃ h, Vd X G [L, s.heap.objs.size + 1] h s) :
    Seg (model X.prog X.w) A (RB X G L (s.heap.objs.size + 1)) (YB X G L (s.heap.objs.size + 1)) G.n s (.func bkBody (envB L f cdv)) ((model X.prog X.w).den (.func bkBody (envB L f cdv))) [] s := by
  obtain ⟨h0, V0⟩ := V
  obtain ⟨mm, hL, hm⟩ := hL
  have I := V0.inv
  obtain ⟨⟨dm, em⟩, _⟩ := id V0.at_
  have hLlt : L < s.heap.objs.size := hL.lt
  refine seg_func ?_
  refine seg_execs_cons ?_
  refine Gn.seg_for ?_ (by intro _; rfl)
  rw [GenW.over_func]
  obtain ⟨mb, hb1, hb2⟩ := I.mod.blt
  refine Call_ ?_ (by rfl)
  refine Calls.Name_function_global rfl rfl ?_ (by decide)
  refine Calls.loadGlobal_builtin (mg := X.mg) (mb := mb) (v := .type "range") (show s.heap.Ns mainGlobals X.mg from I.mod.glob.keeps I.bk) T.n_range (show s.heap.Ns builtinsNs mb from hb1.keeps I.bk) ((hb2 "range" (by decide)).trans boot_range) ?_
  refine PyProof.Rows.callWith_type1 ?_ (by rfl) (by rfl)
  rw [show starEach [.Attribute (.Name "self" ⟨114, 28, 114, 32⟩) "count" ⟨114, 28, 114, 38⟩] (envB L f cdv) = (false, eval (.Attribute (.Name "self" ⟨114, 28, 114, 32⟩) "count" ⟨114, 28, 114, 38⟩) (envB L f cdv)) :: starEach [] (envB L f cdv) from by rfl]
  show wpAny _ _ (spliced ((false, eval (.Attribute (.Name "self" ⟨114, 28, 114, 32⟩) "count" ⟨114, 28, 114, 38⟩) (envB L f cdv)) :: backTo _ (starEach [] (envB L f cdv)))) _ _ s
  refine Calls.spliced_cons ?_
  refine attr_of (by rfl) (wpAny_Name (wpAny_loadName_local rfl rfl hL hm ?_) (by decide))
  obtain ⟨mA, O, rO, _, _, _⟩ := ins_get I.hok em
  obtain ⟨u, hu, ru⟩ := RelO.some_of (v := V.int (G.n : Int)) (o := mA "count") (by rw [show some (V.int (G.n : Int)) = List.lookup ("count" : Str) [("base", V.ref G.b), ("entries", .ref G.l), ("options", .ref G.d), ("count", .int (G.n : Int))] from by rfl]; exact rO "count")
  obtain ⟨tk, rfl⟩ := ru
  refine get_map I.kIn O (T.c_Menu.get "count") T.c_Menu.hd T.a_Menu_count hu (by rfl) ?_
  refine Calls.spliced_nil ?_
  refine call_range_1 ?_
  refine wpAny_pyIter_range (IsRange.new ..) (small_one (by decide) (by decide) (by omega) (by omega)) ?_
  intro p
  rw [Heap.size_push]
  have hz : Builtin.Range.rangeSize 0 (G.n : Int) 1 = (G.n : Int) - ((0 : Nat) : Int) := by rw [rangeSize_one]; split <;> omega
  have kp : ∀ b o, s.heap.get? b = some o → ((s.heap.push { cls := .type "range", data := .fields #[.int 0 (s.toks + 1), .int (G.n : Int) tk, .int 1 (s.toks + 1 + 1)] }).push { cls := .type "range_iterator", data := .fields #[rawInt 0, rawInt (Builtin.Range.rangeSize 0 (G.n : Int) 1), rawInt 1] }).get? b = some o :=
    fun b o e => Heap.get?_push_of_some _ (Heap.get?_push_of_some _ e)
  refine turnB (G := G) (L := L) (it := s.heap.objs.size + 1) (f := f) (cdv := cdv) T hok hr hfr (Nat.ne_of_lt (Nat.lt_succ_of_lt hLlt)) p G.n 0 s _ (by omega) ⟨⟨mm, hL.keeps kp, hm⟩, ?_⟩ rfl ⟨h0, V0⟩ fun h Vh => ⟨Vh.inv.kept kp, Vh.at_, Vh.fp⟩
  show Heap.get? _ _ = _
  rw [← hz, ← Heap.size_push s.heap { cls := .type "range", data := .fields #[.int 0 (s.toks + 1), .int (G.n : Int) tk, .int 1 (s.toks + 1 + 1)] }]
  exact Heap.get?_push_size _ rfl
end
end
end Sm
set_option maxHeartbeats 4000000
namespace Sm
open PySem PySem.Spec PyProof.Rows L2
local macro_rules | `(tactic| walk_at "rd1") => `(tactic| first
  | (with_reducible refine r_seq ?_) | (with_reducible refine r_asg ?_) | (with_reducible refine r_gname ?_)
  | ((with_reducible refine' r_var ?e ?_); (case e => rfl)) | (with_reducible refine r_c ?_)
  | (with_reducible refine r_ret ?_) | (with_reducible refine r_retN ?_) | (with_reducible refine r_drop ?_) | (with_reducible refine r_next ?_) | (with_reducible refine r_ifs ?_)
  | (with_reducible refine r_op ?_) | (with_reducible refine r_rI0 ?_)
  | (with_reducible refine r_test ?_) | (with_reducible refine r_tb ?_) | (with_reducible refine Exists.intro _ (And.intro (Eq.refl (V.bl _)) ?_))
  | (with_reducible refine r_nil ?_) | (with_reducible refine r_cons ?_) | (with_reducible refine r_cb ?_) | (with_reducible refine r_call ?_)
  | (with_reducible refine r_callS ?_) | (with_reducible refine r_meth ?_) | (with_reducible refine r_ownIx ?_) | (with_reducible refine r_ownSet ?_)
  | (with_reducible refine r_not ?_) | (with_reducible refine r_and ?_) | (with_reducible refine r_or ?_)
  | (with_reducible refine r_lst ?_) | (with_reducible refine r_tup ?_) | (with_reducible refine Or.inl (Exists.intro _ (And.intro (Eq.refl [V.int _]) ?_)))
  | ((with_reducible refine r_rI ?c ?_); (case c => first | (show (0 : Int) < _; decide) | exact ⟨by decide, by decide⟩))
  | (with_reducible refine r_for ?_) | (with_reducible refine r_rng1 ?_) | (with_reducible refine r_rng2 ?_) | (with_reducible refine r_ilist ?_) | (with_reducible refine r_itup ?_)
  | (with_reducible refine r_m0 ?_) | (with_reducible refine r_m1 ?_) | (with_reducible refine r_isStr ?_) | (with_reducible refine r_newS ?_) | (with_reducible refine r_fld ?_)
  | (with_reducible refine r_bm ?_) | (with_reducible refine r_bm0 ?_) | (with_reducible refine r_sl ?_) | (with_reducible refine r_nopart ?_) | (with_reducible refine r_part ?_)
  | (with_reducible refine r_pcons ?_) | (with_reducible refine r_pnil ?_) | (with_reducible refine r_dget2 ?_) | (with_reducible refine r_dget1 ?_)
  | (with_reducible refine r_lc ?_) | (with_reducible refine r_yes ?_)
  | (with_reducible refine r_un ?_) | (with_reducible refine r_rU ?_)
  | (with_reducible refine r_disp ?_) | (with_reducible refine r_andV ?_) | (with_reducible refine r_orV ?_) | (with_reducible refine r_notV ?_) | (with_reducible refine r_dnewK ?_)
  | (with_reducible refine r_dget ?_) | (with_reducible refine r_dput ?_)
  | ((with_reducible refine r_rEq ?e ?_); (case e => rfl)) | ((with_reducible refine r_rNe ?e ?_); (case e => rfl)))
local macro_rules | `(tactic| walk_at "rd") => `(tactic| repeat (walk_at "rd1"))
section
variable {P : Program} {w : World} {K : PySem.W.Frag} {mg : Str → Option Value} {base : Heap}
/-! ### the generator woken -/
/-- asleep behind i items -/
structure GSl (X : Cx) (G : Gm) (A : Around) (g : Nat) (L it : Addr) (i : Nat) (s : Shared) : Prop where
  own : Own G L it i s.heap
  gs : ∃ gs, s.gens[g]? = some gs ∧ Sl.sleeps gs = true ∧ ∀ s', Own G L it i s'.heap → (∃ h, Vd X G [L, it] h s') → gs.Goes (model X.prog X.w) A (RB X G L it) (YB X G L it) (G.n - i) (.send .none) s'
def NextOk (X : Cx) (G : Gm) (A : Around) (g : Nat) (L it : Addr) (i : Nat) (h : Gh) (s : Shared) (v : Value) (s' : Shared) : Prop :=
  Pst X G [L, it] i h v s' ∧ GSl X G A g L it (i + 1) s' ∧ ∀ j, j ≠ g → s'.gens[j]? = s.gens[j]?
section
variable {X : Cx} {G : Gm} {L it f a : Addr} {cdv : Value} {A : Around} {s : Shared} {h : Gh} {g i : Nat}
theorem inv_gens {pins : List (Addr × Obj)} {σ : L2.St} {H : Hp} {G' : Array GenState} (I : Inv X pins σ H s) (hb : AllBare G') : Inv X pins σ H { s with gens := G' } :=
  ⟨I.ok, I.os, hb, I.base, I.loc, I.cell, I.free, I.freeC, I.pin, I.hok, I.len⟩
theorem Vd.setGen {fp : List Addr} (V : Vd X G fp h s) {x : GenState} (hx : x.bare = true) : Vd X G fp h (s.setGen g x) := ⟨inv_gens V.inv (allBare_setGen V.inv.bare hx), V.at_, V.fp⟩
theorem Pst.setGen {fp : List Addr} {v : Value} (q : Pst X G fp i h v s) {x : GenState} (hx : x.bare = true) : Pst X G fp i h v (s.setGen g x) := by
  obtain ⟨p, e, H', rfl, I, r⟩ := q
  exact ⟨p, e, H', rfl, inv_gens I (allBare_setGen I.bare hx), r⟩
theorem gens_other {j : Nat} {x : GenState} (hj : j ≠ g) : (s.setGen g x).gens[j]? = s.gens[j]? := by
  show (s.gens.setIfInBounds g x)[j]? = _
  rw [Array.getElem?_setIfInBounds_ne (Ne.symm hj)]
theorem gens_self {x : GenState} (hg : g < s.gens.size) : (s.setGen g x).gens[g]? = some x := by
  show (s.gens.setIfInBounds g x)[g]? = _
  rw [Array.getElem?_setIfInBounds_self_of_lt hg]
/-- what stands behind a yield -/
theorem next_fin {n : Nat} {v : Value} {s₁ : Shared} {gs' : GenState} (hok : G.Ok) (hn : n + i = G.n) (hi : i < G.n) (hgl : g < s.gens.size) (hb : gs'.bare = true) (V : Vd X G [L, it] h s)
    {kap : Resume → Shared → Prop} (hkap : ∀ m, n = m + 1 → ∀ r' s'', kap r' s'' → gs'.Goes (model X.prog X.w) A (RB X G L it) (YB X G L it) m r' s'') (hv : YB X G L it (n - 1) (s.setGen g .running) v s₁ kap) : NextOk X G A g L it i h s v (s₁.setGen g gs') := by
  obtain ⟨i', hi', hg, hp, ho, hk⟩ := hv
  obtain ⟨m, rfl⟩ : ∃ m, n = m + 1 := ⟨n - 1, by omega⟩
  have e : i' = i := by omega
  subst e
  have P := hp h (V.setGen rfl)
  have hgl1 : g < s₁.gens.size := by
    rw [hg]
    show g < (s.gens.setIfInBounds g _).size
    rw [Array.size_setIfInBounds]; exact hgl
  have hval : ∃ h, Vd X G [L, it] h s₁ := by
    obtain ⟨p, e, H', _, I, _, _, c, _, fr⟩ := P
    exact ⟨⟨h.pins, h.σ, H'⟩, I, V.at_.chg0 c, fun b hb => ⟨fr b hb, (V.fp b hb).2⟩⟩
  have hs : Sl.sleeps gs' = true := by
    have k2 := hkap m rfl _ _ (hk s₁ ho hval).2
    cases gs' with
    | suspended => rfl
    | fresh c => obtain ⟨z, _⟩ := k2; cases z
    | running => exact k2.elim
    | finished => exact k2.elim
  refine ⟨P.setGen hb, ⟨ho, gs', gens_self hgl1, hs, fun s' o' v' => ?_⟩, fun j hj => ?_⟩
  · have q := hkap m rfl _ _ (hk s' o' v').1
    rw [show G.n - (i' + 1) = m by omega]
    exact q
  · rw [gens_other hj, hg, gens_other hj]
theorem lt_of_gens {x : GenState} (hg : s.gens[g]? = some x) : g < s.gens.size := (Array.getElem?_eq_some_iff.mp hg).1
theorem wakeS (hok : G.Ok) (hh : A.handled = none) (hroom : A.depth < recursionLimit) (ha : s.heap.IsGen a g) (S : GSl X G A g L it i s) (hi : i < G.n) (V : Vd X G [L, it] h s) :
    wpAny (model X.prog X.w) A (Builtin.Generator.genWake (.ref a) (.send .none)) (fun fin s' => ∃ v, fin = .done (.ret v) ∧ NextOk X G A g L it i h s v s') (fun _ _ => False) s := by
  obtain ⟨own, gs, hgs, hsl, wake⟩ := S
  refine Gn.wake_gen (n := G.n - i) (F := FB X G L it) (Y := YB X G L it) hh V.inv.nolimit hroom ha hgs (wake _ own ⟨h, V.setGen rfl⟩) (fun v s₁ gs' hb hv => ⟨v, rfl, next_fin (n := G.n - i) hok (by omega) hi (lt_of_gens hgs) hb V (fun m e r' s'' q => by rw [e] at q; exact q) hv⟩) fun s₁ hF h' e k st => ?_
  have := hF.1
  omega
/-- the end -/
theorem wakeE (hok : G.Ok) (hh : A.handled = none) (hroom : A.depth < recursionLimit) (ha : s.heap.IsGen a g) (S : GSl X G A g L it G.n s) (V : Vd X G [L, it] h s) :
    wpAny (model X.prog X.w) A (Builtin.Generator.genWake (.ref a) (.send .none)) (fun _ _ => False) (fun e s' => ∃ b, e = .ref b ∧ (∃ o, s'.heap.get? b = some o ∧ o.cls = .type "StopIteration") ∧ Inv X h.pins h.σ h.H s' ∧ ∀ j, j ≠ g → s'.gens[j]? = s.gens[j]?) s := by
  obtain ⟨own, gs, hgs, hsl, wake⟩ := S
  have go := wake (s.setGen g .running) own ⟨h, V.setGen rfl⟩
  rw [Nat.sub_self] at go
  refine Gn.wake_gen (n := 0) (F := FB X G L it) (Y := YB X G L it) hh V.inv.nolimit hroom ha hgs go (fun v s₁ gs' hb hv => ?_) fun s₁ hF h' e k st => ?_
  · obtain ⟨i', hi', hg, hp, ho, hk⟩ := hv
    have P := hp h (V.setGen rfl)
    refine (hk s₁ ho ?_).1.elim
    obtain ⟨p, e, H', _, I, _, _, c, _, fr⟩ := P
    exact ⟨⟨h.pins, h.σ, H'⟩, I, V.at_.chg0 c, fun b hb => ⟨fr b hb, (V.fp b hb).2⟩⟩
  · obtain ⟨_, hg, hF⟩ := hF
    have I1 := hF h (V.setGen rfl)
    refine ⟨e, rfl, st, ?_, fun j hj => ?_⟩
    · exact Inv.kept (s := s₁.setGen g .finished) (t' := s₁.toks) (inv_gens I1 (allBare_setGen I1.bare rfl)) k
    · show (s₁.setGen g .finished).gens[j]? = _
      rw [gens_other hj, hg, gens_other hj]
/-- the first wake -/
theorem wakeF (T : Tx X.w X.K X.mg) (hok : G.Ok) (hr : Room 5 A) (hfr : A.frames = some X.stack) (hn : 0 < G.n) (hn2 : G.n < 2 ^ 62) (ha : s.heap.IsGen a g) (hgs : s.gens[g]? = some (.fresh (.func bkBody (envB L f cdv)))) (hL : OwnL G L s.heap) (V : Vd X G [L] h s) :
    wpAny (model X.prog X.w) A (Builtin.Generator.genWake (.ref a) (.send .none)) (fun fin s' => ∃ v, fin = .done (.ret v) ∧ NextOk X G A g L (s.heap.objs.size + 1) 0 h s v s') (fun _ _ => False) s := by
  have V2 : Vd X G [L, s.heap.objs.size + 1] h s := ⟨V.inv, V.at_, fun b hb => by
    rcases List.mem_cons.mp hb with z | z
    · exact V.fp b (by rw [z]; exact List.mem_cons_self ..)
    · rw [List.mem_singleton.mp z]
      exact V.inv.fpOk (Nat.le_succ _) (V.inv.hok.fresh (Nat.le_succ _))⟩
  have go : (GenState.fresh (.func bkBody (envB L f cdv))).Goes (model X.prog X.w) A (RB X G L (s.heap.objs.size + 1)) (YB X G L (s.heap.objs.size + 1)) G.n (.send .none) (s.setGen g .running) :=
    ⟨rfl, firstB (s := s.setGen g .running) T hok (hr.deeper _) hfr hn2 hL ⟨h, V2.setGen rfl⟩⟩
  refine Gn.wake_gen (n := G.n) (F := FB X G L (s.heap.objs.size + 1)) (Y := YB X G L (s.heap.objs.size + 1)) hr.hd V.inv.nolimit hr.depth ha hgs go (fun v s₁ gs' hb hv => ⟨v, rfl, next_fin (n := G.n) hok (by omega) hn (lt_of_gens hgs) hb V2 (fun m e r' s'' q => by rw [e] at q; exact q) hv⟩) fun s₁ hF h' e k st => ?_
  have := hF.1
  omega
end
end
end Sm
set_option maxHeartbeats 4000000
namespace Sm
open PySem PySem.Spec PyProof.Rows L2
local macro_rules | `(tactic| walk_at "rd1") => `(tactic| first
  | (with_reducible refine r_seq ?_) | (with_reducible refine r_asg ?_) | (with_reducible refine r_gname ?_)
  | ((with_reducible refine' r_var ?e ?_); (case e => rfl)) | (with_reducible refine r_c ?_)
  | (with_reducible refine r_ret ?_) | (with_reducible refine r_retN ?_) | (with_reducible refine r_drop ?_) | (with_reducible refine r_next ?_) | (with_reducible refine r_ifs ?_)
  | (with_reducible refine r_op ?_) | (with_reducible refine r_rI0 ?_)
  | (with_reducible refine r_test ?_) | (with_reducible refine r_tb ?_) | (with_reducible refine Exists.intro _ (And.intro (Eq.refl (V.bl _)) ?_))
  | (with_reducible refine r_nil ?_) | (with_reducible refine r_cons ?_) | (with_reducible refine r_cb ?_) | (with_reducible refine r_call ?_)
  | (with_reducible refine r_callS ?_) | (with_reducible refine r_meth ?_) | (with_reducible refine r_ownIx ?_) | (with_reducible refine r_ownSet ?_)
  | (with_reducible refine r_not ?_) | (with_reducible refine r_and ?_) | (with_reducible refine r_or ?_)
  | (with_reducible refine r_lst ?_) | (with_reducible refine r_tup ?_) | (with_reducible refine Or.inl (Exists.intro _ (And.intro (Eq.refl [V.int _]) ?_)))
  | ((with_reducible refine r_rI ?c ?_); (case c => first | (show (0 : Int) < _; decide) | exact ⟨by decide, by decide⟩))
  | (with_reducible refine r_for ?_) | (with_reducible refine r_rng1 ?_) | (with_reducible refine r_rng2 ?_) | (with_reducible refine r_ilist ?_) | (with_reducible refine r_itup ?_)
  | (with_reducible refine r_m0 ?_) | (with_reducible refine r_m1 ?_) | (with_reducible refine r_isStr ?_) | (with_reducible refine r_newS ?_) | (with_reducible refine r_fld ?_)
  | (with_reducible refine r_bm ?_) | (with_reducible refine r_bm0 ?_) | (with_reducible refine r_sl ?_) | (with_reducible refine r_nopart ?_) | (with_reducible refine r_part ?_)
  | (with_reducible refine r_pcons ?_) | (with_reducible refine r_pnil ?_) | (with_reducible refine r_dget2 ?_) | (with_reducible refine r_dget1 ?_)
  | (with_reducible refine r_lc ?_) | (with_reducible refine r_yes ?_)
  | (with_reducible refine r_un ?_) | (with_reducible refine r_rU ?_)
  | (with_reducible refine r_disp ?_) | (with_reducible refine r_andV ?_) | (with_reducible refine r_orV ?_) | (with_reducible refine r_notV ?_) | (with_reducible refine r_dnewK ?_)
  | (with_reducible refine r_dget ?_) | (with_reducible refine r_dput ?_)
  | ((with_reducible refine r_rEq ?e ?_); (case e => rfl)) | ((with_reducible refine r_rNe ?e ?_); (case e => rfl)))
local macro_rules | `(tactic| walk_at "rd") => `(tactic| repeat (walk_at "rd1"))
section
variable {P : Program} {w : World} {K : PySem.W.Frag} {mg : Str → Option Value} {base : Heap}
/-! ### what sleeps through a step; menu.books() -/
section
theorem bare_of_sl {old G R : Array GenState} (S : Sl.Sl old G R) (h : AllBare G) : AllBare R := fun y hy => by
  obtain ⟨i, hi, rfl⟩ := Array.mem_iff_getElem.mp hy
  have hG : i < G.size := by rw [S.size]; exact hi
  have hb := h G[i] (Array.getElem_mem hG)
  rcases S.pt i G[i] R[i] (Array.getElem?_eq_getElem hG) (Array.getElem?_eq_getElem hi) with ⟨e, _⟩ | ⟨e, _, _⟩
  · rw [← e]; exact hb
  · rw [e, Sl.dull_bare] at hb; exact hb
theorem dull_bareAll {G : Array GenState} (h : AllBare G) : AllBare (G.map Sl.dull) := fun y hy => by
  obtain ⟨x, hx, rfl⟩ := Array.mem_map.mp hy
  rw [Sl.dull_bare]; exact h x hx
/-- the sleepers are the same -/
def SameS (s s' : Shared) : Prop := ∀ (g : Nat) (y : GenState), s.gens[g]? = some y → Sl.sleeps y = true → s'.gens[g]? = some y
variable {X : Cx} {pins : List (Addr × Obj)} {σ : L2.St} {H : Hp} {s : Shared}
theorem sleepF {α : Type} {M : Model} {A : Around} {t : Sem α} {Q Q' : α → Shared → Prop} {E : Value → Shared → Prop} (h : wpAny M A t Q (fun _ _ => False) { s with gens := s.gens.map Sl.dull })
    (hQ : ∀ a s' G, Sl.Sl s.gens G s'.gens → SameS s s' → Q a { s' with gens := G } → Q' a s') : wpAny M A t Q' E s :=
  wpAny_mono (Sl.wpAny_sleep h) (fun a s' ⟨G, S, q⟩ => hQ a s' G S (fun g y e hs => (S.keep g y e hs).1) q) fun _ _ ⟨_, _, z⟩ => z.elim
theorem inv_dull (I : Inv X pins σ H s) : Inv X pins σ H { s with gens := s.gens.map Sl.dull } := inv_gens I (dull_bareAll I.bare)
theorem inv_awake {s' : Shared} {G : Array GenState} {σ' : L2.St} {H' : Hp} {old : Array GenState} (S : Sl.Sl old G s'.gens) (I : Inv X pins σ' H' { s' with gens := G }) : Inv X pins σ' H' s' :=
  inv_gens (s := { s' with gens := G }) (G' := s'.gens) I (bare_of_sl S I.bare)
end
section
variable {X : Cx} {G : Gm} {L it f a : Addr} {cdv : Value} {A : Around} {s : Shared} {h : Gh} {g i : Nat}
theorem GSl.keep {s' : Shared} (S : GSl X G A g L it i s) (kL : ∀ o, s.heap.get? L = some o → s'.heap.get? L = some o) (kI : ∀ o, s.heap.get? it = some o → s'.heap.get? it = some o) (hs : SameS s s') : GSl X G A g L it i s' := by
  obtain ⟨⟨⟨mm, ⟨o, es, ep, e, r⟩, hm⟩, hit⟩, gs, hgs, sl, wk⟩ := S
  exact ⟨⟨⟨mm, ⟨o, es, ep, kL _ e, r⟩, hm⟩, kI _ hit⟩, gs, hs g gs hgs sl, sl, wk⟩
/-- a generator that has not begun -/
structure Born (G : Gm) (a L : Addr) (g : Nat) (f : Addr) (cdv : Value) (s : Shared) : Prop where
  gen : s.heap.IsGen a g
  gs : s.gens[g]? = some (.fresh (.func bkBody (envB L f cdv)))
  own : OwnL G L s.heap
/-- a call of Menu.books -/
theorem run_books (T : Tx X.w X.K X.mg) {pins : List (Addr × Obj)} {σ : L2.St} {H : Hp} (hr : Room 1 X.A) (I : Inv X pins σ H s) {E : Value → Shared → Prop} {Q : Value → Shared → Prop}
    (hQ : ∀ (cdv : Value) (s' : Shared) (a L : Addr), s.heap.objs.size ≤ L → L < a → a < s'.heap.objs.size → Born G a L s.gens.size (He.fAd X.K ("Menu", some "books")) cdv s' → Inv X pins σ H s' → (∀ (j : Nat) (y : GenState), s.gens[j]? = some y → s'.gens[j]? = some y) → (∀ b o, s.heap.get? b = some o → s'.heap.get? b = some o) → Q (.ref a) s') :
    wpAny (model X.prog X.w) X.A (call (.ref (He.fAd X.K ("Menu", some "books"))) [.ref G.m]) Q E s := by
  obtain ⟨fd, F⟩ := T.F_Menu_books
  have hb := F.binds (ps := ["self"]) fun _ _ _ _ _ _ us hl => match us, hl with | [_], _ => rfl
  obtain ⟨oc, od, kV, doc, pm, an, cdv, ct, osl, rfl, lk, hcd⟩ := F.ex
  have KX := I.kIn
  have S := sc_Menu_books
  have hbt := hb s [.ref G.m] KX rfl
  refine wpAny_call (codeAny_call_generator hr.depth (KX _ _ lk) rfl S.co S.gen rfl (PySem.W.codeRec_of KX hcd) (hbt _ _ _ _ ?_))
  have hkind : ∀ y ∈ ([("self", .ref G.m)] : List (Str × Value)), (defScope s_Menu_books).names.lookup y.1 = some .local ∨ ((defScope s_Menu_books).names.lookup y.1 = some .cell ∧ ((cellsFrom (s.heap.objs.size + 1) (defScope s_Menu_books).names []).lookup y.1).isSome = true) := fun y hy => by
    rw [List.mem_singleton.mp hy]
    exact .inl rfl
  refine wpAny_newFunctionEnv_cells S.kind hkind fun env he s1 x => ?_
  subst he
  have lim1 : s1.heap.NoLimit := I.nolimit.keeps x.toInCall.keep
  refine ⟨lim1, ?_⟩
  obtain ⟨h1, tk, es1, hk1⟩ := x.done
  subst es1
  have lt1 : s.heap.objs.size < h1.objs.size := x.toInCall.ns.lt
  have k2 : ∀ (o : Obj) b ob, s.heap.get? b = some ob → (h1.push o).get? b = some ob := fun o b ob e => Heap.get?_push_of_some _ (hk1 b ob e)
  refine hQ cdv _ h1.objs.size s.heap.objs.size (Nat.le_refl _) lt1 ?_ ⟨⟨_, _, _, Heap.get?_push_size _ rfl, rfl, rfl, rfl⟩, ?_, ⟨_, x.toInCall.ns.keeps fun b o e => Heap.get?_push_of_some _ e, rfl⟩⟩ ?_ ?_ (k2 _)
  · show _ < (h1.push _).objs.size
    rw [Heap.size_push]; exact Nat.lt_succ_self _
  · show (s.gens.push _)[s.gens.size]? = _
    rw [Array.getElem?_push_size]
    rfl
  · exact inv_gens (s := { s with heap := h1.push _, toks := _ }) (I.kept (k2 _)) (AllBare.push I.bare rfl)
  · intro j y e
    show (s.gens.push _)[j]? = _
    obtain ⟨hj, ej⟩ := Array.getElem?_eq_some_iff.mp e
    rw [Array.getElem?_push_lt hj, ej]
end
end
end Sm
set_option maxHeartbeats 4000000
namespace Sm
open PySem PySem.Spec PyProof.Rows L2
local macro_rules | `(tactic| walk_at "rd1") => `(tactic| first
  | (with_reducible refine r_seq ?_) | (with_reducible refine r_asg ?_) | (with_reducible refine r_gname ?_)
  | ((with_reducible refine' r_var ?e ?_); (case e => rfl)) | (with_reducible refine r_c ?_)
  | (with_reducible refine r_ret ?_) | (with_reducible refine r_retN ?_) | (with_reducible refine r_drop ?_) | (with_reducible refine r_next ?_) | (with_reducible refine r_ifs ?_)
  | (with_reducible refine r_op ?_) | (with_reducible refine r_rI0 ?_)
  | (with_reducible refine r_test ?_) | (with_reducible refine r_tb ?_) | (with_reducible refine Exists.intro _ (And.intro (Eq.refl (V.bl _)) ?_))
  | (with_reducible refine r_nil ?_) | (with_reducible refine r_cons ?_) | (with_reducible refine r_cb ?_) | (with_reducible refine r_call ?_)
  | (with_reducible refine r_callS ?_) | (with_reducible refine r_meth ?_) | (with_reducible refine r_ownIx ?_) | (with_reducible refine r_ownSet ?_)
  | (with_reducible refine r_not ?_) | (with_reducible refine r_and ?_) | (with_reducible refine r_or ?_)
  | (with_reducible refine r_lst ?_) | (with_reducible refine r_tup ?_) | (with_reducible refine Or.inl (Exists.intro _ (And.intro (Eq.refl [V.int _]) ?_)))
  | ((with_reducible refine r_rI ?c ?_); (case c => first | (show (0 : Int) < _; decide) | exact ⟨by decide, by decide⟩))
  | (with_reducible refine r_for ?_) | (with_reducible refine r_rng1 ?_) | (with_reducible refine r_rng2 ?_) | (with_reducible refine r_ilist ?_) | (with_reducible refine r_itup ?_)
  | (with_reducible refine r_m0 ?_) | (with_reducible refine r_m1 ?_) | (with_reducible refine r_isStr ?_) | (with_reducible refine r_newS ?_) | (with_reducible refine r_fld ?_)
  | (with_reducible refine r_bm ?_) | (with_reducible refine r_bm0 ?_) | (with_reducible refine r_sl ?_) | (with_reducible refine r_nopart ?_) | (with_reducible refine r_part ?_)
  | (with_reducible refine r_pcons ?_) | (with_reducible refine r_pnil ?_) | (with_reducible refine r_dget2 ?_) | (with_reducible refine r_dget1 ?_)
  | (with_reducible refine r_lc ?_) | (with_reducible refine r_yes ?_)
  | (with_reducible refine r_un ?_) | (with_reducible refine r_rU ?_)
  | (with_reducible refine r_disp ?_) | (with_reducible refine r_andV ?_) | (with_reducible refine r_orV ?_) | (with_reducible refine r_notV ?_) | (with_reducible refine r_dnewK ?_)
  | (with_reducible refine r_dget ?_) | (with_reducible refine r_dput ?_)
  | ((with_reducible refine r_rEq ?e ?_); (case e => rfl)) | ((with_reducible refine r_rNe ?e ?_); (case e => rfl)))
local macro_rules | `(tactic| walk_at "rd") => `(tactic| repeat (walk_at "rd1"))
section
variable {P : Program} {w : World} {K : PySem.W.Frag} {mg : Str → Option Value} {base : Heap}
/-! ### kept = [one for one in menu.books()] -/
/-- the first i books stand in the list at D -/
structure KeptAt (K : PySem.W.Frag) (G : Gm) (H0 : Hp) (D : Addr) (i : Nat) (H : Hp) (ps : List Addr) : Prop where
  c : Chg [] H0 H
  n : H0 D = none
  d : H D = some (.lst (ps.map V.ref))
  len : ps.length = i
  at_ : ∀ (j : Nat) (p : Addr), ps[j]? = some p → ∃ e, BookAt K H p e (numB G.os (G.cs, (j : Int))).1
theorem KeptAt.step {K : PySem.W.Frag} {G : Gm} {H0 H H1 : Hp} {D p e : Addr} {i : Nat} {ps : List Addr} (k : KeptAt K G H0 D i H ps) (c1 : Chg [] H H1) (B : BookAt K H1 p e (numB G.os (G.cs, (i : Int))).1) :
    KeptAt K G H0 D (i + 1) (upd H1 D (.lst (ps.map V.ref ++ [V.ref p]))) (ps ++ [p]) := by
  have d1 := c1.at k.d
  generalize eH : upd H1 D (.lst (ps.map V.ref ++ [V.ref p])) = H2
  obtain ⟨e2, k2⟩ := put eH d1
  have bk : ∀ {q eq : Addr} {cs : List Str}, BookAt K H1 q eq cs → BookAt K H2 q eq cs := fun {q eq cs} B => B.chg k2 (nm1 (by
    obtain ⟨⟨dx, ep⟩, _⟩ := B
    exact ne_of ep d1 (by intro z; cases z))) (nm1 (ne_of B.dc d1 (by intro z; cases z)))
  refine ⟨(k.c.trans c1).then k2 k.n, k.n, by rw [e2, List.map_append]; rfl, by rw [List.length_append, k.len]; rfl, fun j q hq => ?_⟩
  by_cases hj : j < ps.length
  · rw [List.getElem?_append_left hj] at hq
    obtain ⟨eq, B1⟩ := k.at_ j q hq
    exact ⟨eq, bk (B1.chg c1 nm0 nm0)⟩
  · rw [List.getElem?_append_right (by omega)] at hq
    have : j = i := by
      have h1 := (List.getElem?_eq_some_iff.mp hq).1
      have h2 := k.len
      simp only [List.length_singleton] at h1
      omega
    subst this
    rw [k.len, Nat.sub_self] at hq
    cases hq
    exact ⟨e, bk B⟩
/-- where the generator stands -/
def GStd (X : Cx) (G : Gm) (A : Around) (a L : Addr) (g : Nat) (f : Addr) (cdv : Value) (fp : List Addr) (i : Nat) (s : Shared) : Prop :=
  s.heap.IsGen a g ∧ L < a ∧ ((i = 0 ∧ fp = [a, L] ∧ Born G a L g f cdv s) ∨ ∃ it, 0 < i ∧ fp = [a, L, it] ∧ a < it ∧ GSl X G A g L it i s)
section
variable {X : Cx} {G : Gm} {L f a : Addr} {cdv : Value} {A : Around} {s : Shared} {g i : Nat} {pins : List (Addr × Obj)} {σ : L2.St} {H : Hp} {fp : List Addr}
theorem gen_obj {h : Heap} (hg : h.IsGen a g) : ∃ o, h.get? a = some o ∧ (∀ v, o.data ≠ .cell v) ∧ ∀ h' : Heap, h'.get? a = some o → h'.IsGen a g := by
  obtain ⟨o, nm, qn, e, c, d, sl⟩ := hg
  exact ⟨o, e, (fun v z => by rw [d] at z; cases z), fun h' e' => ⟨o, nm, qn, e', c, d, sl⟩⟩
theorem own_obj {it : Addr} {h : Heap} (o : Own G L it i h) : ∀ b ∈ [L, it], ∃ ob, h.get? b = some ob ∧ ∀ v, ob.data ≠ .cell v := fun b hb => by
  obtain ⟨⟨mm, ⟨o, es, ep, e, d, r⟩, hm⟩, hit⟩ := o
  rcases List.mem_cons.mp hb with z | z
  · rw [z]; exact ⟨o, e, fun v q => by rw [d] at q; cases q⟩
  · rw [List.mem_singleton.mp z]; exact ⟨_, hit, fun v q => by cases q⟩
theorem GStd.obj (S : GStd X G A a L g f cdv fp i s) : ∀ b ∈ fp, ∃ ob, s.heap.get? b = some ob ∧ ∀ v, ob.data ≠ .cell v := fun b hb => by
  obtain ⟨hg, _, S⟩ := S
  obtain ⟨og, eg, dg, _⟩ := gen_obj hg
  rcases S with ⟨_, rfl, B⟩ | ⟨it, _, rfl, _, S⟩
  · rcases List.mem_cons.mp hb with z | z
    · rw [z]; exact ⟨og, eg, dg⟩
    · obtain ⟨mm, ⟨o, es, ep, e, d, r⟩, hm⟩ := B.own
      rw [List.mem_singleton.mp z]
      exact ⟨o, e, fun v q => by rw [d] at q; cases q⟩
  · rcases List.mem_cons.mp hb with z | z
    · rw [z]; exact ⟨og, eg, dg⟩
    · exact own_obj S.own b z
theorem GStd.keep {s' : Shared} (S : GStd X G A a L g f cdv fp i s) (hi : 0 < i) (k : ∀ b ∈ fp, ∀ o, s.heap.get? b = some o → s'.heap.get? b = some o) (hs : SameS s s') : GStd X G A a L g f cdv fp i s' := by
  obtain ⟨hg, hl, S⟩ := S
  obtain ⟨og, eg, dg, mk⟩ := gen_obj hg
  rcases S with ⟨z, _⟩ | ⟨it, h0, rfl, h1, S⟩
  · omega
  · exact ⟨mk _ (k a (by simp) og eg), hl, .inr ⟨it, h0, rfl, h1, S.keep (k L (by simp)) (k it (by simp)) hs⟩⟩
theorem GStd.keep0 {s' : Shared} (S : GStd X G A a L g f cdv fp i s) (k : ∀ b ∈ fp, ∀ o, s.heap.get? b = some o → s'.heap.get? b = some o) (hs : ∀ y, s.gens[g]? = some y → s'.gens[g]? = some y) : GStd X G A a L g f cdv fp i s' := by
  obtain ⟨hg, hl, S⟩ := S
  obtain ⟨og, eg, dg, mk⟩ := gen_obj hg
  rcases S with ⟨h0, rfl, B⟩ | ⟨it, h0, rfl, h1, S⟩
  · obtain ⟨mm, ⟨o, es, ep, e, r⟩, hm⟩ := B.own
    exact ⟨mk _ (k a (by simp) og eg), hl, .inl ⟨h0, rfl, mk _ (k a (by simp) og eg), hs _ B.gs, ⟨mm, ⟨o, es, ep, k L (by simp) o e, r⟩, hm⟩⟩⟩
  · obtain ⟨own, gs, hgs, sl, wk⟩ := S
    obtain ⟨⟨mm, ⟨o, es, ep, e, r⟩, hm⟩, hit⟩ := own
    exact ⟨mk _ (k a (by simp) og eg), hl, .inr ⟨it, h0, rfl, h1, ⟨⟨mm, ⟨o, es, ep, k L (by simp) _ e, r⟩, hm⟩, k it (by simp) _ hit⟩, gs, hs gs hgs, sl, wk⟩⟩
/-- one item, the footprint grows at the first -/
theorem item_gen (T : Tx X.w X.K X.mg) (hok : G.Ok) (hr : Room 5 A) (hfr : A.frames = some X.stack) (hn2 : G.n < 2 ^ 62) (S : GStd X G A a L g f cdv fp i s) (hi : i < G.n) (I : Inv X pins σ H s) (M : G.At X.K H) (F : ∀ b ∈ fp, FpOk X pins H b) :
    wpAny (model X.prog X.w) A (Builtin.Generator.genWake (.ref a) (.send .none)) (fun fin s' => ∃ v, fin = .done (.ret v) ∧ ∃ p e H' fp', v = .ref p ∧ Inv X pins σ H' s' ∧ H p = none ∧ H e = none ∧ Chg [] H H' ∧ BookAt X.K H' p e (numB G.os (G.cs, (i : Int))).1 ∧
      (∀ b ∈ fp', FpOk X pins H' b) ∧ GStd X G A a L g f cdv fp' (i + 1) s' ∧ (∀ b ∈ fp', b ∈ fp ∨ s.heap.objs.size ≤ b) ∧ (∀ j, j ≠ g → s'.gens[j]? = s.gens[j]?)) (fun _ _ => False) s := by
  obtain ⟨hg, hl, S⟩ := S
  obtain ⟨og, eg, dg, mk⟩ := gen_obj hg
  have hafp : a ∈ fp := by
    rcases S with ⟨_, rfl, _⟩ | ⟨it, _, rfl, _⟩ <;> exact List.mem_cons_self ..
  have Fa := F a hafp
  have I1 : Inv X (pins ++ pinsAt [a] s.heap) σ H s := I.pinned (fun b hb => by rw [List.mem_singleton.mp hb]; exact Fa) fun b hb => by rw [List.mem_singleton.mp hb]; exact ⟨og, eg, dg⟩
  have pa : (a, og) ∈ X.pn ++ (pins ++ pinsAt [a] s.heap) := List.mem_append_right _ (List.mem_append_right _ (mem_pinsAt (List.mem_singleton.mpr rfl) eg))
  have more : ∀ {b : Addr}, b ≠ a → FpOk X pins H b → FpOk X (pins ++ pinsAt [a] s.heap) H b := fun {b} hb q => ⟨q.1, q.2.1, q.2.2.1, q.2.2.2.1, q.2.2.2.2.1, fun p hp => by
    rw [← List.append_assoc] at hp
    rcases List.mem_append.mp hp with z | z
    · exact q.2.2.2.2.2 p z
    · rw [List.mem_singleton.mp (of_pinsAt z).1]
      exact Ne.symm hb⟩
  have ha_lt : a < s.heap.objs.size := Heap.lt_size eg
  -- what is behind it
  have fin : ∀ (it : Addr) (v : Value) (s' : Shared), a < it → L ∈ fp → (it ∈ fp ∨ s.heap.objs.size ≤ it) → FpOk X pins H L → (FpOk X pins H it) → NextOk X G A g L it i ⟨pins ++ pinsAt [a] s.heap, σ, H⟩ s v s' → ∃ p e H' fp', v = .ref p ∧ Inv X pins σ H' s' ∧ H p = none ∧ H e = none ∧ Chg [] H H' ∧ BookAt X.K H' p e (numB G.os (G.cs, (i : Int))).1 ∧
      (∀ b ∈ fp', FpOk X pins H' b) ∧ GStd X G A a L g f cdv fp' (i + 1) s' ∧ (∀ b ∈ fp', b ∈ fp ∨ s.heap.objs.size ≤ b) ∧ (∀ j, j ≠ g → s'.gens[j]? = s.gens[j]?) := fun it v s' hit mL mI FL FI q => by
    obtain ⟨⟨p, e, H', rfl, I', hp, he, c, B, fr⟩, S', go⟩ := q
    have e2 := I'.pin (a, og) pa
    refine ⟨p, e, H', [a, L, it], rfl, I'.unpinned, hp, he, c, B, fun b hb => ?_, ⟨mk _ e2.1, hl, .inr ⟨it, Nat.succ_pos _, rfl, hit, S'⟩⟩, fun b hb => ?_, go⟩
    rotate_left
    · rcases List.mem_cons.mp hb with z | z
      · rw [z]; exact .inl hafp
      · rcases List.mem_cons.mp z with z | z
        · rw [z]; exact .inl mL
        · rw [List.mem_singleton.mp z]; exact mI
    rcases List.mem_cons.mp hb with z | z
    · rw [z]; exact ⟨e2.2.1, Fa.2⟩
    · refine ⟨fr b z, ?_⟩
      rcases List.mem_cons.mp z with z | z
      · rw [z]; exact FL.2
      · rw [List.mem_singleton.mp z]; exact FI.2
  rcases S with ⟨rfl, rfl, B⟩ | ⟨it, h0, rfl, h1, S⟩
  · have V : Vd X G [L] ⟨pins ++ pinsAt [a] s.heap, σ, H⟩ s := ⟨I1, M, fun b hb => by
      rw [List.mem_singleton.mp hb]
      exact more (Nat.ne_of_lt hl) (F L (by simp))⟩
    exact wpAny_mono (wakeF T hok hr hfr hi hn2 B.gen B.gs B.own V) (fun fn s' ⟨v, e, q⟩ => ⟨v, e, fin _ v s' (Nat.lt_succ_of_lt ha_lt) (by simp) (.inr (Nat.le_succ _)) (F L (by simp)) (I.fpOk (Nat.le_succ _) (I.hok.fresh (Nat.le_succ _))) q⟩) fun _ _ z => z
  · have V : Vd X G [L, it] ⟨pins ++ pinsAt [a] s.heap, σ, H⟩ s := ⟨I1, M, fun b hb => by
      rcases List.mem_cons.mp hb with z | z
      · rw [z]; exact more (Nat.ne_of_lt hl) (F L (by simp))
      · rw [List.mem_singleton.mp z]; exact more (Nat.ne_of_gt h1) (F it (by simp))⟩
    exact wpAny_mono (wakeS hok hr.hd hr.depth hg S hi V) (fun fn s' ⟨v, e, q⟩ => ⟨v, e, fin _ v s' h1 (by simp) (.inl (by simp)) (F L (by simp)) (F it (by simp)) q⟩) fun _ _ z => z
/-- the end -/
theorem end_gen (hok : G.Ok) (hr : Room 5 A) (hn : 0 < G.n) (S : GStd X G A a L g f cdv fp G.n s) (I : Inv X pins σ H s) (M : G.At X.K H) (F : ∀ b ∈ fp, FpOk X pins H b) :
    wpAny (model X.prog X.w) A (Builtin.Generator.genWake (.ref a) (.send .none)) (fun _ _ => False) (fun e s' => ∃ b, e = .ref b ∧ (∃ o, s'.heap.get? b = some o ∧ o.cls = .type "StopIteration") ∧ Inv X pins σ H s' ∧ ∀ j, j ≠ g → s'.gens[j]? = s.gens[j]?) s := by
  obtain ⟨hg, hl, S⟩ := S
  rcases S with ⟨z, _⟩ | ⟨it, h0, rfl, h1, S⟩
  · omega
  · exact wakeE (h := ⟨pins, σ, H⟩) hok hr.hd hr.depth hg S ⟨I, M, fun b hb => F b (List.mem_cons_of_mem _ hb)⟩
theorem item_next (T : Tx X.w X.K X.mg) (hok : G.Ok) (hr : Room 6 A) (hfr : A.frames = some X.stack) (hn2 : G.n < 2 ^ 62) (S : GStd X G A.in1 a L g f cdv fp i s) (hi : i < G.n) (I : Inv X pins σ H s) (M : G.At X.K H) (F : ∀ b ∈ fp, FpOk X pins H b) :
    wpAny (model X.prog X.w) A (pyNext (.ref a)) (fun r s' => ∃ p e H' fp', r = some (.ref p) ∧ Inv X pins σ H' s' ∧ Chg [] H H' ∧ BookAt X.K H' p e (numB G.os (G.cs, (i : Int))).1 ∧
      (∀ b ∈ fp', FpOk X pins H' b) ∧ GStd X G A.in1 a L g f cdv fp' (i + 1) s') (fun _ _ => False) s := by
  refine Gn.next_of_wake S.1 (wpAny_mono (item_gen (A := A.in1) T hok hr.in1 hfr hn2 S hi I M F) (fun fin s' hq => ?_) fun _ _ z => z.elim)
  obtain ⟨v, e1, p, e, H', fp', rfl, q2, _, _, q5, q6, q7, q8, _, _⟩ := hq
  exact ⟨_, e1, p, e, H', fp', rfl, q2, q5, q6, q7, q8⟩
theorem end_next (hok : G.Ok) (hr : Room 6 A) (hn : 0 < G.n) (S : GStd X G A.in1 a L g f cdv fp G.n s) (I : Inv X pins σ H s) (M : G.At X.K H) (F : ∀ b ∈ fp, FpOk X pins H b) :
    wpAny (model X.prog X.w) A (pyNext (.ref a)) (fun r s' => r = none ∧ Inv X pins σ H s') (fun _ _ => False) s := by
  refine Gn.next_of_wake S.1 (wpAny_mono (end_gen (A := A.in1) hok hr.in1 hn S I M F) (fun fin s' hq => hq.elim) fun e s' hq => ?_)
  obtain ⟨b, rfl, st, I', _⟩ := hq
  exact ⟨b, rfl, st, rfl, I'⟩
end
end
end Sm
set_option maxHeartbeats 4000000
namespace Sm
open PySem PySem.Spec PyProof.Rows L2
local macro_rules | `(tactic| walk_at "rd1") => `(tactic| first
  | (with_reducible refine r_seq ?_) | (with_reducible refine r_asg ?_) | (with_reducible refine r_gname ?_)
  | ((with_reducible refine' r_var ?e ?_); (case e => rfl)) | (with_reducible refine r_c ?_)
  | (with_reducible refine r_ret ?_) | (with_reducible refine r_retN ?_) | (with_reducible refine r_drop ?_) | (with_reducible refine r_next ?_) | (with_reducible refine r_ifs ?_)
  | (with_reducible refine r_op ?_) | (with_reducible refine r_rI0 ?_)
  | (with_reducible refine r_test ?_) | (with_reducible refine r_tb ?_) | (with_reducible refine Exists.intro _ (And.intro (Eq.refl (V.bl _)) ?_))
  | (with_reducible refine r_nil ?_) | (with_reducible refine r_cons ?_) | (with_reducible refine r_cb ?_) | (with_reducible refine r_call ?_)
  | (with_reducible refine r_callS ?_) | (with_reducible refine r_meth ?_) | (with_reducible refine r_ownIx ?_) | (with_reducible refine r_ownSet ?_)
  | (with_reducible refine r_not ?_) | (with_reducible refine r_and ?_) | (with_reducible refine r_or ?_)
  | (with_reducible refine r_lst ?_) | (with_reducible refine r_tup ?_) | (with_reducible refine Or.inl (Exists.intro _ (And.intro (Eq.refl [V.int _]) ?_)))
  | ((with_reducible refine r_rI ?c ?_); (case c => first | (show (0 : Int) < _; decide) | exact ⟨by decide, by decide⟩))
  | (with_reducible refine r_for ?_) | (with_reducible refine r_rng1 ?_) | (with_reducible refine r_rng2 ?_) | (with_reducible refine r_ilist ?_) | (with_reducible refine r_itup ?_)
  | (with_reducible refine r_m0 ?_) | (with_reducible refine r_m1 ?_) | (with_reducible refine r_isStr ?_) | (with_reducible refine r_newS ?_) | (with_reducible refine r_fld ?_)
  | (with_reducible refine r_bm ?_) | (with_reducible refine r_bm0 ?_) | (with_reducible refine r_sl ?_) | (with_reducible refine r_nopart ?_) | (with_reducible refine r_part ?_)
  | (with_reducible refine r_pcons ?_) | (with_reducible refine r_pnil ?_) | (with_reducible refine r_dget2 ?_) | (with_reducible refine r_dget1 ?_)
  | (with_reducible refine r_lc ?_) | (with_reducible refine r_yes ?_)
  | (with_reducible refine r_un ?_) | (with_reducible refine r_rU ?_)
  | (with_reducible refine r_disp ?_) | (with_reducible refine r_andV ?_) | (with_reducible refine r_orV ?_) | (with_reducible refine r_notV ?_) | (with_reducible refine r_dnewK ?_)
  | (with_reducible refine r_dget ?_) | (with_reducible refine r_dput ?_)
  | ((with_reducible refine r_rEq ?e ?_); (case e => rfl)) | ((with_reducible refine r_rNe ?e ?_); (case e => rfl)))
local macro_rules | `(tactic| walk_at "rd") => `(tactic| repeat (walk_at "rd1"))
section
variable {P : Program} {w : World} {K : PySem.W.Frag} {mg : Str → Option Value} {base : Heap}
/-! ### the comprehension over menu.books() -/
section
variable {X : Cx} {G : Gm}
/-- an expression that gives a generator of G's books, not begun -/
structure PBk (X : Cx) (G : Gm) (iter : Expr) : Prop where
  run : ∀ (pins : List (Addr × Obj)) (s : Shared) (σ : L2.St) (H : Hp) (io : Nat), Inv X pins σ H s → G.At X.K H → σ[io]? = some (some (.ref G.m)) → X.N[io]? = some "menu" → ∀ (E : Value → Shared → Prop), wpAny (model X.prog X.w) X.A (eval iter X.env)
    (fun u s' => ∃ (a L : Addr) (cdv : Value), u = .ref a ∧ s.heap.objs.size ≤ L ∧ L < a ∧ a < s'.heap.objs.size ∧ Born G a L s.gens.size (He.fAd X.K ("Menu", some "books")) cdv s' ∧ Inv X pins σ H s' ∧ (∀ (j : Nat) (y : GenState), s.gens[j]? = some y → s'.gens[j]? = some y) ∧ (∀ b o, s.heap.get? b = some o → s'.heap.get? b = some o)) E s
theorem pbk (T : Tx X.w X.K X.mg) {pos p1 p2 : Pos} (hr : Room 1 X.A) (hk : X.env.kindOf "menu" = some .local) {pl : Sem Bool}
    (ht : eval (.Call (.Attribute (.Name "menu" p1) "books" p2) [] [] pos) X.env = (do
      let ov ← eval (.Name "menu" p1) X.env
      standAt p2.atName
      let (f, first) ← holding [ov] (getMethod ov "books" pl)
      callWith pos f first (backTo pos (starEach [] X.env)) (backToKw pos (keywordEach [] X.env))) := by rfl) : PBk X G (.Call (.Attribute (.Name "menu" p1) "books" p2) [] [] pos) := by
  refine ⟨fun pins s σ H io I M e hN E => ?_⟩
  obtain ⟨m, hn, hl⟩ := I.loc
  obtain ⟨u, r, l⟩ := hl io "menu" _ hN e (.inl hk)
  obtain rfl : u = Value.ref G.m := r
  obtain ⟨⟨dm, em⟩, _⟩ := id M
  refine PySem.W.methodCall_KW (pl := pl) (wpAny_Name ?_ (by decide)) ht
  rcases l with ⟨hk', hm⟩ | ⟨hk', _⟩
  · refine wpAny_loadName_local I.ok.kind hk' hn hm ?_
    refine getmeth_ok I em T.c_Menu T.m_Menu_books (by rfl) ?_
    refine PySem.W.callWith_K0 (first := [.ref G.m]) I.kIn T.m_Menu_books.kp ?_
    exact run_books T hr I fun cdv s' a L q1 q2 q3 q4 q5 q6 q7 => ⟨a, L, cdv, rfl, q1, q2, q3, q4, q5, q6, q7⟩
  · rcases hk' with hk' | hk' <;> (rw [hk] at hk'; cases hk')
theorem GStd.ctx {X' : Cx} {A : Around} {a L f : Addr} {cdv : Value} {g : Nat} {fp : List Addr} {s : Shared} (S : GStd X G A a L g f cdv fp 0 s) : GStd X' G A a L g f cdv fp 0 s := by
  obtain ⟨hg, hl, S⟩ := S
  rcases S with ⟨_, e, B⟩ | ⟨it, h0, _⟩
  · exact ⟨hg, hl, .inl ⟨rfl, e, B⟩⟩
  · exact absurd h0 (Nat.lt_irrefl _)
theorem lcB_core (T : Tx X.w X.K X.mg) {pins : List (Addr × Obj)} {s : Shared} {σ : L2.St} {H : Hp} {iter : Expr} {scope : Scope} {p1 p2 pos pos' : Pos} {use : Option (Value → Sem Unit)} {Qf : Value → Shared → Prop} {io iw : Nat} {x : Str}
    (hc : X.calm = true) (hN : X.N.Nodup) (hx : X.N[iw]? = some x) (I : Inv X pins σ H s) (M : G.At X.K H) (hok : G.Ok) (hn0 : 0 < G.n) (hn1 : G.n ≤ 24) (hio : σ[io]? = some (some (.ref G.m))) (hNio : X.N[io]? = some "menu") (hi : PBk X G iter) (ok : BlkOk X.N X.env.scope scope [(x, iw)])
    (hg : ∀ (s : Shared) (H : Hp) (C : Addr) (cl : List (Str × Addr)) (fp : List Addr), PG (X.blk s H scope (compEnvC scope cl C X.env) fp) (.Name x p2) (gName iw)) (he : ∀ (s : Shared) (H : Hp) (C : Addr) (cl : List (Str × Addr)) (fp : List Addr), PE (X.blk s H scope (compEnvC scope cl C X.env) fp) (.Name x p1) (tVar iw))
    (hr : Room 6 X.A) (hs : ∀ x, foldedSetIterable iter X.env x = pure x)
    (hRR : ∀ D C s' m H' ps, Inv X pins σ H' s' → KeptAt X.K G H D G.n H' ps → s'.heap.Ns C m → FpOk X pins H' C → compPost (model X.prog X.w) X.A X.xe use Qf (.ref D) C (.ok .next) s') :
    wpAny (model X.prog X.w) X.A (comprehension (.ListComp (.Name x p1) [⟨.Name x p2, iter, [], 0⟩] scope pos) scope X.env pos' (newList []) false (eval iter X.env) use) Qf X.xe s := by
  have hfree : ∀ y ∈ scope.names, y.2 = .free → ∃ c, X.env.cells.lookup y.1 = some c := fun y hy e => by
    rcases ok.free y hy e with k | k
    · exact I.ok.has _ (.inl k)
    · exact I.ok.has _ (.inr k)
  refine wpAny_comprehension_free (use := use) rfl hs (closure_ok hfree) ok.kind (fun y hy e => by rw [ok.uniq y hy, e])
    (thn (hi.run pins s σ H io I M hio hNio _) fun xv s2 hx2 => ?_)
  obtain ⟨a, L, cdv, rfl, hL, hLa, ha, B, I2, hg2, hk2⟩ := hx2
  refine wpAny_pyIter_gen B.gen ?_
  refine wpAny_newObj_type (newEnv_comp ?_) (by show 0 ≤ sizeLine; decide)
  generalize hD : s2.heap.objs.size = D
  have hDn : H D = none := I2.hok.fresh (Nat.le_of_eq hD)
  have f2 : ∀ b ∈ [a, L], FpOk X pins H b ∧ b < s2.heap.objs.size := fun b hb => by
    have hsb : s.heap.objs.size ≤ b ∧ b < s2.heap.objs.size := by
      rcases List.mem_cons.mp hb with z | z
      · rw [z]; exact ⟨Nat.le_of_lt (Nat.lt_of_le_of_lt hL hLa), ha⟩
      · rw [List.mem_singleton.mp z]; exact ⟨hL, Nat.lt_trans hLa ha⟩
    exact ⟨I.fpOk hsb.1 (I.hok.fresh hsb.1), hsb.2⟩
  -- the new list
  generalize hs3 : ({ s2 with heap := s2.heap.push { cls := .type "list", data := .seq ([] : List Value).toArray } } : Shared) = s3
  have I3 : Inv X pins σ (upd H D (.lst [])) s3 := by
    rw [← hs3]
    refine I2.laid (t' := s2.toks) (fun b o e => Heap.get?_push_of_some _ e) (Nat.le_of_eq hD) ⟨Nat.zero_le _, [], 0, .nil, ?_⟩
    rw [← hD]
    exact Heap.get?_push_size _ rfl
  have h3 : s3.heap = s2.heap.push { cls := .type "list", data := .seq ([] : List Value).toArray } := by rw [← hs3]
  have g3 : s3.gens = s2.gens := by rw [← hs3]
  have f3 : ∀ b ∈ [a, L], FpOk X pins (upd H D (.lst [])) b ∧ b < s3.heap.objs.size := fun b hb => by
    obtain ⟨q, hlt⟩ := f2 b hb
    refine ⟨⟨?_, q.2⟩, by rw [h3, Heap.size_push]; exact Nat.lt_succ_of_lt hlt⟩
    rw [upd_ne (by rw [← hD]; exact Nat.ne_of_lt hlt)]
    exact q.1
  have st2 : GStd X G X.A.in1 a L s.gens.size (He.fAd X.K ("Menu", some "books")) cdv [a, L] 0 s2 := ⟨B.gen, hLa, .inl ⟨rfl, rfl, B⟩⟩
  have st3 : GStd X G X.A.in1 a L s.gens.size (He.fAd X.K ("Menu", some "books")) cdv [a, L] 0 s3 := st2.keep0 (fun b _ o e => by rw [h3]; exact Heap.get?_push_of_some _ e) fun y e => by rw [g3]; exact e
  have I4 := block_start I3 ok hN f3
  have K0 : KeptAt X.K G H D 0 (upd H D (.lst [])) [] := ⟨Chg.new hDn, hDn, upd_same, rfl, fun j p e => by simp at e⟩
  have pg := hg s3 (upd H D (.lst [])) s3.heap.objs.size (cellsFrom (s3.heap.objs.size + 1) scope.names (cloFrom X.env.cells scope.names [])) [a, L]
  have pe := he s3 (upd H D (.lst [])) s3.heap.objs.size (cellsFrom (s3.heap.objs.size + 1) scope.names (cloFrom X.env.cells scope.names [])) [a, L]
  show codeAny _ _ (.compStart (.ListComp (.Name x p1) [⟨.Name x p2, iter, [], 0⟩] scope pos) 0 (.ref a) (.ref D) (compEnvC scope (cellsFrom (s3.heap.objs.size + 1) scope.names (cloFrom X.env.cells scope.names [])) s3.heap.objs.size X.env)) (compPost (model X.prog X.w) X.A X.xe use Qf (.ref D) s3.heap.objs.size) { s3 with heap := pushCells (s3.heap.push { cls := .type "dict", data := .dict #[] }) scope.names }
  generalize hce : compEnvC scope (cellsFrom (s3.heap.objs.size + 1) scope.names (cloFrom X.env.cells scope.names [])) s3.heap.objs.size X.env = ce at I4 pg pe ⊢
  have cL : ce.locals = s3.heap.objs.size := by subst hce; rfl
  generalize hH3 : upd H D (.lst []) = H3 at I3 I4 K0 f3 pg pe
  generalize hs4 : ({ s3 with heap := pushCells (s3.heap.push { cls := .type "dict", data := .dict #[] }) scope.names } : Shared) = s4 at I4 ⊢
  have st4 : GStd (X.blk s3 H3 scope ce [a, L]) G X.A.in1 a L s.gens.size (He.fAd X.K ("Menu", some "books")) cdv [a, L] 0 s4 := (st3.keep0 (s' := s4) (fun b _ o e => by rw [← hs4]; exact pushCells_keeps _ _ _ _ (Heap.get?_push_of_some _ e)) fun y e => by rw [← hs4]; exact e).ctx
  have stat : ∀ b ∈ [a, L], FpOk (X.blk s3 H3 scope ce [a, L]) [] H3 b := fun b hb =>
    ⟨(f3 b hb).1.1, (I4.ok.exf b hb).1, I4.ok.exfs b hb, .inl hb, fun x c e => (I4.ok.exf b hb).2 x c e, fun p hp => absurd (show p ∈ ([] : List (Addr × Obj)) ++ [] from hp) (by simp)⟩
  have loop : codeAny (model X.prog X.w) X.A (.compLoop (.ListComp (.Name x p1) [⟨.Name x p2, iter, [], 0⟩] scope pos) 0 (.ref a) (.ref D) ce) (compPost (model X.prog X.w) X.A X.xe use Qf (.ref D) s3.heap.objs.size) s4 := by
    refine compLoop_any (fun n s' => ∃ i fp H' ps, n = G.n - i ∧ i ≤ G.n ∧ Inv (X.blk s3 H3 scope ce [a, L]) [] (wipe σ [iw]) H' s' ∧ GStd (X.blk s3 H3 scope ce [a, L]) G X.A.in1 a L s.gens.size (He.fAd X.K ("Menu", some "books")) cdv fp i s' ∧ (∀ b ∈ fp, FpOk (X.blk s3 H3 scope ce [a, L]) [] H' b) ∧ KeptAt X.K G H D i H' ps) ?_ G.n
      ⟨0, [a, L], H3, [], rfl, Nat.zero_le _, I4, st4, stat, K0⟩
    rintro n s5 ⟨i, fp, H5, ps, rfl, hin, I5, S5, F5, K5⟩
    have M5 : G.At X.K H5 := M.chg0 K5.c
    by_cases hi' : i < G.n
    · refine thnF (item_next (X := X.blk s3 H3 scope ce [a, L]) T hok hr I4.ok.frames (by omega) S5 hi' I5 M5 F5) fun r s6 h6 => ?_
      obtain ⟨p, e, H6, fp6, rfl, I6, c6, B6, F6, S6⟩ := h6
      refine wpAny_pure ?_
      have I7 := I6.pinned F6 S6.obj
      -- the name
      refine sleepF (pg.run _ _ _ H6 (.ref p) (.ref p) (fun σ' H' => σ' = (wipe σ [iw]).set iw (some (.ref p)) ∧ H' = H6) (inv_dull I7) rfl ⟨rfl, rfl⟩) fun _ s8 G8 S8 e8 h8 => ?_
      obtain ⟨σ8, H8, I8, rfl, rfl⟩ := h8
      have I8 := inv_awake S8 I8
      refine wpAny_tests_nil ?_
      rw [if_pos rfl]
      refine sleepF (pe.run _ _ _ H8 (fun y H' => y = .ref p ∧ H' = H8) (inv_dull I8) ⟨_, List.getElem?_set_self (by rw [wipe_length, I.len]; exact (List.getElem?_eq_some_iff.mp hx).1), rfl, rfl⟩) fun z s9 G9 S9 e9 h9 => ?_
      obtain ⟨y, H9, I9, r9, rfl, rfl⟩ := h9
      have I9 := inv_awake S9 I9
      have K6 := c6.at K5.d
      refine sleepF (app_ok (X := X.blk s3 H3 scope ce [a, L]) (E := fun _ _ => False) (Q := fun _ s' => Inv (X.blk s3 H3 scope ce [a, L]) ([] ++ pinsAt fp6 s6.heap) ((wipe σ [iw]).set iw (some (.ref p))) (upd H9 D (.lst (ps.map V.ref ++ [V.ref p]))) s') (inv_dull I9) K6 (by rw [List.length_map, K5.len]; exact small1000 (by omega)) r9 fun s' I' => I') fun _ s10 G10 S10 e10 h10 => ?_
      have I10 := inv_awake S10 h10
      have K11 := K5.step c6 B6
      have ob := S6.obj
      have pin : ∀ b ∈ fp6, ∀ o, s6.heap.get? b = some o → s10.heap.get? b = some o ∧ (upd H9 D (.lst (ps.map V.ref ++ [V.ref p]))) b = none := fun b hb o e =>
        let z := I10.pin (b, o) (List.mem_append_right _ (List.mem_append_right _ (mem_pinsAt hb e)))
        ⟨z.1, z.2.1⟩
      refine ⟨G.n - (i + 1), by omega, i + 1, fp6, _, _, rfl, by omega, (I10.unpinned (pins := [])).weak (by simp [wipe]) fun j v e => ?_, S6.keep (Nat.succ_pos _) (fun b hb o e => (pin b hb o e).1) fun g y e hs => e10 g y (e9 g y (e8 g y e hs) hs) hs, fun b hb => ?_, K11⟩
      · by_cases hj : iw = j
        · subst hj
          have h1 : (wipe σ [iw])[iw]? = (σ.set iw none)[iw]? := rfl
          rw [h1] at e
          by_cases hl : iw < σ.length
          · rw [List.getElem?_set_self hl] at e; cases e
          · rw [List.getElem?_eq_none (by rw [List.length_set]; omega)] at e; cases e
        · rw [List.getElem?_set_ne hj]; exact e
      · obtain ⟨o, e, _⟩ := ob b hb
        exact ⟨(pin b hb o e).2, (F6 b hb).2⟩
    · have ei : i = G.n := by omega
      subst ei
      refine thnF (end_next (X := X.blk s3 H3 scope ce [a, L]) hok hr hn0 S5 I5 M5 F5) fun r s6 ⟨hr6, I6⟩ => ?_
      subst hr6
      have I7 : Inv X pins σ H5 s6 := I3.call' (ch := [a, L]) I6.os I6.base I6.hok I6.bare fun b hb => ⟨(f3 b hb).1.2.2.2.1, (f3 b hb).1.2.1, (f3 b hb).1.2.2.2.2.1, (f3 b hb).1.2.2.2.2.2⟩
      have nC : H5 s3.heap.objs.size = none := by
        have z : H5 ce.locals = none := I6.free
        rw [cL] at z
        exact z
      obtain ⟨m, hn, _⟩ := I6.loc
      have hn : s6.heap.Ns ce.locals m := hn
      rw [cL] at hn
      exact hRR D s3.heap.objs.size s6 m H5 ps I7 K5 hn (I3.fpOk (Nat.le_refl _) nC)
  exact codeAny_compStart_list loop (wpAny_pyIter_gen st4.1 loop)
def sKept (K : PySem.W.Frag) (im ik : Nat) : TS := fun D σ H => ∃ G : Gm, σ[im]? = some (some (.ref G.m)) ∧ G.At K H ∧ G.Ok ∧ 0 < G.n ∧ G.n ≤ 24 ∧ ∀ l H' ps, KeptAt K G H l G.n H' ps → D.nx (σ.set ik (some (.ref l))) H'
theorem ps_kept (T : Tx X.w X.K X.mg) {iter : Expr} {scope : Scope} {p1 p2 pos py spos : Pos} {im ik iw : Nat} {x y : Str} (hc : X.calm = true) (hN : X.N.Nodup) (hx : X.N[iw]? = some x) (hy : X.N[ik]? = some y) (hyl : X.env.scope.names.lookup y = some .local) (hNm : X.N[im]? = some "menu")
    (hsw : swapsWith (.ListComp (.Name x p1) [⟨.Name x p2, iter, [], 0⟩] scope pos) (some (.Name y py)) spos.line X.env = pure true) (hi : ∀ G, PBk X G iter) (ok : BlkOk X.N X.env.scope scope [(x, iw)])
    (hg : ∀ (s : Shared) (H : Hp) (C : Addr) (cl : List (Str × Addr)) (fp : List Addr), PG (X.blk s H scope (compEnvC scope cl C X.env) fp) (.Name x p2) (gName iw)) (he : ∀ (s : Shared) (H : Hp) (C : Addr) (cl : List (Str × Addr)) (fp : List Addr), PE (X.blk s H scope (compEnvC scope cl C X.env) fp) (.Name x p1) (tVar iw))
    (hr : Room 6 X.A) (hs : ∀ x, foldedSetIterable iter X.env x = pure x := by intro _; rfl) :
    PS X (.Assign [.Name y py] (.ListComp (.Name x p1) [⟨.Name x p2, iter, [], 0⟩] scope pos) spos) (sKept X.K im ik) := by
  refine ⟨fun pins s σ H D I ⟨G, e, M, hok, hn0, hn1, q⟩ => ?_⟩
  rw [exec_Assign_Name_used _ _ _ _ hsw]
  refine wpAny_bind (wpAny_standAt (wpAny_bind ?_))
  show wpAny _ X.A (do let _ ← comprehension (.ListComp (.Name x p1) [⟨.Name x p2, iter, [], 0⟩] scope pos) scope X.env (firstIterPos [⟨.Name x p2, iter, [], 0⟩] pos) (newList []) false (eval iter X.env) (some (assign (.Name y py) X.env))) _ _ s
  refine wpAny_bind (thn (lcB_core T (Qf := fun _ s' => SP X pins D .next s') hc hN hx I M hok hn0 hn1 e hNm (hi G) ok hg he hr hs fun L C s' m H' ps I' k hn f => ?_) fun _ s' hq => wpAny_pure (wpAny_pure hq))
  show wpAny _ _ (assign (.Name y py) X.env (.ref L)) _ _ _
  refine wpAny_assign_Name (store_ok2 (v := V.ref L) I' hN hy (.inl hyl) rfl (fun s2 I2 ⟨a, sb, ha⟩ => ?_) (.inr hyl))
  obtain ⟨f0, f1, f2, f3, f4, f5⟩ := f
  have haC : C ≠ a := by
    rcases ha with z | z
    · rw [z]; exact f1
    · exact fun e => f4 y a z e.symm
  refine ⟨m, hn.sameBut sb haC, fun h3 sb3 => ?_⟩
  exact ⟨_, H', I2.turned (t' := s2.toks) (fun b o hb e => (sb3.2 b hb).trans e) f0 f1 f3 f4 f5, q _ _ _ k⟩
end
end
end Sm
set_option maxHeartbeats 4000000
namespace Sm
open PySem PySem.Spec PyProof.Rows L2
local macro_rules | `(tactic| walk_at "rd1") => `(tactic| first
  | (with_reducible refine r_seq ?_) | (with_reducible refine r_asg ?_) | (with_reducible refine r_gname ?_)
  | ((with_reducible refine' r_var ?e ?_); (case e => rfl)) | (with_reducible refine r_c ?_)
  | (with_reducible refine r_ret ?_) | (with_reducible refine r_retN ?_) | (with_reducible refine r_drop ?_) | (with_reducible refine r_next ?_) | (with_reducible refine r_ifs ?_)
  | (with_reducible refine r_op ?_) | (with_reducible refine r_rI0 ?_)
  | (with_reducible refine r_test ?_) | (with_reducible refine r_tb ?_) | (with_reducible refine Exists.intro _ (And.intro (Eq.refl (V.bl _)) ?_))
  | (with_reducible refine r_nil ?_) | (with_reducible refine r_cons ?_) | (with_reducible refine r_cb ?_) | (with_reducible refine r_call ?_)
  | (with_reducible refine r_callS ?_) | (with_reducible refine r_meth ?_) | (with_reducible refine r_ownIx ?_) | (with_reducible refine r_ownSet ?_)
  | (with_reducible refine r_not ?_) | (with_reducible refine r_and ?_) | (with_reducible refine r_or ?_)
  | (with_reducible refine r_lst ?_) | (with_reducible refine r_tup ?_) | (with_reducible refine Or.inl (Exists.intro _ (And.intro (Eq.refl [V.int _]) ?_)))
  | ((with_reducible refine r_rI ?c ?_); (case c => first | (show (0 : Int) < _; decide) | exact ⟨by decide, by decide⟩))
  | (with_reducible refine r_for ?_) | (with_reducible refine r_rng1 ?_) | (with_reducible refine r_rng2 ?_) | (with_reducible refine r_ilist ?_) | (with_reducible refine r_itup ?_)
  | (with_reducible refine r_m0 ?_) | (with_reducible refine r_m1 ?_) | (with_reducible refine r_isStr ?_) | (with_reducible refine r_newS ?_) | (with_reducible refine r_fld ?_)
  | (with_reducible refine r_bm ?_) | (with_reducible refine r_bm0 ?_) | (with_reducible refine r_sl ?_) | (with_reducible refine r_nopart ?_) | (with_reducible refine r_part ?_)
  | (with_reducible refine r_pcons ?_) | (with_reducible refine r_pnil ?_) | (with_reducible refine r_dget2 ?_) | (with_reducible refine r_dget1 ?_)
  | (with_reducible refine r_lc ?_) | (with_reducible refine r_yes ?_)
  | (with_reducible refine r_un ?_) | (with_reducible refine r_rU ?_)
  | (with_reducible refine r_disp ?_) | (with_reducible refine r_andV ?_) | (with_reducible refine r_orV ?_) | (with_reducible refine r_notV ?_) | (with_reducible refine r_dnewK ?_)
  | (with_reducible refine r_dget ?_) | (with_reducible refine r_dput ?_)
  | ((with_reducible refine r_rEq ?e ?_); (case e => rfl)) | ((with_reducible refine r_rNe ?e ?_); (case e => rfl)))
local macro_rules | `(tactic| walk_at "rd") => `(tactic| repeat (walk_at "rd1"))
section
variable {P : Program} {w : World} {K : PySem.W.Frag} {mg : Str → Option Value} {base : Heap}
/-! ### for one, two in zip(menu.books(), menu.books()) -/
structure ZDis (z TI TO : Addr) (fp1 fp2 : List Addr) : Prop where
  a : TI ≠ z
  b : TO ≠ z
  c : TI ≠ TO
  d1 : ∀ x ∈ fp1, x ≠ z ∧ x ≠ TI ∧ x ≠ TO ∧ x ∉ fp2
  d2 : ∀ x ∈ fp2, x ≠ z ∧ x ≠ TI ∧ x ≠ TO
structure ZSt (X : Cx) (G : Gm) (z TI TO a1 L1 a2 L2 : Addr) (g1 g2 : Nat) (f : Addr) (c1 c2 : Value) (fp1 fp2 : List Addr) (i : Nat) (s : Shared) : Prop where
  hz : IsZip s.heap z TI TO .none
  hTI : IsPair s.heap TI (.ref a1) (.ref a2)
  hTO : ∃ x y, IsPair s.heap TO x y
  S1 : GStd X G X.A.in1.in1 a1 L1 g1 f c1 fp1 i s
  S2 : GStd X G X.A.in1.in1 a2 L2 g2 f c2 fp2 i s
  ne : g1 ≠ g2
  dis : ZDis z TI TO fp1 fp2
section
variable {X : Cx} {G : Gm} {s : Shared} {i : Nat} {pins : List (Addr × Obj)} {σ : L2.St} {H : Hp} {Z : List Addr} {b : Addr}
theorem fpMore {h : Heap} (q : FpOk X pins H b) (hb : b ∉ Z) : FpOk X (pins ++ pinsAt Z h) H b := ⟨q.1, q.2.1, q.2.2.1, q.2.2.2.1, q.2.2.2.2.1, fun p hp => by
  rw [← List.append_assoc] at hp
  rcases List.mem_append.mp hp with z | z
  · exact q.2.2.2.2.2 p z
  · intro e
    exact hb (by rw [← e]; exact (of_pinsAt z).1)⟩
theorem fpLess {pl : List (Addr × Obj)} (q : FpOk X (pins ++ pl) H b) : FpOk X pins H b := ⟨q.1, q.2.1, q.2.2.1, q.2.2.2.1, q.2.2.2.2.1, fun p hp => q.2.2.2.2.2 p (by
  rw [← List.append_assoc]; exact List.mem_append_left _ hp)⟩
theorem fpAt {H' : Hp} (q : FpOk X pins H b) (h : H' b = none) : FpOk X pins H' b := ⟨h, q.2⟩
/-- one generator's item while Z's objects are kept -/
theorem item_keep (T : Tx X.w X.K X.mg) {A : Around} {a L f : Addr} {cdv : Value} {g : Nat} {fp : List Addr} (hok : G.Ok) (hr : Room 6 A) (hfr : A.frames = some X.stack) (hn2 : G.n < 2 ^ 62) (S : GStd X G A.in1 a L g f cdv fp i s) (hi : i < G.n) (I : Inv X pins σ H s) (M : G.At X.K H) (F : ∀ b ∈ fp, FpOk X pins H b)
    (FZ : ∀ b ∈ Z, FpOk X pins H b) (ob : ∀ b ∈ Z, ∃ o, s.heap.get? b = some o ∧ ∀ v, o.data ≠ .cell v) (dz : ∀ b ∈ fp, b ∉ Z) :
    wpAny (model X.prog X.w) A (Builtin.SmallTypes.nextOf (.ref a)) (fun v s' => ∃ p e H' fp', v = .ref p ∧ Inv X pins σ H' s' ∧ Chg [] H H' ∧ BookAt X.K H' p e (numB G.os (G.cs, (i : Int))).1 ∧
      (∀ b ∈ fp', FpOk X pins H' b) ∧ GStd X G A.in1 a L g f cdv fp' (i + 1) s' ∧ (∀ b ∈ fp', b ∈ fp ∨ s.heap.objs.size ≤ b) ∧ (∀ j, j ≠ g → s'.gens[j]? = s.gens[j]?) ∧ (∀ b ∈ Z, H' b = none ∧ ∀ o, s.heap.get? b = some o → s'.heap.get? b = some o)) (fun _ _ => False) s := by
  refine Gn.nextOf_of_wake S.1 (wpAny_mono (item_gen (A := A.in1) T hok hr.in1 hfr hn2 S hi (I.pinned FZ ob) M fun b hb => fpMore (F b hb) (dz b hb)) (fun fin s' hq => ?_) fun _ _ z => z)
  obtain ⟨v, e1, p, e, H', fp', rfl, q2, _, _, q5, q6, q7, q8, q9, q10⟩ := hq
  refine ⟨_, e1, p, e, H', fp', rfl, q2.unpinned, q5, q6, fun b hb => fpLess (q7 b hb), q8, q9, q10, fun b hb => ?_⟩
  obtain ⟨o, eo, _⟩ := ob b hb
  have z := q2.pin (b, o) (List.mem_append_right _ (List.mem_append_right _ (mem_pinsAt hb eo)))
  exact ⟨z.2.1, fun o' eo' => by rw [eo] at eo'; cases eo'; exact z.1⟩
theorem pair_obj {h : Heap} {T : Addr} {x y : Value} (e : IsPair h T x y) : ∃ o, h.get? T = some o ∧ ∀ v, o.data ≠ .cell v := ⟨_, e, fun v q => by cases q⟩
theorem zip_obj {h : Heap} {z TI TO : Addr} {f0 : Value} (e : IsZip h z TI TO f0) : ∃ o, h.get? z = some o ∧ ∀ v, o.data ≠ .cell v := ⟨_, e, fun v q => by cases q⟩
theorem item_zip (T : Tx X.w X.K X.mg) {z TI TO a1 L1 a2 L2 f : Addr} {g1 g2 : Nat} {c1 c2 : Value} {fp1 fp2 : List Addr} {elts : List Expr} {kk : Nat} {tpos : Pos} {E : Value → Shared → Prop} (hok : G.Ok) (hr : Room 7 X.A) (hn2 : G.n < 2 ^ 62)
    (S : ZSt X G z TI TO a1 L1 a2 L2 g1 g2 f c1 c2 fp1 fp2 i s) (hi : i < G.n) (I : Inv X pins σ H s) (M : G.At X.K H) (F0 : ∀ b ∈ [z, TI, TO], FpOk X pins H b) (F1 : ∀ b ∈ fp1, FpOk X pins H b) (F2 : ∀ b ∈ fp2, FpOk X pins H b) :
    wpAny (model X.prog X.w) X.A (pyNext (.ref z)) (fun r s1 => ∃ u, r = some u ∧ wpAny (model X.prog X.w) X.A (letOwnedTupleGo (.Tuple elts kk tpos) (.ref z) u) (fun _ s2 => ∃ p e q e' T H' fp1' fp2', u = .ref T ∧ Inv X pins σ H' s2 ∧ Chg [] H H' ∧ BookAt X.K H' p e (numB G.os (G.cs, (i : Int))).1 ∧ BookAt X.K H' q e' (numB G.os (G.cs, (i : Int))).1 ∧ H' T = some (.tup [.ref p, .ref q]) ∧
      (∀ b ∈ [z, TI, TO], FpOk X pins H' b) ∧ (∀ b ∈ fp1', FpOk X pins H' b) ∧ (∀ b ∈ fp2', FpOk X pins H' b) ∧ ZSt X G z TI TO a1 L1 a2 L2 g1 g2 f c1 c2 fp1' fp2' (i + 1) s2) E s1) E s := by
  obtain ⟨hz, hTI, ⟨x0, y0, hTO⟩, S1, S2, ne, dis⟩ := S
  refine Gn.pyNext_zipG_item dis.a dis.b hz hTI hTO fun h₁ hz₁ hs₁ => ?_
  -- z is marked
  have Fz := F0 z (by simp)
  have k1 : ∀ b o, b ≠ z → s.heap.get? b = some o → h₁.get? b = some o := fun b o hb e => (hs₁.2 b hb).trans e
  have I1 : Inv X pins σ H { s with heap := h₁ } := I.turnedL (t' := s.toks) (ch := [z]) (fun b o hb e => k1 b o (fun q => hb (by simp [q])) e) fun b hb => by rw [List.mem_singleton.mp hb]; exact Fz
  have S1a : GStd X G X.A.in1.in1 a1 L1 g1 f c1 fp1 i { s with heap := h₁ } := S1.keep0 (fun b hb o e => k1 b o (dis.d1 b hb).1 e) fun y e => e
  have S2a : GStd X G X.A.in1.in1 a2 L2 g2 f c2 fp2 i { s with heap := h₁ } := S2.keep0 (fun b hb o e => k1 b o (dis.d2 b hb).1 e) fun y e => e
  have sz1 : h₁.objs.size = s.heap.objs.size := hs₁.1
  have hTI₁ : IsPair h₁ TI (.ref a1) (.ref a2) := k1 TI _ dis.a hTI
  have hTO₁ : IsPair h₁ TO x0 y0 := k1 TO _ dis.b hTO
  have ob0 : ∀ b ∈ [z, TI, TO] ++ fp2, ∃ o, h₁.get? b = some o ∧ ∀ v, o.data ≠ .cell v := fun b hb => by
    rcases List.mem_append.mp hb with q | q
    · have e' : b = z ∨ b = TI ∨ b = TO := by simpa using q
      rcases e' with q | q | q
      · rw [q]; exact zip_obj hz₁
      · rw [q]; exact pair_obj hTI₁
      · rw [q]; exact pair_obj hTO₁
    · exact S2a.obj b q
  have nz : ∀ b ∈ fp1, b ∉ [z, TI, TO] ++ fp2 := fun b hb q => by
    obtain ⟨d1, d2, d3, d4⟩ := dis.d1 b hb
    rcases List.mem_append.mp q with q | q
    · have e' : b = z ∨ b = TI ∨ b = TO := by simpa using q
      rcases e' with q | q | q
      · exact d1 q
      · exact d2 q
      · exact d3 q
    · exact d4 q
  refine wpAny_mono (item_keep (Z := [z, TI, TO] ++ fp2) (A := X.A.in1) T hok hr.in1 I.ok.frames hn2 S1a hi I1 M F1 (fun b hb => (List.mem_append.mp hb).elim (F0 b) (F2 b)) ob0 nz) (fun v1 s₂ hq => ?_) fun _ _ z => z
  obtain ⟨p, e, H2, fp1', rfl, I2, ch2, B2, F1', S1', gr1, go1, kz1⟩ := hq
  have zz1 : ∀ b ∈ [z, TI, TO] ++ fp2, ∀ o, h₁.get? b = some o → s₂.heap.get? b = some o := fun b hb => (kz1 b hb).2
  have hTO₂ : IsPair s₂.heap TO x0 y0 := zz1 TO (by simp) _ hTO₁
  refine ⟨hTO₂, fun h₃ hTO₃ hs₃ => ?_⟩
  -- the pair is filled
  have lt1 : ∀ {b : Addr} {o : Obj}, h₁.get? b = some o → b < s.heap.objs.size := fun {b o} e => by rw [← sz1]; exact Heap.lt_size e
  have n1 : ∀ b ∈ fp1', b ∉ [z, TI, TO] ++ fp2 := fun b hb q => by
    rcases gr1 b hb with w | w
    · exact nz b w q
    · obtain ⟨o, eo, _⟩ := ob0 b q
      have := Heap.lt_size eo
      exact absurd (Nat.lt_of_lt_of_le this w) (Nat.lt_irrefl _)
  have F02 : ∀ b ∈ [z, TI, TO], FpOk X pins H2 b := fun b hb => fpAt (F0 b hb) (kz1 b (List.mem_append_left _ hb)).1
  have F22 : ∀ b ∈ fp2, FpOk X pins H2 b := fun b hb => fpAt (F2 b hb) (kz1 b (List.mem_append_right _ hb)).1
  have k3 : ∀ b o, b ≠ TO → s₂.heap.get? b = some o → h₃.get? b = some o := fun b o hb e => (hs₃.2 b hb).trans e
  have I3 : Inv X pins σ H2 { s₂ with heap := h₃ } := I2.turnedL (t' := s₂.toks) (ch := [TO]) (fun b o hb e => k3 b o (fun q => hb (by simp [q])) e) fun b hb => by rw [List.mem_singleton.mp hb]; exact F02 TO (by simp)
  have M3 : G.At X.K H2 := M.chg0 ch2
  have S1b : GStd X G X.A.in1.in1 a1 L1 g1 f c1 fp1' (i + 1) { s₂ with heap := h₃ } := S1'.keep0 (fun b hb o e => k3 b o (fun q => n1 b hb (by rw [q]; simp)) e) fun y e => e
  have S2b : GStd X G X.A.in1.in1 a2 L2 g2 f c2 fp2 i { s₂ with heap := h₃ } := S2a.keep0 (fun b hb o e => k3 b o (dis.d2 b hb).2.2 (zz1 b (List.mem_append_right _ hb) o e)) fun y e => by
    show s₂.gens[g2]? = _
    rw [go1 g2 (Ne.symm ne)]; exact e
  have hz₃ : IsZip h₃ z TI TO .ellipsis := k3 z _ (Ne.symm dis.b) (zz1 z (by simp) _ hz₁)
  have hTI₃ : IsPair h₃ TI (.ref a1) (.ref a2) := k3 TI _ dis.c (zz1 TI (by simp) _ hTI₁)
  have ob3 : ∀ b ∈ [z, TI, TO] ++ fp1', ∃ o, h₃.get? b = some o ∧ ∀ v, o.data ≠ .cell v := fun b hb => by
    rcases List.mem_append.mp hb with q | q
    · have e' : b = z ∨ b = TI ∨ b = TO := by simpa using q
      rcases e' with q | q | q
      · rw [q]; exact zip_obj hz₃
      · rw [q]; exact pair_obj hTI₃
      · rw [q]; exact pair_obj hTO₃
    · exact S1b.obj b q
  have nz2 : ∀ b ∈ fp2, b ∉ [z, TI, TO] ++ fp1' := fun b hb q => by
    rcases List.mem_append.mp q with q | q
    · obtain ⟨d1, d2, d3⟩ := dis.d2 b hb
      have e' : b = z ∨ b = TI ∨ b = TO := by simpa using q
      rcases e' with q | q | q
      · exact d1 q
      · exact d2 q
      · exact d3 q
    · exact n1 b q (List.mem_append_right _ hb)
  refine wpAny_mono (item_keep (Z := [z, TI, TO] ++ fp1') (A := X.A.in1) T hok hr.in1 I.ok.frames hn2 S2b hi I3 M3 F22 (fun b hb => (List.mem_append.mp hb).elim (F02 b) (F1' b)) ob3 nz2) (fun v2 s₄ hq => ?_) fun _ _ z => z
  obtain ⟨q, e', H4, fp2', rfl, I4, ch4, B4, F2', S2', gr2, go2, kz2⟩ := hq
  have zz2 : ∀ b ∈ [z, TI, TO] ++ fp1', ∀ o, h₃.get? b = some o → s₄.heap.get? b = some o := fun b hb => (kz2 b hb).2
  refine ⟨zz2 TO (by simp) _ hTO₃, zz2 z (by simp) _ hz₃, fun h₈ hz₈ hTO₈ hT₈ hsz₈ hk₈ => ⟨_, rfl, ?_⟩⟩
  -- the tuple is handed out
  refine wpAny_letOwnedTupleGo_zip (s := { s₄ with heap := h₈ }) hz₈ fun h₉ hz₉ hs₉ => ?_
  have F04 : ∀ b ∈ [z, TI, TO], FpOk X pins H4 b := fun b hb => fpAt (F02 b hb) (kz2 b (List.mem_append_left _ hb)).1
  have F14 : ∀ b ∈ fp1', FpOk X pins H4 b := fun b hb => fpAt (F1' b hb) (kz2 b (List.mem_append_right _ hb)).1
  have n2 : ∀ b ∈ fp2', b ∉ [z, TI, TO] ++ fp1' := fun b hb w => by
    rcases gr2 b hb with v | v
    · exact nz2 b v w
    · obtain ⟨o, eo, _⟩ := ob3 b w
      exact absurd (Nat.lt_of_lt_of_le (Heap.lt_size eo) v) (Nat.lt_irrefl _)
  generalize eT : s₄.heap.objs.size = T at *
  have hTn : H4 T = none := I4.hok.fresh (Nat.le_of_eq eT)
  have hzT : z < T := by rw [← eT]; exact Heap.lt_size (zz2 z (by simp) _ hz₃)
  have hT₉ : h₉.get? T = some { cls := .type "tuple", data := .seq #[.ref p, .ref q] } := (hs₉.2 _ (Nat.ne_of_gt hzT)).trans hT₈
  have new : ObjOk X.prog X.w (upd H4 T (.tup [.ref p, .ref q])) h₉ T (.tup [.ref p, .ref q]) := ⟨by show 2 ≤ sizeLine; decide, [.ref p, .ref q], .cons rfl (.cons rfl .nil), ⟨_, hT₉, rfl, _, rfl⟩⟩
  have k9 : ∀ b o, b ≠ z → b ≠ TO → s₄.heap.get? b = some o → h₉.get? b = some o := fun b o n1 n2 e => (hs₉.2 b n1).trans (hk₈ b o n1 n2 e)
  have I9 : Inv X pins σ (upd H4 T (.tup [.ref p, .ref q])) { s₄ with heap := h₉ } :=
    I4.turnedNew (t' := s₄.toks) (ch := [z, TO]) (fun b o hb e => k9 b o (fun w => hb (by simp [w])) (fun w => hb (by simp [w])) e) (fun b hb => F04 b (by
      have e' : b = z ∨ b = TO := by simpa using hb
      rcases e' with w | w <;> simp [w])) (Nat.le_of_eq eT) new
  have cT : Chg [] H4 (upd H4 T (.tup [.ref p, .ref q])) := Chg.new hTn
  have up : ∀ {b : Addr} {o : Obj}, s₄.heap.get? b = some o → (upd H4 T (.tup [.ref p, .ref q])) b = H4 b := fun {b o} eo => upd_ne (by rw [← eT]; exact Nat.ne_of_lt (Heap.lt_size eo))
  refine ⟨p, e, q, e', T, _, fp1', fp2', rfl, I9, (ch2.trans ch4).trans cT, (B2.chg ch4 nm0 nm0).chg cT nm0 nm0, B4.chg cT nm0 nm0, upd_same, fun b hb => ?_, fun b hb => ?_, fun b hb => ?_, hz₉, ?_, ⟨.ref p, .ref q, ?_⟩, ?_, ?_, ne, ⟨dis.a, dis.b, dis.c, fun b hb => ?_, fun b hb => ?_⟩⟩
  · obtain ⟨o, eo, _⟩ := ob3 b (List.mem_append_left _ hb)
    exact fpAt (F04 b hb) (by rw [up (zz2 b (List.mem_append_left _ hb) _ eo)]; exact (F04 b hb).1)
  · obtain ⟨o, eo, _⟩ := ob3 b (List.mem_append_right _ hb)
    exact fpAt (F14 b hb) (by rw [up (zz2 b (List.mem_append_right _ hb) _ eo)]; exact (F14 b hb).1)
  · obtain ⟨o, eo, _⟩ := S2'.obj b hb
    exact fpAt (F2' b hb) (by rw [up eo]; exact (F2' b hb).1)
  · exact k9 TI _ dis.a dis.c (zz2 TI (by simp) _ hTI₃)
  · exact (hs₉.2 _ dis.b).trans hTO₈
  · refine S1b.keep0 (fun b hb o eo => ?_) fun y ey => ?_
    · have w := n1 b hb
      exact k9 b o (fun v => w (by rw [v]; simp)) (fun v => w (by rw [v]; simp)) (zz2 b (List.mem_append_right _ hb) o eo)
    · show s₄.gens[g1]? = _
      rw [go2 g1 ne]; exact ey
  · refine S2'.keep0 (fun b hb o eo => ?_) fun y ey => ey
    have w := n2 b hb
    exact k9 b o (fun v => w (by rw [v]; simp)) (fun v => w (by rw [v]; simp)) eo
  · have w := n1 b hb
    exact ⟨fun v => w (by rw [v]; simp), fun v => w (by rw [v]; simp), fun v => w (by rw [v]; simp), fun v => n2 b v (List.mem_append_right _ hb)⟩
  · have w := n2 b hb
    exact ⟨fun v => w (by rw [v]; simp), fun v => w (by rw [v]; simp), fun v => w (by rw [v]; simp)⟩
theorem end_zip {z TI TO a1 L1 a2 L2 f : Addr} {g1 g2 : Nat} {c1 c2 : Value} {fp1 fp2 : List Addr} {E : Value → Shared → Prop} (hok : G.Ok) (hr : Room 7 X.A) (hn : 0 < G.n)
    (S : ZSt X G z TI TO a1 L1 a2 L2 g1 g2 f c1 c2 fp1 fp2 G.n s) (I : Inv X pins σ H s) (M : G.At X.K H) (F0 : ∀ b ∈ [z, TI, TO], FpOk X pins H b) (F1 : ∀ b ∈ fp1, FpOk X pins H b) :
    wpAny (model X.prog X.w) X.A (pyNext (.ref z)) (fun r s' => r = none ∧ Inv X pins σ H s') E s := by
  obtain ⟨hz, hTI, ⟨x0, y0, hTO⟩, S1, S2, ne, dis⟩ := S
  refine Gn.pyNext_zipG_end hz hTI hTO fun h₁ hz₁ hs₁ => ?_
  have Fz := F0 z (by simp)
  have k1 : ∀ b o, b ≠ z → s.heap.get? b = some o → h₁.get? b = some o := fun b o hb e => (hs₁.2 b hb).trans e
  have I1 : Inv X pins σ H { s with heap := h₁ } := I.turnedL (t' := s.toks) (ch := [z]) (fun b o hb e => k1 b o (fun q => hb (by simp [q])) e) fun b hb => by rw [List.mem_singleton.mp hb]; exact Fz
  have S1a : GStd X G X.A.in1.in1 a1 L1 g1 f c1 fp1 G.n { s with heap := h₁ } := S1.keep0 (fun b hb o e => k1 b o (dis.d1 b hb).1 e) fun y e => e
  have ob0 : ∀ b ∈ [z], ∃ o, h₁.get? b = some o ∧ ∀ v, o.data ≠ .cell v := fun b hb => by rw [List.mem_singleton.mp hb]; exact zip_obj hz₁
  refine Gn.nextOf_of_wake S1a.1 (wpAny_mono (end_gen (A := X.A.in1.in1) hok hr.in1.in1 hn S1a (I1.pinned (fp := [z]) (fun b hb => by rw [List.mem_singleton.mp hb]; exact Fz) ob0) M fun b hb => fpMore (F1 b hb) (fun q => (dis.d1 b hb).1 (List.mem_singleton.mp q))) (fun fin s' hq => hq.elim) fun e s' hq => ?_)
  obtain ⟨b, rfl, st, I', _⟩ := hq
  have hz' := (I'.pin (z, _) (List.mem_append_right _ (List.mem_append_right _ (mem_pinsAt (List.mem_singleton.mpr rfl) hz₁)))).1
  refine ⟨hz', ⟨b, rfl, st⟩, fun h₃ hs₃ => ⟨rfl, ?_⟩⟩
  exact I'.unpinned.turnedL (t' := s'.toks) (ch := [z]) (fun b o hb e => (hs₃.2 b (fun q => hb (by simp [q]))).trans e) fun b hb => by rw [List.mem_singleton.mp hb]; exact Fz
/-- the loop's reading -/
def sZip (K : PySem.W.Frag) (im : Nat) (g : TG) (tb : TS) : TS := fun D σ H => ∃ (G : Gm) (Pv : Nat → L2.St → Hp → Prop), σ[im]? = some (some (.ref G.m)) ∧ G.Ok ∧ 0 < G.n ∧ G.n ≤ 24 ∧ Pv 0 σ H ∧ (∀ i σ H, Pv i σ H → G.At K H) ∧
  (∀ i σ H p e q e' T H', i < G.n → Pv i σ H → Chg [] H H' → BookAt K H' p e (numB G.os (G.cs, ((i : Nat) : Int))).1 → BookAt K H' q e' (numB G.os (G.cs, ((i : Nat) : Int))).1 → H' T = some (.tup [.ref p, .ref q]) →
    g (.ref T) σ H' fun σ2 H2 => tb { D with nx := Pv (i + 1), ct := Pv (i + 1), bk := D.nx } σ2 H2) ∧ ∀ σ H, Pv G.n σ H → D.nx σ H
theorem born_keep {a L f : Addr} {g : Nat} {cdv : Value} {s' : Shared} (B : Born G a L g f cdv s) (k : ∀ b o, s.heap.get? b = some o → s'.heap.get? b = some o) (hs : ∀ (j : Nat) (y : GenState), s.gens[j]? = some y → s'.gens[j]? = some y) : Born G a L g f cdv s' := by
  obtain ⟨hg, h2, mm, hn, hm⟩ := B
  exact ⟨hg.keeps k, hs _ _ h2, mm, hn.keeps k, hm⟩
theorem ps_zipB (T : Tx X.w X.K X.mg) {e1 e2 : Expr} {elts : List Expr} {kk im : Nat} {tpos pz pos fpos : Pos} {body : List Stmt} {g : TG} {tb : TS} (hx0 : X.xe = fun _ _ => False) (hc : X.calm = true) (hNm : X.N[im]? = some "menu") (hgz : Gl X "zip") (hmz : X.mg "zip" = none)
    (hi1 : ∀ G, PBk X G e1) (hi2 : ∀ G, PBk X G e2) (hg : PG X (.Tuple elts kk tpos) g) (hb : PSs X body tb) (hr : Room 7 X.A)
    (hs1 : starEach [e1, e2] X.env = (false, eval e1 X.env) :: starEach [e2] X.env := by rfl) (hs2 : starEach [e2] X.env = (false, eval e2 X.env) :: starEach [] X.env := by rfl) (hpl : (backTo pos (starEach [e2] X.env)).any (·.1) = false := by rfl)
    (hs : ∀ x, foldedSetIterable (.Call (.Name "zip" pz) [e1, e2] [] pos) X.env x = pure x := by intro _; rfl) :
    PS X (.For (.Tuple elts kk tpos) (.Call (.Name "zip" pz) [e1, e2] [] pos) body [] fpos) (sZip X.K im g tb) := by
  refine ⟨fun pins s σ H D I ⟨G, Pv, hσ, hok, hn0, hn1, h0, hM, step, done⟩ => ?_⟩
  have M := hM 0 σ H h0
  refine wpAny_For ?_ hs
  refine Call_ (ld_blt I hgz hmz PyProof.Rows.boot_zip (PyProof.Rows.callWith_type1 ?_ hs1 hpl))
  rw [hs1]
  show wpAny _ _ (spliced ((false, eval e1 X.env) :: backTo pos (starEach [e2] X.env))) _ _ s
  refine Calls.spliced_cons (thn ((hi1 G).run pins s σ H im I M hσ hNm _) fun u1 s1 q1 => ?_)
  obtain ⟨a1, L1, c1, rfl, l1, l2, l3, B1, I1, G1, k1⟩ := q1
  rw [hs2]
  show wpAny _ _ (spliced ((false, eval e2 X.env) :: backTo pos (starEach [] X.env))) _ _ s1
  refine Calls.spliced_cons (thn ((hi2 G).run pins s1 σ H im I1 M hσ hNm _) fun u2 s2 q2 => ?_)
  obtain ⟨a2, M2, c2, rfl, m1, m2, m3, B2, I2, G2, k2⟩ := q2
  refine Calls.spliced_nil ?_
  have B1' := born_keep B1 k2 G2
  refine Gn.call_zipG B1'.gen B2.gen fun h3 hz hTI hTO hsz k3 => wpAny_pyIter_zip hz ?_
  have I3 : Inv X pins σ H { s2 with heap := h3 } := I2.kept (t' := s2.toks) k3
  have hs1s : s1.heap.objs.size ≤ s2.heap.objs.size := Nat.le_of_lt (Nat.lt_of_le_of_lt m1 (Nat.lt_trans m2 m3))
  have yng : ∀ b, s.heap.objs.size ≤ b → FpOk X pins H b := fun b hb => I.fpOk hb (I.hok.fresh hb)
  have hss1 : s.heap.objs.size ≤ s1.heap.objs.size := Nat.le_of_lt (Nat.lt_of_le_of_lt l1 (Nat.lt_trans l2 l3))
  have hss2 := Nat.le_trans hss1 hs1s
  generalize ez : s2.heap.objs.size = n2 at *
  have gne : s.gens.size ≠ s1.gens.size := Nat.ne_of_lt (lt_of_gens B1.gs)
  have Z0 : ZSt X G (n2 + 2) n2 (n2 + 1) a1 L1 a2 M2 s.gens.size s1.gens.size (He.fAd X.K ("Menu", some "books")) c1 c2 [a1, L1] [a2, M2] 0 { s2 with heap := h3 } :=
    ⟨hz, hTI, ⟨_, _, hTO⟩, ⟨B1'.gen.keeps k3, l2, .inl ⟨rfl, rfl, born_keep B1' k3 fun j y e => e⟩⟩, ⟨B2.gen.keeps k3, m2, .inl ⟨rfl, rfl, born_keep B2 k3 fun j y e => e⟩⟩, gne, ⟨by intro w; simp at w, by intro w; simp at w, by intro w; simp at w, fun x hx => ?_, fun x hx => ?_⟩⟩
  rotate_left
  · have e' : x = a1 ∨ x = L1 := by simpa using hx
    have lx : x < s1.heap.objs.size := e'.elim (fun w => by rw [w]; exact l3) fun w => by rw [w]; exact Nat.lt_trans l2 l3
    have lx2 : x < n2 := Nat.lt_of_lt_of_le lx hs1s
    refine ⟨Nat.ne_of_lt (Nat.lt_add_right _ lx2), Nat.ne_of_lt lx2, Nat.ne_of_lt (Nat.lt_add_right _ lx2), fun w => ?_⟩
    have e2 : x = a2 ∨ x = M2 := by simpa using w
    rcases e2 with v | v
    · rw [v] at lx; exact absurd (Nat.lt_of_lt_of_le lx m1) (Nat.not_lt.mpr (Nat.le_of_lt m2))
    · rw [v] at lx; exact absurd (Nat.lt_of_lt_of_le lx m1) (Nat.lt_irrefl _)
  · have e' : x = a2 ∨ x = M2 := by simpa using hx
    have lx2 : x < n2 := e'.elim (fun w => by rw [w]; exact m3) fun w => by rw [w]; exact Nat.lt_trans m2 m3
    exact ⟨Nat.ne_of_lt (Nat.lt_add_right _ lx2), Nat.ne_of_lt lx2, Nat.ne_of_lt (Nat.lt_add_right _ lx2)⟩
  have F0 : ∀ b ∈ [n2 + 2, n2, n2 + 1], FpOk X pins H b := fun b hb => yng b (by
    have e' : b = n2 + 2 ∨ b = n2 ∨ b = n2 + 1 := by simpa using hb
    rcases e' with w | w | w <;> rw [w]
    · exact Nat.le_add_right_of_le hss2
    · exact hss2
    · exact Nat.le_add_right_of_le hss2)
  have F1 : ∀ b ∈ [a1, L1], FpOk X pins H b := fun b hb => yng b (by
    have e' : b = a1 ∨ b = L1 := by simpa using hb
    rcases e' with w | w <;> rw [w]
    · exact Nat.le_trans l1 (Nat.le_of_lt l2)
    · exact l1)
  have F2 : ∀ b ∈ [a2, M2], FpOk X pins H b := fun b hb => yng b (by
    have e' : b = a2 ∨ b = M2 := by simpa using hb
    rcases e' with w | w <;> rw [w]
    · exact Nat.le_trans hss1 (Nat.le_trans m1 (Nat.le_of_lt m2))
    · exact Nat.le_trans hss1 m1)
  have gR : ∀ (pins : List (Addr × Obj)) (s : Shared) (σ : L2.St) (H : Hp) (v : V) (u : Value) (Q : L2.St → Hp → Prop), Inv X pins σ H s → RelV v u → g v σ H Q → wpAny (model X.prog X.w) X.A (assign (.Tuple elts kk tpos) X.env u) (fun _ s' => ∃ σ' H', Inv X pins σ' H' s' ∧ Q σ' H') (fun _ _ => False) s := fun pins s σ H v u Q I r q => by
    have z := hg.run pins s σ H v u Q I r q
    rw [hx0] at z
    exact z
  have bR : ∀ (pins : List (Addr × Obj)) (s : Shared) (σ : L2.St) (H : Hp) (D : Ends), Inv X pins σ H s → tb D σ H → wpAny (model X.prog X.w) X.A (execs body X.env) (SP X pins D) (fun _ _ => False) s := fun pins s σ H D I q => by
    have z := hb.run pins s σ H D I q
    rw [hx0] at z
    exact z
  refine codeAny_forLoop_any (fun n s' => ∃ i fp1 fp2 σ' H', n = G.n - i ∧ i ≤ G.n ∧ Inv X pins σ' H' s' ∧ ZSt X G (n2 + 2) n2 (n2 + 1) a1 L1 a2 M2 s.gens.size s1.gens.size (He.fAd X.K ("Menu", some "books")) c1 c2 fp1 fp2 i s' ∧ (∀ b ∈ [n2 + 2, n2, n2 + 1], FpOk X pins H' b) ∧ (∀ b ∈ fp1, FpOk X pins H' b) ∧ (∀ b ∈ fp2, FpOk X pins H' b) ∧ Pv i σ' H') ?_ G.n
    ⟨0, [a1, L1], [a2, M2], σ, H, rfl, Nat.zero_le _, I3, Z0, F0, F1, F2, h0⟩
  rintro n s4 ⟨i, fp1, fp2, σ4, H4, rfl, hin, I4, S4, F04, F14, F24, P4⟩
  by_cases hi' : i < G.n
  · refine thn (item_zip (elts := elts) (kk := kk) (tpos := tpos) T hok hr (by omega) S4 hi' I4 (hM i σ4 H4 P4) F04 F14 F24) fun r s5 h5 => ?_
    obtain ⟨u, rfl, h5⟩ := h5
    refine thn h5 fun _ s6 h6 => ?_
    obtain ⟨p, e, q, e', Ta, H6, fp1', fp2', rfl, I6, c6, Bp, Bq, eT, F06, F16, F26, S6⟩ := h6
    have FA : ∀ b ∈ [n2 + 2, n2, n2 + 1] ++ fp1' ++ fp2', FpOk X pins H6 b := fun b hb => (List.mem_append.mp hb).elim (fun w => (List.mem_append.mp w).elim (F06 b) (F16 b)) (F26 b)
    have OA : ∀ b ∈ [n2 + 2, n2, n2 + 1] ++ fp1' ++ fp2', ∃ o, s6.heap.get? b = some o ∧ ∀ v, o.data ≠ .cell v := fun b hb => by
      rcases List.mem_append.mp hb with w | w
      · rcases List.mem_append.mp w with w | w
        · have e' : b = n2 + 2 ∨ b = n2 ∨ b = n2 + 1 := by simpa using w
          obtain ⟨hz, hTI, ⟨_, _, hTO⟩, _⟩ := S6
          rcases e' with w | w | w <;> rw [w]
          · exact zip_obj hz
          · exact pair_obj hTI
          · exact pair_obj hTO
        · exact S6.S1.obj b w
      · exact S6.S2.obj b w
    have I7 := I6.pinned FA OA
    refine sleepF (gR _ _ _ H6 (.ref Ta) (.ref Ta) _ (inv_dull I7) rfl (step i σ4 H4 p e q e' Ta H6 hi' P4 c6 Bp Bq eT)) fun _ s8 G8 S8 e8 h8 => ?_
    obtain ⟨σ8, H8, I8, q8⟩ := h8
    have I8 := inv_awake S8 I8
    refine sleepF (bR _ _ _ H8 _ (inv_dull I8) q8) fun fl s9 G9 S9 e9 h9 => ?_
    have again : ∀ {σ9 : L2.St} {H9 : Hp}, Inv X (pins ++ pinsAt ([n2 + 2, n2, n2 + 1] ++ fp1' ++ fp2') s6.heap) σ9 H9 s9 → Pv (i + 1) σ9 H9 → ∃ m, m < G.n - i ∧ ∃ i fp1 fp2 σ' H', m = G.n - i ∧ i ≤ G.n ∧ Inv X pins σ' H' s9 ∧ ZSt X G (n2 + 2) n2 (n2 + 1) a1 L1 a2 M2 s.gens.size s1.gens.size (He.fAd X.K ("Menu", some "books")) c1 c2 fp1 fp2 i s9 ∧ (∀ b ∈ [n2 + 2, n2, n2 + 1], FpOk X pins H' b) ∧ (∀ b ∈ fp1, FpOk X pins H' b) ∧ (∀ b ∈ fp2, FpOk X pins H' b) ∧ Pv i σ' H' := fun {σ9 H9} I9 P9 => by
      have pin : ∀ b ∈ [n2 + 2, n2, n2 + 1] ++ fp1' ++ fp2', H9 b = none ∧ ∀ o, s6.heap.get? b = some o → s9.heap.get? b = some o := fun b hb => by
        obtain ⟨o, eo, _⟩ := OA b hb
        have z := I9.pin (b, o) (List.mem_append_right _ (List.mem_append_right _ (mem_pinsAt hb eo)))
        exact ⟨z.2.1, fun o' eo' => by rw [eo] at eo'; cases eo'; exact z.1⟩
      have m0 : ∀ b ∈ [n2 + 2, n2, n2 + 1], b ∈ [n2 + 2, n2, n2 + 1] ++ fp1' ++ fp2' := fun b hb => List.mem_append_left _ (List.mem_append_left _ hb)
      have m1 : ∀ b ∈ fp1', b ∈ [n2 + 2, n2, n2 + 1] ++ fp1' ++ fp2' := fun b hb => List.mem_append_left _ (List.mem_append_right _ hb)
      have m2 : ∀ b ∈ fp2', b ∈ [n2 + 2, n2, n2 + 1] ++ fp1' ++ fp2' := fun b hb => List.mem_append_right _ hb
      have es : SameS s6 s9 := fun g y ey hs => e9 g y (e8 g y ey hs) hs
      obtain ⟨hz, hTI, ⟨x', y', hTO⟩, S1, S2, ne, dis⟩ := S6
      refine ⟨G.n - (i + 1), by omega, i + 1, fp1', fp2', σ9, H9, rfl, by omega, I9.unpinned, ⟨(pin _ (m0 _ (by simp))).2 _ hz, (pin _ (m0 _ (by simp))).2 _ hTI, ⟨x', y', (pin _ (m0 _ (by simp))).2 _ hTO⟩, S1.keep (Nat.succ_pos _) (fun b hb o eo => (pin b (m1 b hb)).2 o eo) es, S2.keep (Nat.succ_pos _) (fun b hb o eo => (pin b (m2 b hb)).2 o eo) es, ne, dis⟩,
        fun b hb => fpAt (F06 b hb) (pin b (m0 b hb)).1, fun b hb => fpAt (F16 b hb) (pin b (m1 b hb)).1, fun b hb => fpAt (F26 b hb) (pin b (m2 b hb)).1, P9⟩
    cases fl with
    | next => obtain ⟨σ9, H9, I9, n9⟩ := h9; exact again (inv_awake S9 I9) n9
    | cont => obtain ⟨σ9, H9, I9, n9⟩ := h9; exact again (inv_awake S9 I9) n9
    | brk => obtain ⟨σ9, H9, I9, q9⟩ := h9; exact ⟨σ9, H9, (inv_awake S9 I9).unpinned, q9⟩
    | ret v => obtain ⟨x9, σ9, H9, I9, r9, q9⟩ := h9; exact ⟨x9, σ9, H9, (inv_awake S9 I9).unpinned, r9, q9⟩
  · have ei : i = G.n := by omega
    subst ei
    refine thn (end_zip hok hr hn0 S4 I4 (hM _ σ4 H4 P4) F04 F14) fun r s5 h5 => ?_
    obtain ⟨rfl, I5⟩ := h5
    exact wpAny_execs_nil ⟨σ4, H4, I5, done σ4 H4 P4⟩
end
end
end Sm
set_option maxHeartbeats 4000000
namespace Sm
open PySem PySem.Spec PyProof.Rows L2
local macro_rules | `(tactic| walk_at "rd1") => `(tactic| first
  | (with_reducible refine r_seq ?_) | (with_reducible refine r_asg ?_) | (with_reducible refine r_gname ?_)
  | ((with_reducible refine' r_var ?e ?_); (case e => rfl)) | (with_reducible refine r_c ?_)
  | (with_reducible refine r_ret ?_) | (with_reducible refine r_retN ?_) | (with_reducible refine r_drop ?_) | (with_reducible refine r_next ?_) | (with_reducible refine r_ifs ?_)
  | (with_reducible refine r_op ?_) | (with_reducible refine r_rI0 ?_)
  | (with_reducible refine r_test ?_) | (with_reducible refine r_tb ?_) | (with_reducible refine Exists.intro _ (And.intro (Eq.refl (V.bl _)) ?_))
  | (with_reducible refine r_nil ?_) | (with_reducible refine r_cons ?_) | (with_reducible refine r_cb ?_) | (with_reducible refine r_call ?_)
  | (with_reducible refine r_callS ?_) | (with_reducible refine r_meth ?_) | (with_reducible refine r_ownIx ?_) | (with_reducible refine r_ownSet ?_)
  | (with_reducible refine r_not ?_) | (with_reducible refine r_and ?_) | (with_reducible refine r_or ?_)
  | (with_reducible refine r_lst ?_) | (with_reducible refine r_tup ?_) | (with_reducible refine Or.inl (Exists.intro _ (And.intro (Eq.refl [V.int _]) ?_)))
  | ((with_reducible refine r_rI ?c ?_); (case c => first | (show (0 : Int) < _; decide) | exact ⟨by decide, by decide⟩))
  | (with_reducible refine r_for ?_) | (with_reducible refine r_rng1 ?_) | (with_reducible refine r_rng2 ?_) | (with_reducible refine r_ilist ?_) | (with_reducible refine r_itup ?_)
  | (with_reducible refine r_m0 ?_) | (with_reducible refine r_m1 ?_) | (with_reducible refine r_isStr ?_) | (with_reducible refine r_newS ?_) | (with_reducible refine r_fld ?_)
  | (with_reducible refine r_bm ?_) | (with_reducible refine r_bm0 ?_) | (with_reducible refine r_sl ?_) | (with_reducible refine r_nopart ?_) | (with_reducible refine r_part ?_)
  | (with_reducible refine r_pcons ?_) | (with_reducible refine r_pnil ?_) | (with_reducible refine r_dget2 ?_) | (with_reducible refine r_dget1 ?_)
  | (with_reducible refine r_lc ?_) | (with_reducible refine r_yes ?_)
  | (with_reducible refine r_un ?_) | (with_reducible refine r_rU ?_)
  | (with_reducible refine r_disp ?_) | (with_reducible refine r_andV ?_) | (with_reducible refine r_orV ?_) | (with_reducible refine r_notV ?_) | (with_reducible refine r_dnewK ?_)
  | (with_reducible refine r_dget ?_) | (with_reducible refine r_dput ?_)
  | ((with_reducible refine r_rEq ?e ?_); (case e => rfl)) | ((with_reducible refine r_rNe ?e ?_); (case e => rfl)))
local macro_rules | `(tactic| walk_at "rd") => `(tactic| repeat (walk_at "rd1"))
section
variable {P : Program} {w : World} {K : PySem.W.Frag} {mg : Str → Option Value} {base : Heap}
theorem r_sfld {K : PySem.W.Frag} {ta tv : TE} {f : Str} {D : Ends} {σ : L2.St} {H : Hp} (h : tv σ H fun y H1 => ta σ H1 fun x H2 => ∃ a C dx fs, x = .ref a ∧ H2 a = some (.ins C dx fs) ∧ Cls K C ∧ NoAttr K C f ∧ fs.length < 1000 ∧ D.nx σ (upd H2 a (.ins C dx (putF f y fs)))) : sFld K ta tv f D σ H := h
theorem r_din {ty td : TE} {σ : L2.St} {H : Hp} {Q : VK} (h : ty σ H fun y H1 => td σ H1 fun x H2 => ∃ a o, x = .ref a ∧ DGet H2 a y o ∧ Q (.bl o.isSome) H2) : tDIn ty td σ H Q := h
/-- an object that was not there may change -/
theorem GAt.new {H H' : Hp} {d D : Addr} {os : GO} {rs : List Addr} (h : GAt H d os rs) (c : Chg [D] H H') (n : H D = none) : GAt H' d os rs :=
  h.chg c (nm1 (ne_of_none h.d n)) fun r hr => by
    obtain ⟨q, _, er⟩ := h.there r hr
    exact nm1 (ne_of_none er n)
theorem BookAt.new {K : PySem.W.Frag} {H H' : Hp} {p d D : Addr} {cs : List Str} (B : BookAt K H p d cs) (c : Chg [D] H H') (n : H D = none) : BookAt K H' p d cs := by
  obtain ⟨⟨dx, ep⟩, ed⟩ := id B
  exact B.chg c (nm1 (ne_of_none ep n)) (nm1 (ne_of_none ed n))
theorem GAt.off {H H' : Hp} {d p C dx : Addr} {fs : List (Str × V)} {os : GO} {rs : List Addr} (h : GAt H d os rs) (c : Chg [p] H H') (e : H p = some (.ins C dx fs)) : GAt H' d os rs :=
  h.chg c (nm1 (ne_of h.d e (by intro z; cases z))) fun r hr => by
    obtain ⟨q, _, er⟩ := h.there r hr
    exact nm1 (ne_of er e (by intro z; cases z))
theorem BookAt.off {K : PySem.W.Frag} {H H' : Hp} {b d p C dx : Addr} {fs : List (Str × V)} {cs : List Str} (B : BookAt K H b d cs) (c : Chg [p] H H') (e : H p = some (.ins C dx fs)) (n : b ≠ p) : BookAt K H' b d cs :=
  B.chg c (nm1 n) (nm1 (ne_of B.dc e (by intro z; cases z)))
theorem osD_miss {ms : Ops} {rs : List Addr} {i : Nat} {q : Nat × List Str} (nd : (ms.map (·.1)).Nodup) (lt : ∀ o ∈ ms, o.1 < 10) (hl : rs.length = (ms.take i).length) (hq : ms[i]? = some q) : valV (osD (ms.take i) rs) (Sum.inr (ent q.1) : Key) = none := by
  cases e : valV (osD (ms.take i) rs) (Sum.inr (ent q.1) : Key) with
  | none => rfl
  | some v =>
    have hm := valV_in e
    rw [osD_keys hl] at hm
    obtain ⟨q', hq', e'⟩ := List.mem_map.mp hm
    have h1 := ent_inj (lt q' (List.mem_of_mem_take hq')) (lt q (List.mem_of_getElem? hq)) (Sum.inr.inj e')
    obtain ⟨j, hj, ej⟩ := List.getElem_of_mem hq'
    rw [List.length_take] at hj
    rw [List.getElem_take] at ej
    have hi := (List.getElem?_eq_some_iff.mp hq).1
    have n1 : (ms.map (·.1))[j]? = (ms.map (·.1))[i]? := by
      rw [List.getElem?_map, List.getElem?_map, hq, List.getElem?_eq_getElem (by omega), ej]
      show some q'.1 = some q.1
      rw [h1]
    have := (List.getElem?_inj (by rw [List.length_map]; omega) nd).mp n1
    omega
theorem osD_app {os : Ops} {rs : List Addr} {o : Nat × List Str} {r : Addr} (h : rs.length = os.length) : osD (os ++ [o]) (rs ++ [r]) = osD os rs ++ [(Sum.inr (ent o.1), V.ref r)] := by
  unfold osD
  rw [List.zip_append (by rw [h]), List.map_append]; rfl
theorem OptsAt.app {H H' : Hp} {d r : Addr} {os : Ops} {rs : List Addr} {o : Nat × List Str} (h : OptsAt H d os rs) (c : Chg [d] H H') (nr : ∀ x ∈ rs, x ≠ d) (ed : H' d = some (.dK (osD os rs ++ [(Sum.inr (ent o.1), V.ref r)]))) (er : H' r = some (wordsV o.2)) : OptsAt H' d (os ++ [o]) (rs ++ [r]) := by
  refine ⟨by rw [List.length_append, List.length_append, h.len]; rfl, by rw [osD_app h.len]; exact ed, fun j q x hq hx => ?_⟩
  by_cases hj : j < os.length
  · rw [List.getElem?_append_left hj] at hq
    rw [List.getElem?_append_left (by rw [h.len]; exact hj)] at hx
    exact c.at1 (h.at_ j q x hq hx) (nr x (List.mem_of_getElem? hx))
  · rw [List.getElem?_append_right (by omega)] at hq
    rw [List.getElem?_append_right (by rw [h.len]; omega), h.len] at hx
    cases e : j - os.length with
    | zero =>
      rw [e] at hq hx
      cases hq
      cases hx
      exact er
    | succ m => rw [e] at hq; simp at hq
def sp_menu (K : PySem.W.Frag) : Sp := fun vs H Q E => ∃ (p dx b db o : Addr) (cs : List Str) (os : GO) (rs : List Addr), vs = [.ref p, .ref b, .ref o] ∧ H p = some (.ins (He.ga K "Menu") dx []) ∧ BookAt K H b db cs ∧ OkB cs ∧ GAt H o os rs ∧ os.length ≤ 100 ∧ (∀ q ∈ os, q.2.length ≤ 100) ∧
  (Good os → cnt (canon os) ≤ 24 → ∀ H' b' db' l d rs', Chg [p] H H' → MenuAt K H' p cs (canon os) ((cnt (canon os) : Nat) : Int) b' db' l d rs' → Q .non H') ∧ (¬ (Good os ∧ cnt (canon os) ≤ 24) → Bad K "InvalidInput" [p] H E)
theorem ok_menu (T : Tx w K mg) : ∃ fd, FnOk P w K mg base (L2.CX P w) 4 (He.fAd K ("Menu", some "__init__")) fd ["self", "base", "options"] (sp_menu K) ∧ Binds K fd ["self", "base", "options"] [] := by
  obtain ⟨fd, F⟩ := T.F_Menu___init__
  obtain ⟨fdC, G_Book_copied, b_Book_copied⟩ := ok_copied (P := P) (w := w) (base := base) T
  obtain ⟨tk, hMB⟩ := T.i_MOST_BOOKS
  refine ⟨fd, F.okX sc_Menu___init__ (fun vs H Q E h => ?_) (fun cdv A outer s H vs Q E hr h => ?_), F.binds fun _ _ _ _ _ _ us hl => match us, hl with | [_, _, _], _ => rfl⟩
  · obtain ⟨p, dx, b, db, o, cs, os, rs, rfl, _⟩ := h
    rfl
  · obtain ⟨p, dx, b, db, o, cs, os, rs, rfl, hp, B, hc, M, hos, hls, qg, qb⟩ := h
    have hu := hu_of hr
    obtain ⟨⟨dxb, eb⟩, edb⟩ := id B
    refine ⟨_, (pss_cons (ps_fld (pv 0) (pe_meth0 (pv 1) T.c_Book T.m_Book_copied G_Book_copied (hr.mono (by decide)) b_Book_copied .nil pass0) rfl)
      (pss_cons (ps_fld (pv 0) (pe_lc (own := [("entry", 3)]) (g := gName 3) rfl sc_Menu___init__.nd (pi_tup (pe_glob (v := .ref (He.ga K "ENTRIES")) rfl T.g_ENTRIES rfl)) (blkOk_by (own := [("entry", 3)]) (N := ["self", "base", "options", "entry", "told", "choice"]) (sc := defScope s_Menu___init__) (by decide +kernel)) (fun _ _ _ _ _ => pg_name (i := 3) sc_Menu___init__.nd rfl (Or.inl rfl)) (fun _ _ _ _ _ => (pts_one (pt_cmp (pc_din hu (pv 3) (pv 2))))) (fun _ _ _ _ _ => (pv 3))) rfl)
      (pss_cons (ps_if (pt_cmpR op_ne (pe_callB call_len_seq (by rfl) T.n_len PySem.boot_len (pa_cons (pe_fld (pv 0) (by rfl)) pa_nil)) (pe_callB call_lenD (by rfl) T.n_len PySem.boot_len (pa_cons (pv 2) pa_nil)) (nomark _))
        (pss_one (ps_raise rfl (takes_of rfl rfl rfl rfl) (pmk_own PySem.F.excBase_ValueError (T.e_InvalidInput).1 T.g_InvalidInput (T.e_InvalidInput).2.1 (raises_own (T.e_InvalidInput).2.2.1 (T.e_InvalidInput).2.2.2) rfl)))
        pss_nil)
      (pss_cons (ps_fld (pv 0) pe_dnewK rfl)
      (pss_cons (ps_fld (pv 0) pe_int rfl)
      (pss_cons (ps_for (passes_of rfl) rfl (pi_list (pe_fld (pv 0) (by rfl))) (pg_name (i := 3) sc_Menu___init__.nd rfl (Or.inr rfl))
        (pss_cons (ps_setLc (i := 4) (own := [("choice", 5)]) (g := gName 5) rfl sc_Menu___init__.nd rfl rfl (sw_true rfl rfl rfl (by decide +kernel)) (pi_tup (pe_ix ix_kdict (pe_glob (v := .ref (He.ga K "CHOICES")) rfl T.g_CHOICES rfl) (pv 3) (fun _ _ => rfl))) (blkOk_by (own := [("choice", 5)]) (N := ["self", "base", "options", "entry", "told", "choice"]) (sc := defScope s_Menu___init__) (by decide +kernel)) (fun _ _ _ _ _ => pg_name (i := 5) sc_Menu___init__.nd rfl (Or.inl rfl)) (fun _ _ _ _ _ => (pts_one (pt_cmpR (op_in_seqK (K := K) rfl) (pv 5) (pe_dget hu (pv 2) (pv 3) (fun _ _ => rfl)) rfl))) (fun _ _ _ _ _ => (pv 5)))
      (pss_cons (ps_if (PW.pt (pw_or (pt_cmpR (op_eqL0 hr.units0) (pv 4) (pe_lst pa_nil) (nomark _)) (pw_or1 (pt_cmpR op_ne (pe_callB call_len_seq (by rfl) T.n_len PySem.boot_len (pa_cons (pv 4) pa_nil)) (pe_callB call_len_seq (by rfl) T.n_len PySem.boot_len (pa_cons (pe_dget hu (pv 2) (pv 3) (fun _ _ => rfl)) pa_nil)) (nomark _)))))
        (pss_one (ps_raise rfl (takes_of rfl rfl rfl rfl) (pmk_own PySem.F.excBase_ValueError (T.e_InvalidInput).1 T.g_InvalidInput (T.e_InvalidInput).2.1 (raises_own (T.e_InvalidInput).2.2.1 (T.e_InvalidInput).2.2.2) rfl)))
        pss_nil)
      (pss_cons (ps_dput hu (pe_fld (pv 0) (by rfl)) (pv 3) (pv 4) rfl)
      (pss_one (ps_fld (pv 0) (pe_op op_mul (pe_fld (pv 0) (by rfl)) (pe_callB call_len_seq (by rfl) T.n_len PySem.boot_len (pa_cons (pv 4) pa_nil))) rfl))))))
      (pss_one (ps_if (pt_cmpR op_gt (pe_fld (pv 0) (by rfl)) (pe_glob (v := .int 24) rfl hMB ⟨_, rfl⟩) (nomark _))
        (pss_one (ps_raise rfl (takes_of rfl rfl rfl rfl) (pmk_own PySem.F.excBase_ValueError (T.e_InvalidInput).1 T.g_InvalidInput (T.e_InvalidInput).2.1 (raises_own (T.e_InvalidInput).2.2.1 (T.e_InvalidInput).2.2.2) rfl)))
        pss_nil)))))))), ?_⟩
    walk_at "rd"
    refine r_sfld ?_
    walk_at "rd"
    refine ⟨_, _, _, rfl, eb, rfl, ?_⟩
    walk_at "rd"
    refine ⟨b, db, cs, rfl, B, hc, fun b1 d1 H1 hb1 hd1 c1 B1 => ?_⟩
    walk_at "rd"
    refine ⟨p, _, dx, [], rfl, c1.at hp, T.c_Menu, T.a_Menu_base, by decide, ?_⟩
    generalize eH : upd H1 p _ = H2
    obtain ⟨e2, k2⟩ := put eH (c1.at hp)
    replace e2 : H2 p = some (.ins (He.ga K "Menu") dx [("base", .ref b1)]) := e2
    have c2 : Chg [p] H H2 := c1.up.trans k2
    have nB : ∀ {H' : Hp} {cs' : List Str} {x y : Addr}, BookAt K H' x y cs' → ∀ {z : Addr} {o : HO}, H' z = some o → (∀ C dx fs, o ≠ .ins C dx fs) → x ≠ z := fun {H' cs' x y} B {z o} e hne => by
      obtain ⟨⟨dx', e'⟩, _⟩ := B
      exact ne_of e' e (fun q => hne _ _ _ q.symm)
    have M2 := M.chg0 c1
    have nop : ∀ {z : Addr} {q : HO}, H2 z = some q → (∀ C dx fs, q ≠ .ins C dx fs) → z ≠ p := fun {z q} e hne => ne_of e e2 (fun w => hne _ _ _ w)
    have M2 : GAt H2 o os rs := M2.chg k2 (nm1 (nop (k2.keep _ _ M2.d (nm1 (ne_of M2.d (c1.at hp) (by intro z; cases z)))) (by intro _ _ _ z; cases z))) fun r hr => by
      obtain ⟨q, _, er⟩ := M2.there r hr
      exact nm1 (ne_of er (c1.at hp) (by intro z; cases z))
    have B2 : BookAt K H2 b1 d1 cs := B1.chg k2 (nm1 (fun z => by rw [z] at hb1; rw [hp] at hb1; cases hb1)) (nm1 (ne_of B1.dc (c1.at hp) (by intro z; cases z)))
    walk_at "rd"
    refine r_sfld ?_
    walk_at "rd"
    refine ⟨_, rfl, ⟨_, T.entries _⟩, fun D hD => ?_⟩
    have hDp : p ≠ D := ne_of_none e2 hD
    refine lc_tup (K := K) (a := He.ga K "ENTRIES") (xs := entriesL.map V.str) (fun i H' => Chg [D] H2 H' ∧ H' D = some (.lst (osN (canonN os i)))) ⟨(Chg.new hD), upd_same⟩ (fun i H' _ c => T.entries H') ?_ ?_
    · rintro i x H3 hx ⟨c3, e3⟩
      obtain ⟨hi, rfl⟩ : i < 10 ∧ x = .str (ent i) := by
        have hi : i < (entriesL.map V.str).length := (List.getElem?_eq_some_iff.mp hx).1
        have hi10 : i < 10 := by rw [List.length_map] at hi; exact hi
        rw [strs_at (ent_at hi10)] at hx
        exact ⟨hi10, (Option.some.inj hx).symm⟩
      walk_at "rd"
      refine ⟨rfl, ?_⟩
      walk_at "rd"
      refine r_din ?_
      walk_at "rd"
      have M3 := M2.new c3 hD
      refine ⟨o, _, rfl, DGet.k (k := Sum.inr (ent i)) M3.d, ?_⟩
      refine ⟨_, rfl, ?_⟩
      rw [M3.isS]
      cases hlk : lk os (ent i) with
      | none =>
        refine iteF ?_
        rw [canonN_none hlk]
        exact ⟨c3, e3⟩
      | some l =>
        refine iteT ?_
        walk_at "rd"
        refine ⟨_, e3, ?_, ?_, ?_⟩
        · rw [osN_len]
          exact small1000 (Nat.le_trans (canonN_len os i) (by omega))
        · exact c3.trans (Chg.set e3 (List.mem_singleton.mpr rfl))
        · rw [upd_same, canonN_some hlk]
          unfold osN
          rw [List.map_append]; rfl
    · rintro H3 ⟨c3, e3⟩
      rw [List.length_map, entries_len, canonN_ten] at e3
      have M3 := M2.new c3 hD
      have B3 := B2.new c3 hD
      walk_at "rd"
      refine ⟨p, _, dx, _, rfl, c3.at1 e2 hDp, T.c_Menu, T.a_Menu_entries, by show 1 < 1000; decide, ?_⟩
      generalize eH : upd H3 p _ = H4
      obtain ⟨e4, k4⟩ := put eH (c3.at1 e2 hDp)
      replace e4 : H4 p = some (.ins (He.ga K "Menu") dx [("base", .ref b1), ("entries", .ref D)]) := e4
      have c4 : Chg [p] H H4 := (c2.then c3 (c2.fresh hD)).trans k4
      have nbp : b1 ≠ p := fun z => by rw [z] at hb1; rw [hp] at hb1; cases hb1
      have e3p := c3.at1 e2 hDp
      have M4 := M3.off k4 e3p
      have B4 := B3.off k4 e3p nbp
      have eD := k4.at1 e3 (Ne.symm hDp)
      walk_at "rd"
      refine ⟨p, _, dx, _, _, rfl, e4, T.c_Menu, T.a_Menu_entries, rfl, ?_⟩
      refine ⟨D, _, rfl, .inl (sqL eD), ?_⟩
      walk_at "rd"
      refine ⟨o, _, rfl, M4.d, ?_⟩
      walk_at "rd"
      rw [osN_len, gD_len M4.len]
      refine r_iteN (fun hbad => ?_) (fun hlen => ?_)
      · exact qb (fun g => hbad (by rw [g.1.len])) H4 c4
      · have hlen : (canon os).length = os.length := by injection hlen with z; exact Int.ofNat.inj z
        walk_at "rd"
        refine r_sfld ?_
        walk_at "rd"
        intro dO hdO
        generalize eH : upd H4 dO _ = H5
        obtain ⟨e5, k5, c5, n5⟩ := laid eH c4 hdO
        walk_at "rd"
        refine ⟨p, _, dx, _, rfl, k5.at e4, T.c_Menu, T.a_Menu_options, by show 2 < 1000; decide, ?_⟩
        generalize eH : upd H5 p _ = H6
        obtain ⟨e6, k6⟩ := put eH (k5.at e4)
        replace e6 : H6 p = some (.ins (He.ga K "Menu") dx [("base", .ref b1), ("entries", .ref D), ("options", .ref dO)]) := e6
        have ndp : dO ≠ p := (ne_of_none e4 hdO).symm
        walk_at "rd"
        refine r_sfld ?_
        walk_at "rd"
        refine ⟨p, _, dx, _, rfl, e6, T.c_Menu, T.a_Menu_count, by show 3 < 1000; decide, ?_⟩
        generalize eH : upd H6 p _ = H7
        obtain ⟨e7, k7⟩ := put eH e6
        replace e7 : H7 p = some (.ins (He.ga K "Menu") dx [("base", .ref b1), ("entries", .ref D), ("options", .ref dO), ("count", .int 1)]) := e7
        have M7 := ((M4.chg0 k5).off k6 (k5.at e4)).off k7 e6
        have B7 := ((B4.chg k5 nm0 nm0).off k6 (k5.at e4) nbp).off k7 e6 nbp
        have eD7 := k7.at1 (k6.at1 (k5.at eD) (Ne.symm hDp)) (Ne.symm hDp)
        have eO7 := k7.at1 (k6.at1 e5 ndp) ndp
        have c7 : Chg [p] H H7 := (c5.trans k6).trans k7
        walk_at "rd"
        refine ⟨p, _, dx, _, _, rfl, e7, T.c_Menu, T.a_Menu_entries, rfl, ?_⟩
        refine ⟨D, rfl, ⟨_, sqL eD7⟩, ?_⟩
        have nDO : D ≠ dO := ne_of eD7 eO7 (by intro z; cases z)
        have noD : ∀ {z : Addr} {q : HO}, H7 z = some q → z ≠ p → z ≠ dO → z ∉ [p, dO] := fun {z q} _ n1 n2 m => by
          have e' : z = p ∨ z = dO := by simpa using m
          exact e'.elim n1 n2
        have hcl : (canon os).length ≤ 10 := canonN_len os 10
        refine for_list (K := K) (a := D) (xs := osN (canon os)) (fun i σ H' => ∃ (v3 v4 v5 : Option V) (rs' : List Addr), σ = [some (.ref p), some (.ref b), some (.ref o), v3, v4, v5] ∧ Chg [p, dO] H7 H' ∧
          H' p = some (.ins (He.ga K "Menu") dx [("base", .ref b1), ("entries", .ref D), ("options", .ref dO), ("count", .int ((cnt ((canon os).take i) : Nat) : Int))]) ∧ OptsAt H' dO ((canon os).take i) rs' ∧ (∀ r ∈ rs', r ≠ p ∧ r ≠ dO) ∧
          ∀ (j : Nat) (q : Nat × List Str) (l : List Str), j < i → (canon os)[j]? = some q → lk os (ent q.1) = some l → q.2 ≠ [] ∧ q.2.length = l.length) ⟨none, none, none, [], rfl, Chg.refl, e7, ⟨rfl, eO7, fun j q r e => by simp at e⟩, fun r hr => by simp at hr, fun j q l h => absurd h (by omega)⟩
          (fun i σ H' _ ⟨_, _, _, _, _, c8, _⟩ => sqL (c8.keep _ _ eD7 (noD eD7 (Ne.symm hDp) nDO))) ?_ ?_
        · rintro i y σ H8 hy ⟨v3, v4, v5, rs', rfl, c8, e8, O8, nr, hg⟩
          obtain ⟨q, hq⟩ : ∃ q, (canon os)[i]? = some q := by
            have hi := (List.getElem?_eq_some_iff.mp hy).1
            rw [osN_len] at hi
            exact ⟨_, List.getElem?_eq_getElem hi⟩
          rw [osN_at hq] at hy
          cases hy
          have hqm := canon_mem.mp (List.mem_of_getElem? hq)
          obtain ⟨_, l, hl, eq2⟩ := canF_some hqm.2
          have hq10 := hqm.1
          obtain ⟨ca, hca, hct⟩ := T.choices hq10
          have M8 : GAt H8 o os rs := M7.chg c8 (noD M7.d (ne_of M7.d e7 (by intro z; cases z)) (fun z => by
            have := c4.fresh hdO
            rw [← z] at this
            rw [M.d] at this
            cases this)) fun r hr => by
              obtain ⟨q', _, er⟩ := M7.there r hr
              exact noD er (ne_of er e7 (by intro z; cases z)) (ne_of er eO7 (by intro z; cases z))
          obtain ⟨r, hr1, hr2, hr3⟩ := M8.get hl
          walk_at "rd"
          refine ⟨_, _, _, rfl, rfl, hca, ?_⟩
          refine ⟨ca, rfl, ⟨_, hct H8⟩, fun D2 hD2 => ?_⟩
          have ho8 := M8.d
          refine lc_tup (K := K) (a := ca) (xs := (chs q.1).map V.str) (fun j H' => Chg [D2] H8 H' ∧ H' D2 = some (wordsV (filN q.1 l j))) ⟨Chg.new hD2, upd_same⟩ (fun j H' _ c => hct H') ?_ ?_
          · rintro j x H9 hx ⟨c9, e9⟩
            obtain ⟨c, hc1, rfl⟩ : ∃ c, (chs q.1)[j]? = some c ∧ x = .str c := by
              rw [List.getElem?_map] at hx
              obtain ⟨c, ec, rfl⟩ := Option.map_eq_some_iff.mp hx
              exact ⟨c, ec, rfl⟩
            walk_at "rd"
            refine ⟨rfl, ?_⟩
            walk_at "rd"
            have er9 := c9.at1 hr3 (ne_of_none hr3 hD2)
            refine ⟨o, _, rfl, DGet.k (k := Sum.inr (ent q.1)) (c9.at1 ho8 (ne_of_none ho8 hD2)) |> (fun z => by rw [hr1] at z; exact z), ?_⟩
            refine ⟨r, _, rfl, .inl (sqL er9), rfl, flat_strs _, ?_⟩
            rw [inV_strs]
            walk_at "rd"
            refine r_ite (fun hin => ?_) (fun hin => ?_)
            · walk_at "rd"
              refine ⟨_, e9, ?_, c9.trans (Chg.set e9 (List.mem_singleton.mpr rfl)), ?_⟩
              · rw [List.length_map]
                have := filN_len q.1 j l
                have := (chs_pos q.1 hq10).2
                exact small1000 (by omega)
              · rw [upd_same, filN_yes hc1 hin]
                unfold wordsV
                rw [List.map_append]; rfl
            · rw [filN_no hc1 hin]
              exact ⟨c9, e9⟩
          · rintro H9 ⟨c9, e9⟩
            rw [List.length_map, filN_full, ← eq2] at e9
            have er9 := c9.at1 hr3 (ne_of_none hr3 hD2)
            have ho9 := c9.at1 ho8 (ne_of_none ho8 hD2)
            have cn : Chg [p, dO] H7 H9 := ⟨fun z u e n => c9.keep z u (c8.keep z u e n) (nm1 (ne_of_none (c8.keep z u e n) hD2)), fun z e => c8.there z (c9.there z e)⟩
            have cp : Chg [p] H H9 := ⟨fun z u e n => cn.keep z u (c7.keep z u e n) (fun m => by
              have e' : z = p ∨ z = dO := by simpa using m
              rcases e' with w | w
              · exact n (by rw [w]; exact List.mem_singleton.mpr rfl)
              · rw [w] at e
                have := c4.fresh hdO
                rw [e] at this; cases this), fun z e => c7.there z (cn.there z e)⟩
            walk_at "rd"
            refine ⟨by decide, fun l0 hl0 => ?_⟩
            generalize eH : upd H9 l0 _ = H10
            obtain ⟨e10, k10, c10, n10⟩ := laid eH cp hl0
            have er10 := k10.at er9
            have ho10 := k10.at ho9
            have eD2 := k10.at e9
            refine ⟨D2, l0, _, rfl, rfl, sqL eD2, sqL e10, ?_⟩
            rw [List.length_map]
            walk_at "rd"
            refine r_ite (fun hnil => ?_) (fun hnil => ?_)
            · refine iteT ?_
              exact qb (fun g => (g.1.at_ q.1 l hq10 hl).1 (by rw [← eq2]; exact List.eq_nil_of_length_eq_zero hnil)) H10 c10
            · walk_at "rd"
              refine ⟨D2, _, rfl, .inl (sqL eD2), ?_⟩
              walk_at "rd"
              refine ⟨o, _, rfl, DGet.k (k := Sum.inr (ent q.1)) ho10 |> (fun z => by rw [hr1] at z; exact z), ?_⟩
              refine ⟨r, _, rfl, .inl (sqL er10), ?_⟩
              walk_at "rd"
              rw [List.length_map, List.length_map]
              refine r_iteN (fun hbad => ?_) (fun hlen2 => ?_)
              · exact qb (fun g => hbad (by rw [eq2, (g.1.at_ q.1 l hq10 hl).2])) H10 c10
              · have hlen2 : q.2.length = l.length := by injection hlen2 with z; exact Int.ofNat.inj z
                have cn10 : Chg [p, dO] H7 H10 := cn.trans (Chg.up k10)
                have e8p := k10.at (c9.at1 e8 (ne_of_none e8 hD2))
                have O10 : OptsAt H10 dO ((canon os).take i) rs' := (O8.chg c9 (nm1 (ne_of_none O8.d hD2)) fun r' hr' => by
                  obtain ⟨q', _, er'⟩ := O8.g.there r' hr'
                  exact nm1 (ne_of_none er' hD2)).chg0 k10
                walk_at "rd"
                refine ⟨p, _, dx, _, _, rfl, e8p, T.c_Menu, T.a_Menu_options, rfl, ?_⟩
                walk_at "rd"
                refine ⟨dO, _, rfl, DPut.k (k := Sum.inr (ent q.1)) O10.d (small1000 (by rw [osD_len O10.len, List.length_take]; omega)), ?_⟩
                rw [putK_new _ (osD_miss (canon_nd os) (fun o' h' => (canon_mem.mp h').1) O10.len hq)]
                generalize eH : upd H10 dO _ = H11
                obtain ⟨e11, k11⟩ := put eH O10.d
                have nD2 : D2 ≠ dO := ne_of eD2 O10.d (by intro z; unfold wordsV at z; cases z)
                have eD2' := k11.at1 eD2 nD2
                have O11 : OptsAt H11 dO ((canon os).take i ++ [q]) (rs' ++ [D2]) := O10.app k11 (fun x hx => (nr x hx).2) e11 eD2'
                have htk : (canon os).take (i + 1) = (canon os).take i ++ [q] := by rw [List.take_add_one, hq]; rfl
                have e11p := k11.at1 e8p (Ne.symm ndp)
                dsimp only
                refine r_sfld ?_
                walk_at "rd"
                refine ⟨p, _, dx, _, _, rfl, e11p, T.c_Menu, T.a_Menu_count, rfl, ?_⟩
                walk_at "rd"
                refine ⟨D2, _, rfl, .inl (sqL eD2'), ?_⟩
                rw [List.length_map]
                have hq4 : q.2.length ≤ 4 := by
                  rw [eq2]
                  exact Nat.le_trans (List.length_filter_le ..) (chs_pos _ hq10).2
                refine r_rI (.inr ⟨by omega, by omega⟩) ?_
                walk_at "rd"
                refine ⟨p, _, dx, _, rfl, e11p, T.c_Menu, T.a_Menu_count, by show 4 < 1000; decide, ?_⟩
                generalize eH : upd H11 p _ = H12
                obtain ⟨e12, k12⟩ := put eH e11p
                replace e12 : H12 p = some (.ins (He.ga K "Menu") dx [("base", .ref b1), ("entries", .ref D), ("options", .ref dO), ("count", .int (((cnt ((canon os).take i) : Nat) : Int) * (q.2.length : Int)))]) := e12
                have nD2p : D2 ≠ p := ne_of eD2' e11p (by intro z; unfold wordsV at z; cases z)
                refine ⟨_, _, _, rs' ++ [D2], rfl, ?_, ?_, ?_, fun r' hr' => ?_, fun j q' l' hj hq' hl' => ?_⟩
                · exact (cn10.trans (k11.sub fun x m => by rw [List.mem_singleton.mp m]; simp)).trans (k12.sub fun x m => by rw [List.mem_singleton.mp m]; simp)
                · rw [e12, htk, cnt_app]
                  have : ((cnt ((canon os).take i) * q.2.length : Nat) : Int) = ((cnt ((canon os).take i) : Nat) : Int) * (q.2.length : Int) := by push_cast; rfl
                  rw [this]
                · rw [htk]
                  exact O11.chg k12 (nm1 ndp) fun x hx => nm1 (by
                    rcases List.mem_append.mp hx with m | m
                    · exact (nr x m).1
                    · rw [List.mem_singleton.mp m]; exact nD2p)
                · rcases List.mem_append.mp hr' with m | m
                  · exact nr r' m
                  · rw [List.mem_singleton.mp m]; exact ⟨nD2p, nD2⟩
                · by_cases z : j < i
                  · exact hg j q' l' z hq' hl'
                  · have : j = i := by omega
                    subst this
                    rw [hq] at hq'
                    cases hq'
                    rw [hl] at hl'
                    cases hl'
                    exact ⟨fun z => hnil (by rw [z]; rfl), hlen2⟩
        · rintro σ H8 ⟨v3, v4, v5, rs', rfl, c8, e8, O8, nr, hg⟩
          rw [osN_len, List.take_length] at e8 O8
          rw [osN_len] at hg
          have hgood : Good os := ⟨hlen, fun i l hi hl => by
            have m : (i, fil i l) ∈ canon os := canon_mem.mpr ⟨hi, by unfold canF; rw [hl]; rfl⟩
            obtain ⟨j, hj, ej⟩ := List.getElem_of_mem m
            exact hg j (i, fil i l) l hj (by rw [List.getElem?_eq_getElem hj, ej]) hl⟩
          have cp : Chg [p] H H8 := ⟨fun z u e n => c8.keep z u (c7.keep z u e n) (fun m => by
            have e' : z = p ∨ z = dO := by simpa using m
            rcases e' with w | w
            · exact n (by rw [w]; exact List.mem_singleton.mpr rfl)
            · rw [w] at e
              have := c4.fresh hdO
              rw [e] at this; cases this), fun z e => c7.there z (c8.there z e)⟩
          walk_at "rd"
          refine ⟨p, _, dx, _, _, rfl, e8, T.c_Menu, T.a_Menu_count, rfl, ?_⟩
          walk_at "rd"
          refine r_ite (fun hbig => ?_) (fun hsmall => ?_)
          · exact qb (fun g => by have := g.2; omega) H8 cp
          · walk_at "rd"
            refine qg hgood (by omega) H8 b1 d1 D dO rs' cp ⟨⟨dx, e8⟩, B7.chg c8 (noD (B7.ob.choose_spec) nbp (by
              obtain ⟨dx', e'⟩ := B7.ob
              exact ne_of e' eO7 (by intro z; cases z))) (noD B7.dc (ne_of B7.dc e7 (by intro z; cases z)) (by
                intro z
                have q1 := B4.dc
                rw [z, hdO] at q1
                cases q1)), c8.keep _ _ eD7 (noD eD7 (Ne.symm hDp) nDO), O8⟩
end
end Sm
set_option maxHeartbeats 4000000
namespace Sm
open PySem PySem.Spec PyProof.Rows L2
local macro_rules | `(tactic| walk_at "rd1") => `(tactic| first
  | (with_reducible refine r_seq ?_) | (with_reducible refine r_asg ?_) | (with_reducible refine r_gname ?_)
  | ((with_reducible refine' r_var ?e ?_); (case e => rfl)) | (with_reducible refine r_c ?_)
  | (with_reducible refine r_ret ?_) | (with_reducible refine r_retN ?_) | (with_reducible refine r_drop ?_) | (with_reducible refine r_next ?_) | (with_reducible refine r_ifs ?_)
  | (with_reducible refine r_op ?_) | (with_reducible refine r_rI0 ?_)
  | (with_reducible refine r_test ?_) | (with_reducible refine r_tb ?_) | (with_reducible refine Exists.intro _ (And.intro (Eq.refl (V.bl _)) ?_))
  | (with_reducible refine r_nil ?_) | (with_reducible refine r_cons ?_) | (with_reducible refine r_cb ?_) | (with_reducible refine r_call ?_)
  | (with_reducible refine r_callS ?_) | (with_reducible refine r_meth ?_) | (with_reducible refine r_ownIx ?_) | (with_reducible refine r_ownSet ?_)
  | (with_reducible refine r_not ?_) | (with_reducible refine r_and ?_) | (with_reducible refine r_or ?_)
  | (with_reducible refine r_lst ?_) | (with_reducible refine r_tup ?_) | (with_reducible refine Or.inl (Exists.intro _ (And.intro (Eq.refl [V.int _]) ?_)))
  | ((with_reducible refine r_rI ?c ?_); (case c => first | (show (0 : Int) < _; decide) | exact ⟨by decide, by decide⟩))
  | (with_reducible refine r_for ?_) | (with_reducible refine r_rng1 ?_) | (with_reducible refine r_rng2 ?_) | (with_reducible refine r_ilist ?_) | (with_reducible refine r_itup ?_)
  | (with_reducible refine r_m0 ?_) | (with_reducible refine r_m1 ?_) | (with_reducible refine r_isStr ?_) | (with_reducible refine r_newS ?_) | (with_reducible refine r_fld ?_)
  | (with_reducible refine r_bm ?_) | (with_reducible refine r_bm0 ?_) | (with_reducible refine r_sl ?_) | (with_reducible refine r_nopart ?_) | (with_reducible refine r_part ?_)
  | (with_reducible refine r_pcons ?_) | (with_reducible refine r_pnil ?_) | (with_reducible refine r_dget2 ?_) | (with_reducible refine r_dget1 ?_)
  | (with_reducible refine r_lc ?_) | (with_reducible refine r_yes ?_)
  | (with_reducible refine r_un ?_) | (with_reducible refine r_rU ?_)
  | (with_reducible refine r_disp ?_) | (with_reducible refine r_andV ?_) | (with_reducible refine r_orV ?_) | (with_reducible refine r_notV ?_) | (with_reducible refine r_dnewK ?_)
  | (with_reducible refine r_dget ?_) | (with_reducible refine r_dput ?_)
  | ((with_reducible refine r_rEq ?e ?_); (case e => rfl)) | ((with_reducible refine r_rNe ?e ?_); (case e => rfl)))
local macro_rules | `(tactic| walk_at "rd") => `(tactic| repeat (walk_at "rd1"))
section
variable {P : Program} {w : World} {K : PySem.W.Frag} {mg : Str → Option Value} {base : Heap}
/-- is a book in the menu -/
def inAt (os : GO) (cs xs : List Str) (i : Nat) : Bool := match lk os (ent i) with
  | some l => decide (xs.getD i "" ∈ l)
  | none => decide (xs.getD i "" = cs.getD i "")
def inMenu (os : GO) (cs xs : List Str) : Bool := (List.range 10).all (inAt os cs xs)
def sp_cont (K : PySem.W.Frag) : Sp := fun vs H Q _ => ∃ (m b l d : Addr) (db b2 d2 : Addr) (cs xs : List Str) (os : Ops) (n : Int) (rs : List Addr), vs = [.ref m, .ref b2] ∧ MenuAt K H m cs os n b db l d rs ∧ OkB cs ∧ OkB xs ∧ BookAt K H b2 d2 xs ∧ Q (.bl (inMenu (enc os) cs xs)) H
theorem ok_cont (T : Tx w K mg) : ∃ fd, FnOk P w K mg base CX0 3 (He.fAd K ("Menu", some "__contains__")) fd ["self", "book"] (sp_cont K) ∧ Binds K fd ["self", "book"] [] := by
  obtain ⟨fd, F⟩ := T.F_Menu___contains__
  obtain ⟨fdG, G_Book_get, b_Book_get⟩ := ok_Book_get (P := P) (w := w) (base := base) T
  refine ⟨fd, F.ok sc_Menu___contains__ (fun vs H Q E h => ?_) (fun cdv A outer s H vs Q E hr h => ?_), F.binds fun _ _ _ _ _ _ us hl => match us, hl with | [_, _], _ => rfl⟩
  · obtain ⟨m, b, l, d, db, b2, d2, cs, xs, os, n, rs, rfl, _⟩ := h
    rfl
  · obtain ⟨m, b, l, d, db, b2, d2, cs, xs, os, n, rs, rfl, M, hcs, hxs, B2, q⟩ := h
    have hu := hu_of hr
    obtain ⟨⟨dm, em⟩, B, eL, O⟩ := id M
    have G := O.g
    obtain ⟨⟨dxb, eb⟩, _⟩ := id B
    obtain ⟨⟨dx2, eb2⟩, _⟩ := id B2
    refine ⟨_, (pss_cons (ps_for PassesOwn.never rfl (pi_tup (pe_glob (v := .ref (He.ga K "ENTRIES")) rfl T.g_ENTRIES rfl)) (pg_name (i := 2) sc_Menu___contains__.nd rfl (Or.inl rfl))
        (pss_one (ps_if (pt_cmp (pc_din hu (pv 2) (pe_fld (pv 0) (by rfl))))
        (pss_one (ps_if (pt_cmpR op_notIn_seq (pe_ownIx T.gm_Book G_Book_get (hr.mono (by decide)) b_Book_get (fun _ => passAt0) (pv 1) (pv 2)) (pe_dget hu (pe_fld (pv 0) (by rfl)) (pv 2) (fun _ _ => rfl)) rfl)
        (pss_one (ps_ret pe_bl))
        pss_nil))
        (pss_one (ps_if (pt_cmpR op_ne (pe_ownIx T.gm_Book G_Book_get (hr.mono (by decide)) b_Book_get (fun _ => passAt0) (pv 1) (pv 2)) (pe_ownIx T.gm_Book G_Book_get (hr.mono (by decide)) b_Book_get (fun _ => passAt0) (pe_fld (pv 0) (by rfl)) (pv 2)) (nomark _))
        (pss_one (ps_ret pe_bl))
        pss_nil)))))
      (pss_one (ps_ret pe_bl))), ?_⟩
    walk_at "rd"
    refine ⟨_, rfl, ⟨_, T.entries H⟩, ?_⟩
    refine for_tup (K := K) (a := He.ga K "ENTRIES") (xs := entriesL.map V.str) (fun i σ H' => ∃ (v2 : Option V), σ = [some (.ref m), some (.ref b2), v2] ∧ H' = H ∧ ∀ j, j < i → inAt (enc os) cs xs j = true) ⟨none, rfl, rfl, fun j h => absurd h (by omega)⟩
      (fun i σ H' _ _ => T.entries H') ?_ ?_
    · rintro i y σ H3 hy ⟨v2, rfl, rfl, hg⟩
      obtain ⟨hi, rfl⟩ : i < 10 ∧ y = .str (ent i) := by
        have hi : i < (entriesL.map V.str).length := (List.getElem?_eq_some_iff.mp hy).1
        have hi10 : i < 10 := by rw [List.length_map] at hi; exact hi
        rw [strs_at (ent_at hi10)] at hy
        exact ⟨hi10, (Option.some.inj hy).symm⟩
      obtain ⟨x, hx, _⟩ := hxs.at hi
      obtain ⟨c, hc, _⟩ := hcs.at hi
      have gx : xs.getD i "" = x := by rw [List.getD_eq_getElem?_getD, hx]; rfl
      have gc : cs.getD i "" = c := by rw [List.getD_eq_getElem?_getD, hc]; rfl
      have bad : inAt (enc os) cs xs i = false → inMenu (enc os) cs xs = false := fun h => by
        cases e : inMenu (enc os) cs xs with
        | false => rfl
        | true =>
          unfold inMenu at e
          rw [List.all_eq_true] at e
          rw [e i (List.mem_range.mpr hi)] at h
          cases h
      have nxt : inAt (enc os) cs xs i = true → ∀ j, j < i + 1 → inAt (enc os) cs xs j = true := fun h j hj => by
        by_cases z : j < i
        · exact hg j z
        · have : j = i := by omega
          rw [this]; exact h
      walk_at "rd"
      refine r_din ?_
      walk_at "rd"
      refine ⟨m, _, dm, _, _, rfl, em, T.c_Menu, T.a_Menu_options, rfl, ?_⟩
      refine ⟨d, _, rfl, DGet.k (k := Sum.inr (ent i)) G.d, ?_⟩
      refine ⟨_, rfl, ?_⟩
      rw [G.isS]
      cases hlk : lk (enc os) (ent i) with
      | some l' =>
        obtain ⟨r, hr1, hr2, hr3⟩ := G.get hlk
        refine iteT ?_
        walk_at "rd"
        refine ⟨b2, dx2, _, rfl, eb2, ?_⟩
        refine ⟨b2, d2, xs, ent i, rfl, B2, hxs.len, fun i' c' hi' he hc' => ?_, fun hb => absurd (ent_mem hi) hb⟩
        have := ent_inj hi hi' he
        subst this
        rw [hx] at hc'
        cases hc'
        walk_at "rd"
        refine ⟨m, _, dm, _, _, rfl, em, T.c_Menu, T.a_Menu_options, rfl, ?_⟩
        walk_at "rd"
        refine ⟨d, _, rfl, DGet.k (k := Sum.inr (ent i)) G.d |> (fun z => by rw [hr1] at z; exact z), ?_⟩
        refine ⟨r, _, rfl, .inl (sqL hr3), rfl, flat_strs _, ?_⟩
        rw [inV_strs]
        walk_at "rd"
        show if (!decide (x ∈ l')) = true then _ else _
        have ei : inAt (enc os) cs xs i = decide (x ∈ l') := by unfold inAt; rw [hlk, ← gx]
        refine r_iteN (fun hbad => ?_) (fun hin => ?_)
        · walk_at "rd"
          rw [bad (by rw [ei]; exact decide_eq_false hbad)] at q
          exact q
        · walk_at "rd"
          exact ⟨_, rfl, rfl, nxt (by rw [ei]; exact decide_eq_true hin)⟩
      | none =>
        refine iteF ?_
        walk_at "rd"
        refine ⟨b2, dx2, _, rfl, eb2, ?_⟩
        refine ⟨b2, d2, xs, ent i, rfl, B2, hxs.len, fun i' c' hi' he hc' => ?_, fun hb => absurd (ent_mem hi) hb⟩
        have := ent_inj hi hi' he
        subst this
        rw [hx] at hc'
        cases hc'
        walk_at "rd"
        refine ⟨m, _, dm, _, _, rfl, em, T.c_Menu, T.a_Menu_base, rfl, ?_⟩
        walk_at "rd"
        refine ⟨b, dxb, _, rfl, eb, ?_⟩
        refine ⟨b, db, cs, ent i, rfl, B, hcs.len, fun i' c' hi' he hc' => ?_, fun hb => absurd (ent_mem hi) hb⟩
        have := ent_inj hi hi' he
        subst this
        rw [hc] at hc'
        cases hc'
        walk_at "rd"
        have ei : inAt (enc os) cs xs i = decide (x = c) := by unfold inAt; rw [hlk, ← gx, ← gc]
        have ed : decide (V.str x = V.str c) = decide (x = c) := decide_eq_decide.mpr ⟨fun z => by injection z, fun z => by rw [z]⟩
        rw [ed]
        refine r_iteN (fun hbad => ?_) (fun hin => ?_)
        · walk_at "rd"
          rw [bad (by rw [ei]; exact decide_eq_false hbad)] at q
          exact q
        · walk_at "rd"
          exact ⟨_, rfl, rfl, nxt (by rw [ei]; exact decide_eq_true hin)⟩
    · rintro σ H3 ⟨v2, rfl, rfl, hg⟩
      walk_at "rd"
      have e : inMenu (enc os) cs xs = true := by
        unfold inMenu
        rw [List.all_eq_true]
        intro i hi
        exact hg i (by rw [List.length_map, entries_len]; exact List.mem_range.mp hi)
      rw [e] at q
      exact q
end
end Sm
set_option maxHeartbeats 4000000
namespace Sm
open PySem PySem.Spec PyProof.Rows L2
local macro_rules | `(tactic| walk_at "rd1") => `(tactic| first
  | (with_reducible refine r_seq ?_) | (with_reducible refine r_asg ?_) | (with_reducible refine r_gname ?_)
  | ((with_reducible refine' r_var ?e ?_); (case e => rfl)) | (with_reducible refine r_c ?_)
  | (with_reducible refine r_ret ?_) | (with_reducible refine r_retN ?_) | (with_reducible refine r_drop ?_) | (with_reducible refine r_next ?_) | (with_reducible refine r_ifs ?_)
  | (with_reducible refine r_op ?_) | (with_reducible refine r_rI0 ?_)
  | (with_reducible refine r_test ?_) | (with_reducible refine r_tb ?_) | (with_reducible refine Exists.intro _ (And.intro (Eq.refl (V.bl _)) ?_))
  | (with_reducible refine r_nil ?_) | (with_reducible refine r_cons ?_) | (with_reducible refine r_cb ?_) | (with_reducible refine r_call ?_)
  | (with_reducible refine r_callS ?_) | (with_reducible refine r_meth ?_) | (with_reducible refine r_ownIx ?_) | (with_reducible refine r_ownSet ?_)
  | (with_reducible refine r_not ?_) | (with_reducible refine r_and ?_) | (with_reducible refine r_or ?_)
  | (with_reducible refine r_lst ?_) | (with_reducible refine r_tup ?_) | (with_reducible refine Or.inl (Exists.intro _ (And.intro (Eq.refl [V.int _]) ?_)))
  | ((with_reducible refine r_rI ?c ?_); (case c => first | (show (0 : Int) < _; decide) | exact ⟨by decide, by decide⟩))
  | (with_reducible refine r_for ?_) | (with_reducible refine r_rng1 ?_) | (with_reducible refine r_rng2 ?_) | (with_reducible refine r_ilist ?_) | (with_reducible refine r_itup ?_)
  | (with_reducible refine r_m0 ?_) | (with_reducible refine r_m1 ?_) | (with_reducible refine r_isStr ?_) | (with_reducible refine r_newS ?_) | (with_reducible refine r_fld ?_)
  | (with_reducible refine r_bm ?_) | (with_reducible refine r_bm0 ?_) | (with_reducible refine r_sl ?_) | (with_reducible refine r_nopart ?_) | (with_reducible refine r_part ?_)
  | (with_reducible refine r_pcons ?_) | (with_reducible refine r_pnil ?_) | (with_reducible refine r_dget2 ?_) | (with_reducible refine r_dget1 ?_)
  | (with_reducible refine r_lc ?_) | (with_reducible refine r_yes ?_)
  | (with_reducible refine r_un ?_) | (with_reducible refine r_rU ?_)
  | (with_reducible refine r_disp ?_) | (with_reducible refine r_andV ?_) | (with_reducible refine r_orV ?_) | (with_reducible refine r_notV ?_) | (with_reducible refine r_dnewK ?_)
  | (with_reducible refine r_dget ?_) | (with_reducible refine r_dput ?_)
  | ((with_reducible refine r_rEq ?e ?_); (case e => rfl)) | ((with_reducible refine r_rNe ?e ?_); (case e => rfl)))
local macro_rules | `(tactic| walk_at "rd") => `(tactic| repeat (walk_at "rd1"))
section
variable {P : Program} {w : World} {K : PySem.W.Frag} {mg : Str → Option Value} {base : Heap}
def sp_lcopied : Sp := fun vs H Q _ => ∃ (a : Addr) (os : GO) (rs : List Addr), vs = [.ref a] ∧ GAt H a os rs ∧ (os.map (·.1)).Nodup ∧ os.length ≤ 100 ∧ (∀ q ∈ os, q.2.length ≤ 100) ∧ ∀ p rs' H', H p = none → Chg [] H H' → GAt H' p os rs' → (∀ r ∈ rs', H r = none) → Q (.ref p) H'
theorem ok_lcopied (T : Tx w K mg) : ∃ fd, FnOk P w K mg base CX0 1 (He.fAd K ("_law_copied", none)) fd ["options"] sp_lcopied ∧ Binds K fd ["options"] [] := by
  obtain ⟨fd, F⟩ := T.F__law_copied
  refine ⟨fd, F.ok sc__law_copied (fun vs H Q E h => ?_) (fun cdv A outer s H vs Q E hr h => ?_), F.binds fun _ _ _ _ _ _ us hl => match us, hl with | [_], _ => rfl⟩
  · obtain ⟨a, os, rs, rfl, _⟩ := h
    rfl
  · obtain ⟨a, os, rs, rfl, M, nd, hos, hls, q⟩ := h
    have hu := hu_of hr
    refine ⟨_, (pss_cons (ps_set (i := 1) sc__law_copied.nd rfl (Or.inl rfl) pe_dnewK)
      (pss_cons (ps_lock (ps_for PassesOwn.never rfl (pi_keys (pv 0)) (pg_name (i := 2) sc__law_copied.nd rfl (Or.inl rfl))
        (pss_one (ps_dput hu (pv 1) (pv 2) (pe_callTy call_list_of (by rfl) T.n_list (by decide +kernel) (pa_cons (pe_dget hu (pv 0) (pv 2) (fun _ _ => rfl)) pa_nil)) rfl))))
      (pss_one (ps_ret (pv 1))))), ?_⟩
    walk_at "rd"
    intro p hp
    generalize eH : upd H p _ = H1
    obtain ⟨e1, k1, c1, n1⟩ := laid (S := []) eH Chg.refl hp
    have M1 := M.chg0 k1
    have hpa : a ≠ p := ne_of_none M.d hp
    walk_at "rd"
    refine ⟨a, .dK (gD os rs), M1.d, trivial, fun od => ?_⟩
    walk_at "rd"
    refine r_keys ?_
    walk_at "rd"
    refine ⟨a, od, rfl, .inl ⟨_, upd_same, ?_⟩⟩
    refine for_it walk_keys (fun i σ H' => ∃ (v2 : Option V) (rs' : List Addr), σ = [some (.ref a), some (.ref p), v2] ∧ Chg [p] (upd H1 a (.frz od (.dK (gD os rs)))) H' ∧ GAt H' p (os.take i) rs' ∧ ∀ r ∈ rs', H1 r = none) ⟨none, [], rfl, Chg.refl, GAt.nil (by rw [upd_ne hpa.symm]; exact e1), fun r h => by simp at h⟩
      (fun i σ H' _ ⟨_, _, _, c, _⟩ => c.at1 upd_same hpa) ?_ ?_
    · rintro i x σ Hx H2 hi ⟨v2, rs', rfl, c2, G2, nr⟩ ⟨rfl, k, v, hkv, rfl⟩
      rw [gD_len M.len] at hi
      obtain ⟨o, ho⟩ : ∃ o, os[i]? = some o := ⟨os[i], List.getElem?_eq_getElem hi⟩
      obtain ⟨r0, hr0⟩ : ∃ r0, rs[i]? = some r0 := ⟨rs[i]'(by rw [M.len]; exact hi), List.getElem?_eq_getElem _⟩
      have hk : k = Sum.inr o.1 := by
        unfold gD at hkv
        rw [List.getElem?_map, (List.getElem?_zip_eq_some (z := (o, r0))).mpr ⟨ho, hr0⟩] at hkv
        cases hkv; rfl
      subst hk
      obtain ⟨r, hr1, hr2, hr3⟩ := M1.lkd (od := od) (lk_at nd ho)
      have ea := c2.at1 (b := a) upd_same hpa
      have er := c2.at1 hr3 (ne_of_none (M.there r hr2).choose_spec.2 hp)
      walk_at "rd"
      refine ⟨a, _, rfl, dgF ea hr1, ?_⟩
      walk_at "rd"
      refine ⟨r, _, rfl, .inl (sqL er), fun l hl => ?_⟩
      generalize eH : upd H2 l _ = H3
      obtain ⟨e3, k3, c3, n3⟩ := laid eH c2 hl
      have nl : H1 l = none := lock_none M1.d n3
      have G3 := G2.chg0 k3
      have npl : p ≠ l := ne_of_none G2.d hl
      walk_at "rd"
      refine ⟨p, _, rfl, DPut.k (k := Sum.inr o.1) G3.d (small1000 (by rw [gD_len G3.len, List.length_take]; omega)), ?_⟩
      rw [putK_new _ (G3.miss (lk_take nd ho))]
      generalize eH : upd H3 p _ = H4
      obtain ⟨e4, k4⟩ := put eH G3.d
      refine ⟨_, rs' ++ [l], rfl, c3.trans k4, ?_, fun r' hr' => ?_⟩
      · rw [take_snoc ho]
        exact G3.app k4 G3.nr e4 (k4.at1 e3 npl.symm)
      · rcases List.mem_append.mp hr' with m | m
        · exact nr r' m
        · rw [List.mem_singleton.mp m]; exact nl
    · rintro σ H2 ⟨v2, rs', rfl, c2, G2, nr⟩
      rw [gD_len M.len, List.take_length] at G2
      obtain ⟨eu, cu⟩ := c2.unlock M1.d (nm1 hpa)
      refine ⟨eu, ?_⟩
      walk_at "rd"
      refine q p rs' _ hp (c1.then cu hp) ⟨G2.len, by rw [upd_ne hpa.symm]; exact G2.d, fun j o r ho hr => ?_⟩ fun r hr => c1.fresh (nr r hr)
      rw [upd_ne (fun z => by
        have := nr r (List.mem_of_getElem? hr)
        rw [z, M1.d] at this
        cases this)]
      exact G2.at_ j o r ho hr
def cntG (os : GO) : Nat := os.foldr (fun o n => o.2.length * n) 1
theorem cntG_app {os : GO} {o : Str × List Str} : cntG (os ++ [o]) = cntG os * o.2.length := by
  induction os with
  | nil => show o.2.length * 1 = 1 * o.2.length; omega
  | cons a r ih =>
    show a.2.length * cntG (r ++ [o]) = a.2.length * cntG r * o.2.length
    rw [ih, Nat.mul_assoc]
theorem cntG_enc : ∀ os : Ops, cntG (enc os) = cnt os
  | [] => rfl
  | o :: r => by
    show o.2.length * cntG (enc r) = o.2.length * cnt r
    rw [cntG_enc r]
def sp_count : Sp := fun vs H Q _ => ∃ (a : Addr) (os : GO) (rs : List Addr), vs = [.ref a] ∧ GAt H a os rs ∧ (os.map (·.1)).Nodup ∧ (∀ q ∈ os, q.2.length ≤ 100) ∧ ∀ H', Chg [] H H' → Q (.int ((cntG os : Nat) : Int)) H'
theorem ok_count (T : Tx w K mg) : ∃ fd, FnOk P w K mg base CX0 1 (He.fAd K ("_law_count", none)) fd ["options"] sp_count ∧ Binds K fd ["options"] [] := by
  obtain ⟨fd, F⟩ := T.F__law_count
  refine ⟨fd, F.ok sc__law_count (fun vs H Q E h => ?_) (fun cdv A outer s H vs Q E hr h => ?_), F.binds fun _ _ _ _ _ _ us hl => match us, hl with | [_], _ => rfl⟩
  · obtain ⟨a, os, rs, rfl, _⟩ := h
    rfl
  · obtain ⟨a, os, rs, rfl, M, nd, hls, q⟩ := h
    have hu := hu_of hr
    refine ⟨_, (pss_cons (ps_set (i := 1) sc__law_count.nd rfl (Or.inl rfl) pe_int)
      (pss_cons (ps_lock (ps_for PassesOwn.never rfl (pi_keys (pv 0)) (pg_name (i := 2) sc__law_count.nd rfl (Or.inl rfl))
        (pss_one (ps_set (i := 1) sc__law_count.nd rfl (Or.inl rfl) (pe_op op_mul (pv 1) (pe_callB call_len_seq (by rfl) T.n_len PySem.boot_len (pa_cons (pe_dget hu (pv 0) (pv 2) (fun _ _ => rfl)) pa_nil)))))))
      (pss_one (ps_ret (pv 1))))), ?_⟩
    walk_at "rd"
    refine ⟨a, .dK (gD os rs), M.d, trivial, fun od => ?_⟩
    walk_at "rd"
    refine r_keys ?_
    walk_at "rd"
    refine ⟨a, od, rfl, .inl ⟨_, upd_same, ?_⟩⟩
    refine for_it walk_keys (fun i σ H' => ∃ (v2 : Option V), σ = [some (.ref a), some (.int ((cntG (os.take i) : Nat) : Int)), v2] ∧ Chg [] (upd H a (.frz od (.dK (gD os rs)))) H') ⟨none, rfl, Chg.refl⟩
      (fun i σ H' _ ⟨_, _, c⟩ => c.at upd_same) ?_ ?_
    · rintro i x σ Hx H2 hi ⟨v2, rfl, c2⟩ ⟨rfl, k, v, hkv, rfl⟩
      rw [gD_len M.len] at hi
      obtain ⟨o, ho⟩ : ∃ o, os[i]? = some o := ⟨os[i], List.getElem?_eq_getElem hi⟩
      obtain ⟨r0, hr0⟩ : ∃ r0, rs[i]? = some r0 := ⟨rs[i]'(by rw [M.len]; exact hi), List.getElem?_eq_getElem _⟩
      have hk : k = Sum.inr o.1 := by
        unfold gD at hkv
        rw [List.getElem?_map, (List.getElem?_zip_eq_some (z := (o, r0))).mpr ⟨ho, hr0⟩] at hkv
        cases hkv; rfl
      subst hk
      obtain ⟨r, hr1, hr2, hr3⟩ := M.lkd (od := od) (lk_at nd ho)
      walk_at "rd"
      refine ⟨a, _, rfl, dgF (c2.at upd_same) hr1, ?_⟩
      walk_at "rd"
      refine ⟨r, _, rfl, .inl (sqL (c2.at hr3)), ?_⟩
      rw [List.length_map]
      have hq := hls o (List.mem_of_getElem? ho)
      refine r_rI (.inr ⟨by omega, by omega⟩) ?_
      refine ⟨some (.str o.1), ?_, c2⟩
      rw [take_snoc ho, cntG_app]
      have : ((cntG (os.take i) * o.2.length : Nat) : Int) = ((cntG (os.take i) : Nat) : Int) * (o.2.length : Int) := by push_cast; rfl
      rw [this]
      rfl
    · rintro σ H2 ⟨v2, rfl, c2⟩
      rw [gD_len M.len, List.take_length]
      obtain ⟨eu, cu⟩ := c2.unlock M.d nm0
      refine ⟨eu, ?_⟩
      walk_at "rd"
      exact q _ cu
def sp_lrefused (K : PySem.W.Frag) : Sp := fun vs H Q _ => ∃ (b db o : Addr) (cs : List Str) (os : GO) (rs : List Addr), vs = [.ref b, .ref o] ∧ BookAt K H b db cs ∧ OkB cs ∧ GAt H o os rs ∧ os.length ≤ 100 ∧ (∀ q ∈ os, q.2.length ≤ 100) ∧ ¬ (Good os ∧ cnt (canon os) ≤ 24) ∧ ∀ H', Chg [] H H' → Q (.bl true) H'
theorem ok_lrefused (T : Tx w K mg) : ∃ fd, FnOk P w K mg base CX0 6 (He.fAd K ("_law_refused", none)) fd ["book", "options"] (sp_lrefused K) ∧ Binds K fd ["book", "options"] [] := by
  obtain ⟨fd, F⟩ := T.F__law_refused
  obtain ⟨fdM, G_Menu, b_Menu⟩ := ok_menu (P := P) (w := w) (base := base) T
  refine ⟨fd, F.ok sc__law_refused (fun vs H Q E h => ?_) (fun cdv A outer s H vs Q E hr h => ?_), F.binds fun _ _ _ _ _ _ us hl => match us, hl with | [_, _], _ => rfl⟩
  · obtain ⟨b, db, o, cs, os, rs, rfl, _⟩ := h
    rfl
  · obtain ⟨b, db, o, cs, os, rs, rfl, B, hc, M, hos, hls, hbad, q⟩ := h
    have hu := hu_of hr
    refine ⟨_, (pss_cons (ps_try_as (i := 2) rfl rfl sc__law_refused.nd rfl rfl ⟨rfl, by decide, .inl T.g_InvalidInput⟩ takes0 (fun W pn xe tk _ => (pss_one (ps_expr (pe_makeS T.mk_Menu G_Menu (hr.mono (by decide)) (by rfl) T.g_Menu b_Menu (fun σ => passAt tk σ) (pa_cons (pv 0) (pa_cons (pv 1) pa_nil))))))
      (fun a oe cls d pn hz hf => (pss_one (ps_ret (pe_and (pe_callB (call_isS T.ex_InvalidInput hz hf) (by rfl) T.n_isinstance (by decide +kernel) (pa_cons (pv 2) (pa_cons (pe_glob (v := .ref (He.ga K "MarkError")) rfl T.g_MarkError rfl) pa_nil))) (pe_and (pe_callB (call_isS T.ex_InvalidInput hz hf) (by rfl) T.n_isinstance (by decide +kernel) (pa_cons (pv 2) (pa_cons (pe_bltn (v := .ty "ValueError") rfl T.n_ValueError (by decide +kernel) rfl) pa_nil))) (pe_one (pe_not (pe_callB (call_isS T.ex_InvalidInput hz hf) (by rfl) T.n_isinstance (by decide +kernel) (pa_cons (pv 2) (pa_cons (pe_glob (v := .ref (He.ga K "InvalidBook")) rfl T.g_InvalidBook rfl) pa_nil)))))))))))
      (pss_one (ps_ret pe_bl))), ?_⟩
    walk_at "rd"
    refine r_makeS ?_
    walk_at "rd"
    intro p dx hp hdx hne
    have c0 : Chg [] H (upd (upd H dx (.own p)) p (.ins (He.ga K "Menu") dx [])) := (Chg.new hdx).trans (Chg.new (by rw [upd_ne hne.symm]; exact hp))
    refine ⟨p, dx, b, db, o, cs, os, rs, rfl, upd_same, B.chg c0 nm0 nm0, hc, M.chg0 c0, hos, hls, fun g1 g2 => absurd ⟨g1, g2⟩ hbad, fun _ H4 k4 => ?_⟩
    have k4 : Chg [] H H4 := c0.then k4 hp
    refine ⟨true, T.x_InvalidInput_InvalidInput, fun _ a0 _ => ?_, fun q => Bool.noConfusion q⟩
    walk_at "rd"
    refine ⟨rfl, rfl, _, _, true, rfl, fun u r => r, T.kt_InvalidInput_MarkError, ?_⟩
    walk_at "rd"
    refine iteT ?_
    walk_at "rd"
    refine ⟨rfl, rfl, _, _, true, rfl, fun u r => r, T.kt_InvalidInput_ValueError, ?_⟩
    walk_at "rd"
    refine iteT ?_
    walk_at "rd"
    refine ⟨rfl, rfl, _, _, false, rfl, fun u r => r, T.kt_InvalidInput_InvalidBook, ?_⟩
    walk_at "rd"
    exact q _ k4
end
end Sm
set_option maxHeartbeats 4000000
namespace Sm
open PySem PySem.Spec PyProof.Rows L2
local macro_rules | `(tactic| walk_at "rd1") => `(tactic| first
  | (with_reducible refine r_seq ?_) | (with_reducible refine r_asg ?_) | (with_reducible refine r_gname ?_)
  | ((with_reducible refine' r_var ?e ?_); (case e => rfl)) | (with_reducible refine r_c ?_)
  | (with_reducible refine r_ret ?_) | (with_reducible refine r_retN ?_) | (with_reducible refine r_drop ?_) | (with_reducible refine r_next ?_) | (with_reducible refine r_ifs ?_)
  | (with_reducible refine r_op ?_) | (with_reducible refine r_rI0 ?_)
  | (with_reducible refine r_test ?_) | (with_reducible refine r_tb ?_) | (with_reducible refine Exists.intro _ (And.intro (Eq.refl (V.bl _)) ?_))
  | (with_reducible refine r_nil ?_) | (with_reducible refine r_cons ?_) | (with_reducible refine r_cb ?_) | (with_reducible refine r_call ?_)
  | (with_reducible refine r_callS ?_) | (with_reducible refine r_meth ?_) | (with_reducible refine r_ownIx ?_) | (with_reducible refine r_ownSet ?_)
  | (with_reducible refine r_not ?_) | (with_reducible refine r_and ?_) | (with_reducible refine r_or ?_)
  | (with_reducible refine r_lst ?_) | (with_reducible refine r_tup ?_) | (with_reducible refine Or.inl (Exists.intro _ (And.intro (Eq.refl [V.int _]) ?_)))
  | ((with_reducible refine r_rI ?c ?_); (case c => first | (show (0 : Int) < _; decide) | exact ⟨by decide, by decide⟩))
  | (with_reducible refine r_for ?_) | (with_reducible refine r_rng1 ?_) | (with_reducible refine r_rng2 ?_) | (with_reducible refine r_ilist ?_) | (with_reducible refine r_itup ?_)
  | (with_reducible refine r_m0 ?_) | (with_reducible refine r_m1 ?_) | (with_reducible refine r_isStr ?_) | (with_reducible refine r_newS ?_) | (with_reducible refine r_fld ?_)
  | (with_reducible refine r_bm ?_) | (with_reducible refine r_bm0 ?_) | (with_reducible refine r_sl ?_) | (with_reducible refine r_nopart ?_) | (with_reducible refine r_part ?_)
  | (with_reducible refine r_pcons ?_) | (with_reducible refine r_pnil ?_) | (with_reducible refine r_dget2 ?_) | (with_reducible refine r_dget1 ?_)
  | (with_reducible refine r_lc ?_) | (with_reducible refine r_yes ?_)
  | (with_reducible refine r_un ?_) | (with_reducible refine r_rU ?_)
  | (with_reducible refine r_disp ?_) | (with_reducible refine r_andV ?_) | (with_reducible refine r_orV ?_) | (with_reducible refine r_notV ?_) | (with_reducible refine r_dnewK ?_)
  | (with_reducible refine r_dget ?_) | (with_reducible refine r_dput ?_)
  | ((with_reducible refine r_rEq ?e ?_); (case e => rfl)) | ((with_reducible refine r_rNe ?e ?_); (case e => rfl)))
local macro_rules | `(tactic| walk_at "rd") => `(tactic| repeat (walk_at "rd1"))
section
variable {P : Program} {w : World} {K : PySem.W.Frag} {mg : Str → Option Value} {base : Heap}
/-! ### options as they are drawn -/
def mkL (i : Nat) (q s : Int) (many : Nat) : List Str := (List.range many).map fun j => (chs i).getD ((q + s * (j : Nat)) % ((chs i).length : Int)).toNat ""
theorem mkL_mem {i many : Nat} {q s : Int} (hi : i < 10) : ∀ c ∈ mkL i q s many, c ∈ chs i := fun c hc => by
  unfold mkL at hc
  obtain ⟨j, _, rfl⟩ := List.mem_map.mp hc
  have hn := (chs_pos i hi).1
  obtain ⟨n, y, e, hl, hy⟩ := mod_at (ys := chs i) (q + s * (j : Nat)) rfl (by omega)
  rw [e, Int.toNat_natCast, List.getD_eq_getElem?_getD, hy]
  exact List.mem_of_getElem? hy
theorem mkL_nd {i many : Nat} {q s : Int} (hi : i < 10) (hm : many ≤ (chs i).length) (hs : s = 1 ∨ (s = 2 ∧ many = 2 ∧ (chs i).length = 4)) : (mkL i q s many).Nodup := by
  unfold mkL
  refine List.pairwise_map.mpr (List.pairwise_lt_range.imp_of_mem fun {a b} ha hb hlt z => ?_)
  have ha := List.mem_range.mp ha
  have hb := List.mem_range.mp hb
  have hn := chs_pos i hi
  obtain ⟨n1, y1, e1, hl1, hy1⟩ := mod_at (ys := chs i) (q + s * (a : Nat)) rfl (by omega)
  obtain ⟨n2, y2, e2, hl2, hy2⟩ := mod_at (ys := chs i) (q + s * (b : Nat)) rfl (by omega)
  rw [e1, e2, Int.toNat_natCast, Int.toNat_natCast, List.getD_eq_getElem?_getD, List.getD_eq_getElem?_getD, hy1, hy2] at z
  have z : y1 = y2 := z
  have en : n1 = n2 := (List.getElem?_inj hl1 (chs_nd i hi)).mp (by rw [hy1, hy2, z])
  have em : (q + s * (a : Nat)) % ((chs i).length : Int) = (q + s * (b : Nat)) % ((chs i).length : Int) := by rw [e1, e2, en]
  generalize (chs i).length = n at *
  rcases hs with rfl | ⟨rfl, hm2, hn4⟩
  · have : n = 2 ∨ n = 3 ∨ n = 4 := by omega
    rcases this with h | h | h <;> subst h <;> omega
  · subst hm2 hn4
    omega
theorem idx_inj {d : Int} {a b : Nat} (ha : a < 10) (hb : b < 10) (h : (d + 3 * (a : Int)) % 10 = (d + 3 * (b : Int)) % 10) : a = b := by omega
def sp_large (K : PySem.W.Frag) : Sp := fun vs H Q _ => ∃ (dl : Addr) (ds : List Int) (most : Int), vs = [.ref dl, .int most] ∧ H dl = some (.lst (ds.map V.int)) ∧ 10 ≤ ds.length ∧ (∀ (i : Nat) (x : Int), ds[i]? = some x → 0 ≤ x ∧ x < 5040) ∧
  ∀ (ops : Ops) p rs H', OkG ops → ops.length ≤ 10 → H p = none → (∀ r ∈ rs, H r = none) → Chg [] H H' → GAt H' p (enc ops) rs → Q (.ref p) H'
theorem ok_large (T : Tx w K mg) : ∃ fd, FnOk P w K mg base CX0 2 (He.fAd K ("_law_large_options", none)) fd ["digits", "most"] (sp_large K) ∧ Binds K fd ["digits", "most"] [] := by
  obtain ⟨fd, F⟩ := T.F__law_large_options
  obtain ⟨fdE, G__law_entries, b__law_entries⟩ := ok_entries (P := P) (w := w) (base := base) T
  obtain ⟨fdC, G__law_choices, b__law_choices⟩ := ok_choices (P := P) (w := w) (base := base) T
  refine ⟨fd, F.ok sc__law_large_options (fun vs H Q E h => ?_) (fun cdv A outer s H vs Q E hr h => ?_), F.binds fun _ _ _ _ _ _ us hl => match us, hl with | [_, _], _ => rfl⟩
  · obtain ⟨dl, ds, most, rfl, _⟩ := h
    rfl
  · obtain ⟨dl, ds, most, rfl, edl, hl, hd, q⟩ := h
    have hu := hu_of hr
    refine ⟨_, (pss_cons (ps_set (i := 2) sc__law_large_options.nd rfl (Or.inl rfl) pe_dnewK)
      (pss_cons (ps_set (i := 3) sc__law_large_options.nd rfl (Or.inl rfl) pe_int)
      (pss_cons (ps_for PassesOwn.never rfl (pi_range1 rfl T.n_range (pa_cons pe_int pa_nil)) (pg_name (i := 4) sc__law_large_options.nd rfl (Or.inl rfl))
        (pss_cons (ps_set (i := 5) sc__law_large_options.nd rfl (Or.inr rfl) (pe_callTy call_int1 (by rfl) T.n_int (by decide +kernel) (pa_cons (pe_ix ix_list (pv 0) (pv 4) (fun _ _ => rfl)) pa_nil)))
      (pss_cons (ps_set (i := 6) sc__law_large_options.nd rfl (Or.inl rfl) (pe_ix ix_list (pe_call0 G__law_entries (hr.mono (by decide)) (by rfl) T.g__law_entries T.k__law_entries b__law_entries .nil pass0) (pe_op op_mod (pe_callTy call_int1 (by rfl) T.n_int (by decide +kernel) (pa_cons (pe_op op_add (pe_ix ix_list (pv 0) pe_int (fun _ _ => rfl)) (pe_op op_mul pe_int (pv 4))) pa_nil)) pe_int) (fun _ _ => rfl)))
      (pss_cons (ps_set (i := 7) sc__law_large_options.nd rfl (Or.inr rfl) (pe_call G__law_choices (hr.mono (by decide)) (by rfl) T.g__law_choices T.k__law_choices b__law_choices .nil pass0 (pa_cons (pv 6) pa_nil)))
      (pss_cons (ps_set (i := 8) sc__law_large_options.nd rfl (Or.inl rfl) (pe_op op_add pe_int (pe_op op_mod (pe_callTy call_int1 (by rfl) T.n_int (by decide +kernel) (pa_cons (pe_op op_fdiv (pv 5) pe_int) pa_nil)) (pe_callB call_len_seq (by rfl) T.n_len PySem.boot_len (pa_cons (pv 7) pa_nil)))))
      (pss_cons (ps_set (i := 9) sc__law_large_options.nd rfl (Or.inr rfl) (pe_op op_add pe_int (pe_op op_mul (pe_callTy call_int1 (by rfl) T.n_int (by decide +kernel) (pa_cons (pe_andB (pe_cmpR op_eq (pv 8) pe_int (nomark _)) (pe_one (pe_cmpR op_eq (pe_callB call_len_seq (by rfl) T.n_len PySem.boot_len (pa_cons (pv 7) pa_nil)) pe_int (nomark _)))) pa_nil)) (pe_op op_mod (pe_callTy call_int1 (by rfl) T.n_int (by decide +kernel) (pa_cons (pe_op op_fdiv (pv 5) pe_int) pa_nil)) pe_int))))
      (pss_one (ps_if (PW.pt (pw_and (pt_cmpR op_gt (pe_op op_mod (pe_callTy call_int1 (by rfl) T.n_int (by decide +kernel) (pa_cons (pv 5) pa_nil)) pe_int) pe_int (nomark _)) (pw_and1 (pt_cmpR op_le (pe_op op_mul (pv 3) (pv 8)) (pv 1) (nomark _)))))
        (pss_cons (ps_dput hu (pv 2) (pv 6) (pe_lc (own := [("j", 10)]) (g := gName 10) rfl sc__law_large_options.nd (pi_range1 rfl T.n_range (pa_cons (pv 8) pa_nil)) (blkOk_by (own := [("j", 10)]) (N := ["digits", "most", "options", "count", "k", "digit", "name", "told", "many", "stride", "j"]) (sc := defScope s__law_large_options) (by decide +kernel)) (fun _ _ _ _ _ => pg_name (i := 10) sc__law_large_options.nd rfl (Or.inl rfl)) (fun _ _ _ _ _ => pts_nil) (fun _ _ _ _ _ => (pe_ix (ix_listK (K := K) rfl) (pv 7) (pe_op op_mod (pe_callTy call_int1 (by rfl) T.n_int (by decide +kernel) (pa_cons (pe_op op_add (pe_op op_fdiv (pv 5) pe_int) (pe_op op_mul (pv 9) (pv 10))) pa_nil)) (pe_callB (call_len_seqK (K := K) rfl) (by rfl) T.n_len PySem.boot_len (pa_cons (pv 7) pa_nil))) (fun _ _ => rfl)))) rfl)
      (pss_one (ps_set (i := 3) sc__law_large_options.nd rfl (Or.inl rfl) (pe_op op_mul (pv 3) (pv 8)))))
        pss_nil))))))))
      (pss_one (ps_ret (pv 2)))))), ?_⟩
    walk_at "rd"
    intro p hp
    generalize eH : upd H p _ = H1
    obtain ⟨e1, k1, c1, n1⟩ := laid (S := []) eH Chg.refl hp
    have hdp : dl ≠ p := ne_of_none edl hp
    obtain ⟨d0, hd0⟩ : ∃ d0, ds[0]? = some d0 := ⟨ds[0]'(by omega), List.getElem?_eq_getElem _⟩
    walk_at "rd"
    refine ⟨_, rfl, by decide, by decide, ?_⟩
    refine for_range (n := 10) (fun i σ H' => ∃ (ops : Ops) (rs : List Addr) (cn : Int) (v4 v5 v6 v7 v8 v9 v10 : Option V), σ = [some (.ref dl), some (.int most), some (.ref p), some (.int cn), v4, v5, v6, v7, v8, v9, v10] ∧ Chg [p] H1 H' ∧ GAt H' p (enc ops) rs ∧ OkG ops ∧ ops.length ≤ i ∧ (∀ r ∈ rs, H1 r = none) ∧
      (∀ o ∈ ops, ∃ k, k < i ∧ (o.1 : Int) = (d0 + 3 * (k : Int)) % 10)) ⟨[], [], 1, none, none, none, none, none, none, none, rfl, Chg.refl, GAt.nil e1, ⟨⟨List.nodup_nil, by simp, by simp, by simp, by simp⟩, by simp⟩, Nat.le_refl _, by simp, by simp⟩ ?_ ?_
    · rintro i σ H2 hi ⟨ops, rs, cn, v4, v5, v6, v7, v8, v9, v10, rfl, c2, G2, hok, hlen, nr, hix⟩
      have hq2 : SqL K H2 dl (ds.map V.int) := sqL (c2.at1 (k1.at edl) hdp)
      have eq2 := c2.at1 (k1.at edl) hdp
      obtain ⟨x, hx⟩ : ∃ x, ds[i]? = some x := ⟨ds[i]'(by omega), List.getElem?_eq_getElem _⟩
      have hx0 := hd i x hx
      walk_at "rd"
      rw [show (0 : Int) + (i : Nat) = (i : Nat) by omega]
      refine r_ixL hq2 (atI_ofNat (ints_at hx)) ?_
      walk_at "rd"
      refine ⟨rfl, fun l h3 => ?_⟩
      generalize eH : upd H2 l _ = H3
      obtain ⟨e3, k3, c3, n3⟩ := laid eH c2 h3
      have eq3 := k3.at eq2
      walk_at "rd"
      refine r_ixL (sqL eq3) (atI_ofNat (n := 0) (ints_at hd0)) ?_
      walk_at "rd"
      refine r_rI (.inl ⟨by decide, by decide⟩) ?_
      walk_at "rd"
      obtain ⟨ix, y, eix, hixl, hiy⟩ := mod_at (ys := entriesL) (m := 10) (d0 + 3 * (i : Int)) rfl (by decide)
      have hi10 : ix < 10 := hixl
      have hye : y = ent ix := by
        rw [ent_at hi10] at hiy
        exact (Option.some.inj hiy).symm
      rw [eix]
      refine r_ixL (sqL e3) (atI_ofNat (strs_at (ent_at hi10))) ?_
      walk_at "rd"
      refine ⟨ix, hi10, rfl, fun tl H4 h4 k4 e4 => ?_⟩
      have c4 := c3.trans (Chg.up k4)
      have G4 := (G2.chg0 k3).chg0 k4
      have hn := chs_pos ix hi10
      walk_at "rd"
      refine ⟨tl, _, rfl, .inl (sqL e4), ?_⟩
      rw [List.length_map]
      generalize hnn : (chs ix).length = nn at *
      refine r_rI (show (0 : Int) < (nn : Int) by omega) ?_
      walk_at "rd"
      obtain ⟨kk, ekk⟩ : ∃ kk : Nat, x / 10 % (nn : Int) = (kk : Int) := ⟨(x / 10 % (nn : Int)).toNat, (Int.toNat_of_nonneg (Int.emod_nonneg _ (by omega))).symm⟩
      have hkk : kk < nn := by
        have := Int.emod_lt_of_pos (x / 10) (show (0 : Int) < (nn : Int) by omega)
        omega
      rw [ekk]
      refine r_andB ?_
      walk_at "rd"
      refine ⟨decide (V.int (1 + (kk : Int)) = V.int 2), decide (V.int (nn : Int) = V.int 4), rfl, fun _ => ?_, ?_⟩
      · walk_at "rd"
        refine ⟨tl, _, rfl, .inl (sqL e4), ?_⟩
        rw [List.length_map, hnn]
        walk_at "rd"
        exact ⟨rfl, rfl⟩
      generalize hbb : (decide (V.int (1 + (kk : Int)) = V.int 2) && decide (V.int (nn : Int) = V.int 4)) = bb
      have hb2 : bb = true → kk = 1 ∧ nn = 4 := fun hb => by
        rw [← hbb, Bool.and_eq_true, decide_eq_true_eq, decide_eq_true_eq] at hb
        have h1 : (1 + (kk : Int)) = 2 := by injection hb.1
        have h2 : (nn : Int) = 4 := by injection hb.2
        omega
      walk_at "rd"
      refine .inr ⟨bb, rfl, ?_⟩
      walk_at "rd"
      refine r_rI (.inl ⟨by cases bb <;> decide, by cases bb <;> decide⟩) ?_
      walk_at "rd"
      obtain ⟨st, est, hst⟩ : ∃ st : Int, 1 + (if bb = true then 1 else 0) * (x / 160 % 2) = st ∧ (st = 1 ∨ (st = 2 ∧ kk + 1 = 2 ∧ nn = 4)) := by
        refine ⟨_, rfl, ?_⟩
        cases bb with
        | false => exact .inl (by simp)
        | true =>
          obtain ⟨h1, h2⟩ := hb2 rfl
          have : x / 160 % 2 = 0 ∨ x / 160 % 2 = 1 := by omega
          rcases this with h | h
          · exact .inl (by rw [h]; simp)
          · exact .inr ⟨by rw [h]; simp, by omega, h2⟩
      rw [est]
      have stp : ∀ o ∈ ops, ∃ k, k < i + 1 ∧ (o.1 : Int) = (d0 + 3 * (k : Int)) % 10 := fun o ho => by
        obtain ⟨k, hk, e⟩ := hix o ho
        exact ⟨k, by omega, e⟩
      have skip : Chg [p] H1 H4 := c4
      refine r_ite (fun z => ?_) (fun z => ?_)
      · walk_at "rd"
        refine r_rI (.inr ⟨by omega, by omega⟩) ?_
        walk_at "rd"
        refine r_ite (fun z2 => ?_) (fun z2 => ?_)
        · walk_at "rd"
          refine ⟨_, rfl, by omega, by omega, fun D hD => ?_⟩
          rw [show ((1 : Int) + (kk : Int)).toNat = kk + 1 by omega]
          have eq4 := k4.at eq3
          have htD : tl ≠ D := ne_of_none e4 hD
          refine lc_range (n := kk + 1) (fun j H' => Chg [D] H4 H' ∧ H' D = some (wordsV ((mkL ix (x / 40) st (kk + 1)).take j))) ⟨Chg.new hD, upd_same⟩ ?_ ?_
          · rintro j H5 hj ⟨c5, e5⟩
            have et5 := c5.at1 e4 htD
            walk_at "rd"
            refine ⟨rfl, ?_⟩
            walk_at "rd"
            refine iteT ?_
            walk_at "rd"
            refine r_rI (.inl ⟨by omega, by omega⟩) ?_
            walk_at "rd"
            refine ⟨tl, _, rfl, .inl (sqL et5), ?_⟩
            rw [List.length_map, hnn]
            refine r_rI (show (0 : Int) < (nn : Int) by omega) ?_
            obtain ⟨jn, yv, ejn, hjl, hjy⟩ := mod_at (ys := chs ix) (m := (nn : Int)) (x / 40 + st * (0 + (j : Int))) (by rw [hnn]) (by omega)
            rw [ejn]
            refine r_ixL (sqL et5) (atI_ofNat (strs_at hjy)) ?_
            have hget : (mkL ix (x / 40) st (kk + 1))[j]? = some yv := by
              unfold mkL
              rw [List.getElem?_map, List.getElem?_range hj]
              show some ((chs ix).getD ((x / 40 + st * (j : Int)) % ((chs ix).length : Int)).toNat "") = _
              rw [hnn, show x / 40 + st * (j : Int) = x / 40 + st * (0 + (j : Int)) by rw [Int.zero_add], ejn, Int.toNat_natCast, List.getD_eq_getElem?_getD, hjy]; rfl
            refine ⟨_, e5, ?_, c5.trans (Chg.set e5 (List.mem_singleton.mpr rfl)), ?_⟩
            · rw [List.length_map, List.length_take]
              exact small1000 (by omega)
            · rw [upd_same, take_snoc hget]
              unfold wordsV
              rw [List.map_append]; rfl
          · rintro H5 ⟨c5, e5⟩
            have hml : (mkL ix (x / 40) st (kk + 1)).length = kk + 1 := by unfold mkL; rw [List.length_map, List.length_range]
            rw [List.take_of_length_le (by rw [hml]; exact Nat.le_refl _)] at e5
            have G5 : GAt H5 p (enc ops) rs := G4.chg c5 (nm1 (ne_of_none G4.d hD)) fun r hr => by
              obtain ⟨o', _, er⟩ := G4.there r hr
              exact nm1 (ne_of_none er hD)
            have npD : D ≠ p := (ne_of_none G4.d hD).symm
            walk_at "rd"
            refine ⟨p, _, rfl, DPut.k (k := Sum.inr (ent ix)) G5.d (small1000 (by rw [gD_len G5.len]; unfold enc; rw [List.length_map]; omega)), ?_⟩
            have hnew : ∀ o ∈ ops, o.1 ≠ ix := fun o ho z => by
              obtain ⟨k, hk, e⟩ := hix o ho
              rw [z, ← eix] at e
              have := idx_inj (d := d0) (by omega) (by omega) e
              omega
            have hmiss : lk (enc ops) (ent ix) = none := by
              rw [lk_none, enc_keys]
              intro hm
              obtain ⟨o, ho, e⟩ := List.mem_map.mp hm
              exact hnew o ho (ent_inj (hok.lt o ho) hi10 e)
            rw [putK_new _ (G5.miss hmiss)]
            generalize eH : upd H5 p _ = H6
            obtain ⟨e6, k6⟩ := put eH G5.d
            have G6 : GAt H6 p (enc ops ++ [(ent ix, mkL ix (x / 40) st (kk + 1))]) (rs ++ [D]) := G5.app k6 G5.nr e6 (k6.at1 e5 npD)
            have cD : Chg [p] H1 H5 := skip.then c5 (skip.fresh hD)
            have hokN : OkG (ops ++ [(ix, mkL ix (x / 40) st (kk + 1))]) := by
              have hm := mkL_mem (q := x / 40) (s := st) (many := kk + 1) hi10
              have hnd := mkL_nd (q := x / 40) (s := st) (many := kk + 1) hi10 (by omega) (by rw [hnn]; exact hst)
              refine ⟨⟨?_, fun o ho => ?_, fun o ho => ?_, fun o ho => ?_, fun o ho => ?_⟩, fun o ho => ?_⟩
              · rw [List.map_append]
                refine List.nodup_append.mpr ⟨hok.nd, by simp, fun a ha b hb z => ?_⟩
                obtain ⟨o, ho, rfl⟩ := List.mem_map.mp ha
                have : b = ix := by simpa using hb
                exact hnew o ho (z.trans this)
              all_goals
                rcases List.mem_append.mp ho with m | m
                · first | exact hok.lt o m | exact hok.ch o m | exact hok.ne o m | exact hok.len4 o m | exact hok.dup o m
                · rw [List.mem_singleton.mp m]
                  first | exact hi10 | exact hm | exact (fun z => by have z : mkL ix (x / 40) st (kk + 1) = [] := z; rw [z] at hml; simp at hml) | (show (mkL _ _ _ _).length ≤ 4; rw [hml]; omega) | exact hnd
            walk_at "rd"
            refine r_rI (.inr ⟨by omega, by omega⟩) ?_
            refine ⟨_, rs ++ [D], _, _, _, _, _, _, _, _, rfl, cD.trans k6, ?_, hokN, by rw [List.length_append]; show ops.length + 1 ≤ i + 1; omega, fun r hr => ?_, fun o ho => ?_⟩
            · have : enc (ops ++ [(ix, mkL ix (x / 40) st (kk + 1))]) = enc ops ++ [(ent ix, mkL ix (x / 40) st (kk + 1))] := by unfold enc; rw [List.map_append]; rfl
              rw [this]; exact G6
            · rcases List.mem_append.mp hr with m | m
              · exact nr r m
              · rw [List.mem_singleton.mp m]; exact skip.fresh hD
            · rcases List.mem_append.mp ho with m | m
              · exact stp o m
              · rw [List.mem_singleton.mp m]
                exact ⟨i, by omega, eix.symm⟩
        · walk_at "rd"
          exact ⟨ops, rs, _, _, _, _, _, _, _, _, rfl, skip, G4, hok, by omega, nr, stp⟩
      · walk_at "rd"
        exact ⟨ops, rs, _, _, _, _, _, _, _, _, rfl, skip, G4, hok, by omega, nr, stp⟩
    · rintro σ H2 ⟨ops, rs, cn, v4, v5, v6, v7, v8, v9, v10, rfl, c2, G2, hok, hlen, nr, hix⟩
      walk_at "rd"
      exact q ops p rs H2 hok hlen hp (fun r hr => c1.fresh (nr r hr)) (c1.then c2 hp) G2
end
end Sm
set_option maxHeartbeats 4000000
namespace Sm
open PySem PySem.Spec PyProof.Rows L2
local macro_rules | `(tactic| walk_at "rd1") => `(tactic| first
  | (with_reducible refine r_seq ?_) | (with_reducible refine r_asg ?_) | (with_reducible refine r_gname ?_)
  | ((with_reducible refine' r_var ?e ?_); (case e => rfl)) | (with_reducible refine r_c ?_)
  | (with_reducible refine r_ret ?_) | (with_reducible refine r_retN ?_) | (with_reducible refine r_drop ?_) | (with_reducible refine r_next ?_) | (with_reducible refine r_ifs ?_)
  | (with_reducible refine r_op ?_) | (with_reducible refine r_rI0 ?_)
  | (with_reducible refine r_test ?_) | (with_reducible refine r_tb ?_) | (with_reducible refine Exists.intro _ (And.intro (Eq.refl (V.bl _)) ?_))
  | (with_reducible refine r_nil ?_) | (with_reducible refine r_cons ?_) | (with_reducible refine r_cb ?_) | (with_reducible refine r_call ?_)
  | (with_reducible refine r_callS ?_) | (with_reducible refine r_meth ?_) | (with_reducible refine r_ownIx ?_) | (with_reducible refine r_ownSet ?_)
  | (with_reducible refine r_not ?_) | (with_reducible refine r_and ?_) | (with_reducible refine r_or ?_)
  | (with_reducible refine r_lst ?_) | (with_reducible refine r_tup ?_) | (with_reducible refine Or.inl (Exists.intro _ (And.intro (Eq.refl [V.int _]) ?_)))
  | ((with_reducible refine r_rI ?c ?_); (case c => first | (show (0 : Int) < _; decide) | exact ⟨by decide, by decide⟩))
  | (with_reducible refine r_for ?_) | (with_reducible refine r_rng1 ?_) | (with_reducible refine r_rng2 ?_) | (with_reducible refine r_ilist ?_) | (with_reducible refine r_itup ?_)
  | (with_reducible refine r_m0 ?_) | (with_reducible refine r_m1 ?_) | (with_reducible refine r_isStr ?_) | (with_reducible refine r_newS ?_) | (with_reducible refine r_fld ?_)
  | (with_reducible refine r_bm ?_) | (with_reducible refine r_bm0 ?_) | (with_reducible refine r_sl ?_) | (with_reducible refine r_nopart ?_) | (with_reducible refine r_part ?_)
  | (with_reducible refine r_pcons ?_) | (with_reducible refine r_pnil ?_) | (with_reducible refine r_dget2 ?_) | (with_reducible refine r_dget1 ?_)
  | (with_reducible refine r_lc ?_) | (with_reducible refine r_yes ?_)
  | (with_reducible refine r_un ?_) | (with_reducible refine r_rU ?_)
  | (with_reducible refine r_disp ?_) | (with_reducible refine r_andV ?_) | (with_reducible refine r_orV ?_) | (with_reducible refine r_notV ?_) | (with_reducible refine r_dnewK ?_)
  | (with_reducible refine r_dget ?_) | (with_reducible refine r_dput ?_)
  | ((with_reducible refine r_rEq ?e ?_); (case e => rfl)) | ((with_reducible refine r_rNe ?e ?_); (case e => rfl)))
local macro_rules | `(tactic| walk_at "rd") => `(tactic| repeat (walk_at "rd1"))
section
variable {P : Program} {w : World} {K : PySem.W.Frag} {mg : Str → Option Value} {base : Heap}
def sp_mbooks (K : PySem.W.Frag) : Sp := fun vs H Q _ => ∃ (a o : Addr) (cs : List Str) (os : GO) (rs : List Addr), vs = [.ref a, .ref o] ∧ H a = some (.dK (dcs cs)) ∧ OkB cs ∧ GAt H o os rs ∧ ∀ l ps H', H l = none → Chg [] H H' → BksAt H' l (dueN os cs 10) ps → Q (.ref l) H'
theorem ok_mbooks (T : Tx w K mg) : ∃ fd, FnOk P w K mg base CX0 2 (He.fAd K ("_law_menu_books", none)) fd ["base", "options"] (sp_mbooks K) ∧ Binds K fd ["base", "options"] [] := by
  obtain ⟨fd, F⟩ := T.F__law_menu_books
  obtain ⟨fdE, G__law_entries, b__law_entries⟩ := ok_entries (P := P) (w := w) (base := base) T
  obtain ⟨fdC, G__law_choices, b__law_choices⟩ := ok_choices (P := P) (w := w) (base := base) T
  refine ⟨fd, F.ok sc__law_menu_books (fun vs H Q E h => ?_) (fun cdv A outer s H vs Q E hr h => ?_), F.binds fun _ _ _ _ _ _ us hl => match us, hl with | [_, _], _ => rfl⟩
  · obtain ⟨a, o, cs, os, rs, rfl, _⟩ := h
    rfl
  · obtain ⟨a, o, cs, os, rs, rfl, ea, hc, M, q⟩ := h
    have hu := hu_of hr
    refine ⟨_, (pss_cons (ps_set (i := 2) sc__law_menu_books.nd rfl (Or.inl rfl) (pe_lst (pa_cons (pe_callTy call_dictD (by rfl) T.n_dict (by decide +kernel) (pa_cons (pv 0) pa_nil)) pa_nil)))
      (pss_cons (ps_for PassesOwn.never rfl (pi_list (pe_call0 G__law_entries (hr.mono (by decide)) (by rfl) T.g__law_entries T.k__law_entries b__law_entries .nil pass0)) (pg_name (i := 3) sc__law_menu_books.nd rfl (Or.inl rfl))
        (pss_one (ps_if (pt_cmp (pc_din hu (pv 3) (pv 1)))
        (pss_cons (ps_set (i := 4) sc__law_menu_books.nd rfl (Or.inl rfl) (pe_lst pa_nil))
      (pss_cons (ps_for PassesOwn.never rfl (pi_list (pv 2)) (pg_name (i := 5) sc__law_menu_books.nd rfl (Or.inl rfl))
        (pss_one (ps_for PassesOwn.never rfl (pi_list (pe_call G__law_choices (hr.mono (by decide)) (by rfl) T.g__law_choices T.k__law_choices b__law_choices .nil pass0 (pa_cons (pv 3) pa_nil))) (pg_name (i := 6) sc__law_menu_books.nd rfl (Or.inl rfl))
        (pss_one (ps_if (pt_cmpR op_in_seq (pv 6) (pe_dget hu (pv 1) (pv 3) (fun _ _ => rfl)) rfl)
        (pss_cons (ps_set (i := 7) sc__law_menu_books.nd rfl (Or.inl rfl) (pe_callTy call_dictD (by rfl) T.n_dict (by decide +kernel) (pa_cons (pv 5) pa_nil)))
      (pss_cons (ps_dput hu (pv 7) (pv 3) (pv 6) rfl)
      (pss_one (ps_set (i := 4) sc__law_menu_books.nd rfl (Or.inl rfl) (pe_op op_cat (pv 4) (pe_lst (pa_cons (pv 7) pa_nil)))))))
        pss_nil)))))
      (pss_one (ps_set (i := 2) sc__law_menu_books.nd rfl (Or.inl rfl) (pv 4)))))
        pss_nil)))
      (pss_one (ps_ret (pv 2))))), ?_⟩
    walk_at "rd"
    refine ⟨a, _, rfl, .inl ea, fun p hp => ?_⟩
    generalize eH : upd H p _ = H1
    obtain ⟨e1, k1, c1, n1⟩ := laid (S := []) eH Chg.refl hp
    walk_at "rd"
    refine ⟨by show 1 ≤ sizeLine; decide, fun f hf => ?_⟩
    generalize eH : upd H1 f _ = H2
    obtain ⟨e2, k2, c2, n2⟩ := laid eH c1 hf
    have B2 : BksAt H2 f (dueN os cs 0) [p] := ⟨e2, rfl, fun j x b h1 h2 => by
      cases j with
      | zero => cases h1; cases h2; exact k2.at e1
      | succ j => simp at h1⟩
    walk_at "rd"
    refine ⟨rfl, fun l h3 => ?_⟩
    generalize eH : upd H2 l _ = H3
    obtain ⟨e3, k3, c3, n3⟩ := laid eH c2 h3
    refine ⟨_, rfl, ⟨_, sqL e3⟩, ?_⟩
    refine for_list (K := K) (a := l) (xs := entriesL.map V.str) (fun i σ H' => ∃ (f : Addr) (ps : List Addr) (v3 v4 v5 v6 v7 : Option V), σ = [some (.ref a), some (.ref o), some (.ref f), v3, v4, v5, v6, v7] ∧ Chg [] H3 H' ∧ BksAt H' f (dueN os cs i) ps ∧ H f = none) ⟨f, [p], none, none, none, none, none, rfl, Chg.refl, B2.chg0 k3, n2⟩
      (fun i σ H' _ ⟨_, _, _, _, _, _, _, _, c, _⟩ => sqL (c.at e3)) ?_ ?_
    · rintro i y σ H4 hy ⟨f, ps, v3, v4, v5, v6, v7, rfl, c4, B4, nf⟩
      obtain ⟨hi, rfl⟩ : i < 10 ∧ y = .str (ent i) := by
        have hi : i < (entriesL.map V.str).length := (List.getElem?_eq_some_iff.mp hy).1
        have hi10 : i < 10 := by rw [List.length_map] at hi; exact hi
        rw [strs_at (ent_at hi10)] at hy
        exact ⟨hi10, (Option.some.inj hy).symm⟩
      have M4 := (M.chg0 c3).chg0 c4
      walk_at "rd"
      refine r_din ?_
      walk_at "rd"
      refine ⟨o, _, rfl, DGet.k (k := Sum.inr (ent i)) M4.d, ?_⟩
      refine ⟨_, rfl, ?_⟩
      rw [M4.isS]
      cases hlk : lk os (ent i) with
      | none =>
        refine iteF ?_
        walk_at "rd"
        exact ⟨f, ps, _, _, _, _, _, rfl, c4, by rw [dueN_none hlk]; exact B4, nf⟩
      | some l0 =>
        refine iteT ?_
        walk_at "rd"
        refine ⟨by decide, fun lg hlg => ?_⟩
        generalize eH : upd H4 lg _ = H5
        obtain ⟨e5, k5, c5, n5⟩ := laid eH c4 hlg
        walk_at "rd"
        have B5 := B4.chg0 k5
        refine ⟨f, rfl, ⟨_, sqL B5.l⟩, ?_⟩
        have hdl := dueN_len (os := os) (cs := cs) i (by omega)
        have h49 : 4 ^ i ≤ 4 ^ 9 := Nat.pow_le_pow_right (by decide) (by omega)
        refine for_list (K := K) (a := f) (xs := ps.map V.ref) (fun j σ H' => ∃ (lg : Addr) (qs : List Addr) (v5 v6 v7 : Option V), σ = [some (.ref a), some (.ref o), some (.ref f), some (.str (ent i)), some (.ref lg), v5, v6, v7] ∧ Chg [] H5 H' ∧ BksAt H' lg (exB i l0 ((dueN os cs i).take j)) qs ∧ H lg = none) ⟨lg, [], _, _, _, rfl, Chg.refl, ⟨e5, rfl, fun j x b h1 h2 => by simp at h1⟩, c3.fresh n5⟩
          (fun j σ H' _ ⟨_, _, _, _, _, _, c, _⟩ => sqL (c.at B5.l)) ?_ ?_
        · rintro j y σ H6 hy ⟨lg, qs, v5, v6, v7, rfl, c6, B6, nlg⟩
          obtain ⟨pj, hpj, rfl⟩ : ∃ pj, ps[j]? = some pj ∧ y = .ref pj := by
            rw [List.getElem?_map] at hy
            obtain ⟨x, ex, rfl⟩ := Option.map_eq_some_iff.mp hy
            exact ⟨x, ex, rfl⟩
          have hjl := (List.getElem?_eq_some_iff.mp hpj).1
          obtain ⟨bj, hbj⟩ : ∃ bj, (dueN os cs i)[j]? = some bj := ⟨(dueN os cs i)[j]'(by rw [← B4.len]; exact hjl), List.getElem?_eq_getElem _⟩
          have hbl : bj.length = 10 := dueN_ten hc.len i bj (List.mem_of_getElem? hbj)
          have epj5 := B5.at_ j pj bj hpj hbj
          walk_at "rd"
          refine ⟨i, hi, rfl, fun tl H7 h7 k7 e7 => ?_⟩
          have B7 := B6.chg0 k7
          refine ⟨tl, rfl, ⟨_, sqL e7⟩, ?_⟩
          have c7 : Chg [] H5 H7 := c6.trans k7
          refine for_list (K := K) (a := tl) (xs := (chs i).map V.str) (fun t σ H' => ∃ (lg : Addr) (qs : List Addr) (v6 v7 : Option V), σ = [some (.ref a), some (.ref o), some (.ref f), some (.str (ent i)), some (.ref lg), some (.ref pj), v6, v7] ∧ Chg [] H7 H' ∧ BksAt H' lg (exB i l0 ((dueN os cs i).take j) ++ (filN i l0 t).map fun c => bj.set i c) qs ∧ H lg = none) ⟨lg, qs, _, _, rfl, Chg.refl, by
              have : filN i l0 0 = [] := rfl
              rw [this, List.map_nil, List.append_nil]; exact B7, nlg⟩
            (fun t σ H' _ ⟨_, _, _, _, _, c, _⟩ => sqL (c.at e7)) ?_ ?_
          · rintro t y σ H8 hy ⟨lg, qs, v6, v7, rfl, c8, B8, nlg⟩
            obtain ⟨c, hct, rfl⟩ : ∃ c, (chs i)[t]? = some c ∧ y = .str c := by
              rw [List.getElem?_map] at hy
              obtain ⟨x, ex, rfl⟩ := Option.map_eq_some_iff.mp hy
              exact ⟨x, ex, rfl⟩
            have M8 := ((M4.chg0 k5).chg0 c7).chg0 c8
            obtain ⟨r, hr1, hr2, hr3⟩ := M8.get hlk
            walk_at "rd"
            refine ⟨o, _, rfl, DGet.k (k := Sum.inr (ent i)) M8.d |> (fun z => by rw [hr1] at z; exact z), ?_⟩
            refine ⟨r, _, rfl, .inl (sqL hr3), rfl, flat_strs _, ?_⟩
            rw [inV_strs]
            walk_at "rd"
            refine r_ite (fun hin => ?_) (fun hin => ?_)
            · walk_at "rd"
              refine ⟨pj, _, rfl, .inl (c8.at (c7.at epj5)), fun bn hbn => ?_⟩
              generalize eH : upd H8 bn _ = H9
              obtain ⟨e9, k9, c9, n9⟩ := laid eH c8 hbn
              walk_at "rd"
              refine ⟨bn, _, rfl, DPut.k (k := Sum.inr (ent i)) e9 (small1000 (by rw [dcs_len hbl]; decide)), ?_⟩
              rw [dcs_put hbl hi]
              generalize eH : upd H9 bn _ = H10
              obtain ⟨e10, k10⟩ := put eH e9
              have c10 : Chg [] H7 H10 := c9.then k10 n9
              have k810 : Chg [] H8 H10 := k9.then k10 hbn
              walk_at "rd"
              refine ⟨by show 1 ≤ sizeLine; decide, fun one h1 => ?_⟩
              generalize eH : upd H10 one _ = H11
              obtain ⟨e11, k11, c11, n11⟩ := laid eH c10 h1
              have B11 := (B8.chg0 k810).chg0 k11
              walk_at "rd"
              have hql : qs.length ≤ 4 * (dueN os cs i).length := by
                rw [B8.len, List.length_append, List.length_map]
                have h1 := exB_len (l := l0) hi ((dueN os cs i).take j)
                have h2 := filN_len i t l0
                have h3 := (chs_pos i hi).2
                rw [List.length_take] at h1
                have h4 := (List.getElem?_eq_some_iff.mp hbj).1
                omega
              refine ⟨lg, one, _, _, rfl, rfl, B11.l, e11, ?_, fun l2 h2 => ?_⟩
              · rw [List.length_map, sizeLine_eq]
                show qs.length + 1 ≤ _
                have : (4 : Nat) ^ 9 = 262144 := by decide
                omega
              generalize eH : upd H11 l2 _ = H12
              obtain ⟨e12, k12, c12, n12⟩ := laid eH c11 h2
              walk_at "rd"
              refine ⟨l2, qs ++ [bn], _, _, rfl, c12, ?_, c3.fresh (c4.fresh (k5.fresh (c7.fresh n12)))⟩
              rw [filN_yes hct hin, List.map_append, ← List.append_assoc]
              exact B11.app k12 (by rw [e12, List.map_append]; rfl) (k12.at (k11.at e10))
            · walk_at "rd"
              exact ⟨lg, qs, _, _, rfl, c8, by rw [filN_no hct hin]; exact B8, nlg⟩
          · rintro σ H8 ⟨lg, qs, v6, v7, rfl, c8, B8, nlg⟩
            rw [List.length_map, filN_full] at B8
            refine ⟨lg, qs, _, _, _, rfl, c7.trans c8, ?_, nlg⟩
            rw [take_snoc hbj, exB_snoc]
            exact B8
        · rintro σ H6 ⟨lg, qs, v5, v6, v7, rfl, c6, B6, nlg⟩
          rw [List.length_map, B4.len, List.take_length] at B6
          walk_at "rd"
          exact ⟨lg, qs, _, _, _, _, _, rfl, c5.trans c6, by rw [dueN_some hlk]; exact B6, nlg⟩
    · rintro σ H4 ⟨f, ps, v3, v4, v5, v6, v7, rfl, c4, B4, nf⟩
      walk_at "rd"
      exact q f ps H4 nf (c3.trans c4) B4
end
end Sm
set_option maxHeartbeats 4000000
namespace Sm
open PySem PySem.Spec PyProof.Rows L2
local macro_rules | `(tactic| walk_at "rd1") => `(tactic| first
  | (with_reducible refine r_seq ?_) | (with_reducible refine r_asg ?_) | (with_reducible refine r_gname ?_)
  | ((with_reducible refine' r_var ?e ?_); (case e => rfl)) | (with_reducible refine r_c ?_)
  | (with_reducible refine r_ret ?_) | (with_reducible refine r_retN ?_) | (with_reducible refine r_drop ?_) | (with_reducible refine r_next ?_) | (with_reducible refine r_ifs ?_)
  | (with_reducible refine r_op ?_) | (with_reducible refine r_rI0 ?_)
  | (with_reducible refine r_test ?_) | (with_reducible refine r_tb ?_) | (with_reducible refine Exists.intro _ (And.intro (Eq.refl (V.bl _)) ?_))
  | (with_reducible refine r_nil ?_) | (with_reducible refine r_cons ?_) | (with_reducible refine r_cb ?_) | (with_reducible refine r_call ?_)
  | (with_reducible refine r_callS ?_) | (with_reducible refine r_meth ?_) | (with_reducible refine r_ownIx ?_) | (with_reducible refine r_ownSet ?_)
  | (with_reducible refine r_not ?_) | (with_reducible refine r_and ?_) | (with_reducible refine r_or ?_)
  | (with_reducible refine r_lst ?_) | (with_reducible refine r_tup ?_) | (with_reducible refine Or.inl (Exists.intro _ (And.intro (Eq.refl [V.int _]) ?_)))
  | ((with_reducible refine r_rI ?c ?_); (case c => first | (show (0 : Int) < _; decide) | exact ⟨by decide, by decide⟩))
  | (with_reducible refine r_for ?_) | (with_reducible refine r_rng1 ?_) | (with_reducible refine r_rng2 ?_) | (with_reducible refine r_ilist ?_) | (with_reducible refine r_itup ?_)
  | (with_reducible refine r_m0 ?_) | (with_reducible refine r_m1 ?_) | (with_reducible refine r_isStr ?_) | (with_reducible refine r_newS ?_) | (with_reducible refine r_fld ?_)
  | (with_reducible refine r_bm ?_) | (with_reducible refine r_bm0 ?_) | (with_reducible refine r_sl ?_) | (with_reducible refine r_nopart ?_) | (with_reducible refine r_part ?_)
  | (with_reducible refine r_pcons ?_) | (with_reducible refine r_pnil ?_) | (with_reducible refine r_dget2 ?_) | (with_reducible refine r_dget1 ?_)
  | (with_reducible refine r_lc ?_) | (with_reducible refine r_yes ?_)
  | (with_reducible refine r_un ?_) | (with_reducible refine r_rU ?_)
  | (with_reducible refine r_disp ?_) | (with_reducible refine r_andV ?_) | (with_reducible refine r_orV ?_) | (with_reducible refine r_notV ?_) | (with_reducible refine r_dnewK ?_)
  | (with_reducible refine r_dget ?_) | (with_reducible refine r_dput ?_)
  | ((with_reducible refine r_rEq ?e ?_); (case e => rfl)) | ((with_reducible refine r_rNe ?e ?_); (case e => rfl)))
local macro_rules | `(tactic| walk_at "rd") => `(tactic| repeat (walk_at "rd1"))
section
variable {P : Program} {w : World} {K : PySem.W.Frag} {mg : Str → Option Value} {base : Heap}
theorem r_skept {K : PySem.W.Frag} {im ik : Nat} {D : Ends} {σ : L2.St} {H : Hp} (h : ∃ G : Gm, σ[im]? = some (some (.ref G.m)) ∧ G.At K H ∧ G.Ok ∧ 0 < G.n ∧ G.n ≤ 24 ∧ ∀ l H' ps, KeptAt K G H l G.n H' ps → D.nx (σ.set ik (some (.ref l))) H') : sKept K im ik D σ H := h
theorem eqv_dcs {K : PySem.W.Frag} {H : Hp} {p q : Addr} {b : List Str} (hb : b.length = 10) (ep : H p = some (.dK (dcs b))) (eq : H q = some (.dK (dcs b))) : EqV K H 2 (.ref p) (.ref q) := by
  refine .inr (.inr (.inr ⟨p, q, dcs b, dcs b, rfl, rfl, ep, eq, rfl, fun x hx => ?_⟩))
  obtain ⟨j, hj, ej⟩ := List.getElem_of_mem hx
  refine ⟨x.2, valV_of_nd (dcs_nd hb) (i := j) (by rw [List.getElem?_eq_getElem hj, ej]), .inl ⟨rfl, ?_⟩⟩
  unfold dcs at hx
  obtain ⟨y, _, rfl⟩ := List.mem_map.mp hx
  rfl
theorem dcs_all {b : List Str} (hb : b.length = 10) : ∀ p ∈ dcs b, valV (dcs b) p.1 = some p.2 ∧ flatB p.2 = true := fun x hx => by
  obtain ⟨j, hj, ej⟩ := List.getElem_of_mem hx
  refine ⟨valV_of_nd (dcs_nd hb) (i := j) (by rw [List.getElem?_eq_getElem hj, ej]), ?_⟩
  unfold dcs at hx
  obtain ⟨y, _, rfl⟩ := List.mem_map.mp hx
  rfl
theorem paired_of {F : V → V → Prop} : ∀ {xs ys : List V}, xs.length = ys.length → (∀ (j : Nat) (x y : V), xs[j]? = some x → ys[j]? = some y → F x y) → Paired F xs ys
  | [], [], _, _ => .nil
  | x :: xs, y :: ys, hl, h => .cons (h 0 x y rfl rfl) (paired_of (by simpa using hl) fun j x' y' h1 h2 => h (j + 1) x' y' (by simpa using h1) (by simpa using h2))
def sp_walked (K : PySem.W.Frag) : Sp := fun vs H Q _ => ∃ (G : Gm) (du : Addr) (bs : List (List Str)) (ps : List Addr), vs = [.ref G.m, .ref du] ∧ G.At K H ∧ G.Ok ∧ 0 < G.n ∧ G.n ≤ 24 ∧ BksAt H du bs ps ∧ bs.length = G.n ∧ (∀ (j : Nat) (b : List Str), bs[j]? = some b → b = (numB G.os (G.cs, (j : Int))).1) ∧ ∀ H', Chg [] H H' → Q (.bl true) H'
theorem ok_walked (T : Tx w K mg) : ∃ fd, FnOk P w K mg base CX0 8 (He.fAd K ("_law_walked", none)) fd ["menu", "due"] (sp_walked K) ∧ Binds K fd ["menu", "due"] [] := by
  obtain ⟨fd, F⟩ := T.F__law_walked
  obtain ⟨fdR, G__law_read_book, b__law_read_book⟩ := ok_rb (P := P) (w := w) (base := base) T
  refine ⟨fd, F.ok sc__law_walked (fun vs H Q E h => ?_) (fun cdv A outer s H vs Q E hr h => ?_), F.binds fun _ _ _ _ _ _ us hl => match us, hl with | [_, _], _ => rfl⟩
  · obtain ⟨G, du, bs, ps, rfl, _⟩ := h
    rfl
  · obtain ⟨G, du, bs, ps, rfl, M, hok, hn0, hn1, BD, hbl, hbs, q⟩ := h
    have hu := hu_of hr
    have okb : ∀ j : Nat, OkB (numB G.os (G.cs, (j : Int))).1 := fun j => numB_ok hok.os.ch hok.os.ne hok.cs
    refine ⟨_, (pss_cons (ps_for PassesOwn.never rfl (pi_range1 rfl T.n_range (pa_cons pe_int pa_nil)) (pg_name (i := 2) sc__law_walked.nd rfl (Or.inl rfl))
        (pss_cons (ps_kept (im := 0) (ik := 3) (iw := 4) T rfl sc__law_walked.nd rfl rfl rfl rfl (sw_true rfl rfl rfl (by decide +kernel)) (fun G => pbk (G := G) T (hr.mono (by decide)) rfl) (blkOk_by (own := [("one", 4)]) (N := ["menu", "due", "turn", "kept", "one", "k", "two"]) (sc := defScope s__law_walked) (by decide +kernel)) (fun _ _ _ _ _ => pg_name (i := 4) sc__law_walked.nd rfl (Or.inl rfl)) (fun _ _ _ _ _ => pv 4) (hr.mono (by decide)))
      (pss_one (ps_if (pt_cmpR (op_neLV hr.units) (pe_lc (own := [("one", 4)]) (g := gName 4) rfl sc__law_walked.nd (pi_list (pv 3)) (blkOk_by (own := [("one", 4)]) (N := ["menu", "due", "turn", "kept", "one", "k", "two"]) (sc := defScope s__law_walked) (by decide +kernel)) (fun _ _ _ _ _ => pg_name (i := 4) sc__law_walked.nd rfl (Or.inl rfl)) (fun _ _ _ _ _ => pts_nil) (fun _ _ _ _ _ => (pe_call G__law_read_book (hr.mono (by decide)) (by rfl) T.g__law_read_book T.k__law_read_book b__law_read_book .nil pass0 (pa_cons (pv 4) pa_nil)))) (pv 1) (nomark _))
        (pss_one (ps_ret pe_bl))
        pss_nil))))
      (pss_cons (ps_set (i := 5) sc__law_walked.nd rfl (Or.inl rfl) pe_int)
      (pss_cons (ps_zipB (im := 0) T rfl rfl rfl (by rfl) T.n_zip (fun G => pbk (G := G) T (hr.mono (by decide)) rfl) (fun G => pbk (G := G) T (hr.mono (by decide)) rfl) (pg_tup rfl (pgs_cons (pg_name (i := 4) sc__law_walked.nd rfl (Or.inl rfl)) (pgs_cons (pg_name (i := 6) sc__law_walked.nd rfl (Or.inl rfl)) pgs_nil)))
   (pss_cons (ps_if (PW.pt (pw_or (pt_cmpR op_ge (pv 5) (pe_callB call_len_seq (by rfl) T.n_len PySem.boot_len (pa_cons (pv 1) pa_nil)) (nomark _)) (pw_or (pt_cmpR (op_ne_dictA hr.units0) (pe_call G__law_read_book (hr.mono (by decide)) (by rfl) T.g__law_read_book T.k__law_read_book b__law_read_book .nil pass0 (pa_cons (pv 4) pa_nil)) (pe_ix ix_list (pv 1) (pv 5) (fun _ _ => rfl)) (nomark _)) (pw_or1 (pt_cmpR (op_ne_dictA hr.units0) (pe_call G__law_read_book (hr.mono (by decide)) (by rfl) T.g__law_read_book T.k__law_read_book b__law_read_book .nil pass0 (pa_cons (pv 6) pa_nil)) (pe_ix ix_list (pv 1) (pv 5) (fun _ _ => rfl)) (nomark _))))))
        (pss_one (ps_ret pe_bl))
        pss_nil)
      (pss_one (ps_set (i := 5) sc__law_walked.nd rfl (Or.inl rfl) (pe_op op_add (pv 5) pe_int)))) (hr.mono (by decide)))
      (pss_one (ps_ret (pe_cmpR op_eq (pv 5) (pe_callB call_len_seq (by rfl) T.n_len PySem.boot_len (pa_cons (pv 1) pa_nil)) (nomark _))))))), ?_⟩
    walk_at "rd"
    refine ⟨_, rfl, by decide, by decide, ?_⟩
    refine for_range (n := 2) (fun i σ H' => ∃ (v2 v3 v4 v5 v6 : Option V), σ = [some (.ref G.m), some (.ref du), v2, v3, v4, v5, v6] ∧ Chg [] H H') ⟨none, none, none, none, none, rfl, Chg.refl⟩ ?_ ?_
    · rintro i σ H1 hi ⟨v2, v3, v4, v5, v6, rfl, c1⟩
      walk_at "rd"
      refine r_skept ?_
      refine ⟨G, rfl, M.chg0 c1, hok, hn0, hn1, fun l H2 kps k => ?_⟩
      have c2 : Chg [] H H2 := c1.trans k.c
      walk_at "rd"
      refine ⟨l, rfl, ⟨_, sqL k.d⟩, fun D hD => ?_⟩
      have hlD : l ≠ D := ne_of_none k.d hD
      refine lc_list (K := K) (a := l) (xs := kps.map V.ref) (fun j H' => ∃ qs : List Addr, Chg [D] H2 H' ∧ H' D = some (.lst (qs.map V.ref)) ∧ qs.length = j ∧ ∀ (t : Nat) (p : Addr), qs[t]? = some p → H' p = some (.dK (dcs (numB G.os (G.cs, (t : Int))).1))) ⟨[], Chg.new hD, upd_same, rfl, fun t p e => by simp at e⟩ (fun j H' _ ⟨_, c, _⟩ => sqL (c.at1 k.d hlD)) ?_ ?_
      · rintro j x H3 hx ⟨qs, c3, e3, hl3, hq3⟩
        obtain ⟨pj, hpj, rfl⟩ : ∃ pj, kps[j]? = some pj ∧ x = .ref pj := by
          rw [List.getElem?_map] at hx
          obtain ⟨x', ex, rfl⟩ := Option.map_eq_some_iff.mp hx
          exact ⟨x', ex, rfl⟩
        obtain ⟨ej, Bj⟩ := k.at_ j pj hpj
        have B3 := Bj.new c3 hD
        have hjn : j < G.n := by
          rw [← k.len]
          exact (List.getElem?_eq_some_iff.mp hpj).1
        walk_at "rd"
        refine ⟨rfl, ?_⟩
        walk_at "rd"
        refine iteT ?_
        walk_at "rd"
        refine ⟨pj, ej, _, rfl, B3, okb j, fun p H4 hp k4 e4 => ?_⟩
        have e34 := k4.at e3
        refine ⟨_, e34, by rw [List.length_map, hl3]; exact small1000 (by omega), qs ++ [p], ?_, ?_, ?_, fun t p' ht => ?_⟩
        · exact (c3.trans (Chg.up k4)).trans (Chg.set e34 (List.mem_singleton.mpr rfl))
        · rw [upd_same, List.map_append]; rfl
        · rw [List.length_append, hl3]; rfl
        · by_cases z : t < qs.length
          · rw [List.getElem?_append_left z] at ht
            have e := k4.at (hq3 t p' ht)
            rw [upd_ne (ne_of e e34 (by intro z; cases z))]
            exact e
          · rw [List.getElem?_append_right (by omega)] at ht
            have : t = j := by
              have h1 := (List.getElem?_eq_some_iff.mp ht).1
              simp only [List.length_singleton] at h1
              omega
            subst this
            rw [hl3, Nat.sub_self] at ht
            cases ht
            rw [upd_ne (ne_of e4 e34 (by intro z; cases z))]
            exact e4
      · rintro H3 ⟨qs, c3, e3, hl3, hq3⟩
        rw [List.length_map, k.len] at hl3
        walk_at "rd"
        have c3' : Chg [] H H3 := c2.then c3 (c2.fresh hD)
        have BD3 := BD.chg0 c3'
        refine ⟨2, D, du, _, _, by decide, rfl, rfl, sqL e3, sqL BD3.l, paired_of (by rw [List.length_map, List.length_map, hl3, BD.len, hbl]) fun j x y hx hy => ?_, ?_⟩
        · rw [List.getElem?_map] at hx hy
          obtain ⟨p, hp, rfl⟩ := Option.map_eq_some_iff.mp hx
          obtain ⟨p2, hp2, rfl⟩ := Option.map_eq_some_iff.mp hy
          have hj := (List.getElem?_eq_some_iff.mp hp2).1
          obtain ⟨b, hb⟩ : ∃ b, bs[j]? = some b := ⟨bs[j]'(by rw [← BD.len]; exact hj), List.getElem?_eq_getElem _⟩
          have eb := hbs j b hb
          exact eqv_dcs (okb j).len (hq3 j p hp) (by rw [← eb]; exact BD3.at_ j p2 b hp2 hb)
        · walk_at "rd"
          refine iteF ?_
          walk_at "rd"
          exact ⟨_, _, _, _, _, rfl, c3'⟩
    · rintro σ H1 ⟨v2, v3, v4, v5, v6, rfl, c1⟩
      walk_at "rd"
      refine ⟨G, fun i σ H' => ∃ (v2 v3 v4 v6 : Option V), σ = [some (.ref G.m), some (.ref du), v2, v3, v4, some (.int (i : Int)), v6] ∧ Chg [] H H', rfl, hok, hn0, hn1, ⟨_, _, _, _, rfl, c1⟩, fun i σ H' ⟨_, _, _, _, _, c⟩ => M.chg0 c, ?_, ?_⟩
      · rintro i σ H2 p e p2 e2 Ta H3 hi ⟨v2, v3, v4, v6, rfl, c2⟩ c3 B3 B4 eT
        have c23 := c2.trans c3
        have BD3 := BD.chg0 c23
        obtain ⟨x, hx⟩ : ∃ x, ps[i]? = some x := ⟨ps[i]'(by rw [BD.len, hbl]; exact hi), List.getElem?_eq_getElem _⟩
        obtain ⟨b, hb⟩ : ∃ b, bs[i]? = some b := ⟨bs[i]'(by rw [hbl]; exact hi), List.getElem?_eq_getElem _⟩
        have eb := hbs i b hb
        have ex := BD3.at_ i x b hx hb
        refine ⟨Ta, [.ref p, .ref p2], rfl, sqT eT, rfl, ?_⟩
        refine ⟨_, _, rfl, ?_⟩
        walk_at "rd"
        refine ⟨_, _, rfl, ?_⟩
        walk_at "rd"
        refine ⟨rfl, ?_⟩
        walk_at "rd"
        refine ⟨du, _, rfl, .inl (sqL BD3.l), ?_⟩
        walk_at "rd"
        rw [List.length_map, BD.len, hbl]
        refine r_ite (fun z => absurd z (by omega)) (fun _ => ?_)
        walk_at "rd"
        refine ⟨p, e, _, rfl, B3, okb i, fun y1 H4 hy1 k4 e4 => ?_⟩
        have BD4 := BD3.chg0 k4
        walk_at "rd"
        refine r_ixL (sqL BD4.l) (atI_ofNat (by rw [List.getElem?_map, hx]; rfl)) ?_
        refine ⟨y1, x, _, _, rfl, rfl, e4, BD4.at_ i x b hx hb, by rw [eb], fun w hw => by rw [eb]; exact dcs_all (okb i).len w hw, ?_⟩
        walk_at "rd"
        refine iteF ?_
        walk_at "rd"
        refine ⟨p2, e2, _, rfl, B4.chg k4 nm0 nm0, okb i, fun y2 H5 hy2 k5 e5 => ?_⟩
        have BD5 := BD4.chg0 k5
        walk_at "rd"
        refine r_ixL (sqL BD5.l) (atI_ofNat (by rw [List.getElem?_map, hx]; rfl)) ?_
        refine ⟨y2, x, _, _, rfl, rfl, e5, BD5.at_ i x b hx hb, by rw [eb], fun w hw => by rw [eb]; exact dcs_all (okb i).len w hw, ?_⟩
        walk_at "rd"
        refine iteF ?_
        walk_at "rd"
        exact ⟨_, _, _, _, by
          have : ((i + 1 : Nat) : Int) = (i : Int) + 1 := by push_cast; rfl
          rw [this]; rfl, (c23.trans k4).trans k5⟩
      · rintro σ H2 ⟨v2, v3, v4, v6, rfl, c2⟩
        have BD2 := BD.chg0 c2
        walk_at "rd"
        refine ⟨du, _, rfl, .inl (sqL BD2.l), ?_⟩
        walk_at "rd"
        rw [List.length_map, BD.len, hbl, decide_eq_true rfl]
        exact q H2 c2
end
end Sm
set_option maxHeartbeats 4000000
namespace Sm
open PySem PySem.Spec PyProof.Rows L2
local macro_rules | `(tactic| walk_at "rd1") => `(tactic| first
  | (with_reducible refine r_seq ?_) | (with_reducible refine r_asg ?_) | (with_reducible refine r_gname ?_)
  | ((with_reducible refine' r_var ?e ?_); (case e => rfl)) | (with_reducible refine r_c ?_)
  | (with_reducible refine r_ret ?_) | (with_reducible refine r_retN ?_) | (with_reducible refine r_drop ?_) | (with_reducible refine r_next ?_) | (with_reducible refine r_ifs ?_)
  | (with_reducible refine r_op ?_) | (with_reducible refine r_rI0 ?_)
  | (with_reducible refine r_test ?_) | (with_reducible refine r_tb ?_) | (with_reducible refine Exists.intro _ (And.intro (Eq.refl (V.bl _)) ?_))
  | (with_reducible refine r_nil ?_) | (with_reducible refine r_cons ?_) | (with_reducible refine r_cb ?_) | (with_reducible refine r_call ?_)
  | (with_reducible refine r_callS ?_) | (with_reducible refine r_meth ?_) | (with_reducible refine r_ownIx ?_) | (with_reducible refine r_ownSet ?_)
  | (with_reducible refine r_not ?_) | (with_reducible refine r_and ?_) | (with_reducible refine r_or ?_)
  | (with_reducible refine r_lst ?_) | (with_reducible refine r_tup ?_) | (with_reducible refine Or.inl (Exists.intro _ (And.intro (Eq.refl [V.int _]) ?_)))
  | ((with_reducible refine r_rI ?c ?_); (case c => first | (show (0 : Int) < _; decide) | exact ⟨by decide, by decide⟩))
  | (with_reducible refine r_for ?_) | (with_reducible refine r_rng1 ?_) | (with_reducible refine r_rng2 ?_) | (with_reducible refine r_ilist ?_) | (with_reducible refine r_itup ?_)
  | (with_reducible refine r_m0 ?_) | (with_reducible refine r_m1 ?_) | (with_reducible refine r_isStr ?_) | (with_reducible refine r_newS ?_) | (with_reducible refine r_fld ?_)
  | (with_reducible refine r_bm ?_) | (with_reducible refine r_bm0 ?_) | (with_reducible refine r_sl ?_) | (with_reducible refine r_nopart ?_) | (with_reducible refine r_part ?_)
  | (with_reducible refine r_pcons ?_) | (with_reducible refine r_pnil ?_) | (with_reducible refine r_dget2 ?_) | (with_reducible refine r_dget1 ?_)
  | (with_reducible refine r_lc ?_) | (with_reducible refine r_yes ?_)
  | (with_reducible refine r_un ?_) | (with_reducible refine r_rU ?_)
  | (with_reducible refine r_disp ?_) | (with_reducible refine r_andV ?_) | (with_reducible refine r_orV ?_) | (with_reducible refine r_notV ?_) | (with_reducible refine r_dnewK ?_)
  | (with_reducible refine r_dget ?_) | (with_reducible refine r_dput ?_)
  | ((with_reducible refine r_rEq ?e ?_); (case e => rfl)) | ((with_reducible refine r_rNe ?e ?_); (case e => rfl)))
local macro_rules | `(tactic| walk_at "rd") => `(tactic| repeat (walk_at "rd1"))
section
variable {P : Program} {w : World} {K : PySem.W.Frag} {mg : Str → Option Value} {base : Heap}
theorem r_cut {t u : TS} {D : Ends} {σ : L2.St} {H : Hp} (Mid : L2.St → Hp → Prop) (h : t { D with nx := Mid } σ H) (h2 : ∀ σ' H', Mid σ' H' → u D σ' H') : C8.tCut t u D σ H := ⟨Mid, h, h2⟩
theorem lk_app2 {a b : GO} {k : Str} (h1 : lk a k = none) (h2 : lk b k = none) : lk (a ++ b) k = none := by
  rw [lk_none] at *
  rw [List.map_append, List.mem_append]
  exact fun z => z.elim h1 h2
def stopG (w : Str) : GO := [(w, ["stop"])]
theorem gD_ks {os : GO} {rs : List Addr} (h : rs.length = os.length) : ((gD os rs).map fun kv => kV kv.1) = os.map fun q => V.str q.1 := by
  unfold gD
  rw [List.map_map]
  show (os.zip rs).map (fun p => V.str p.1.1) = _
  have e : (os.zip rs).map Prod.fst = os := List.map_fst_zip (by rw [h]; exact Nat.le_refl _)
  conv => rhs; rw [← e]
  rw [List.map_map]; rfl
def sp_spoilt (K : PySem.W.Frag) : Sp := fun vs H Q _ => ∃ (o dl : Addr) (ops : Ops) (rs : List Addr) (ds : List Int), vs = [.ref o, .ref dl] ∧ GAt H o (enc ops) rs ∧ OkG ops ∧ ops.length ≤ 10 ∧ H dl = some (.lst (ds.map V.int)) ∧ 5 ≤ ds.length ∧
  ∀ p (os' : GO) rs' H', H p = none → Chg [] H H' → GAt H' p os' rs' → os'.length ≤ 100 → (∀ q ∈ os', q.2.length ≤ 100) → ¬ Good os' → Q (.ref p) H'
theorem ok_spoilt (T : Tx w K mg) : ∃ fd, FnOk P w K mg base CX0 2 (He.fAd K ("_law_spoilt", none)) fd ["options", "digits"] (sp_spoilt K) ∧ Binds K fd ["options", "digits"] [] := by
  obtain ⟨fd, F⟩ := T.F__law_spoilt
  obtain ⟨fdC, G__law_choices, b__law_choices⟩ := ok_choices (P := P) (w := w) (base := base) T
  refine ⟨fd, F.ok sc__law_spoilt (fun vs H Q E h => ?_) (fun cdv A outer s H vs Q E hr h => ?_), F.binds fun _ _ _ _ _ _ us hl => match us, hl with | [_, _], _ => rfl⟩
  · obtain ⟨o, dl, ops, rs, ds, rfl, _⟩ := h
    rfl
  · obtain ⟨o, dl, ops, rs, ds, rfl, M, hok, hlen, edl, hd5, q⟩ := h
    have hu := hu_of hr
    have nd := hok.toOkOs.ekeys
    have hle : (enc ops).length ≤ 10 := by unfold enc; rw [List.length_map]; exact hlen
    have hl4 : ∀ q ∈ enc ops, q.2.length ≤ 4 := fun q hq => by
      unfold enc at hq
      obtain ⟨x, hx, rfl⟩ := List.mem_map.mp hq
      exact hok.len4 x hx
    generalize hos : enc ops = os at *
    obtain ⟨d0, hd0⟩ : ∃ x, ds[0]? = some x := ⟨ds[0]'(by omega), List.getElem?_eq_getElem _⟩
    obtain ⟨d1, hd1⟩ : ∃ x, ds[1]? = some x := ⟨ds[1]'(by omega), List.getElem?_eq_getElem _⟩
    obtain ⟨d2, hd2⟩ : ∃ x, ds[2]? = some x := ⟨ds[2]'(by omega), List.getElem?_eq_getElem _⟩
    obtain ⟨d3, hd3⟩ : ∃ x, ds[3]? = some x := ⟨ds[3]'(by omega), List.getElem?_eq_getElem _⟩
    obtain ⟨d4, hd4⟩ : ∃ x, ds[4]? = some x := ⟨ds[4]'(by omega), List.getElem?_eq_getElem _⟩
    refine ⟨_, (pss_cons (ps_set (i := 2) sc__law_spoilt.nd rfl (Or.inl rfl) (pe_ix ix_list (pe_lst (pa_cons pe_str (pa_cons pe_str (pa_cons pe_str (pa_cons pe_str (pa_cons pe_str (pa_cons pe_str pa_nil))))))) (pe_op op_mod (pe_callTy call_int1 (by rfl) T.n_int (by decide +kernel) (pa_cons (pe_ix ix_list (pv 1) pe_int (fun _ _ => rfl)) pa_nil)) pe_int) (fun _ _ => rfl)))
      (pss_cons (ps_set (i := 3) sc__law_spoilt.nd rfl (Or.inl rfl) (pe_op op_mod (pe_callTy call_int1 (by rfl) T.n_int (by decide +kernel) (pa_cons (pe_ix ix_list (pv 1) pe_int (fun _ _ => rfl)) pa_nil)) pe_int))
      (pss_cons (ps_set (i := 4) sc__law_spoilt.nd rfl (Or.inl rfl) pe_dnewK)
      (C8.pss_cut (ps_if (PW.pt (pw_or (pt_cmpR (op_eqE hr.units0) (pv 0) pe_dnewK (nomark _)) (pw_or1 (pt_cmpR op_eq (pv 3) pe_int (nomark _)))))
        (pss_one (ps_dput hu (pv 4) (pv 2) (pe_lst (pa_cons pe_str pa_nil)) rfl))
        pss_nil)
      (pss_cons (ps_lock (ps_for PassesOwn.never rfl (pi_keys (pv 0)) (pg_name (i := 5) sc__law_spoilt.nd rfl (Or.inr rfl))
        (pss_one (ps_dput hu (pv 4) (pv 5) (pe_callTy call_list_of (by rfl) T.n_list (by decide +kernel) (pa_cons (pe_dget hu (pv 0) (pv 5) (fun _ _ => rfl)) pa_nil)) rfl))))
      (pss_cons (ps_if (PW.pt (pw_or (pt_cmpR (op_eqE hr.units0) (pv 0) pe_dnewK (nomark _)) (pw_or1 (pt_cmpR op_lt (pv 3) pe_int (nomark _)))))
        (pss_cons (ps_dput hu (pv 4) (pv 2) (pe_lst (pa_cons pe_str pa_nil)) rfl)
      (pss_one (ps_ret (pv 4))))
        pss_nil)
      (pss_cons (ps_set (i := 5) sc__law_spoilt.nd rfl (Or.inr rfl) (pe_ix ix_list (pe_callTy (call_listD rfl) (by rfl) T.n_list (by decide +kernel) (pa_cons (pv 0) pa_nil)) (pe_op op_mod (pe_callTy call_int1 (by rfl) T.n_int (by decide +kernel) (pa_cons (pe_ix ix_list (pv 1) pe_int (fun _ _ => rfl)) pa_nil)) (pe_callB call_lenD (by rfl) T.n_len PySem.boot_len (pa_cons (pv 0) pa_nil))) (fun _ _ => rfl)))
      (pss_cons (ps_set (i := 6) sc__law_spoilt.nd rfl (Or.inl rfl) (pe_callTy call_list_of (by rfl) T.n_list (by decide +kernel) (pa_cons (pe_dget hu (pv 0) (pv 5) (fun _ _ => rfl)) pa_nil)))
      (pss_cons (ps_set (i := 7) sc__law_spoilt.nd rfl (Or.inl rfl) (pe_op op_mod (pe_callTy call_int1 (by rfl) T.n_int (by decide +kernel) (pa_cons (pe_ix ix_list (pv 1) pe_int (fun _ _ => rfl)) pa_nil)) (pe_op op_add (pe_callB call_len_seq (by rfl) T.n_len PySem.boot_len (pa_cons (pv 6) pa_nil)) pe_int)))
      (pss_cons (ps_set (i := 8) sc__law_spoilt.nd rfl (Or.inl rfl) (pe_lst (pa_cons pe_str (pa_cons pe_str (pa_cons pe_str (pa_cons pe_str (pa_cons pe_str (pa_cons pe_str (pa_cons pe_str (pa_cons pe_str (pa_cons pe_str (pa_cons pe_str pa_nil))))))))))))
      (pss_cons (ps_setLc (i := 9) (own := [("one", 10)]) (g := gName 10) rfl sc__law_spoilt.nd rfl rfl (sw_true rfl rfl rfl (by decide +kernel)) (pi_list (pv 8)) (blkOk_by (own := [("one", 10)]) (N := ["options", "digits", "word", "way", "bent", "name", "row", "place", "words", "wrong", "one"]) (sc := defScope s__law_spoilt) (by decide +kernel)) (fun _ _ _ _ _ => pg_name (i := 10) sc__law_spoilt.nd rfl (Or.inl rfl)) (fun _ _ _ _ _ => (pts_one (pt_cmpR (op_notIn_seqK (K := K) rfl) (pv 10) (pe_call G__law_choices (hr.mono (by decide)) (by rfl) T.g__law_choices T.k__law_choices b__law_choices .nil pass0 (pa_cons (pv 5) pa_nil)) rfl))) (fun _ _ _ _ _ => (pv 10)))
      (C8.pss_cut (ps_if (pt_cmpR op_eq (pv 3) pe_int (nomark _))
        (pss_one (ps_dput hu (pv 4) (pv 5) (pe_lst pa_nil) rfl))
        (pss_one (ps_if (pt_cmpR op_eq (pv 3) pe_int (nomark _))
        (pss_one (ps_dput hu (pv 4) (pv 5) (pe_op op_cat (pe_op op_cat (pe_slice sl_list (pv 6) po_none (po_some (pv 7))) (pe_lst (pa_cons (pe_ix ix_list (pv 9) (pe_op op_mod (pe_callTy call_int1 (by rfl) T.n_int (by decide +kernel) (pa_cons (pe_ix ix_list (pv 1) pe_int (fun _ _ => rfl)) pa_nil)) (pe_callB call_len_seq (by rfl) T.n_len PySem.boot_len (pa_cons (pv 9) pa_nil))) (fun _ _ => rfl)) pa_nil))) (pe_slice sl_list (pv 6) (po_some (pv 7)) po_none)) rfl))
        (pss_one (ps_dput hu (pv 4) (pv 5) (pe_op op_cat (pe_op op_cat (pe_slice sl_list (pv 6) po_none (po_some (pv 7))) (pe_lst (pa_cons (pe_ix ix_list (pv 6) (pe_op op_mod (pe_callTy call_int1 (by rfl) T.n_int (by decide +kernel) (pa_cons (pe_ix ix_list (pv 1) pe_int (fun _ _ => rfl)) pa_nil)) (pe_callB call_len_seq (by rfl) T.n_len PySem.boot_len (pa_cons (pv 6) pa_nil))) (fun _ _ => rfl)) pa_nil))) (pe_slice sl_list (pv 6) (po_some (pv 7)) po_none)) rfl)))))
      (pss_one (ps_ret (pv 4))))))))))))))), ?_⟩
    walk_at "rd"
    refine ⟨by decide, fun wl hwl => ?_⟩
    generalize eH : upd H wl _ = H1
    obtain ⟨e1, k1, c1, n1⟩ := laid (S := []) eH Chg.refl hwl
    replace e1 : H1 wl = some (.lst (keyW.map V.str)) := e1
    walk_at "rd"
    refine r_ixL (sqL (c1.at edl)) (atI_ofNat (n := 1) (ints_at hd1)) ?_
    walk_at "rd"
    obtain ⟨wn, wd, ewn, hwn, hwd⟩ := mod_at (ys := keyW) (m := 6) d1 rfl (by decide)
    rw [ewn]
    refine r_ixL (sqL e1) (atI_ofNat (strs_at hwd)) ?_
    have hbadw := keyW_bad wd (List.mem_of_getElem? hwd)
    walk_at "rd"
    refine r_ixL (sqL (c1.at edl)) (atI_ofNat (n := 0) (ints_at hd0)) ?_
    walk_at "rd"
    intro p hp1
    generalize eH : upd H1 p _ = H2
    obtain ⟨e2, k2, c2, hp⟩ := laid eH c1 hp1
    generalize hway : d0 % 5 = way
    refine r_cut (fun σ' H' => ∃ (pre : GO) (rs0 : List Addr), σ' = [some (.ref o), some (.ref dl), some (.str wd), some (.int way), some (.ref p), none, none, none, none, none, none] ∧ Chg [] H H' ∧ GAt H' p pre rs0 ∧ (pre = [] ∨ pre = stopG wd) ∧ (os ≠ [] → way ≠ 0 → pre = [])) ?_ ?_
    · have fillP : ∀ H3, Chg [] H2 H3 → ∀ l, H3 l = none → ∀ H4 H5, upd H3 l (.lst [V.str "stop"]) = H4 → upd H4 p (.dK [(Sum.inr wd, .ref l)]) = H5 → Chg [] H H5 ∧ GAt H5 p (stopG wd) [l] := fun H3 c3 l hl H4 H5 eH4 eH5 => by
        obtain ⟨e4, k4, c4, n4⟩ := laid eH4 (c2.trans c3) hl
        have ep4 := k4.at (c3.at e2)
        obtain ⟨e5, k5⟩ := put eH5 ep4
        have nlp : l ≠ p := (ne_of_none (c3.at e2) hl).symm
        exact ⟨c4.then k5 hp, rfl, e5, fun j x r h1 h2 => by
          cases j with
          | zero => cases h1; cases h2; exact k5.at1 e4 nlp
          | succ j => exact absurd (show (none : Option (Str × List Str)) = some x from h1) (by simp)⟩
      walk_at "rd"
      intro em hem
      generalize eH : upd H2 em _ = H3
      obtain ⟨e3, k3, c3, n3⟩ := laid eH (c2 : Chg [] H H2) hem
      have fillQ : ∀ {D : Ends} {v : V}, (∀ l H5, Chg [] H H5 → GAt H5 p (stopG wd) [l] → D.nx [some (.ref o), some (.ref dl), some (.str wd), some (.int way), some (.ref p), none, none, none, none, none, none] H5) →
          sDPut (tVar 4) (tVar 2) (tLst (tCons (tC (V.str "stop")) tNil)) D [some (.ref o), some (.ref dl), some (.str wd), some (.int way), some (.ref p), none, none, none, none, none, none] H3 := fun {D v} hD => by
        walk_at "rd"
        refine ⟨by decide, fun l hl => ?_⟩
        generalize eH4 : upd H3 l _ = H4
        walk_at "rd"
        have ep4 : H4 p = some (.dK []) := by
          rw [← eH4, upd_ne (ne_of_none (k3.at e2) hl)]
          exact k3.at e2
        refine ⟨p, _, rfl, DPut.k (k := Sum.inr wd) ep4 (by decide), ?_⟩
        rw [putK_new _ rfl]
        generalize eH5 : upd H4 p _ = H5
        obtain ⟨a1, a2⟩ := fillP H3 k3 l hl H4 H5 eH4 eH5
        exact hD l H5 a1 a2
      have hgl : (gD os rs).length = os.length := gD_len M.len
      refine ⟨o, em, _, rfl, rfl, c3.at M.d, e3, ?_⟩
      rw [hgl]
      walk_at "rd"
      refine r_ite (fun z => ?_) (fun z => ?_)
      · refine iteT ?_
        exact fillQ (v := .non) fun l H5 c5 G5 => ⟨_, _, rfl, c5, G5, .inr rfl, fun h => absurd (List.eq_nil_of_length_eq_zero z) h⟩
      · walk_at "rd"
        refine r_ite (fun z2 => ?_) (fun z2 => ?_)
        · exact fillQ (v := .non) fun l H5 c5 G5 => ⟨_, _, rfl, c5, G5, .inr rfl, fun _ h => absurd (by injection z2) h⟩
        · walk_at "rd"
          exact ⟨[], [], rfl, c3, GAt.nil (k3.at e2), .inl rfl, fun _ _ => rfl⟩
    · rintro σ3 H3 ⟨pre, rs0, rfl, c3, G3, hpre, hpre2⟩
      have M3 := M.chg0 c3
      have hop : o ≠ p := ne_of_none M.d hp
      have nrp : ∀ r ∈ rs, r ≠ p := fun r hr => ne_of_none (M.there r hr).choose_spec.2 hp
      have hprek : ∀ k, k ≠ wd → lk pre k = none := fun k hk => by
        rcases hpre with h | h
        · rw [h]; rfl
        · rw [h]; unfold stopG; rw [lk_cons, if_neg (Ne.symm hk)]; rfl
      have hprel : pre.length ≤ 1 := by
        rcases hpre with h | h
        · rw [h]; exact Nat.zero_le _
        · rw [h]; exact Nat.le_refl _
      have hkey : ∀ k, k ∈ os.map (·.1) → k ≠ wd := fun k hk z => by
        rw [← hos, enc_keys] at hk
        obtain ⟨x, hx, e⟩ := List.mem_map.mp hk
        exact hbadw x.1 (hok.lt x hx) (by rw [← z, ← e])
      walk_at "rd"
      refine ⟨o, .dK (gD os rs), M3.d, trivial, fun od => ?_⟩
      walk_at "rd"
      refine r_keys ?_
      walk_at "rd"
      refine ⟨o, od, rfl, .inl ⟨_, upd_same, ?_⟩⟩
      refine for_it walk_keys (fun i σ H' => ∃ (v5 : Option V) (rs' : List Addr), σ = [some (.ref o), some (.ref dl), some (.str wd), some (.int way), some (.ref p), v5, none, none, none, none, none] ∧ Chg [p] (upd H3 o (.frz od (.dK (gD os rs)))) H' ∧ GAt H' p (pre ++ os.take i) rs' ∧ ∀ r ∈ rs', H3 r = none ∨ r ∈ rs0) ⟨none, rs0, rfl, Chg.refl, ?_, fun r h => .inr h⟩
        (fun i σ H' _ ⟨_, _, _, c, _⟩ => c.at1 upd_same hop) ?_ ?_
      · rw [List.take_zero, List.append_nil]
        exact ⟨G3.len, by rw [upd_ne hop.symm]; exact G3.d, fun j x r h1 h2 => by
          have e := G3.at_ j x r h1 h2
          exact lock_ne e (ne_of e M3.d (by intro z; unfold wordsV at z; cases z))⟩
      · rintro i x σ Hx H4 hi ⟨v5, rs', rfl, c4, G4, nr⟩ ⟨rfl, k, v, hkv, rfl⟩
        rw [gD_len M.len] at hi
        obtain ⟨oi, ho⟩ : ∃ oi, os[i]? = some oi := ⟨os[i], List.getElem?_eq_getElem hi⟩
        obtain ⟨r0, hr0⟩ : ∃ r0, rs[i]? = some r0 := ⟨rs[i]'(by rw [M.len]; exact hi), List.getElem?_eq_getElem _⟩
        have hk : k = Sum.inr oi.1 := by
          unfold gD at hkv
          rw [List.getElem?_map, (List.getElem?_zip_eq_some (z := (oi, r0))).mpr ⟨ho, hr0⟩] at hkv
          cases hkv; rfl
        subst hk
        obtain ⟨r, hr1, hr2, hr3⟩ := M3.lkd (od := od) (lk_at nd ho)
        have ea := c4.at1 (b := o) upd_same hop
        have er := c4.at1 hr3 (nrp r hr2)
        walk_at "rd"
        refine ⟨o, _, rfl, dgF ea hr1, ?_⟩
        walk_at "rd"
        refine ⟨r, _, rfl, .inl (sqL er), fun l hl => ?_⟩
        generalize eH : upd H4 l _ = H5
        obtain ⟨e5, k5, c5, n5⟩ := laid eH c4 hl
        have nl : H3 l = none := lock_none M3.d n5
        have G5 := G4.chg0 k5
        have npl : p ≠ l := ne_of_none G4.d hl
        walk_at "rd"
        refine ⟨p, _, rfl, DPut.k (k := Sum.inr oi.1) G5.d (small1000 (by rw [gD_len G5.len, List.length_append, List.length_take]; omega)), ?_⟩
        rw [putK_new _ (G5.miss (lk_app2 (hprek oi.1 (hkey _ (List.mem_map.mpr ⟨_, List.mem_of_getElem? ho, rfl⟩))) (lk_take nd ho)))]
        generalize eH : upd H5 p _ = H6
        obtain ⟨e6, k6⟩ := put eH G5.d
        refine ⟨_, rs' ++ [l], rfl, c5.trans k6, ?_, fun r' hr' => ?_⟩
        · rw [take_snoc ho, ← List.append_assoc]
          exact G5.app k6 G5.nr e6 (k6.at1 e5 npl.symm)
        · rcases List.mem_append.mp hr' with m | m
          · exact nr r' m
          · rw [List.mem_singleton.mp m]; exact .inl nl
      · rintro σ Hy ⟨v5, rs', rfl, c4, G4, nr⟩
        rw [gD_len M.len, List.take_length] at G4
        obtain ⟨eu, cu⟩ := c4.unlock M3.d (nm1 hop)
        refine ⟨eu, ?_⟩
        have G4' : GAt (upd Hy o (.dK (gD os rs))) p (pre ++ os) rs' := ⟨G4.len, by rw [upd_ne hop.symm]; exact G4.d, fun j x r h1 h2 => by
          have e := G4.at_ j x r h1 h2
          rw [upd_ne (ne_of e eu (by intro z; unfold wordsV at z; cases z))]
          exact e⟩
        generalize upd Hy o (.dK (gD os rs)) = H4 at *
        have c4 : Chg [] H H4 := c3.then cu hp
        clear eu c4
        have c4 : Chg [] H H4 := c3.then cu hp
        have M4 := M.chg0 c4
        have ndp : ((pre ++ os).map (·.1)).Nodup := by
          rw [List.map_append]
          refine List.nodup_append.mpr ⟨by rcases hpre with h | h <;> rw [h] <;> simp [stopG], nd, fun a ha b hb z => ?_⟩
          rcases hpre with h | h
          · rw [h] at ha; simp at ha
          · rw [h] at ha
            have : a = wd := by simpa [stopG] using ha
            exact hkey b hb (by rw [← z, this])
        have hlp : (pre ++ os).length ≤ 11 := by rw [List.length_append]; omega
        have hl5 : ∀ q ∈ pre ++ os, q.2.length ≤ 100 := fun q hq => by
          rcases List.mem_append.mp hq with m | m
          · rcases hpre with h | h
            · rw [h] at m; cases m
            · rw [h] at m
              have : q = (wd, [("stop" : Str)]) := by simpa [stopG] using m
              rw [this]; show 1 ≤ 100; decide
          · have := hl4 q m
            omega
        walk_at "rd"
        intro em hem
        generalize eH : upd H4 em _ = H5
        obtain ⟨e5, k5, c5, n5⟩ := laid eH c4 hem
        have G5 := G4'.chg0 k5
        refine ⟨o, em, _, rfl, rfl, c5.at M.d, e5, ?_⟩
        rw [gD_len M.len]
        walk_at "rd"
        -- the key that no entry is
        have fillW : ∀ {D : Ends}, (∀ v H', D.rt v H' ↔ Q v H') → tSeq (sDPut (tVar 4) (tVar 2) (tLst (tCons (tC (V.str "stop")) tNil))) (tRet (tVar 4)) D [some (.ref o), some (.ref dl), some (.str wd), some (.int way), some (.ref p), v5, none, none, none, none, none] H5 := fun {D} hD => by
          walk_at "rd"
          refine ⟨by decide, fun l hl => ?_⟩
          generalize eH : upd H5 l _ = H6
          obtain ⟨e6, k6, c6, n6⟩ := laid eH c5 hl
          have G6 := G5.chg0 k6
          have npl : p ≠ l := ne_of_none G5.d hl
          walk_at "rd"
          refine ⟨p, _, rfl, DPut.k (k := Sum.inr wd) G6.d (small1000 (by rw [gD_len G6.len]; omega)), ?_⟩
          generalize eH : upd H6 p _ = H7
          obtain ⟨e7, k7⟩ := put eH G6.d
          obtain ⟨rs7, G7, _⟩ := G6.put (l := ["stop"]) k7 e7 (k7.at1 e6 npl.symm)
          walk_at "rd"
          refine (hD _ _).mpr (q p _ rs7 H7 hp (c6.then k7 hp) G7 (Nat.le_trans put_len (by omega)) (fun x hx => ?_) (bad_key (put_keys ndp) (List.mem_map.mpr ⟨_, lk_some lk_put_self, rfl⟩) hbadw))
          rcases put_mem hx with m | m
          · exact hl5 x m
          · rw [m]; show 1 ≤ 100; decide
        refine r_ite (fun z => ?_) (fun z => ?_)
        · refine iteT ?_
          exact fillW fun v H' => Iff.rfl
        · walk_at "rd"
          refine r_ite (fun z2 => ?_) (fun z2 => ?_)
          · exact fillW fun v H' => Iff.rfl
          · have hne : os ≠ [] := fun h => z (by rw [h]; rfl)
            have hpe : pre = [] := hpre2 hne (fun h => z2 (by omega))
            subst hpe
            walk_at "rd"
            rw [List.nil_append] at G5 ndp hlp hl5
            have op5 : 0 < os.length := List.length_pos_iff.mpr hne
            refine ⟨o, _, rfl, .inl (c5.at M.d), fun nl hnl => ?_⟩
            generalize eH : upd H5 nl _ = H6
            obtain ⟨e6, k6, c6, n6⟩ := laid eH c5 hnl
            rw [gD_ks M.len] at e6
            walk_at "rd"
            refine r_ixL (sqL (c6.at edl)) (atI_ofNat (n := 2) (ints_at hd2)) ?_
            walk_at "rd"
            refine ⟨o, _, rfl, c6.at M.d, ?_⟩
            rw [gD_len M.len]
            refine r_rI (show (0 : Int) < (os.length : Int) by omega) ?_
            obtain ⟨jn, oi, ejn, hjl, hoi⟩ := mod_at (ys := os) (m := (os.length : Int)) d2 rfl (by omega)
            rw [ejn]
            obtain ⟨ix, row, hmem, rfl⟩ : ∃ ix row, (ix, row) ∈ ops ∧ oi = (ent ix, row) := by
              have m := List.mem_of_getElem? hoi
              rw [← hos] at m
              unfold enc at m
              obtain ⟨x, hx, rfl⟩ := List.mem_map.mp m
              exact ⟨x.1, x.2, hx, rfl⟩
            refine r_ixL (v := V.str (ent ix)) (sqL e6) (atI_ofNat (by rw [List.getElem?_map, hoi]; rfl)) ?_
            have hix := hok.lt _ hmem
            have hrow : ∀ c ∈ row, c ∈ chs ix := hok.ch _ hmem
            have hrnd : row.Nodup := hok.dup _ hmem
            have hr4 : row.length ≤ 4 := hok.len4 _ hmem
            have hrne : row ≠ [] := hok.ne _ hmem
            have hlkr : lk os (ent ix) = some row := lk_at nd hoi
            have M6 := M.chg0 c6
            obtain ⟨r, hr1, hr2, hr3⟩ := M6.get hlkr
            walk_at "rd"
            refine ⟨o, _, rfl, DGet.k (k := Sum.inr (ent ix)) M6.d |> (fun z => by rw [hr1] at z; exact z), ?_⟩
            walk_at "rd"
            refine ⟨r, _, rfl, .inl (sqL hr3), fun rw_ hrw => ?_⟩
            generalize eH : upd H6 rw_ _ = H7
            obtain ⟨e7, k7, c7, n7⟩ := laid eH c6 hrw
            walk_at "rd"
            refine r_ixL (sqL (c7.at edl)) (atI_ofNat (n := 3) (ints_at hd3)) ?_
            walk_at "rd"
            refine ⟨rw_, _, rfl, .inl (sqL e7), ?_⟩
            rw [List.length_map]
            walk_at "rd"
            refine r_rI (show (0 : Int) < (row.length : Int) + 1 by omega) ?_
            obtain ⟨pl, epl, hpl⟩ : ∃ pl : Nat, d3 % ((row.length : Int) + 1) = (pl : Int) ∧ pl ≤ row.length := by
              have a1 := Int.emod_nonneg d3 (show (row.length : Int) + 1 ≠ 0 by omega)
              have a2 := Int.emod_lt_of_pos d3 (show (0 : Int) < (row.length : Int) + 1 by omega)
              exact ⟨(d3 % ((row.length : Int) + 1)).toNat, (Int.toNat_of_nonneg a1).symm, by omega⟩
            rw [epl]
            walk_at "rd"
            refine ⟨by decide, fun ws hws => ?_⟩
            generalize eH : upd H7 ws _ = H8
            obtain ⟨e8, k8, c8, n8⟩ := laid eH c7 hws
            replace e8 : H8 ws = some (.lst (badW.map V.str)) := e8
            have e7 := k8.at e7
            walk_at "rd"
            refine ⟨ws, rfl, ⟨_, sqL e8⟩, fun D hD => ?_⟩
            have hwD : ws ≠ D := ne_of_none e8 hD
            refine lc_list (K := K) (a := ws) (xs := badW.map V.str) (fun j H' => Chg [D] H8 H' ∧ H' D = some (.lst ((wrongN ix j).map V.str))) ⟨(Chg.new hD), upd_same⟩ (fun j H' _ c => sqL (c.1.at1 e8 hwD)) ?_ ?_
            · rintro j x H9 hx ⟨c9, e9⟩
              obtain ⟨y, hy, rfl⟩ : ∃ y, badW[j]? = some y ∧ x = .str y := by
                rw [List.getElem?_map] at hx
                obtain ⟨x', ex, rfl⟩ := Option.map_eq_some_iff.mp hx
                exact ⟨x', ex, rfl⟩
              have hj : j < 10 := (List.getElem?_eq_some_iff.mp hy).1
              walk_at "rd"
              refine ⟨rfl, ?_⟩
              walk_at "rd"
              refine ⟨ix, hix, rfl, fun tl H10 htl k10 e10 => ?_⟩
              refine ⟨tl, _, rfl, .inl (sqL e10), rfl, flat_strs _, ?_⟩
              rw [inV_strs]
              walk_at "rd"
              have c10 := c9.trans (Chg.up k10)
              have e910 := k10.at e9
              refine r_iteB (fun z => ?_) (fun z => ?_)
              · have hn : ¬ y ∈ chs ix := by simpa using z
                walk_at "rd"
                refine ⟨_, e910, ?_, c10.trans (Chg.set e910 (List.mem_singleton.mpr rfl)), ?_⟩
                · rw [List.length_map]
                  unfold wrongN
                  exact small1000 (Nat.le_trans (List.length_filter_le ..) (Nat.le_trans (List.length_take_le ..) (by omega)))
                · rw [upd_same]
                  unfold wrongN
                  rw [take_snoc hy, List.filter_append, List.map_append]
                  simp [hn]
              · have hn : y ∈ chs ix := by simpa using z
                refine ⟨c10, ?_⟩
                unfold wrongN
                rw [take_snoc hy, List.filter_append]
                simp only [List.filter_cons, hn, not_true, decide_false, Bool.false_eq_true, if_false, List.filter_nil, List.append_nil]
                exact e910
            · rintro H9 ⟨c9, e9⟩
              have e9 : H9 D = some (.lst ((wrongN ix 10).map V.str)) := e9
              have c9' : Chg [] H H9 := c8.then c9 (c8.fresh hD)
              have c59 : Chg [] H5 H9 := ((k6.trans k7).trans k8).then c9 (k6.fresh (k7.fresh (k8.fresh hD)))
              have e7 := c9.at1 e7 (ne_of_none e7 hD)
              have G9 := G5.chg0 c59
              walk_at "rd"
              -- what is laid at the name
              have fin : ∀ (H' H'' : Hp) (l : Addr) (wl : List Str), Chg [] H9 H' → H' l = some (wordsV wl) → wl.length ≤ 100 → (fil ix wl = [] ∨ (fil ix wl).length ≠ wl.length) → upd H' p (.dK (putK (gD os rs') (Sum.inr (ent ix) : Key) (.ref l))) = H'' →
                  ∃ os' rs2, Chg [] H H'' ∧ GAt H'' p os' rs2 ∧ os'.length ≤ 100 ∧ (∀ q ∈ os', q.2.length ≤ 100) ∧ ¬ Good os' := fun H' H'' l wl c' el hwl hbad eH => by
                have G' := G9.chg0 c'
                obtain ⟨e1, k1⟩ := put eH G'.d
                obtain ⟨rs2, G2, _⟩ := G'.put (l := wl) k1 e1 (k1.at1 el (ne_of el G'.d (by intro z; unfold wordsV at z; cases z)))
                refine ⟨_, rs2, (c9'.trans c').then k1 hp, G2, Nat.le_trans put_len (by omega), fun x hx => ?_, bad_list hix lk_put_self hbad⟩
                rcases put_mem hx with m | m
                · exact hl5 x m
                · rw [m]; exact hwl
              refine r_cut (fun σ' H' => ∃ (σ0 : L2.St) (os' : GO) (rs2 : List Addr), σ' = some (.ref o) :: some (.ref dl) :: some (.str wd) :: some (.int way) :: some (.ref p) :: σ0 ∧ Chg [] H H' ∧ GAt H' p os' rs2 ∧ os'.length ≤ 100 ∧ (∀ q ∈ os', q.2.length ≤ 100) ∧ ¬ Good os') ?_ ?_
              · walk_at "rd"
                refine r_ite (fun z2 => ?_) (fun z2 => ?_)
                · walk_at "rd"
                  refine ⟨by decide, fun l hl => ?_⟩
                  generalize eH : upd H9 l _ = H10
                  obtain ⟨e10, k10, c10, n10⟩ := laid eH (Chg.refl : Chg [] H9 H9) hl
                  walk_at "rd"
                  refine ⟨p, _, rfl, DPut.k (k := Sum.inr (ent ix)) (G9.chg0 c10).d (small1000 (by rw [gD_len G9.len]; omega)), ?_⟩
                  generalize eH : upd H10 p _ = H11
                  obtain ⟨os', rs2, a1, a2, a3, a4, a5⟩ := fin H10 H11 l [] c10 e10 (by decide) (.inl (by unfold fil; simp)) eH
                  exact ⟨_, os', rs2, rfl, a1, a2, a3, a4, a5⟩
                · walk_at "rd"
                  refine r_ite (fun z3 => ?_) (fun z3 => ?_)
                  · walk_at "rd"
                    refine ⟨_, rfl, ?_⟩
                    refine ⟨rw_, _, rfl, sqL e7, fun s1 hs1 => ?_⟩
                    rw [cut_lo _ _ (by rw [List.length_map]; exact hpl), ← List.map_take]
                    generalize eH : upd H9 s1 _ = H10
                    obtain ⟨e10, k10, c10, n10⟩ := laid eH (Chg.refl : Chg [] H9 H9) hs1
                    walk_at "rd"
                    refine r_ixL (sqL ((c9'.trans c10).at edl)) (atI_ofNat (n := 4) (ints_at hd4)) ?_
                    walk_at "rd"
                    refine ⟨D, _, rfl, .inl (sqL (c10.at e9)), ?_⟩
                    rw [List.length_map]
                    obtain ⟨yn, yw, eyn, hyl, hyw⟩ := mod_at (ys := wrongN ix 10) (m := (((wrongN ix 10).length : Nat) : Int)) d4 rfl (by
                      have := List.length_pos_iff.mpr (wrong_ne ix hix)
                      omega)
                    refine r_rI (show (0 : Int) < (((wrongN ix 10).length : Nat) : Int) by
                      have := List.length_pos_iff.mpr (wrong_ne ix hix)
                      omega) ?_
                    rw [eyn]
                    refine r_ixL (sqL (c10.at e9)) (atI_ofNat (strs_at hyw)) ?_
                    walk_at "rd"
                    refine ⟨by show 1 ≤ sizeLine; decide, fun s2 hs2 => ?_⟩
                    generalize eH : upd H10 s2 _ = H11
                    obtain ⟨e11, k11, c11, n11⟩ := laid eH c10 hs2
                    refine ⟨s1, s2, _, _, rfl, rfl, k11.at e10, e11, by
                      rw [List.length_map, List.length_take]
                      show min pl row.length + 1 ≤ sizeLine
                      rw [sizeLine_eq]; omega, fun s3 hs3 => ?_⟩
                    generalize eH : upd H11 s3 _ = H12
                    obtain ⟨e12, k12, c12, n12⟩ := laid eH c11 hs3
                    walk_at "rd"
                    refine ⟨_, rfl, ?_⟩
                    walk_at "rd"
                    refine ⟨rw_, _, rfl, sqL (c12.at e7), fun s4 hs4 => ?_⟩
                    rw [cut_hi _ _ (by rw [List.length_map]; exact hpl), ← List.map_drop]
                    generalize eH : upd H12 s4 _ = H13
                    obtain ⟨e13, k13, c13, n13⟩ := laid eH c12 hs4
                    refine ⟨s3, s4, _, _, rfl, rfl, k13.at e12, e13, by
                      rw [List.length_append, List.length_map, List.length_take, List.length_map, List.length_drop]
                      show min pl row.length + 1 + (row.length - pl) ≤ sizeLine
                      rw [sizeLine_eq]; omega, fun s5 hs5 => ?_⟩
                    generalize eH : upd H13 s5 _ = H14
                    obtain ⟨e14, k14, c14, n14⟩ := laid eH c13 hs5
                    have e14 : H14 s5 = some (wordsV (row.take pl ++ [yw] ++ row.drop pl)) := by
                      rw [e14]
                      unfold wordsV
                      rw [List.map_append, List.map_append]; rfl
                    walk_at "rd"
                    refine ⟨p, _, rfl, DPut.k (k := Sum.inr (ent ix)) (G9.chg0 c14).d (small1000 (by rw [gD_len G9.len]; omega)), ?_⟩
                    generalize eH : upd H14 p _ = H15
                    obtain ⟨os', rs2, a1, a2, a3, a4, a5⟩ := fin H14 H15 s5 _ c14 e14 (by
                      simp only [List.length_append, List.length_take, List.length_drop, List.length_singleton]
                      omega) (.inr (fil_bad hix hrow hrnd (.inl (by have := List.mem_of_getElem? hyw; unfold wrongN at this; exact of_decide_eq_true (List.mem_filter.mp this).2)))) eH
                    exact ⟨_, os', rs2, rfl, a1, a2, a3, a4, a5⟩
                  · walk_at "rd"
                    refine ⟨_, rfl, ?_⟩
                    refine ⟨rw_, _, rfl, sqL e7, fun s1 hs1 => ?_⟩
                    rw [cut_lo _ _ (by rw [List.length_map]; exact hpl), ← List.map_take]
                    generalize eH : upd H9 s1 _ = H10
                    obtain ⟨e10, k10, c10, n10⟩ := laid eH (Chg.refl : Chg [] H9 H9) hs1
                    walk_at "rd"
                    refine r_ixL (sqL ((c9'.trans c10).at edl)) (atI_ofNat (n := 4) (ints_at hd4)) ?_
                    walk_at "rd"
                    refine ⟨rw_, _, rfl, .inl (sqL (c10.at e7)), ?_⟩
                    rw [List.length_map]
                    obtain ⟨yn, yw, eyn, hyl, hyw⟩ := mod_at (ys := row) (m := (((row).length : Nat) : Int)) d4 rfl (by
                      have := List.length_pos_iff.mpr hrne
                      omega)
                    refine r_rI (show (0 : Int) < (((row).length : Nat) : Int) by
                      have := List.length_pos_iff.mpr hrne
                      omega) ?_
                    rw [eyn]
                    refine r_ixL (sqL (c10.at e7)) (atI_ofNat (strs_at hyw)) ?_
                    walk_at "rd"
                    refine ⟨by show 1 ≤ sizeLine; decide, fun s2 hs2 => ?_⟩
                    generalize eH : upd H10 s2 _ = H11
                    obtain ⟨e11, k11, c11, n11⟩ := laid eH c10 hs2
                    refine ⟨s1, s2, _, _, rfl, rfl, k11.at e10, e11, by
                      rw [List.length_map, List.length_take]
                      show min pl row.length + 1 ≤ sizeLine
                      rw [sizeLine_eq]; omega, fun s3 hs3 => ?_⟩
                    generalize eH : upd H11 s3 _ = H12
                    obtain ⟨e12, k12, c12, n12⟩ := laid eH c11 hs3
                    walk_at "rd"
                    refine ⟨_, rfl, ?_⟩
                    walk_at "rd"
                    refine ⟨rw_, _, rfl, sqL (c12.at e7), fun s4 hs4 => ?_⟩
                    rw [cut_hi _ _ (by rw [List.length_map]; exact hpl), ← List.map_drop]
                    generalize eH : upd H12 s4 _ = H13
                    obtain ⟨e13, k13, c13, n13⟩ := laid eH c12 hs4
                    refine ⟨s3, s4, _, _, rfl, rfl, k13.at e12, e13, by
                      rw [List.length_append, List.length_map, List.length_take, List.length_map, List.length_drop]
                      show min pl row.length + 1 + (row.length - pl) ≤ sizeLine
                      rw [sizeLine_eq]; omega, fun s5 hs5 => ?_⟩
                    generalize eH : upd H13 s5 _ = H14
                    obtain ⟨e14, k14, c14, n14⟩ := laid eH c13 hs5
                    have e14 : H14 s5 = some (wordsV (row.take pl ++ [yw] ++ row.drop pl)) := by
                      rw [e14]
                      unfold wordsV
                      rw [List.map_append, List.map_append]; rfl
                    walk_at "rd"
                    refine ⟨p, _, rfl, DPut.k (k := Sum.inr (ent ix)) (G9.chg0 c14).d (small1000 (by rw [gD_len G9.len]; omega)), ?_⟩
                    generalize eH : upd H14 p _ = H15
                    obtain ⟨os', rs2, a1, a2, a3, a4, a5⟩ := fin H14 H15 s5 _ c14 e14 (by
                      simp only [List.length_append, List.length_take, List.length_drop, List.length_singleton]
                      omega) (.inr (fil_bad hix hrow hrnd (.inr (List.mem_of_getElem? hyw)))) eH
                    exact ⟨_, os', rs2, rfl, a1, a2, a3, a4, a5⟩
              · rintro σ' H' ⟨σ0, os', rs2, rfl, c', G', h1, h2, h3⟩
                walk_at "rd"
                exact q p os' rs2 H' hp c' G' h1 h2 h3
end
end Sm
set_option maxHeartbeats 4000000
namespace Sm
open PySem PySem.Spec PyProof.Rows L2
local macro_rules | `(tactic| walk_at "rd1") => `(tactic| first
  | (with_reducible refine r_seq ?_) | (with_reducible refine r_asg ?_) | (with_reducible refine r_gname ?_)
  | ((with_reducible refine' r_var ?e ?_); (case e => rfl)) | (with_reducible refine r_c ?_)
  | (with_reducible refine r_ret ?_) | (with_reducible refine r_retN ?_) | (with_reducible refine r_drop ?_) | (with_reducible refine r_next ?_) | (with_reducible refine r_ifs ?_)
  | (with_reducible refine r_op ?_) | (with_reducible refine r_rI0 ?_)
  | (with_reducible refine r_test ?_) | (with_reducible refine r_tb ?_) | (with_reducible refine Exists.intro _ (And.intro (Eq.refl (V.bl _)) ?_))
  | (with_reducible refine r_nil ?_) | (with_reducible refine r_cons ?_) | (with_reducible refine r_cb ?_) | (with_reducible refine r_call ?_)
  | (with_reducible refine r_callS ?_) | (with_reducible refine r_meth ?_) | (with_reducible refine r_ownIx ?_) | (with_reducible refine r_ownSet ?_)
  | (with_reducible refine r_not ?_) | (with_reducible refine r_and ?_) | (with_reducible refine r_or ?_)
  | (with_reducible refine r_lst ?_) | (with_reducible refine r_tup ?_) | (with_reducible refine Or.inl (Exists.intro _ (And.intro (Eq.refl [V.int _]) ?_)))
  | ((with_reducible refine r_rI ?c ?_); (case c => first | (show (0 : Int) < _; decide) | exact ⟨by decide, by decide⟩))
  | (with_reducible refine r_for ?_) | (with_reducible refine r_rng1 ?_) | (with_reducible refine r_rng2 ?_) | (with_reducible refine r_ilist ?_) | (with_reducible refine r_itup ?_)
  | (with_reducible refine r_m0 ?_) | (with_reducible refine r_m1 ?_) | (with_reducible refine r_isStr ?_) | (with_reducible refine r_newS ?_) | (with_reducible refine r_fld ?_)
  | (with_reducible refine r_bm ?_) | (with_reducible refine r_bm0 ?_) | (with_reducible refine r_sl ?_) | (with_reducible refine r_nopart ?_) | (with_reducible refine r_part ?_)
  | (with_reducible refine r_pcons ?_) | (with_reducible refine r_pnil ?_) | (with_reducible refine r_dget2 ?_) | (with_reducible refine r_dget1 ?_)
  | (with_reducible refine r_lc ?_) | (with_reducible refine r_yes ?_)
  | (with_reducible refine r_un ?_) | (with_reducible refine r_rU ?_)
  | (with_reducible refine r_disp ?_) | (with_reducible refine r_andV ?_) | (with_reducible refine r_orV ?_) | (with_reducible refine r_notV ?_) | (with_reducible refine r_dnewK ?_)
  | (with_reducible refine r_dget ?_) | (with_reducible refine r_dput ?_)
  | ((with_reducible refine r_rEq ?e ?_); (case e => rfl)) | ((with_reducible refine r_rNe ?e ?_); (case e => rfl)))
local macro_rules | `(tactic| walk_at "rd") => `(tactic| repeat (walk_at "rd1"))
section
variable {P : Program} {w : World} {K : PySem.W.Frag} {mg : Str → Option Value} {base : Heap}
theorem inMenu_due {os : GO} (g : Good os) {cs x : List Str} (hc : cs.length = 10) (hx : x.length = 10) : inMenu (enc (canon os)) cs x = decide (x ∈ dueN os cs 10) := by
  rw [Bool.eq_iff_iff, decide_eq_true_eq, due_mem hc 10 (Nat.le_refl _)]
  unfold inMenu
  rw [List.all_eq_true]
  have e : ∀ i, i < 10 → (inAt (enc (canon os)) cs x i = true ↔ okAt os cs x 10 i) := fun i hi => by
    unfold inAt okAt
    rw [if_pos hi, lk_canon g hi]
    cases lk os (ent i) with
    | none => exact decide_eq_true_iff
    | some l => exact decide_eq_true_iff
  constructor
  · intro h
    exact ⟨hx, fun i hi => (e i hi).mp (h i (List.mem_range.mpr hi))⟩
  · rintro ⟨_, h⟩ i hi
    exact (e i (List.mem_range.mp hi)).mpr (h i (List.mem_range.mp hi))
theorem dk_dcs {x y : List Str} (hx : x.length = 10) (hy : y.length = 10) : ((dcs x).all fun q => decide (valV (dcs y) q.1 = some q.2)) = decide (x = y) := by
  rw [Bool.eq_iff_iff, List.all_eq_true, decide_eq_true_eq]
  constructor
  · intro h
    refine List.ext_getElem? fun i => ?_
    by_cases hi : i < 10
    · have e1 : x[i]? = some (x[i]'(by omega)) := List.getElem?_eq_getElem _
      have e2 : y[i]? = some (y[i]'(by omega)) := List.getElem?_eq_getElem _
      have := of_decide_eq_true (h _ (List.mem_of_getElem? (dcs_at hi e1)))
      rw [dcs_get hy hi e2] at this
      rw [e1, e2]
      injection this with z
      injection z with z
      rw [z]
    · rw [List.getElem?_eq_none (by omega), List.getElem?_eq_none (by omega)]
  · rintro rfl q hq
    exact decide_eq_true (dcs_all hx q hq).1
theorem dkEq_dcs {H : Hp} {p a : Addr} {x y : List Str} (hx : x.length = 10) (hy : y.length = 10) (ep : H p = some (.dK (dcs x))) (ea : H a = some (.dK (dcs y))) : DkEq H p a (decide (x = y)) := by
  by_cases h : p = a
  · refine ⟨.inl ⟨h, decide_eq_true ?_⟩⟩
    rw [h, ea] at ep
    injection ep with ep
    injection ep with ep
    have := dk_dcs hx hy
    rw [← ep] at this
    have h2 : ((dcs y).all fun q => decide (valV (dcs y) q.1 = some q.2)) = true := by
      rw [List.all_eq_true]
      exact fun q hq => decide_eq_true (dcs_all hy q hq).1
    rw [h2] at this
    exact of_decide_eq_true this.symm
  · refine ⟨.inr ⟨h, dcs x, dcs y, ep, ea, by rw [dcs_len hx, dcs_len hy], fun q hq => ?_, (dk_dcs hx hy).symm⟩⟩
    obtain ⟨i, hi, ei⟩ := List.getElem_of_mem hq
    rw [dcs_len hx] at hi
    have e1 : x[i]? = some (x[i]'(by omega)) := List.getElem?_eq_getElem _
    have e2 : y[i]? = some (y[i]'(by omega)) := List.getElem?_eq_getElem _
    have e3 := dcs_at hi e1
    rw [List.getElem?_eq_getElem (by rw [dcs_len hx]; exact hi), ei] at e3
    have e3 := Option.some.inj e3
    rw [e3]
    exact ⟨_, _, rfl, dcs_get hy hi e2⟩
theorem eq_words {K : PySem.W.Frag} {H : Hp} {r r' : Addr} {l : List Str} (e1 : H r = some (wordsV l)) (e2 : H r' = some (wordsV l)) : EqV K H 2 (.ref r) (.ref r') :=
  .inr (.inr (.inl ⟨r, r', _, _, rfl, rfl, sqL e1, sqL e2, paired_of rfl fun j x y hx hy => .inl ⟨by rw [hx] at hy; exact Option.some.inj hy, by
    rw [List.getElem?_map] at hx
    obtain ⟨c, _, rfl⟩ := Option.map_eq_some_iff.mp hx
    rfl⟩⟩))
theorem eq_opts {K : PySem.W.Frag} {H : Hp} {a b : Addr} {os : GO} {r1 r2 : List Addr} (h1 : GAt H a os r1) (h2 : GAt H b os r2) (nd : (os.map (·.1)).Nodup) : ∀ p ∈ gD os r1, ∃ u, valV (gD os r2) p.1 = some u ∧ EqV K H 2 p.2 u := fun p hp => by
  unfold gD at hp
  obtain ⟨⟨q, r⟩, hm, rfl⟩ := List.mem_map.mp hp
  obtain ⟨j, hj, ej⟩ := List.getElem_of_mem hm
  rw [List.getElem_zip] at ej
  have eq : os[j]'(by rw [List.length_zip] at hj; omega) = q := congrArg Prod.fst ej
  have er : r1[j]'(by rw [List.length_zip] at hj; omega) = r := congrArg Prod.snd ej
  have hq : os[j]? = some q := by rw [List.getElem?_eq_getElem (by rw [List.length_zip] at hj; omega), eq]
  have hr : r1[j]? = some r := by rw [List.getElem?_eq_getElem (by rw [List.length_zip] at hj; omega), er]
  obtain ⟨r', e1, _, e2⟩ := h2.get (lk_at nd hq)
  exact ⟨_, e1, eq_words (h1.at_ j q r hq hr) e2⟩
def sp_law (K : PySem.W.Frag) : Sp := fun vs H Q _ => ∃ (a : Addr) (ns : List Int), vs = [.ref a] ∧ SqL K H a (ns.map V.int) ∧ ∀ H', Q (.bl true) H'
theorem ok_law (T : Tx w K mg) {fd : FuncData} (F : Fun K "law" "law" s_law (He.fAd K ("law", none)) fd) : FnOk P w K mg base CX0 9 (He.fAd K ("law", none)) fd ["script"] (sp_law K) := by
  obtain ⟨fd1, G__law_cell, b__law_cell⟩ := ok_cell (P := P) (w := w) (base := base) T
  obtain ⟨fd2, G__law_entries, b__law_entries⟩ := ok_entries (P := P) (w := w) (base := base) T
  obtain ⟨fd3, G__law_choices, b__law_choices⟩ := ok_choices (P := P) (w := w) (base := base) T
  obtain ⟨fd4, G__law_picks, b__law_picks⟩ := ok_picks (P := P) (w := w) (base := base) T
  obtain ⟨fd5, G__law_digits, b__law_digits⟩ := ok_digits (P := P) (w := w) (base := base) T
  obtain ⟨fd6, G__law_large_options, b__law_large_options⟩ := ok_large (P := P) (w := w) (base := base) T
  obtain ⟨fd7, G__law_book, b__law_book⟩ := ok_lawbook (P := P) (w := w) (base := base) T
  obtain ⟨fd8, G__law_copied, b__law_copied⟩ := ok_lcopied (P := P) (w := w) (base := base) T
  obtain ⟨fd9, G__law_refused, b__law_refused⟩ := ok_lrefused (P := P) (w := w) (base := base) T
  obtain ⟨fd10, G__law_spoilt, b__law_spoilt⟩ := ok_spoilt (P := P) (w := w) (base := base) T
  obtain ⟨fd11, G__law_count, b__law_count⟩ := ok_count (P := P) (w := w) (base := base) T
  obtain ⟨fd12, G_Menu, b_Menu⟩ := ok_menu (P := P) (w := w) (base := base) T
  obtain ⟨fd13, G__law_menu_books, b__law_menu_books⟩ := ok_mbooks (P := P) (w := w) (base := base) T
  obtain ⟨fd14, G__law_walked, b__law_walked⟩ := ok_walked (P := P) (w := w) (base := base) T
  obtain ⟨fd15, G_cont, b_cont⟩ := ok_cont (P := P) (w := w) (base := base) T
  obtain ⟨fd16, G__law_read_book, b__law_read_book⟩ := ok_rb (P := P) (w := w) (base := base) T
  refine F.ok sc_law (fun vs H Q E h => ?_) (fun cdv A outer s H vs Q E hr h => ?_)
  · obtain ⟨a, ns, rfl, _⟩ := h
    rfl
  · obtain ⟨a, ns, rfl, hs, q⟩ := h
    have hu := hu_of hr
    refine ⟨_, (pss_cons (ps_set (i := 1) sc_law.nd rfl (Or.inl rfl) (pe_call G__law_picks (hr.mono (by decide)) (by rfl) T.g__law_picks T.k__law_picks b__law_picks .nil pass0 (pa_cons (pe_call G__law_cell (hr.mono (by decide)) (by rfl) T.g__law_cell T.k__law_cell b__law_cell .nil pass0 (pa_cons (pv 0) (pa_cons pe_int pa_nil))) pa_nil)))
      (pss_cons (ps_set (i := 2) sc_law.nd rfl (Or.inl rfl) (pe_call G__law_digits (hr.mono (by decide)) (by rfl) T.g__law_digits T.k__law_digits b__law_digits .nil pass0 (pa_cons (pe_call G__law_cell (hr.mono (by decide)) (by rfl) T.g__law_cell T.k__law_cell b__law_cell .nil pass0 (pa_cons (pv 0) (pa_cons pe_int pa_nil))) (pa_cons pe_int (pa_cons pe_int pa_nil)))))
      (pss_cons (ps_set (i := 3) sc_law.nd rfl (Or.inl rfl) (pe_call G__law_large_options (hr.mono (by decide)) (by rfl) T.g__law_large_options T.k__law_large_options b__law_large_options .nil pass0 (pa_cons (pv 2) (pa_cons (pe_ix ix_list (pe_lst (pa_cons pe_int (pa_cons pe_int pa_nil))) (pe_op op_mod (pe_callTy call_int1 (by rfl) T.n_int (by decide +kernel) (pa_cons (pe_ix ix_list (pv 2) pe_int (fun _ _ => rfl)) pa_nil)) pe_int) (fun _ _ => rfl)) pa_nil))))
      (pss_cons (ps_set (i := 4) sc_law.nd rfl (Or.inl rfl) (pe_call G__law_book (hr.mono (by decide)) (by rfl) T.g__law_book T.k__law_book b__law_book .nil pass0 (pa_cons (pv 1) pa_nil)))
      (pss_cons (ps_set (i := 5) sc_law.nd rfl (Or.inl rfl) (pe_call G__law_copied (hr.mono (by decide)) (by rfl) T.g__law_copied T.k__law_copied b__law_copied .nil pass0 (pa_cons (pv 3) pa_nil)))
      (pss_cons (ps_if (pt_not (pt_val (pe_call G__law_refused (hr.mono (by decide)) (by rfl) T.g__law_refused T.k__law_refused b__law_refused .nil pass0 (pa_cons (pv 4) (pa_cons (pe_call G__law_spoilt (hr.mono (by decide)) (by rfl) T.g__law_spoilt T.k__law_spoilt b__law_spoilt .nil pass0 (pa_cons (pv 3) (pa_cons (pe_call G__law_digits (hr.mono (by decide)) (by rfl) T.g__law_digits T.k__law_digits b__law_digits .nil pass0 (pa_cons (pe_call G__law_cell (hr.mono (by decide)) (by rfl) T.g__law_cell T.k__law_cell b__law_cell .nil pass0 (pa_cons (pv 0) (pa_cons pe_int pa_nil))) (pa_cons pe_int (pa_cons pe_int pa_nil)))) pa_nil))) pa_nil)))))
        (pss_one (ps_ret pe_bl))
        pss_nil)
      (pss_cons (ps_if (pt_cmpR op_gt (pe_call G__law_count (hr.mono (by decide)) (by rfl) T.g__law_count T.k__law_count b__law_count .nil pass0 (pa_cons (pv 3) pa_nil)) pe_int (nomark _))
        (pss_one (ps_ret (pe_and (pe_call G__law_refused (hr.mono (by decide)) (by rfl) T.g__law_refused T.k__law_refused b__law_refused .nil pass0 (pa_cons (pv 4) (pa_cons (pv 5) pa_nil))) (pe_one (pe_cmpR (op_eqV hr.units) (pv 5) (pv 3) (nomark _))))))
        pss_nil)
      (pss_cons (ps_set (i := 6) sc_law.nd rfl (Or.inl rfl) (pe_make T.mk_Menu G_Menu (hr.mono (by decide)) (by rfl) T.g_Menu b_Menu .nil passL (pa_cons (pv 4) (pa_cons (pv 5) pa_nil))))
      (pss_cons (ps_if (PW.pt (pw_or (pt_cmpR (op_neDV hr.units) (pv 5) (pv 3) (nomark _)) (pw_or1 (pt_cmpR (op_neLV hr.units) (pe_callTy (call_listD rfl) (by rfl) T.n_list (by decide +kernel) (pa_cons (pv 5) pa_nil)) (pe_callTy (call_listD rfl) (by rfl) T.n_list (by decide +kernel) (pa_cons (pv 3) pa_nil)) (nomark _)))))
        (pss_one (ps_ret pe_bl))
        pss_nil)
      (pss_cons (ps_set (i := 7) sc_law.nd rfl (Or.inl rfl) (pe_call G__law_menu_books (hr.mono (by decide)) (by rfl) T.g__law_menu_books T.k__law_menu_books b__law_menu_books .nil pass0 (pa_cons (pv 1) (pa_cons (pv 3) pa_nil))))
      (pss_cons (ps_if (pt_not (pt_val (pe_call G__law_walked (hr.mono (by decide)) (by rfl) T.g__law_walked T.k__law_walked b__law_walked .nil pass0 (pa_cons (pv 6) (pa_cons (pv 7) pa_nil)))))
        (pss_one (ps_ret pe_bl))
        pss_nil)
      (pss_cons (ps_set (i := 8) sc_law.nd rfl (Or.inl rfl) (pe_callTy call_dictD (by rfl) T.n_dict (by decide +kernel) (pa_cons (pe_ix ix_list (pv 7) (pe_op op_mod (pe_callTy call_int1 (by rfl) T.n_int (by decide +kernel) (pa_cons (pe_call G__law_cell (hr.mono (by decide)) (by rfl) T.g__law_cell T.k__law_cell b__law_cell .nil pass0 (pa_cons (pv 0) (pa_cons pe_int pa_nil))) pa_nil)) (pe_callB call_len_seq (by rfl) T.n_len PySem.boot_len (pa_cons (pv 7) pa_nil))) (fun _ _ => rfl)) pa_nil)))
      (pss_cons (ps_set (i := 9) sc_law.nd rfl (Or.inl rfl) (pe_ix ix_list (pe_call0 G__law_entries (hr.mono (by decide)) (by rfl) T.g__law_entries T.k__law_entries b__law_entries .nil pass0) (pe_op op_mod (pe_callTy call_int1 (by rfl) T.n_int (by decide +kernel) (pa_cons (pe_call G__law_cell (hr.mono (by decide)) (by rfl) T.g__law_cell T.k__law_cell b__law_cell .nil pass0 (pa_cons (pv 0) (pa_cons pe_int pa_nil))) pa_nil)) pe_int) (fun _ _ => rfl)))
      (pss_cons (ps_set (i := 10) sc_law.nd rfl (Or.inl rfl) (pe_call G__law_choices (hr.mono (by decide)) (by rfl) T.g__law_choices T.k__law_choices b__law_choices .nil pass0 (pa_cons (pv 9) pa_nil)))
      (pss_cons (ps_dput hu (pv 8) (pv 9) (pe_ix ix_list (pv 10) (pe_op op_mod (pe_callTy call_int1 (by rfl) T.n_int (by decide +kernel) (pa_cons (pe_op op_fdiv (pe_call G__law_cell (hr.mono (by decide)) (by rfl) T.g__law_cell T.k__law_cell b__law_cell .nil pass0 (pa_cons (pv 0) (pa_cons pe_int pa_nil))) pe_int) pa_nil)) (pe_callB call_len_seq (by rfl) T.n_len PySem.boot_len (pa_cons (pv 10) pa_nil))) (fun _ _ => rfl)) rfl)
      (pss_cons (ps_for PassesOwn.never rfl (pi_list (pe_op op_cat (pv 7) (pe_lst (pa_cons (pv 8) (pa_cons (pv 1) pa_nil))))) (pg_name (i := 11) sc_law.nd rfl (Or.inl rfl))
        (pss_cons (ps_set (i := 12) sc_law.nd rfl (Or.inl rfl) (pe_cmpR (op_ownIn T.cm_Menu___contains__.1 T.cm_Menu___contains__.2 G_cont (hr.mono (by decide)) b_cont pass0) (pe_call G__law_book (hr.mono (by decide)) (by rfl) T.g__law_book T.k__law_book b__law_book .nil pass0 (pa_cons (pv 11) pa_nil)) (pv 6) rfl))
      (pss_one (ps_if (PW.pt (pw_or (pt_not (pt_val (pe_callB call_isi (by rfl) T.n_isinstance (by decide +kernel) (pa_cons (pv 12) (pa_cons (pe_bltn (v := .ty "bool") rfl T.n_bool (by decide +kernel) rfl) pa_nil))))) (pw_or1 (pt_cmpR op_ne (pv 12) (pe_cmpR (op_inDk hu) (pv 11) (pv 7) rfl) (nomark _)))))
        (pss_one (ps_ret pe_bl))
        pss_nil))))
      (pss_one (ps_ret (pe_cmpR (op_eq_dictA hr.units0) (pe_call G__law_read_book (hr.mono (by decide)) (by rfl) T.g__law_read_book T.k__law_read_book b__law_read_book .nil pass0 (pa_cons (pv 4) pa_nil)) (pv 1) (nomark _)))))))))))))))))))), ?_⟩
    walk_at "rd"
    refine ⟨a, ns, 0, rfl, hs, by decide, ?_⟩
    walk_at "rd"
    refine ⟨_, rfl, fun cs pk H1 hc npk c1 e1 => ?_⟩
    walk_at "rd"
    refine ⟨a, ns, 1, rfl, SqL.chg c1 hs nm0, by decide, ?_⟩
    walk_at "rd"
    refine ⟨_, 17, 11, rfl, by decide, fun ds dl H2 hdl hdb ndl k2 e2 => ?_⟩
    have c2 := c1.trans k2
    walk_at "rd"
    refine ⟨by decide, fun ml hml => ?_⟩
    generalize eH : upd H2 ml _ = H3
    obtain ⟨e3, k3, c3, n3⟩ := laid eH c2 hml
    replace e3 : H3 ml = some (.lst (([400, 24] : List Int).map V.int)) := e3
    obtain ⟨d10, hd10⟩ : ∃ x, ds[10]? = some x := ⟨ds[10]'(by omega), List.getElem?_eq_getElem _⟩
    walk_at "rd"
    refine r_ixL (sqL (k3.at e2)) (atI_ofNat (n := 10) (ints_at hd10)) ?_
    walk_at "rd"
    obtain ⟨mn, most, emn, hml2, hmo⟩ := mod_at (ys := ([400, 24] : List Int)) (m := 2) d10 rfl (by decide)
    rw [emn]
    refine r_ixL (sqL e3) (atI_ofNat (ints_at hmo)) ?_
    walk_at "rd"
    refine ⟨dl, ds, most, rfl, k3.at e2, by omega, hdb, fun ops p rs H4 hok hlen np nr k4 G4 => ?_⟩
    have c4 := c3.trans k4
    have nd := hok.toOkOs.ekeys
    have hle : (enc ops).length ≤ 10 := by unfold enc; rw [List.length_map]; exact hlen
    have hl4 : ∀ q ∈ enc ops, q.2.length ≤ 100 := fun q hq => by
      unfold enc at hq
      obtain ⟨x, hx, rfl⟩ := List.mem_map.mp hq
      exact Nat.le_trans (hok.len4 x hx) (by decide)
    have good := hok.good
    have hcnt : cntG (enc ops) = cnt (canon (enc ops)) := by rw [cntG_enc, hok.cnt]
    generalize hos : enc ops = os at *
    have epk4 := (k2.trans (k3.trans k4)).at e1
    walk_at "rd"
    refine ⟨pk, cs, rfl, hc, epk4, fun b d H5 nb nd5 k5 B5 => ?_⟩
    have c5 := c4.trans k5
    have G5 := G4.chg0 k5
    walk_at "rd"
    refine ⟨p, os, rs, rfl, G5, nd, by omega, hl4, fun gv rg H6 ngv k6 G6 nrg => ?_⟩
    have c6 := c5.trans k6
    walk_at "rd"
    refine ⟨a, ns, 2, rfl, SqL.chg c6 hs nm0, by decide, ?_⟩
    walk_at "rd"
    refine ⟨_, 11, 5, rfl, by decide, fun ds2 dl2 H7 hdl2 hdb2 ndl2 k7 e7 => ?_⟩
    have c7 := c6.trans k7
    have G57 := (G5.chg0 k6).chg0 k7
    walk_at "rd"
    refine ⟨p, dl2, ops, rs, ds2, rfl, by rw [hos]; exact G57, hok, hlen, e7, by omega, fun sp os2 rs2 H8 nsp k8 G8 l8 h8 bad => ?_⟩
    have c8 := c7.trans k8
    have k58 : Chg [] H5 H8 := (k6.trans k7).trans k8
    walk_at "rd"
    refine ⟨b, d, sp, cs, os2, rs2, rfl, B5.chg k58 nm0 nm0, hc, G8, l8, h8, fun z => bad z.1, fun H9 k9 => ?_⟩
    have c9 := c8.trans k9
    have k59 := k58.trans k9
    walk_at "rd"
    refine iteF ?_
    walk_at "rd"
    refine ⟨p, os, rs, rfl, G5.chg0 k59, nd, hl4, fun H10 k10 => ?_⟩
    have c10 := c9.trans k10
    have k510 := k59.trans k10
    have G10 := G5.chg0 k510
    have B10 : BookAt K H10 b d cs := B5.chg k510 nm0 nm0
    have Gv10 : GAt H10 gv os rg := ((G6.chg0 k7).chg0 k8).chg0 (k9.trans k10)
    have epk10 := k510.at (k5.at epk4)
    walk_at "rd"
    rw [hcnt]
    refine r_ite (fun hbig => ?_) (fun hsmall => ?_)
    · walk_at "rd"
      refine ⟨b, d, gv, cs, os, rg, rfl, B10, hc, Gv10, by omega, hl4, fun z => by have := z.2; omega, fun H11 k11 => ?_⟩
      walk_at "rd"
      refine iteT ?_
      walk_at "rd"
      refine ⟨2, by decide, .inr ⟨gv, p, _, _, rfl, rfl, (Gv10.chg0 k11).d, (G10.chg0 k11).d, by rw [gD_len Gv10.len, gD_len G10.len], eq_opts (Gv10.chg0 k11) (G10.chg0 k11) nd⟩, ?_⟩
      exact q H11
    · have hc24 : cnt (canon os) ≤ 24 := by omega
      walk_at "rd"
      refine r_make ?_
      walk_at "rd"
      intro m dm hm hdm hne
      have c0 : Chg [] H10 (upd (upd H10 dm (.own m)) m (.ins (He.ga K "Menu") dm [])) := (Chg.new hdm).trans (Chg.new (by rw [upd_ne hne.symm]; exact hm))
      refine ⟨m, dm, b, d, gv, cs, os, rg, rfl, upd_same, B10.chg c0 nm0 nm0, hc, Gv10.chg0 c0, by omega, hl4, fun _ _ H11 mb mdb ml' md mrs cM MM => ⟨rfl, ?_⟩, fun bad2 => absurd ⟨good, hc24⟩ bad2⟩
      have k11 : Chg [] H10 H11 := c0.then cM hm
      have c11 := c10.trans k11
      have G11 := G10.chg0 k11
      have Gv11 := Gv10.chg0 k11
      walk_at "rd"
      refine ⟨2, gv, p, _, _, by decide, rfl, rfl, Gv11.d, G11.d, by rw [gD_len Gv10.len, gD_len G10.len], eq_opts Gv11 G11 nd, ?_⟩
      walk_at "rd"
      refine iteF ?_
      walk_at "rd"
      refine ⟨gv, _, rfl, .inl Gv11.d, fun x1 hx1 => ?_⟩
      generalize eH : upd H11 x1 _ = H12
      obtain ⟨e12, k12, c12, n12⟩ := laid eH c11 hx1
      walk_at "rd"
      refine ⟨p, _, rfl, .inl (G11.chg0 k12).d, fun x2 hx2 => ?_⟩
      generalize eH : upd H12 x2 _ = H13
      obtain ⟨e13, k13, c13, n13⟩ := laid eH c12 hx2
      rw [gD_ks Gv10.len] at e12
      rw [gD_ks G10.len] at e13
      refine ⟨1, x1, x2, _, _, by decide, rfl, rfl, sqL (k13.at e12), sqL e13, paired_of rfl fun j x y hx hy => .inl ⟨by rw [hx] at hy; exact Option.some.inj hy, by
        rw [List.getElem?_map] at hx
        obtain ⟨c, _, rfl⟩ := Option.map_eq_some_iff.mp hx
        rfl⟩, ?_⟩
      walk_at "rd"
      refine iteF ?_
      walk_at "rd"
      have k13' : Chg [] H11 H13 := k12.trans k13
      have k1013 : Chg [] H10 H13 := k11.trans k13'
      have G13 := G11.chg0 k13'
      have MM13 := MM.chg0 k13'
      refine ⟨pk, p, cs, os, rs, rfl, k1013.at epk10, hc, G13, fun du dps H14 ndu k14 BD => ?_⟩
      have c14 := c13.trans k14
      have hdl : (dueN os cs 10).length = cnt (canon os) := due_len
      have hdp : dps.length = (dueN os cs 10).length := BD.len
      have hpos : 0 < cnt (canon os) := cnt_pos good.os.ne
      walk_at "rd"
      refine ⟨(⟨m, cs, canon os, cnt (canon os), mb, mdb, ml', md, mrs⟩ : Gm), du, dueN os cs 10, dps, rfl, MM13.chg0 k14, ⟨hc, good.os⟩, hpos, hc24, BD, due_len, fun j b e => due_get good e, fun H15 k15 => ?_⟩
      have c15 := c14.trans k15
      have MM15 := (MM13.chg0 k14).chg0 k15
      have BD15 := BD.chg0 k15
      have B15 := (B10.chg k1013 nm0 nm0).chg (k14.trans k15) nm0 nm0
      walk_at "rd"
      refine iteF ?_
      walk_at "rd"
      refine ⟨a, ns, 3, rfl, SqL.chg c15 hs nm0, by decide, ?_⟩
      walk_at "rd"
      refine ⟨du, _, rfl, .inl (sqL BD15.l), ?_⟩
      rw [List.length_map]
      refine r_rI (show (0 : Int) < (dps.length : Int) by omega) ?_
      obtain ⟨jn, x, ejn, hjl, hjx⟩ := mod_at (ys := dps) (m := (dps.length : Int)) (cellAt ns 3) rfl (by omega)
      rw [ejn]
      refine r_ixL (sqL BD15.l) (atI_ofNat (by rw [List.getElem?_map, hjx]; rfl)) ?_
      obtain ⟨bj, hbj⟩ : ∃ z, (dueN os cs 10)[jn]? = some z := ⟨(dueN os cs 10)[jn]'(by omega), List.getElem?_eq_getElem _⟩
      have okall : ∀ (j : Nat) (b : List Str), (dueN os cs 10)[j]? = some b → OkB b := fun j b e => by
        rw [due_get good e]
        exact numB_ok good.os.ch good.os.ne hc
      have okj := okall jn bj hbj
      have ex15 := BD15.at_ jn x bj hjx hbj
      walk_at "rd"
      refine ⟨x, dcs bj, rfl, .inl ex15, fun nr hnr => ?_⟩
      generalize eH : upd H15 nr _ = H16
      obtain ⟨e16, k16, c16, n16⟩ := laid eH c15 hnr
      walk_at "rd"
      refine ⟨rfl, fun el hel => ?_⟩
      generalize eH : upd H16 el _ = H17
      obtain ⟨e17, k17, c17, n17⟩ := laid eH c16 hel
      walk_at "rd"
      refine ⟨a, ns, 4, rfl, SqL.chg c17 hs nm0, by decide, ?_⟩
      walk_at "rd"
      obtain ⟨ix, y, eix, hixl, hiy⟩ := mod_at (ys := entriesL) (m := 10) (cellAt ns 4) rfl (by decide)
      have hi10 : ix < 10 := hixl
      have hye : y = ent ix := by
        rw [ent_at hi10] at hiy
        exact (Option.some.inj hiy).symm
      rw [eix]
      refine r_ixL (sqL e17) (atI_ofNat (strs_at (ent_at hi10))) ?_
      walk_at "rd"
      refine ⟨ix, hi10, rfl, fun tl H18 h18 k18 e18 => ?_⟩
      have c18 := c17.trans k18
      have hn := chs_pos ix hi10
      walk_at "rd"
      refine ⟨a, ns, 4, rfl, SqL.chg c18 hs nm0, by decide, ?_⟩
      walk_at "rd"
      refine ⟨tl, _, rfl, .inl (sqL e18), ?_⟩
      rw [List.length_map]
      refine r_rI (show (0 : Int) < ((chs ix).length : Int) by omega) ?_
      obtain ⟨jc, cw, ejc, hjcl, hjcx⟩ := mod_at (ys := chs ix) (m := ((chs ix).length : Int)) (cellAt ns 4 / 10) rfl (by omega)
      rw [ejc]
      refine r_ixL (sqL e18) (atI_ofNat (strs_at hjcx)) ?_
      walk_at "rd"
      have enr18 := k18.at (k17.at e16)
      refine ⟨nr, _, rfl, DPut.k (k := Sum.inr (ent ix)) enr18 (small1000 (by rw [dcs_len okj.len]; decide)), ?_⟩
      rw [dcs_put okj.len hi10]
      generalize eH : upd H18 nr _ = H19
      obtain ⟨e19, k19⟩ := put eH enr18
      have okn : OkB (bj.set ix cw) := okj.set (List.mem_of_getElem? hjcx)
      have k1519 : Chg [] H15 H19 := ((k16.trans k17).trans k18).then k19 hnr
      have c19 : Chg [] H H19 := c15.trans k1519
      have BD19 := BD15.chg0 k1519
      have MM19 := MM15.chg0 k1519
      have B19 := B15.chg k1519 nm0 nm0
      have epk19 := k1519.at (k15.at (k14.at (k1013.at epk10)))
      walk_at "rd"
      refine ⟨by show 2 ≤ sizeLine; decide, fun two h2 => ?_⟩
      generalize eH : upd H19 two _ = H20
      obtain ⟨e20, k20, c20, n20⟩ := laid eH c19 h2
      have hs24 : dps.length ≤ 24 := by omega
      refine ⟨du, two, _, _, rfl, rfl, (BD19.chg0 k20).l, e20, ?_, fun al hal => ?_⟩
      · rw [List.length_map, sizeLine_eq]
        show dps.length + 2 ≤ _
        omega
      generalize eH : upd H20 al _ = H21
      obtain ⟨e21, k21, c21, n21⟩ := laid eH c20 hal
      have k1921 : Chg [] H19 H21 := k20.trans k21
      have BD21 := BD19.chg0 k1921
      have MM21 := MM19.chg0 k1921
      have B21 := B19.chg k1921 nm0 nm0
      have epk21 := k1921.at epk19
      have enr21 := k1921.at e19
      have hxb : ∀ (j : Nat) (y : V), (dps.map V.ref ++ [V.ref nr, V.ref pk])[j]? = some y → ∃ q xj, y = .ref q ∧ H21 q = some (.dK (dcs xj)) ∧ OkB xj := by
        intro j y hy
        by_cases hj : j < dps.length
        · have e1 : dps[j]? = some (dps[j]'hj) := List.getElem?_eq_getElem _
          have e2 : (dueN os cs 10)[j]? = some ((dueN os cs 10)[j]'(by omega)) := List.getElem?_eq_getElem _
          refine ⟨_, _, ?_, BD21.at_ j _ _ e1 e2, okall j _ e2⟩
          rw [List.getElem?_append_left (by rw [List.length_map]; exact hj), List.getElem?_map, e1] at hy
          exact (Option.some.inj hy).symm
        · by_cases hj2 : j = dps.length
          · refine ⟨nr, bj.set ix cw, ?_, enr21, okn⟩
            rw [List.getElem?_append_right (by rw [List.length_map]; omega), List.length_map, hj2, Nat.sub_self] at hy
            exact (Option.some.inj hy).symm
          · refine ⟨pk, cs, ?_, epk21, hc⟩
            rw [List.getElem?_append_right (by rw [List.length_map]; omega), List.length_map] at hy
            obtain ⟨z, hz⟩ : ∃ z, j - dps.length = z + 1 := ⟨j - dps.length - 1, by omega⟩
            rw [hz] at hy
            cases z with
            | zero => exact (Option.some.inj hy).symm
            | succ z => exact absurd hy (by simp)
      refine ⟨al, rfl, ⟨_, sqL e21⟩, ?_⟩
      refine for_list (K := K) (a := al) (xs := dps.map V.ref ++ [V.ref nr, V.ref pk]) (fun j σ H' => ∃ (v11 v12 : Option V), σ = [some (.ref a), some (.ref pk), some (.ref dl), some (.ref p), some (.ref b), some (.ref gv), some (.ref m), some (.ref du), some (.ref nr), some (.str (ent ix)), some (.ref tl), v11, v12] ∧ Chg [] H21 H') ⟨none, none, rfl, Chg.refl⟩
        (fun j σ H' _ ⟨_, _, _, c⟩ => sqL (c.at e21)) ?_ ?_
      · rintro j y σ H22 hy ⟨v11, v12, rfl, c22⟩
        obtain ⟨x, xj, rfl, ex, okx⟩ := hxb j y hy
        walk_at "rd"
        refine ⟨x, xj, rfl, okx, c22.at ex, fun lb ld H23 nlb nld k23 Bq => ?_⟩
        have c23 := c22.trans k23
        have MM23 := MM21.chg0 c23
        have BD23 := BD21.chg0 c23
        have ex23 := c23.at ex
        walk_at "rd"
        obtain ⟨dmm, emm⟩ := MM23.ins
        refine ⟨m, dmm, _, rfl, emm, m, mb, ml', md, mdb, lb, ld, cs, xj, canon os, _, mrs, rfl, MM23, hc, okx, Bq, _, rfl, ?_⟩
        rw [inMenu_due good hc.len okx.len]
        walk_at "rd"
        refine ⟨_, _, .type "bool", _, true, rfl, .ty "bool", .base (.bl _), by rfl, ?_⟩
        refine ⟨_, rfl, ?_⟩
        refine iteF ?_
        walk_at "rd"
        refine ⟨x, du, dps, fun t => decide ((dueN os cs 10).getD t [] = xj), rfl, rfl, sqL BD23.l, fun t pt ht => ?_, ?_⟩
        · obtain ⟨bt, hbt⟩ : ∃ z, (dueN os cs 10)[t]? = some z := by
            have := (List.getElem?_eq_some_iff.mp ht).1
            exact ⟨(dueN os cs 10)[t]'(by omega), List.getElem?_eq_getElem _⟩
          show DkEq H23 pt x (decide ((dueN os cs 10).getD t [] = xj))
          rw [List.getD_eq_getElem?_getD, hbt]
          exact dkEq_dcs (okall t bt hbt).len okx.len (BD23.at_ t pt bt ht hbt) ex23
        have hany : (List.range dps.length).any (fun t => decide ((dueN os cs 10).getD t [] = xj)) = decide (xj ∈ dueN os cs 10) := by
          rw [Bool.eq_iff_iff, List.any_eq_true, decide_eq_true_eq]
          constructor
          · rintro ⟨t, ht, e⟩
            have ht := List.mem_range.mp ht
            have e := of_decide_eq_true e
            rw [List.getD_eq_getElem?_getD, List.getElem?_eq_getElem (by omega)] at e
            rw [← e]
            exact List.getElem_mem _
          · intro h
            obtain ⟨t, ht, e⟩ := List.getElem_of_mem h
            refine ⟨t, List.mem_range.mpr (by omega), decide_eq_true ?_⟩
            rw [List.getD_eq_getElem?_getD, List.getElem?_eq_getElem ht]
            exact e
        rw [hany]
        walk_at "rd"
        rw [decide_eq_true rfl, Bool.not_true]
        refine iteF ?_
        walk_at "rd"
        exact ⟨_, _, rfl, c23⟩
      · rintro σ H22 ⟨v11, v12, rfl, c22⟩
        walk_at "rd"
        refine ⟨b, d, cs, rfl, B21.chg c22 nm0 nm0, hc, fun rb H23 nrb k23 e23 => ?_⟩
        walk_at "rd"
        refine ⟨rb, pk, dcs cs, dcs cs, rfl, rfl, e23, k23.at (c22.at epk21), rfl, fun q hq => dcs_all hc.len q hq, ?_⟩
        exact q _
end
end Sm
set_option maxHeartbeats 4000000
namespace Sm
open PySem PySem.Spec PyProof.Rows L2
abbrev R : PySem.W.OpenRow := PySem.W.OpenLaw.row PySem.Challenge.rw_stickymarks_k53_menu_of_any_options
abbrev hk : PySem.W.Hook := hookX 5 ts fn tb
def ob (s : PySem.W.SharedT) : AlX := seenG 5 ts fn tb (HandSHeadRun.getT s)
def names : List PySem.Str := (["_wall", "__name__", "MarkError", "InvalidBook", "InvalidInput", "ENTRIES", "CHOICES", "Book", "below", "MOST_BOOKS", "Menu", "_law_cell", "_law_entries", "_law_choices", "_law_picks", "_law_book", "_law_digits", "_law_large_options", "_law_menu_books", "_law_read_book", "_law_refused", "_law_copied", "_law_count", "_law_spoilt", "_law_walked"] : List PySem.Str)
theorem ob_eq (s : PySem.W.SharedT) : ob s = hk.obs s.abs := seenG_eq (HandSHeadRun.getT_eq s)
theorem run0 (w : World) : HandSHeadRun.RunEq R (PySem.W.view R.prog [28]) hk ob 6000 names (w.withFollow "special-get-raises" false) := by
  intro os
  kernel_rfl
theorem run1 (w : World) : HandSHeadRun.RunEq R (PySem.W.view R.prog [28]) hk ob 6000 names (w.withFollow "special-get-raises" true) := by
  intro os
  kernel_rfl
theorem run (w : World) : HandSHeadRun.RunEq R (PySem.W.view R.prog [28]) hk ob 6000 names w :=
  PySem.W.byRow2 "special-get-raises" (P := fun w => HandSHeadRun.RunEq R (PySem.W.view R.prog [28]) hk ob 6000 names w) run0 run1 w
end Sm
set_option maxHeartbeats 4000000
open PySem PySem.W PySem.Calls PyProof.Rows
theorem PySem.Challenge.cw_stickymarks_k53_menu_of_any_options_holds : PySem.Challenge.rw_stickymarks_k53_menu_of_any_options.Holds := by
  w_on; o_law
  refine HandSHeadRun.head_any (r := OpenLaw.row PySem.Challenge.rw_stickymarks_k53_menu_of_any_options) (q := view Sm.R.prog [28]) (H := Sm.hk) (ob := Sm.ob) (M := 6000) (loose := Sm.names) (d := HandSHeadRun.topDef Sm.R.prog 28) (kwd := []) Sm.ob_eq
    (by kernel_rfl) (fun s => by kernel_rfl) Sm.run (by kernel_rfl) (by kernel_rfl) (by kernel_rfl) (by rfl) (by first | assumption | decide +kernel) (by decide +kernel) ⟨rfl, rfl, rfl, rfl, rfl, by decide +kernel⟩ ?hw ?hc
  case hw => w_witness2
  case hc =>
    refine L2.walk_ofE (l := PySem.Challenge.rw_stickymarks_k53_menu_of_any_options) (n := 63) (k := 9) (x := "script") (CX := L2.CX0) rfl (by decide) (by kernel_rfl) ⟨rfl, by decide, by decide⟩ ?F (fun _ _ _ _ z => z)
    intro w mg fa h Y G hmg0
    obtain ⟨K, KX, c⟩ := Y
    have hmg : mg ("law" : PySem.Str) = some (.ref fa) := by
      have e : (HandSHeadRun.topDef Sm.R.prog 28).name = ("law" : PySem.Str) := by kernel_rfl
      rw [← e]
      exact hmg0
    have T : Sm.Tx w K mg := ⟨⟨h, KX, G⟩, c⟩
    have e := hmg.symm.trans T.g_law
    cases e
    obtain ⟨fd, F⟩ := T.F_law
    refine ⟨K, fd, Sm.sp_law K, KX, fun s v => ?_, fun H a ns hl _ hS => ⟨a, ns, rfl, hS, fun _ => rfl⟩, fun base hb hn => ?_⟩
    · obtain ⟨oc, od, kV, doc, pm, an, cdv, ct, osl, rfl, _, _⟩ := F.ex
      exact .of_eq rfl
    · exact Sm.ok_law (P := (PySem.Challenge.rw_stickymarks_k53_menu_of_any_options).prog) (w := w) (base := base) T F
