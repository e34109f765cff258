import PyProof.Rows.All
import Wide.All
import OpenK.AllK
import Wide.FinOn
import HandS.ForMost
import HandS.ForSpec
import HandS.More
import HandS.Wide
import HandS.Codes
import Lean
import KE.KStateDown
import HandS.Defaults
import HandS.MakeKwOnly
import HandS.Property
import HandS.Head0
import HandS.Head1
import HandS.Head2
import HandS.HeadEnd
import HandS.HeadHook1
import HandS.HeadHook2
import HandS.HeadHook3
import HandS.SlotsOwn
import HandS.DictComp
import HandS.ExcIs
import HandS.IsInst
import KE.KOpsOwn
import PySem.Challenge.RW_stickymarks_k56_book_text_again
set_option Elab.async false
set_option linter.all false
set_option maxRecDepth 100000
set_option maxHeartbeats 4000000
namespace Sm
open PySem PySem.Spec PyProof.Rows L2
/-! ### what changes and what stays -/
structure Chg (S : List Addr) (H H' : Hp) : Prop where
  keep : ∀ b o, H b = some o → b ∉ S → H' b = some o
  there : ∀ b, H' b = none → H b = none
section
variable {S S' : List Addr} {H H1 H2 H' : Hp} {a b p : Addr} {o u : HO} {K : PySem.W.Frag} {xs : List V}
theorem Chg.refl : Chg S H H := ⟨fun _ _ h _ => h, fun _ h => h⟩
theorem Chg.trans (c : Chg S H H1) (d : Chg S H1 H2) : Chg S H H2 := ⟨fun b o h n => d.keep b o (c.keep b o h n) n, fun b h => c.there b (d.there b h)⟩
theorem Chg.sub (c : Chg S H H1) (h : ∀ x ∈ S, x ∈ S') : Chg S' H H1 := ⟨fun b o e n => c.keep b o e fun z => n (h b z), c.there⟩
theorem Chg.up (c : Chg [] H H1) : Chg S H H1 := c.sub (fun _ z => nomatch z)
theorem Chg.new (h : H p = none) : Chg S H (upd H p o) := ⟨fun b u e _ => by rw [upd_ne (ne_of_none e h)]; exact e, fun b e => by
  by_cases z : b = p
  · rw [z, upd_same] at e; cases e
  · rw [upd_ne z] at e; exact e⟩
theorem Chg.set (h : H p = some u) (hm : p ∈ S) : Chg S H (upd H p o) := ⟨fun b v e n => by rw [upd_ne (fun z => n (by rw [z]; exact hm))]; exact e, fun b e => by
  by_cases z : b = p
  · rw [z, upd_same] at e; cases e
  · rw [upd_ne z] at e; exact e⟩
/-- what was not there may be changed -/
theorem Chg.drop (c : Chg (p :: S) H H1) (h : H p = none) : Chg S H H1 := ⟨fun b o e n => c.keep b o e fun z => by
  rcases List.mem_cons.mp z with z | z
  · rw [z, h] at e; cases e
  · exact n z, c.there⟩
theorem Chg.fresh (c : Chg S H H1) (h : H1 p = none) : H p = none := c.there p h
theorem Chg.at (c : Chg [] H H1) (h : H b = some o) : H1 b = some o := c.keep b o h (fun z => nomatch z)
theorem Chg.at1 (c : Chg [a] H H1) (h : H b = some o) (n : b ≠ a) : H1 b = some o := c.keep b o h (fun z => n (List.mem_singleton.mp z))
theorem Rd.chg (c : Chg S H H1) (h : Rd H b o) (n : b ∉ S) : Rd H1 b o := by
  rcases h with h | ⟨u, h⟩
  · exact .inl (c.keep _ _ h n)
  · exact .inr ⟨u, c.keep _ _ h n⟩
theorem SqL.chg (c : Chg S H H1) (h : SqL K H b xs) (n : b ∉ S) : SqL K H1 b xs := by
  rcases h with h | h
  · exact .inl (Rd.chg c h n)
  · exact .inr h
theorem SqT.chg (c : Chg S H H1) (h : SqT K H b xs) (n : b ∉ S) : SqT K H1 b xs := by
  rcases h with h | h
  · exact .inl (Rd.chg c h n)
  · exact .inr h
theorem sqL (h : H b = some (.lst xs)) : SqL K H b xs := .inl (.inl h)
theorem sqT (h : H b = some (.tup xs)) : SqT K H b xs := .inl (.inl h)
theorem nm0 : b ∉ ([] : List Addr) := fun z => nomatch z
theorem nm1 (h : b ≠ a) : b ∉ [a] := fun z => h (List.mem_singleton.mp z)
end
section
variable {S : List Addr} {H0 H H' : Hp} {p : Addr} {o u : HO}
theorem laid (e : upd H p o = H') (c : Chg S H0 H) (h : H p = none) : H' p = some o ∧ Chg [] H H' ∧ Chg S H0 H' ∧ H0 p = none := by
  subst e; exact ⟨upd_same, Chg.new h, c.trans (Chg.new h), c.fresh h⟩
theorem put (e : upd H p o = H') (h : H p = some u) : H' p = some o ∧ Chg [p] H H' := by
  subst e; exact ⟨upd_same, Chg.set h (List.mem_singleton.mpr rfl)⟩
/-- a new object may be changed -/
theorem Chg.then {H1 : Hp} (c : Chg S H0 H) (d : Chg [p] H H1) (n : H0 p = none) : Chg S H0 H1 := ⟨fun b x e nb => d.keep b x (c.keep b x e nb) (nm1 (ne_of_none e n)), fun b e => c.there b (d.there b e)⟩
end
/-! ### the reading, a word at a time -/
section
variable {σ : L2.St} {H : Hp} {Q : VK} {v x y : V} {i j : Int} {D : Ends} {te ta tb : TE} {tc : TT} {t u : TS} {g : TG} {tr : TA} {K : PySem.W.Frag}
theorem r_seq (h : t { D with nx := u D } σ H) : tSeq t u D σ H := h
theorem r_asg (h : te σ H fun x H1 => g x σ H1 D.nx) : tAsg te g D σ H := h
theorem r_gname {k : Nat} {Q : L2.St → Hp → Prop} (h : Q (σ.set k (some v)) H) : gName k v σ H Q := h
theorem r_var {k : Nat} (e : σ[k]? = some (some v)) (h : Q v H) : tVar k σ H Q := ⟨v, e, h⟩
theorem r_c (h : Q v H) : tC v σ H Q := h
theorem r_ret (h : te σ H D.rt) : tRet te D σ H := h
theorem r_retN (h : D.rt .non H) : tRetN D σ H := h
theorem r_drop (h : te σ H fun _ H1 => D.nx σ H1) : tDrop te D σ H := h
theorem r_next (h : D.nx σ H) : tNext D σ H := h
theorem r_ifs (h : tc σ H fun b H1 => if b = true then t D σ H1 else u D σ H1) : tIfS tc t u D σ H := h
theorem r_op {r : R2} (h : ta σ H fun x H1 => tb σ H1 fun y H2 => r x y H2 Q) : tOp r ta tb σ H Q := h
theorem r_rI0 {f : Int → Int → V} (h : Q (f i j) H) : rI0 f (.int i) (.int j) H Q := ⟨i, j, rfl, rfl, h⟩
theorem r_rI {C : Int → Int → Prop} {f : Int → Int → V} (c : C i j) (h : Q (f i j) H) : rI C f (.int i) (.int j) H Q := ⟨i, j, rfl, rfl, c, h⟩
theorem r_rEq (s : scal x y = true) (h : Q (.bl (decide (x = y))) H) : rEq x y H Q := ⟨s, h⟩
theorem r_rNe (s : scal x y = true) (h : Q (.bl (!decide (x = y))) H) : rNe x y H Q := ⟨s, h⟩
theorem r_test {R : Bool → Hp → Prop} (h : te σ H fun x H' => ∃ k, x = .bl k ∧ R k H') : tTest te σ H R := h
theorem r_tb {R : Bool → Hp → Prop} (h : te σ H fun x H' => ∃ k, x = .bl k ∧ R k H') : tB te σ H R := h
theorem r_isb {b : Bool} {R : Bool → Hp → Prop} (h : R b H) : ∃ k, V.bl b = .bl k ∧ R k H := ⟨b, rfl, h⟩
theorem r_nil {R : List V → Hp → Prop} (h : R [] H) : tNil σ H R := h
theorem r_cons {R : List V → Hp → Prop} (h : ta σ H fun x H1 => tr σ H1 fun xs H2 => R (x :: xs) H2) : tCons ta tr σ H R := h
theorem r_cb {r : List V → Hp → VK → Prop} (h : tr σ H fun vs H1 => r vs H1 Q) : tCB r tr σ H Q := h
theorem r_call {sp : Sp} {dvs : List V} {E : XK} (h : tr σ H fun vs H1 => sp (vs ++ dvs) H1 Q E) : tCall sp dvs E tr σ H Q := h
theorem r_not {tt : TT} {R : Bool → Hp → Prop} (h : tt σ H fun c H1 => R (!c) H1) : tNot tt σ H R := h
theorem r_and {tt t2 : TT} {R : Bool → Hp → Prop} (h : tt σ H fun c H1 => if c = true then t2 σ H1 R else R false H1) : tAnd tt t2 σ H R := h
theorem r_or {tt t2 : TT} {R : Bool → Hp → Prop} (h : tt σ H fun c H1 => if c = true then R true H1 else t2 σ H1 R) : tOr tt t2 σ H R := h
theorem r_lst (h : tr σ H fun xs H1 => xs.length ≤ sizeLine ∧ ∀ p, H1 p = none → Q (.ref p) (upd H1 p (.lst xs))) : tLst tr σ H Q := h
theorem r_tup (h : tr σ H fun xs H1 => xs.length ≤ sizeLine ∧ ∀ p, H1 p = none → Q (.ref p) (upd H1 p (.tup xs))) : tTup tr σ H Q := h
theorem r_ite {c A B : Prop} {_ : Decidable c} (h1 : c → A) (h2 : ¬ c → B) : if decide c = true then A else B := by
  by_cases h : c
  · rw [decide_eq_true h, if_pos rfl]; exact h1 h
  · rw [decide_eq_false h, if_neg Bool.false_ne_true]; exact h2 h
theorem r_iteN {c A B : Prop} {_ : Decidable c} (h1 : ¬ c → A) (h2 : c → B) : if (!decide c) = true then A else B := by
  by_cases h : c
  · rw [decide_eq_true h]; exact h2 h
  · rw [decide_eq_false h]; exact h1 h
theorem r_iteB {c : Bool} {A B : Prop} (h1 : c = true → A) (h2 : c = false → B) : if c = true then A else B := by
  cases c with
  | true => exact h1 rfl
  | false => exact h2 rfl
theorem r_int1 (h : Q (.int i) H) : (∃ i', [V.int i] = [.int i'] ∧ Q (.int i') H) ∨ ∃ k, [V.int i] = [.bl k] ∧ Q (.int (if k then 1 else 0)) H := .inl ⟨i, rfl, h⟩
theorem r_lenL {p : Addr} {ys : List V} (e : SqL K H p ys) (h : Q (.int ys.length) H) : ∃ p' ys', [V.ref p] = [.ref p'] ∧ (SqL K H p' ys' ∨ SqT K H p' ys') ∧ Q (.int ys'.length) H := ⟨p, ys, rfl, .inl e, h⟩
theorem r_lenT {p : Addr} {ys : List V} (e : SqT K H p ys) (h : Q (.int ys.length) H) : ∃ p' ys', [V.ref p] = [.ref p'] ∧ (SqL K H p' ys' ∨ SqT K H p' ys') ∧ Q (.int ys'.length) H := ⟨p, ys, rfl, .inr e, h⟩
theorem r_ixL {p : Addr} {xs : List V} (e : SqL K H p xs) (a : atI xs i = some v) (h : Q v H) : rIxL K (.ref p) (.int i) H Q := ⟨p, xs, i, v, rfl, rfl, e, a, h⟩
theorem r_ixT {p : Addr} {xs : List V} (e : SqT K H p xs) (a : atI xs i = some v) (h : Q v H) : rIxT K (.ref p) (.int i) H Q := ⟨p, xs, i, v, rfl, rfl, e, a, h⟩
theorem r_dget {td ty : TE} (h : td σ H fun x H1 => ty σ H1 fun y H2 => ∃ a v, x = .ref a ∧ DGet H2 a y (some v) ∧ Q v H2) : tDGet td ty σ H Q := h
theorem r_dput {td ty tv : TE} (h : tv σ H fun v H1 => td σ H1 fun x H2 => ty σ H2 fun y H3 => ∃ a H4, x = .ref a ∧ DPut H3 a y v H4 ∧ D.nx σ H4) : sDPut td ty tv D σ H := h
theorem r_for {wi : TI} {g : TG} {tb : TS} (h : wi σ H fun J H1 => ∃ W : Nat → Nat → L2.St → Hp → Prop, (∃ m, W 0 m σ H1) ∧ ∀ i m σ H, W i m σ H →
  (J.stop i H ∧ D.nx σ H) ∨ (J.go i H ∧ ∃ N : L2.St → Hp → Prop, (∀ σ' H', N σ' H' → ∃ m', m' < m ∧ W (i + 1) m' σ' H') ∧ ∀ x H', J.yld i H x H' → g x σ H' fun σ2 H2 => tb { D with nx := N, ct := N, bk := D.nx } σ2 H2)) : tFor wi g tb D σ H := h
theorem r_rng1 {R : It → Hp → Prop} (h : tr σ H fun vs H1 => ∃ j : Int, vs = [.int j] ∧ -(2 ^ 62) ≤ j ∧ j < 2 ^ 62 ∧ R (Itr 0 j.toNat) H1) : iRng1 tr σ H R := h
theorem r_rng2 {R : It → Hp → Prop} (h : tr σ H fun vs H1 => ∃ i j : Int, vs = [.int i, .int j] ∧ (-(2 ^ 62) ≤ i ∧ i < 2 ^ 62 ∧ -(2 ^ 62) ≤ j ∧ j < 2 ^ 62) ∧ R (Itr i (j - i).toNat) H1) : iRng2 tr σ H R := h
theorem r_ilist {R : It → Hp → Prop} (h : te σ H fun x H1 => ∃ a, x = .ref a ∧ (∃ xs, SqL K H1 a xs) ∧ R (Itl K a) H1) : iList K te σ H R := h
theorem r_itup {R : It → Hp → Prop} (h : te σ H fun x H1 => ∃ a, x = .ref a ∧ (∃ xs, SqT K H1 a xs) ∧ R (Itt K a) H1) : iTup K te σ H R := h
theorem r_m0 {r : V → List V → Hp → VK → Prop} (h : te σ H fun x H1 => (∃ a, x = .str a) ∧ r x [] H1 Q) : tM0 r te σ H Q := h
theorem r_m1 {r : V → List V → Hp → VK → Prop} (h : ta σ H fun x H1 => (∃ a, x = .str a) ∧ te σ H1 fun y H2 => r x [y] H2 Q) : tM1 r ta te σ H Q := h
theorem r_isStr {s : Str} {A : Prop} (h : A) : (∃ a, V.str s = .str a) ∧ A := ⟨⟨s, rfl⟩, h⟩
theorem r_newS {ys : List Str} (h : ∀ p, H p = none → Q (.ref p) (upd H p (.lst (ys.map V.str)))) : rNewStrs ys H Q := h
theorem r_fld {f : Str} (h : te σ H fun x H1 => ∃ a C dx fs v, x = .ref a ∧ H1 a = some (.ins C dx fs) ∧ Cls K C ∧ NoAttr K C f ∧ fs.lookup f = some v ∧ Q v H1) : tFld K te f σ H Q := h
theorem r_bm {T : String} {r : V → List V → Hp → VK → Prop} (h : te σ H fun x H1 => tyV K T x H1 ∧ tr σ H1 fun xs H2 => r x xs H2 Q) : tBM K T r te tr σ H Q := h
theorem r_bm0 {T : String} {r : V → List V → Hp → VK → Prop} (h : te σ H fun x H1 => tyV K T x H1 ∧ r x [] H1 Q) : tBM0 K T r te σ H Q := h
theorem r_sl {r : V → Option Int → Option Int → Hp → VK → Prop} {tl th : TO} (h : te σ H fun x H1 => tl σ H1 fun l H2 => th σ H2 fun u H3 => r x l u H3 Q) : tSl r te tl th σ H Q := h
theorem r_nopart {R : Option Int → Hp → Prop} (h : R none H) : tNoPart σ H R := h
theorem r_part {R : Option Int → Hp → Prop} (h : te σ H fun x H1 => ∃ i, x = .int i ∧ R (some i) H1) : tPart te σ H R := h
theorem r_disp {trs : List (TE × TE)} (h : ∀ p, H p = none → tPairs trs σ (upd H p (.dK [])) fun ps H2 => H2 p = some (.dK []) ∧ ∃ kvs : List (Key × V), ps = kvs.map (fun kv => (kV kv.1, kv.2)) ∧ kvs.length ≤ 15 ∧ Q (.ref p) (upd H2 p (.dK (mergeK [] kvs)))) : tDisp trs σ H Q := h
theorem r_pcons {tk tv : TE} {r : List (TE × TE)} {R : List (V × V) → Hp → Prop} (h : tk σ H fun x H1 => tv σ H1 fun y H2 => tPairs r σ H2 fun ps H3 => R ((x, y) :: ps) H3) : tPairs ((tk, tv) :: r) σ H R := h
theorem r_pnil {R : List (V × V) → Hp → Prop} (h : R [] H) : tPairs [] σ H R := h
theorem r_dget2 {td ty tx : TE} (h : td σ H fun x H1 => ∃ a, x = .ref a ∧ IsD H1 a ∧ ty σ H1 fun y H2 => tx σ H2 fun z H3 => ∃ o, DGet H3 a y o ∧ Q (o.getD z) H3) : tDGet2 td ty tx σ H Q := h
theorem r_dget1 {td ty : TE} (h : td σ H fun x H1 => ∃ a, x = .ref a ∧ IsD H1 a ∧ ty σ H1 fun y H2 => ∃ o, DGet H2 a y o ∧ Q (o.getD .non) H2) : tDGet1 td ty σ H Q := h
theorem isD {a' : Addr} {kvs : List (Key × V)} (e : H a' = some (.dK kvs)) : IsD H a' := .inl ⟨kvs, .inl e⟩
theorem r_lc {wi : TI} {g : TG} {tt : TT} {vs : List Nat} (h : wi σ H fun J H1 => ∀ D, H1 D = none → ∃ W : Nat → Nat → Hp → Prop, (∃ m, W 0 m (upd H1 D (.lst []))) ∧ ∀ i m H, W i m H → (J.stop i H ∧ Q (.ref D) H) ∨ (J.go i H ∧ ∃ Nx : Hp → Prop, (∀ H', Nx H' → ∃ m', m' < m ∧ W (i + 1) m' H') ∧
  ∀ x H', J.yld i H x H' → g x (wipe σ vs) H' fun σ2 H2 => wipe σ2 vs = wipe σ vs ∧ tt σ2 H2 fun b H3 => if b = true then te σ2 H3 fun y H4 => ∃ acc, H4 D = some (.lst acc) ∧ acc.length < sizeLine ∧ Nx (upd H4 D (.lst (acc ++ [y]))) else Nx H3)) : tLc wi g tt te vs σ H Q := h
theorem r_yes {R : Bool → Hp → Prop} (h : R true H) : tYes σ H R := h
theorem r_un {r : V → Hp → VK → Prop} (h : te σ H fun x H1 => r x H1 Q) : tUn r te σ H Q := h
theorem r_rU {f : Int → V} (h : Q (f i) H) : rU f (.int i) H Q := ⟨i, rfl, h⟩
theorem r_andV (h : ta σ H fun x H1 => ∃ c, x = .bl c ∧ if c = true then tb σ H1 Q else Q (.bl false) H1) : tAndV ta tb σ H Q := h
theorem r_orV (h : ta σ H fun x H1 => ∃ c, x = .bl c ∧ if c = true then Q (.bl true) H1 else tb σ H1 Q) : tOrV ta tb σ H Q := h
theorem r_notV (h : ta σ H fun x H1 => ∃ c, x = .bl c ∧ Q (.bl (!c)) H1) : tNotV ta σ H Q := h
theorem r_rAppend {l : Addr} {xs : List V} (e : H l = some (.lst xs)) (z : xs.length < sizeLine) (h : Q .non (upd H l (.lst (xs ++ [y])))) : rAppend (.ref l) [y] H Q := ⟨l, xs, y, rfl, rfl, e, z, h⟩
theorem r_dnewK (h : ∀ p, H p = none → Q (.ref p) (upd H p (.dK []))) : tDNewK σ H Q := h
theorem strs_at {ys : List Str} {n : Nat} {x : Str} (h : ys[n]? = some x) : (ys.map V.str)[n]? = some (.str x) := by rw [List.getElem?_map, h]; rfl
theorem ints_at {ys : List Int} {n : Nat} {x : Int} (h : ys[n]? = some x) : (ys.map V.int)[n]? = some (.int x) := by rw [List.getElem?_map, h]; rfl
theorem mod_at {α : Type} {ys : List α} {m : Int} (k : Int) (h : (ys.length : Int) = m) (h0 : 0 < m) : ∃ n y, (k % m) = ((n : Nat) : Int) ∧ n < ys.length ∧ ys[n]? = some y := by
  have a := Int.emod_nonneg k (show m ≠ 0 by omega)
  have b := Int.emod_lt_of_pos k h0
  have e : (((k % m).toNat : Nat) : Int) = k % m := Int.toNat_of_nonneg a
  have l : (k % m).toNat < ys.length := by omega
  exact ⟨(k % m).toNat, ys[(k % m).toNat], e.symm, l, List.getElem?_eq_getElem l⟩
theorem atI_ofNat {xs : List V} {n : Nat} (h : xs[n]? = some v) : atI xs (n : Int) = some v := by
  have hl : n < xs.length := (List.getElem?_eq_some_iff.mp h).1
  unfold atI ixN
  rw [if_pos (Int.natCast_nonneg n), if_pos (by omega), Option.bind_some, Int.toNat_natCast]
  exact h
theorem atI_of {xs : List V} {k : Int} (h0 : 0 ≤ k) (h : xs[k.toNat]? = some v) : atI xs k = some v := by
  have e : ((k.toNat : Nat) : Int) = k := Int.toNat_of_nonneg h0
  rw [← e]
  exact atI_ofNat h
end
end Sm
set_option maxHeartbeats 4000000
namespace Sm
open PySem PySem.Spec PyProof.Rows L2
/-! ### books as lists of ten choices -/
def entriesL : List Str := ["work", "write", "meet", "test", "partly", "value", "path", "loop", "guard", "call"]
def choicesL : List (List Str) := [["drop", "left", "short", "join"], ["raise", "partly", "skip", "stop"], ["leave", "raise"], ["ignore", "raise", "stop"], ["pass", "stop"], ["show", "blank", "skip", "stop"],
  ["show", "blank", "skip", "stop"], ["forget", "stick", "stop"], ["forget", "stick", "stop"], ["forget", "stick", "stop"]]
theorem entries_len : entriesL.length = 10 := rfl
theorem choices_len : choicesL.length = 10 := rfl
theorem entries_nd : entriesL.Nodup := by decide +kernel
/-- the choices at the i-th entry -/
def chs (i : Nat) : List Str := choicesL.getD i []
def ent (i : Nat) : Str := entriesL.getD i ""
theorem chs_at {i : Nat} (h : i < 10) : choicesL[i]? = some (chs i) := by
  unfold chs; rw [List.getD_eq_getElem?_getD, List.getElem?_eq_getElem (by rw [choices_len]; exact h)]; rfl
theorem ent_at {i : Nat} (h : i < 10) : entriesL[i]? = some (ent i) := by
  unfold ent; rw [List.getD_eq_getElem?_getD, List.getElem?_eq_getElem (by rw [entries_len]; exact h)]; rfl
theorem ent_injF : ∀ i j : Fin 10, ent i = ent j → i = j := by decide +kernel
theorem ent_inj {i j : Nat} (hi : i < 10) (hj : j < 10) (h : ent i = ent j) : i = j := congrArg Fin.val (ent_injF ⟨i, hi⟩ ⟨j, hj⟩ h)
theorem ten {P : Nat → Prop} (h0 : P 0) (h1 : P 1) (h2 : P 2) (h3 : P 3) (h4 : P 4) (h5 : P 5) (h6 : P 6) (h7 : P 7) (h8 : P 8) (h9 : P 9) : ∀ i, i < 10 → P i := fun i h => by
  rcases i with _ | _ | _ | _ | _ | _ | _ | _ | _ | _ | i
  all_goals first | assumption | omega
theorem chs_pos : ∀ i, i < 10 → 2 ≤ (chs i).length ∧ (chs i).length ≤ 4 := ten (by decide) (by decide) (by decide) (by decide) (by decide) (by decide) (by decide) (by decide) (by decide) (by decide)
/-- ten choices, each one of its entry -/
structure OkB (cs : List Str) : Prop where
  len : cs.length = 10
  ch : ∀ i c, cs[i]? = some c → c ∈ chs i
/-- the dict of a book -/
def dcs (cs : List Str) : List (Key × V) := (entriesL.zip cs).map fun p => (Sum.inr p.1, V.str p.2)
theorem dcs_len {cs : List Str} (h : cs.length = 10) : (dcs cs).length = 10 := by
  unfold dcs; rw [List.length_map, List.length_zip, h, entries_len]; rfl
theorem dcs_at {cs : List Str} {i : Nat} {c : Str} (hi : i < 10) (h : cs[i]? = some c) : (dcs cs)[i]? = some (Sum.inr (ent i), V.str c) := by
  unfold dcs
  rw [List.getElem?_map, (List.getElem?_zip_eq_some (z := (ent i, c))).mpr ⟨ent_at hi, h⟩]; rfl
theorem dcs_keys {cs : List Str} (h : cs.length = 10) : (dcs cs).map (·.1) = entriesL.map Sum.inr := by
  unfold dcs
  rw [List.map_map]
  show (entriesL.zip cs).map (fun p => (Sum.inr p.1 : Key)) = _
  have e : (entriesL.zip cs).map Prod.fst = entriesL := List.map_fst_zip (by rw [h, entries_len]; exact Nat.le_refl _)
  conv => rhs; rw [← e]
  rw [List.map_map]; rfl
theorem dcs_nd {cs : List Str} (h : cs.length = 10) : ((dcs cs).map (·.1)).Nodup := by
  rw [dcs_keys h]; decide +kernel
theorem valV_of_nd {κ : Type} [DecidableEq κ] : ∀ {kvs : List (κ × V)} {i : Nat} {k : κ} {v : V}, (kvs.map (·.1)).Nodup → kvs[i]? = some (k, v) → valV kvs k = some v
  | [], _, _, _, _, h => by simp at h
  | p :: r, 0, k, v, _, h => by
    simp at h; subst h; exact valV_pos rfl
  | p :: r, i + 1, k, v, nd, h => by
    simp only [List.map_cons, List.nodup_cons] at nd
    have h2 : r[i]? = some (k, v) := by simpa using h
    have hm : k ∈ r.map (·.1) := List.mem_map.mpr ⟨(k, v), List.mem_of_getElem? h2, rfl⟩
    rw [valV_neg fun z => nd.1 (by rw [z]; exact hm)]
    exact valV_of_nd nd.2 h2
theorem dcs_get {cs : List Str} {i : Nat} {c : Str} (hl : cs.length = 10) (hi : i < 10) (h : cs[i]? = some c) : valV (dcs cs) (Sum.inr (ent i) : Key) = some (.str c) := valV_of_nd (dcs_nd hl) (dcs_at hi h)
theorem dcs_put {cs : List Str} {i : Nat} {c : Str} (hl : cs.length = 10) (hi : i < 10) : putK (dcs cs) (Sum.inr (ent i) : Key) (.str c) = dcs (cs.set i c) := by
  have hc : i < cs.length := by omega
  have hv : valV (dcs cs) (Sum.inr (ent i) : Key) = some (.str (cs[i])) := dcs_get hl hi (List.getElem?_eq_getElem hc)
  unfold putK
  rw [valV_any, hv]
  show (if true = true then _ else _) = _
  rw [if_pos rfl]
  refine List.ext_getElem? fun j => ?_
  rw [List.getElem?_map]
  by_cases hj : j < 10
  · have hjc : j < cs.length := by omega
    rw [dcs_at hj (List.getElem?_eq_getElem hjc)]
    by_cases e : j = i
    · subst e
      rw [dcs_at hj (c := c) (by rw [List.getElem?_set_self hc])]
      show some (if (Sum.inr (ent j) : Key) = Sum.inr (ent j) then _ else _) = _
      rw [if_pos rfl]
    · rw [dcs_at hj (c := cs[j]) (by rw [List.getElem?_set_ne (Ne.symm e)]; exact List.getElem?_eq_getElem hjc)]
      show some (if (Sum.inr (ent j) : Key) = Sum.inr (ent i) then _ else _) = _
      rw [if_neg fun z => e (ent_inj hj hi (Sum.inr.inj z))]
  · rw [List.getElem?_eq_none (by rw [dcs_len hl]; omega), List.getElem?_eq_none (by rw [dcs_len (by rw [List.length_set, hl])]; omega)]
    rfl
theorem OkB.set {cs : List Str} (h : OkB cs) {i : Nat} {c : Str} (hc : c ∈ chs i) : OkB (cs.set i c) := ⟨by rw [List.length_set]; exact h.len, fun j d e => by
  by_cases z : i = j
  · subst z
    by_cases hl : i < cs.length
    · rw [List.getElem?_set_self hl] at e; cases e; exact hc
    · rw [List.getElem?_eq_none (by rw [List.length_set]; omega)] at e; cases e
  · rw [List.getElem?_set_ne z] at e; exact h.ch j d e⟩
theorem OkB.at {cs : List Str} (h : OkB cs) {i : Nat} (hi : i < 10) : ∃ c, cs[i]? = some c ∧ c ∈ chs i := ⟨cs[i]'(by rw [h.len]; exact hi), List.getElem?_eq_getElem _, h.ch i _ (List.getElem?_eq_getElem _)⟩
theorem dcs_take_put {cs : List Str} {i : Nat} {c : Str} (hl : cs.length = 10) (hi : i < 10) (h : cs[i]? = some c) : putK ((dcs cs).take i) (Sum.inr (ent i) : Key) (.str c) = (dcs cs).take (i + 1) := by
  have hv : valV ((dcs cs).take i) (Sum.inr (ent i) : Key) = none := by
    cases e : valV ((dcs cs).take i) (Sum.inr (ent i) : Key) with
    | none => rfl
    | some v =>
      have hm := valV_in e
      rw [List.map_take, dcs_keys hl] at hm
      obtain ⟨j, hj, ej⟩ := List.getElem_of_mem hm
      rw [List.length_take, List.length_map, entries_len] at hj
      have hj10 : j < 10 := by omega
      rw [List.getElem_take, List.getElem_map] at ej
      have e1 : entriesL[j]'(by rw [entries_len]; exact hj10) = ent i := Sum.inr.inj ej
      have e2 : ent j = entriesL[j]'(by rw [entries_len]; exact hj10) := by
        have := ent_at hj10
        rw [List.getElem?_eq_getElem (by rw [entries_len]; exact hj10)] at this
        exact (Option.some.inj this).symm
      have := ent_inj hj10 hi (e2.trans e1)
      omega
  rw [putK_new _ hv]
  refine List.ext_getElem? fun j => ?_
  have l1 : ((dcs cs).take i).length = i := by rw [List.length_take, dcs_len hl]; omega
  by_cases hj : j < i
  · rw [List.getElem?_append_left (by omega), List.getElem?_take_of_lt hj, List.getElem?_take_of_lt (by omega)]
  · by_cases e : j = i
    · subst e
      rw [List.getElem?_append_right (by omega), l1, Nat.sub_self, List.getElem?_take_of_lt (by omega), dcs_at hi h]; rfl
    · rw [List.getElem?_eq_none (by rw [List.length_append, l1]; show i + 1 ≤ j; omega), List.getElem?_eq_none (by rw [List.length_take]; omega)]
def okB (cs : List Str) : Bool := decide (cs.length = 10) && (List.range 10).all fun i => (cs[i]?).all fun c => decide (c ∈ chs i)
theorem OkB.of {cs : List Str} (h : okB cs = true) : OkB cs := by
  unfold okB at h
  rw [Bool.and_eq_true, decide_eq_true_eq, List.all_eq_true] at h
  refine ⟨h.1, fun i c e => ?_⟩
  have hi : i < 10 := by rw [← h.1]; exact (List.getElem?_eq_some_iff.mp e).1
  have := h.2 i (List.mem_range.mpr hi)
  rw [e] at this
  exact of_decide_eq_true this
def basesL : List Str := ["join stop leave raise stop skip skip stick stick stick", "join partly leave raise stop stop stop stick stop stick", "join raise raise raise pass blank skip stick stick stick", "short skip leave raise pass skip skip stick stick stop", "short raise leave stop pass blank show forget forget forget",
  "short partly raise raise stop stop skip stop stick stick", "join raise leave raise pass stop stop stick stick stick", "join partly leave raise pass stop stop stop stick stick", "short partly leave raise stop skip skip stick stick stick", "join stop leave raise stop skip skip stick forget stick"]
theorem bases_ok : ∀ i, i < 10 → ∃ s : Str, basesL[i]? = some s ∧ OkB (Txt.split s " ") ∧ s.length + 2 ≤ sizeLine := by
  refine ten ?_ ?_ ?_ ?_ ?_ ?_ ?_ ?_ ?_ ?_
  all_goals exact ⟨_, rfl, OkB.of (by decide +kernel), by decide⟩
end Sm
set_option maxHeartbeats 4000000
namespace Sm
open PySem PySem.Spec PyProof.Rows L2
/-! ### what the top has written, by tests on a part of the heap -/
/-- the objects that an object leads to -/
def leads (o : Obj) : List Addr := match o.data with
  | .dict es _ => es.toList.flatMap fun e => He.refV e.val
  | .seq its _ => its.toList.flatMap He.refV
  | .func fd => He.refV fd.code ++ He.refV fd.defaults ++ He.refV fd.kwdefaults
  | .cls cd => [cd.ns]
  | .fields vs => vs.toList.flatMap He.refV
  | _ => []
def further (g : Addr → Option Obj) (as : List Addr) : List Addr := as.flatMap fun a => match g a with
  | some o => leads o
  | none => []
def levels (g : Addr → Option Obj) : Nat → List Addr → List Addr
  | 0, as => as
  | n + 1, as => as ++ levels g n (further g as)
abbrev Test : Type := PySem.W.Frag → Bool
def partOf (n : Nat) (g : Addr → Option Obj) : PySem.W.Frag := He.frG g (levels g n [mainGlobals])
def seenK (ts : List Test) (fn : List He.DefD) (K : PySem.W.Frag) : He.AlD := ((ts.all fun t => t K) && fn.all fun d => d.ok K, fn.map fun d => He.fnW K d.at_)
/-- a dict of the top with text keys: where, its keys in order -/
abbrev Tab : Type := (PySem.W.Frag → Addr) × List Str
abbrev AlX : Type := He.AlD × List (Option (List (Option (Str × Int))))
def seenX (ts : List Test) (fn : List He.DefD) (tb : List Tab) (K : PySem.W.Frag) : AlX := (seenK ts fn K, tb.map fun t => He.dicW K (t.1 K))
def goodX (fn : List He.DefD) (tb : List Tab) (w : World) : AlX := (He.valD fn, tb.map fun t => some (He.keysIn w.params t.2))
def seenG (n : Nat) (ts : List Test) (fn : List He.DefD) (tb : List Tab) (g : Addr → Option Obj) : AlX := seenX ts fn tb (partOf n g)
/-- what is known of the part K behind the top -/
def Known (ts : List Test) (fn : List He.DefD) (tb : List Tab) (w : World) (K : PySem.W.Frag) : Prop := seenX ts fn tb K = goodX fn tb w
def hookX (n : Nat) (ts : List Test) (fn : List He.DefD) (tb : List Tab) : PySem.W.Hook where
  α := AlX
  obs := fun s => seenG n ts fn tb s.heap.get?
  val := fun w => goodX fn tb w
  says := fun w h => ∃ K : PySem.W.Frag, K.In h ∧ Known ts fn tb w K
  of := fun _ _ e => ⟨_, He.frG_in, e⟩
  keeps := fun _ _ _ ⟨K, hK, c⟩ k => ⟨K, PySem.W.Frag.In.keeps hK k, c⟩
theorem seenG_eq {n : Nat} {ts : List Test} {fn : List He.DefD} {tb : List Tab} {g : Addr → Option Obj} {s : Shared} (h : ∀ a, g a = s.heap.get? a) : seenG n ts fn tb g = (hookX n ts fn tb).obs s := by
  rw [show g = s.heap.get? from funext h]
  rfl
section
variable {ts : List Test} {fn : List He.DefD} {tb : List Tab} {w : World} {K : PySem.W.Frag}
theorem Known.test (c : Known ts fn tb w K) (i : Nat) {t : Test} (h : ts[i]? = some t := by rfl) : t K = true := by
  have c0 : seenK ts fn K = He.valD fn := congrArg Prod.fst c
  have c1 : ((ts.all fun t => t K) && fn.all fun d => d.ok K) = true := congrArg Prod.fst c0
  exact List.all_eq_true.mp (Bool.and_eq_true_iff.mp c1).1 t (List.mem_of_getElem? h)
theorem Known.fun_ (c : Known ts fn tb w K) (i : Nat) {d : He.DefD} (h : fn[i]? = some d := by rfl) : ∃ fd, FunD K d.name d.qual d.params d.body d.scope (d.dvs K) (d.kws K) (He.fAd K d.at_) fd := by
  have c0 : seenK ts fn K = He.valD fn := congrArg Prod.fst c
  have c1 : ((ts.all fun t => t K) && fn.all fun d => d.ok K) = true := congrArg Prod.fst c0
  have c2 : (fn.map fun d => He.fnW K d.at_) = fn.map He.DefD.val := congrArg Prod.snd c0
  have c3 : (fn.map fun d => He.fnW K d.at_)[i]? = (fn.map He.DefD.val)[i]? := by rw [c2]
  rw [List.getElem?_map, List.getElem?_map, h] at c3
  exact He.DefD.funD (Option.some.inj c3) (List.all_eq_true.mp (Bool.and_eq_true_iff.mp c1).2 d (List.mem_of_getElem? h))
theorem Known.tab (c : Known ts fn tb w K) (i : Nat) {t : Tab} (h : tb[i]? = some t := by rfl) : ∃ es n, KDict K w (t.1 K) es n := by
  have e : (tb.map fun t => He.dicW K (t.1 K)) = tb.map fun t => some (He.keysIn w.params t.2) := congrArg Prod.snd c
  have e2 : (tb.map fun t => He.dicW K (t.1 K))[i]? = (tb.map fun t => some (He.keysIn w.params t.2))[i]? := by rw [e]
  rw [List.getElem?_map, List.getElem?_map, h] at e2
  exact He.dicW_ok (Option.some.inj e2)
/-- a def without defaults -/
theorem Fun.of {x qual : Str} {st : Stmt} {f : Addr} {fd : FuncData} (F : FunD K x qual (defArgs st) (defBody st) (defScope st) [] [] f fd) : Fun K x qual st f fd := by
  obtain ⟨oc, od, dV, kV, doc, pm, an, cdv, ct, osl, rfl, lk, hc, hD, _⟩ := F.ex
  rcases hD with ⟨_, rfl⟩ | ⟨e, _⟩
  · exact ⟨⟨oc, od, kV, doc, pm, an, cdv, ct, osl, rfl, lk, hc⟩, F.kp⟩
  · exact absurd rfl e
def defD (x : Str) (m : Option Str) (name qual : Str) (st : Stmt) (dfl : List He.Dv) (kwd : List (Str × He.Dv)) : He.DefD := ⟨(x, m), name, qual, defArgs st, defBody st, defScope st, dfl, kwd⟩
/-- the dict at the module's name d has at the key x a tuple of texts -/
def tabAt (d x : Str) (ys : List Str) : Test := fun K => match PySem.W.nsIn K (He.ga K d) x with
  | some (some (.ref a)) => (match K.lookup a with
    | some ⟨.type c, _, .seq its _, _⟩ => decide (c = "tuple") && (decide (its.size ≤ sizeLine) && He.relAll (ys.map V.str) its.toList)
    | _ => false)
  | _ => false
theorem tabAt_ok {d x : Str} {ys : List Str} (h : tabAt d x ys K = true) : ∃ a, PySem.W.nsIn K (He.ga K d) x = some (some (.ref a)) ∧ ∀ H, SqT K H a (ys.map V.str) := by
  unfold tabAt at h
  cases e : PySem.W.nsIn K (He.ga K d) x with
  | none => rw [e] at h; cases h
  | some r =>
    rw [e] at h
    cases r with
    | none => cases h
    | some v =>
      cases v with
      | ref a =>
        refine ⟨a, rfl, fun H => ?_⟩
        have h1 : (match K.lookup a with
          | some ⟨.type c, _, .seq its _, _⟩ => decide (c = "tuple") && (decide (its.size ≤ sizeLine) && He.relAll (ys.map V.str) its.toList)
          | _ => false) = true := h
        cases q : K.lookup a with
        | none => rw [q] at h1; cases h1
        | some o =>
          obtain ⟨oc, od, dt, osl⟩ := o
          rw [q] at h1
          cases oc with
          | type c =>
            cases dt with
            | seq its n =>
              obtain ⟨h2, h3⟩ := He.ba (show (decide (c = "tuple") && (decide (its.size ≤ sizeLine) && He.relAll (ys.map V.str) its.toList)) = true from h1)
              obtain ⟨h4, h5⟩ := He.ba h3
              exact .inr ⟨_, its, n, q, congrArg Value.type (of_decide_eq_true h2), rfl, of_decide_eq_true h4, He.relAll_ok h5⟩
            | _ => cases h1
          | _ => cases dt <;> cases h1
      | _ => cases h
end
end Sm
set_option maxHeartbeats 4000000
namespace Sm
open PySem PySem.Spec PyProof.Rows L2
/-! ### rules that name the written part (for what stands in a comprehension) -/
section
variable {X : Cx} {K : PySem.W.Frag}
theorem pe_fldK {e : Expr} {f : Str} {pos : Pos} {ta : TE} (hK : X.K = K) (he : PE X e ta) (hb : attributeBase e f X.env (eval e X.env) = eval e X.env) : PE X (.Attribute e f pos) (tFld K ta f) := by subst hK; exact pe_fld he hb
theorem ix_listK (hK : X.K = K) : IxR X (rIxL K) := by subst hK; exact ix_list
theorem ix_tupK (hK : X.K = K) : IxR X (rIxT K) := by subst hK; exact ix_tup
theorem op_in_seqK (hK : X.K = K) : OpR X (compareOp .In) (rIn K false) := by subst hK; exact op_in_seq
theorem op_notIn_seqK (hK : X.K = K) : OpR X (compareOp .NotIn) (rIn K true) := by subst hK; exact op_notIn_seq
theorem call_len_seqK (hK : X.K = K) : CallR X (.builtin "len") (fun xs H Q => ∃ p ys, xs = [.ref p] ∧ (SqL K H p ys ∨ SqT K H p ys) ∧ Q (.int ys.length) H) := by subst hK; exact call_len_seq
end
/-! ### instances by their own special methods -/
section
variable {X : Cx} {CX : CXT} {k : Nat} {C g : Addr} {fd : FuncData} {ps : List Str} {sp : Sp} {E : L2.St → XK}
theorem inst_of {pins : List (Addr × Obj)} {σ : L2.St} {H : Hp} {s : Shared} {a dx : Addr} {fs : List (Str × V)} (I : Inv X pins σ H s) (ea : H a = some (.ins C dx fs)) :
    ∃ ox od, PySem.W.InstAt s.heap a ox C od := by
  obtain ⟨mA, O, _, _, _, _⟩ := ins_get I.hok ea
  obtain ⟨od, J, _⟩ := O.look
  exact ⟨_, _, J⟩
/-- a call of the def at g by values, in the around ahead -/
theorem run_own {pins : List (Addr × Obj)} {σ : L2.St} {H : Hp} {s : Shared} {Q : VK} {us : List Value} {vs : List V} (F : FnOk X.prog X.w X.K X.mg X.base CX k g fd ps sp) (hr : Room k X.A) (hb : Binds X.K fd ps []) (hx : PassesAt CX X σ (E σ))
    (I : Inv X pins σ H s) (r : Vals vs us) (h : sp vs H Q (E σ)) : wpAny (model X.prog X.w) X.A (call (.ref g) us) (EP X pins σ Q) X.xe s := run_fnS F hr hb hx I r h
theorem run_own1 {pins : List (Addr × Obj)} {σ : L2.St} {H : Hp} {s : Shared} {Q : VK} {us : List Value} {vs : List V} (F : FnOk X.prog X.w X.K X.mg X.base CX k g fd ps sp) (hr : Room (k + 1) X.A) (hb : Binds X.K fd ps []) (hx : PassesAt CX X σ (E σ))
    (I : Inv X pins σ H s) (r : Vals vs us) (h : sp vs H Q (E σ)) : wpAny (model X.prog X.w) X.A.in1 (call (.ref g) us) (EP X pins σ Q) X.xe s := by
  have hl : us.length = ps.length := by rw [← r.length]; exact F.len _ _ _ _ h
  have b := hb s us I.kIn (by rw [List.append_nil]; exact hl)
  rw [List.append_nil] at b
  refine wpAny_call (codeAny_mono (F.run X.A.in1 X.stack s H ⟨us, []⟩ us vs Q (E σ) hr.in1 I.env0.in1 b r h) fun r s' hq => ?_)
  cases r with
  | error e => exact hx pins H s e s' I hq
  | ok fl =>
    cases fl with
    | ret u => exact I.after hq
    | next => exact False.elim hq
    | brk => exact False.elim hq
    | cont => exact False.elim hq
/-- o[i] by the class's own __getitem__ -/
structure GetM (K : PySem.W.Frag) (C g : Addr) : Prop where
  at_ : PySem.W.findIn K (.ref C) "__getitem__" = some (some (.ref g))
  fn : PySem.W.fnIn K g = true
  is : PySem.W.isFn K (.ref g) = true
def tOwnIx (C : Addr) (sp : Sp) (E : L2.St → XK) (to ti : TE) : TE := fun σ H Q => to σ H fun o H1 => ti σ H1 fun i H2 => ∃ a dx fs, o = .ref a ∧ H2 a = some (.ins C dx fs) ∧ sp [o, i] H2 Q (E σ)
theorem pe_ownIx {o i : Expr} {pos : Pos} {to ti : TE} (m : GetM X.K C g) (F : FnOk X.prog X.w X.K X.mg X.base CX k g fd ps sp) (hr : Room (k + 1) X.A) (hb : Binds X.K fd ps []) (hx : ∀ σ, PassesAt CX X σ (E σ)) (ho : PE X o to) (hi : PE X i ti)
    (hsl : ∀ (x : Addr) (iv : Value), subscripted i true (.ref x) iv = runValue (.builtin "lifetime.subscript" ⟨[.ref x, iv], []⟩) := by intro _ _; with_unfolding_all rfl) :
    PE X (.Subscript o i pos) (tOwnIx C sp E to ti) := by
  refine ⟨fun pins s σ H Q I h => ?_⟩
  refine Subscript_ (binT (R := fun o i H2 => ∃ a dx fs, o = .ref a ∧ H2 a = some (.ins C dx fs) ∧ sp [o, i] H2 Q (E σ)) ho hi I h fun v u s2 x y H2 I2 rx ry q => ?_)
  obtain ⟨a, dx, fs, rfl, ea, q⟩ := q
  cases (show v = Value.ref a from rx)
  obtain ⟨ox, od, J⟩ := inst_of I2 ea
  obtain ⟨mm, hF⟩ := I2.fr
  exact PySem.W.sub_K hF I2.ok.mod.kin J m.at_ m.fn m.is (run_own1 (vs := [.ref a, y]) F hr hb (hx σ) I2 (.cons rfl (.cons ry .nil)) q) (hsl a u)
/-- o[i] = v by the class's own __setitem__ -/
structure SetM (K : PySem.W.Frag) (C g : Addr) : Prop where
  at_ : PySem.W.findIn K (.ref C) "__setitem__" = some (some (.ref g))
  sq : PySem.W.noSeq K C = true
  is : PySem.W.isFn K (.ref g) = true
def gOwnSet (C : Addr) (sp : Sp) (E : L2.St → XK) (to ti : TE) : TG := fun v σ H Q => to σ H fun o H1 => ti σ H1 fun i H2 => ∃ a dx fs, o = .ref a ∧ H2 a = some (.ins C dx fs) ∧ sp [o, i, v] H2 (fun _ H3 => Q σ H3) (E σ)
theorem pg_ownSet {o i : Expr} {pos : Pos} {to ti : TE} (m : SetM X.K C g) (F : FnOk X.prog X.w X.K X.mg X.base CX k g fd ps sp) (hr : Room k X.A) (hb : Binds X.K fd ps []) (hx : ∀ σ, PassesAt CX X σ (E σ)) (ho : PE X o to) (hi : PE X i ti)
    (ha : ∀ v, assign (.Subscript o i pos) X.env v = (do
      let ov ← holding [v] (eval o X.env)
      let iv ← holding [v, ov] (eval i X.env)
      standAt pos
      holding [v, ov, iv] (setItem ov iv v)
      release [v, ov, iv] []) := by intro _; rfl) : PG X (.Subscript o i pos) (gOwnSet C sp E to ti) := by
  refine ⟨fun pins s σ H v u Q I r h => ?_⟩
  rw [ha]
  refine wpAny_bind (wpAny_holding (thn (ho.run pins s σ H _ I h) fun ov s1 ⟨x, H1, I1, r1, q1⟩ => ?_))
  refine wpAny_bind (wpAny_holding (thn (hi.run pins s1 σ H1 _ I1 q1) fun iv s2 ⟨y, H2, I2, r2, q2⟩ => ?_))
  obtain ⟨a, dx, fs, rfl, ea, q⟩ := q2
  cases (show ov = Value.ref a from r1)
  obtain ⟨ox, od, J⟩ := inst_of I2 ea
  obtain ⟨mm, hF⟩ := I2.fr
  refine wpAny_bind (wpAny_standAt ?_)
  refine wpAny_bind (wpAny_holding (PySem.W.ksp_setItem hF I2.ok.mod.kin J m.sq m.at_ m.is (thn (run_own (vs := [.ref a, y, v]) F hr hb (hx σ) I2 (.cons rfl (.cons r2 (.cons r .nil))) q) fun z s3 ⟨zv, H3, I3, _, q3⟩ => ?_)))
  exact wpAny_release ⟨σ, H3, I3, q3⟩
/-- x op y for two instances by the first one's own def -/
def rOwnCmp (K : PySem.W.Frag) (C : Addr) (sp : Sp) (E : XK) : R2 := fun x y H Q => ∃ a dx fs b C' dy ws, x = .ref a ∧ y = .ref b ∧ H a = some (.ins C dx fs) ∧ H b = some (.ins C' dy ws) ∧ PySem.W.notFirst K C (.ref C') = true ∧ sp [x, y] H Q E
theorem op_ownCmp {op : CmpOp} {E : XK} (hop : ∀ a b, compareOp op a b = richCompare op a b) (hs : PySem.W.findIn X.K (.ref C) (cmpInfo op).2.1 = some (some (.ref g))) (hf : PySem.W.isFn X.K (.ref g) = true) (F : FnOk X.prog X.w X.K X.mg X.base CX k g fd ps sp)
    (hr : Room k X.A) (hb : Binds X.K fd ps []) (hx : Passes CX X E) : OpR X (compareOp op) (rOwnCmp X.K C sp E) := by
  intro pins s σ H x y v u Q I rx ry h
  obtain ⟨a, dx, fs, b, C', dy, ws, rfl, rfl, ea, eb, hn, q⟩ := h
  cases (show v = Value.ref a from rx)
  cases (show u = Value.ref b from ry)
  obtain ⟨ox, od, J⟩ := inst_of I ea
  obtain ⟨oy, od', J'⟩ := inst_of I eb
  obtain ⟨m, hF⟩ := I.fr
  rw [hop]
  refine PySem.W.cmp_K (op := op) (tb := .ref C') hr.units0 hF I.ok.mod.kin J J'.type hn hs hf ?_
  refine thn (run_fn (us := [.ref a, .ref b]) (vs := [.ref a, .ref b]) F hr hb .nil hx I (.cons rfl (.cons rfl .nil)) q) fun w s' z => ?_
  obtain ⟨z', H', I', rz, qz⟩ := z
  exact SlX.cmpback rz ⟨z', H', I', rz, qz⟩
end
/-! ### isinstance of what a suite holds; calls that let nothing out -/
section
variable {X : Cx} {a D : Addr} {oe : Obj} {pn : List (Addr × Obj)} {cls : Value} {d : Option Addr}
def rIsS (K : PySem.W.Frag) (D a : Addr) (cls : Value) (d : Option Addr) : List V → Hp → VK → Prop := fun xs H Q => cls = .ref D ∧ d = none ∧ rIsE K D a xs H Q
theorem call_isS (C : ExcC X.K D) (hz : Zc cls d oe) (hf : ∃ vs, oe.data = .fields vs) : CallR (X.suite a ((a, oe) :: pn)) (.builtin "isinstance") (rIsS X.K D a cls d) := by
  intro pins s σ H xs us Q I r h
  obtain ⟨rfl, rfl, h⟩ := h
  exact call_isE C hz hf pins s σ H xs us Q I r h
theorem passAt0 {σ : L2.St} : PassesAt (L2.CX X.prog X.w) X σ E0 := fun pins H s e s' I c => passL pins σ H s e s' I c
theorem r_meth {C : Addr} {m : Str} {sp : Sp} {dvs : List V} {E : XK} {ta : TE} {t : TA} {σ : L2.St} {H : Hp} {Q : VK} (h : ta σ H fun x H1 => ∃ a dx fs, x = .ref a ∧ H1 a = some (.ins C dx fs) ∧ fs.lookup m = none ∧ t σ H1 fun vs H2 => sp (x :: (vs ++ dvs)) H2 Q E) : tMeth C m sp dvs E ta t σ H Q := h
theorem r_make {C : Addr} {sp : Sp} {dvs : List V} {E : XK} {t : TA} {σ : L2.St} {H : Hp} {Q : VK} (h : t σ H fun vs H1 => ∀ x dx, H1 x = none → H1 dx = none → dx ≠ x → sp (.ref x :: (vs ++ dvs)) (upd (upd H1 dx (.own x)) x (.ins C dx [])) (fun v H2 => v = .non ∧ Q (.ref x) H2) E) : tMake C sp dvs E t σ H Q := h
theorem r_ownIx {C : Addr} {sp : Sp} {E : L2.St → XK} {to ti : TE} {σ : L2.St} {H : Hp} {Q : VK} (h : to σ H fun o H1 => ti σ H1 fun i H2 => ∃ a dx fs, o = .ref a ∧ H2 a = some (.ins C dx fs) ∧ sp [o, i] H2 Q (E σ)) : tOwnIx C sp E to ti σ H Q := h
theorem r_ownSet {C : Addr} {sp : Sp} {E : L2.St → XK} {to ti : TE} {v : V} {σ : L2.St} {H : Hp} {Q : L2.St → Hp → Prop} (h : to σ H fun o H1 => ti σ H1 fun i H2 => ∃ a dx fs, o = .ref a ∧ H2 a = some (.ins C dx fs) ∧ sp [o, i, v] H2 (fun _ H3 => Q σ H3) (E σ)) : gOwnSet C sp E to ti v σ H Q := h
theorem r_callS {sp : Sp} {E : L2.St → XK} {t : TA} {σ : L2.St} {H : Hp} {Q : VK} (h : t σ H fun vs H1 => sp vs H1 Q (E σ)) : tCallS sp E t σ H Q := h
end
/-! ### tests of classes -/
section
variable {K : PySem.W.Frag}
abbrev ref1 (a : Addr) : Option (Option Value) := some (some (.ref a))
def getB (x : Str) : Test := fun K => He.eqO (PySem.W.findIn K (.ref (He.ga K x)) "__getitem__") (ref1 (He.fAd K (x, some "__getitem__"))) && (PySem.W.fnIn K (He.fAd K (x, some "__getitem__")) && PySem.W.isFn K (.ref (He.fAd K (x, some "__getitem__"))))
theorem getB_ok {x : Str} (h : getB x K = true) : GetM K (He.ga K x) (He.fAd K (x, some "__getitem__")) := by
  obtain ⟨h1, h2⟩ := He.ba h
  obtain ⟨h2, h3⟩ := He.ba h2
  exact ⟨He.eqO_ok h1, h2, h3⟩
def setB (x : Str) : Test := fun K => He.eqO (PySem.W.findIn K (.ref (He.ga K x)) "__setitem__") (ref1 (He.fAd K (x, some "__setitem__"))) && (PySem.W.noSeq K (He.ga K x) && PySem.W.isFn K (.ref (He.fAd K (x, some "__setitem__"))))
theorem setB_ok {x : Str} (h : setB x K = true) : SetM K (He.ga K x) (He.fAd K (x, some "__setitem__")) := by
  obtain ⟨h1, h2⟩ := He.ba h
  obtain ⟨h2, h3⟩ := He.ba h2
  exact ⟨He.eqO_ok h1, h2, h3⟩
def insB (x : Str) : Test := fun K => He.Fa.ok K (.cls x) && (He.eqO (PySem.W.findIn K (.ref (He.ga K x)) "__class__") (some (some (.builtin "object.__class__"))) &&
  (He.eqO (PySem.W.specialIn K (.builtin "object.__class__") "__get__") (some (some (.builtin "getset_descriptor.__get__"))) && (decide (PySem.W.takesIn K (.builtin "object.__class__") = some true) &&
  (decide (PySem.W.mroIn K (He.ga K x) (.type "object") = some true) && decide (PySem.W.kitOne K (.ref (He.ga K x)) (.ref (He.ga K x)) = some true)))))
theorem insB_ok {x : Str} (h : insB x K = true) : C8.InsC K (He.ga K x) := by
  obtain ⟨h1, h⟩ := He.ba h
  obtain ⟨h2, h⟩ := He.ba h
  obtain ⟨h3, h⟩ := He.ba h
  obtain ⟨h4, h⟩ := He.ba h
  obtain ⟨h5, h6⟩ := He.ba h
  exact ⟨He.cls_ok h1, He.eqO_ok h2, He.eqO_ok h3, of_decide_eq_true h4, of_decide_eq_true h5, of_decide_eq_true h6⟩
def excB (x : Str) : Test := fun K => He.eqO (PySem.W.findIn K (.ref (He.ga K x)) "__getattribute__") (some (some (.builtin "BaseException.__getattribute__"))) && (He.eqO (PySem.W.findIn K (.ref (He.ga K x)) "__getattr__") (some none) &&
  (decide (PySem.W.subIn K (.ref (He.ga K x)) (.type "BaseException") = some true) && (PySem.W.hasDictIn K (He.ga K x) && (He.eqO (PySem.W.findIn K (.ref (He.ga K x)) "__class__") (some (some (.builtin "object.__class__"))) &&
  (He.eqO (PySem.W.specialIn K (.builtin "object.__class__") "__get__") (some (some (.builtin "getset_descriptor.__get__"))) && (decide (PySem.W.takesIn K (.builtin "object.__class__") = some true) && decide (PySem.W.mroIn K (He.ga K x) (.type "object") = some true)))))))
theorem excB_ok {x : Str} (h : excB x K = true) : ExcC K (He.ga K x) := by
  obtain ⟨h1, h⟩ := He.ba h
  obtain ⟨h2, h⟩ := He.ba h
  obtain ⟨h3, h⟩ := He.ba h
  obtain ⟨h4, h⟩ := He.ba h
  obtain ⟨h5, h⟩ := He.ba h
  obtain ⟨h6, h⟩ := He.ba h
  obtain ⟨h7, h8⟩ := He.ba h
  exact ⟨He.eqO_ok h1, He.eqO_ok h2, of_decide_eq_true h3, h4, He.eqO_ok h5, He.eqO_ok h6, of_decide_eq_true h7, of_decide_eq_true h8⟩
def kitB (x y : Str) (b : Bool) : Test := fun K => decide (PySem.W.kitOne K (.ref (He.ga K x)) (.ref (He.ga K y)) = some b)
theorem kitB_ok {x y : Str} {b : Bool} (h : kitB x y b K = true) : PySem.W.kitOne K (.ref (He.ga K x)) (.ref (He.ga K y)) = some b := of_decide_eq_true h
def kitTB (x : Str) (n : String) (b : Bool) : Test := fun K => decide (PySem.W.kitOne K (.ref (He.ga K x)) (.type n) = some b)
theorem kitTB_ok {x : Str} {n : String} {b : Bool} (h : kitTB x n b K = true) : PySem.W.kitOne K (.ref (He.ga K x)) (.type n) = some b := of_decide_eq_true h
def cmpB (x m : Str) : Test := fun K => He.eqO (PySem.W.findIn K (.ref (He.ga K x)) m) (ref1 (He.fAd K (x, some m))) && PySem.W.isFn K (.ref (He.fAd K (x, some m)))
theorem cmpB_ok {x m : Str} (h : cmpB x m K = true) : PySem.W.findIn K (.ref (He.ga K x)) m = some (some (.ref (He.fAd K (x, some m)))) ∧ PySem.W.isFn K (.ref (He.fAd K (x, some m))) = true := by
  obtain ⟨h1, h2⟩ := He.ba h
  exact ⟨He.eqO_ok h1, h2⟩
def nfB (x y : Str) : Test := fun K => PySem.W.notFirst K (He.ga K x) (.ref (He.ga K y))
end
end Sm
set_option maxHeartbeats 4000000
namespace Sm
open PySem PySem.Spec PyProof.Rows L2
def top (i : Nat) : Stmt := PySem.Challenge.pw_stickymarks_k56_book_text_again.main.body.getD i (.Pass ⟨0, 0, 0, 0⟩)
abbrev s__law_cell : Stmt := top 12
theorem sc__law_cell : FnScope ["script", "k"] ["script", "k"] (defScope s__law_cell) := ⟨rfl, rfl, rfl, by decide +kernel, rfl, by decide +kernel, by decide +kernel⟩
abbrev s__law_entries : Stmt := top 13
theorem sc__law_entries : FnScope [] [] (defScope s__law_entries) := ⟨rfl, rfl, rfl, by decide +kernel, rfl, by decide +kernel, by decide +kernel⟩
abbrev s__law_choices : Stmt := top 14
theorem sc__law_choices : FnScope ["entry", "told"] ["entry"] (defScope s__law_choices) := ⟨rfl, rfl, rfl, by decide +kernel, rfl, by decide +kernel, by decide +kernel⟩
abbrev s__law_picks : Stmt := top 15
theorem sc__law_picks : FnScope ["cell", "bases", "names", "base", "mode", "rest", "picks", "k", "name", "told"] ["cell"] (defScope s__law_picks) := ⟨rfl, rfl, rfl, by decide +kernel, rfl, by decide +kernel, by decide +kernel⟩
abbrev s__law_book : Stmt := top 16
theorem sc__law_book : FnScope ["picks", "book", "name"] ["picks"] (defScope s__law_book) := ⟨rfl, rfl, rfl, by decide +kernel, rfl, by decide +kernel, by decide +kernel⟩
abbrev s__law_digits : Stmt := top 17
theorem sc__law_digits : FnScope ["cell", "many", "salt", "digits", "rest", "k"] ["cell", "many", "salt"] (defScope s__law_digits) := ⟨rfl, rfl, rfl, by decide +kernel, rfl, by decide +kernel, by decide +kernel⟩
abbrev s__law_form : Stmt := top 18
theorem sc__law_form : FnScope ["picks", "name"] ["picks"] (defScope s__law_form) := ⟨rfl, rfl, rfl, by decide +kernel, rfl, by decide +kernel, by decide +kernel⟩
abbrev s__law_made : Stmt := top 19
theorem sc__law_made : FnScope ["name", "word"] ["name", "word"] (defScope s__law_made) := ⟨rfl, rfl, rfl, by decide +kernel, rfl, by decide +kernel, by decide +kernel⟩
abbrev s__law_refused : Stmt := top 20
theorem sc__law_refused : FnScope ["way", "book", "name", "word", "picks", "bent", "e"] ["way", "book", "name", "word", "picks"] (defScope s__law_refused) := ⟨rfl, rfl, rfl, by decide +kernel, rfl, by decide +kernel, by decide +kernel⟩
abbrev s__law_wrong : Stmt := top 21
theorem sc__law_wrong : FnScope ["name", "told", "digit", "words", "wrong", "word"] ["name", "told", "digit"] (defScope s__law_wrong) := ⟨rfl, rfl, rfl, by decide +kernel, rfl, by decide +kernel, by decide +kernel⟩
abbrev s_law : Stmt := top 22
theorem sc_law : FnScope ["script", "picks", "book", "k", "name", "told", "text", "back", "digits", "word", "way"] ["script"] (defScope s_law) := ⟨rfl, rfl, rfl, by decide +kernel, rfl, by decide +kernel, by decide +kernel⟩
abbrev s_Book___init__ : Stmt := inClass (top 8) 0
theorem sc_Book___init__ : FnScope ["self", "work", "write", "meet", "test", "partly", "value", "path", "loop", "guard", "call", "told", "at"] ["self", "work", "write", "meet", "test", "partly", "value", "path", "loop", "guard", "call"] (defScope s_Book___init__) := ⟨rfl, rfl, rfl, by decide +kernel, rfl, by decide +kernel, by decide +kernel⟩
abbrev s_Book___getitem__ : Stmt := inClass (top 8) 2
theorem sc_Book___getitem__ : FnScope ["self", "entry"] ["self", "entry"] (defScope s_Book___getitem__) := ⟨rfl, rfl, rfl, by decide +kernel, rfl, by decide +kernel, by decide +kernel⟩
abbrev s_Book___setitem__ : Stmt := inClass (top 8) 3
theorem sc_Book___setitem__ : FnScope ["self", "entry", "choice"] ["self", "entry", "choice"] (defScope s_Book___setitem__) := ⟨rfl, rfl, rfl, by decide +kernel, rfl, by decide +kernel, by decide +kernel⟩
abbrev s_Book___eq__ : Stmt := inClass (top 8) 4
theorem sc_Book___eq__ : FnScope ["self", "other"] ["self", "other"] (defScope s_Book___eq__) := ⟨rfl, rfl, rfl, by decide +kernel, rfl, by decide +kernel, by decide +kernel⟩
abbrev s_Book_text : Stmt := inClass (top 8) 11
theorem sc_Book_text : FnScope ["self", "entry"] ["self"] (defScope s_Book_text) := ⟨rfl, rfl, rfl, by decide +kernel, rfl, by decide +kernel, by decide +kernel⟩
abbrev s_read_book : Stmt := top 10
theorem sc_read_book : FnScope ["text", "book", "parts", "at", "entry"] ["text"] (defScope s_read_book) := ⟨rfl, rfl, rfl, by decide +kernel, rfl, by decide +kernel, by decide +kernel⟩
def fn : List He.DefD := [
  defD "_law_cell" none "_law_cell" "_law_cell" s__law_cell [] [],
  defD "_law_entries" none "_law_entries" "_law_entries" s__law_entries [] [],
  defD "_law_choices" none "_law_choices" "_law_choices" s__law_choices [] [],
  defD "_law_picks" none "_law_picks" "_law_picks" s__law_picks [] [],
  defD "_law_book" none "_law_book" "_law_book" s__law_book [] [],
  defD "_law_digits" none "_law_digits" "_law_digits" s__law_digits [] [],
  defD "_law_form" none "_law_form" "_law_form" s__law_form [] [],
  defD "_law_made" none "_law_made" "_law_made" s__law_made [] [],
  defD "_law_refused" none "_law_refused" "_law_refused" s__law_refused [] [],
  defD "_law_wrong" none "_law_wrong" "_law_wrong" s__law_wrong [] [],
  defD "law" none "law" "law" s_law [] [],
  defD "Book" (some "__init__") "__init__" "Book.__init__" s_Book___init__ [] [("work", .str "join"), ("write", .str "stop"), ("meet", .str "raise"), ("test", .str "stop"), ("partly", .str "stop"), ("value", .str "stop"), ("path", .str "stop"), ("loop", .str "stop"), ("guard", .str "stop"), ("call", .str "stop")],
  defD "Book" (some "__getitem__") "__getitem__" "Book.__getitem__" s_Book___getitem__ [] [],
  defD "Book" (some "__setitem__") "__setitem__" "Book.__setitem__" s_Book___setitem__ [] [],
  defD "Book" (some "__eq__") "__eq__" "Book.__eq__" s_Book___eq__ [] [],
  defD "Book" (some "text") "text" "Book.text" s_Book_text [] [],
  defD "read_book" none "read_book" "read_book" s_read_book [] []]
def ts : List Test := [
  fun K => He.Fa.ok K (.glo "_law_cell"),
  fun K => He.Fa.ok K (.keep "_law_cell"),
  fun K => He.Fa.ok K (.glo "_law_entries"),
  fun K => He.Fa.ok K (.keep "_law_entries"),
  fun K => He.Fa.ok K (.glo "_law_choices"),
  fun K => He.Fa.ok K (.keep "_law_choices"),
  fun K => He.Fa.ok K (.glo "_law_picks"),
  fun K => He.Fa.ok K (.keep "_law_picks"),
  fun K => He.Fa.ok K (.glo "_law_book"),
  fun K => He.Fa.ok K (.keep "_law_book"),
  fun K => He.Fa.ok K (.glo "_law_digits"),
  fun K => He.Fa.ok K (.keep "_law_digits"),
  fun K => He.Fa.ok K (.glo "_law_form"),
  fun K => He.Fa.ok K (.keep "_law_form"),
  fun K => He.Fa.ok K (.glo "_law_made"),
  fun K => He.Fa.ok K (.keep "_law_made"),
  fun K => He.Fa.ok K (.glo "_law_refused"),
  fun K => He.Fa.ok K (.keep "_law_refused"),
  fun K => He.Fa.ok K (.glo "_law_wrong"),
  fun K => He.Fa.ok K (.keep "_law_wrong"),
  fun K => He.Fa.ok K (.glo "law"),
  fun K => He.Fa.ok K (.keep "law"),
  fun K => He.Fa.ok K (.meth "Book" "__init__"),
  fun K => He.Fa.ok K (.meth "Book" "__getitem__"),
  fun K => He.Fa.ok K (.meth "Book" "__setitem__"),
  fun K => He.Fa.ok K (.meth "Book" "__eq__"),
  fun K => He.Fa.ok K (.meth "Book" "text"),
  fun K => He.Fa.ok K (.glo "read_book"),
  fun K => He.Fa.ok K (.keep "read_book"),
  fun K => He.Fa.ok K (.free "len"),
  fun K => He.Fa.ok K (.free "int"),
  fun K => He.Fa.ok K (.free "range"),
  fun K => He.Fa.ok K (.free "isinstance"),
  fun K => He.Fa.ok K (.free "str"),
  fun K => He.Fa.ok K (.free "dict"),
  fun K => He.Fa.ok K (.free "ValueError"),
  fun K => He.Fa.ok K (.glo "Book"),
  fun K => He.Fa.ok K (.cls "Book"),
  fun K => He.Fa.ok K (.mkr "Book"),
  fun K => He.Fa.ok K (.noat "Book" "held"),
  fun K => He.Fa.ok K (.keep "Book"),
  fun K => He.Fa.ok K (.glo "MarkError"),
  fun K => He.Fa.ok K (.exc "MarkError"),
  fun K => He.Fa.ok K (.glo "InvalidBook"),
  fun K => He.Fa.ok K (.exc "InvalidBook"),
  fun K => He.Fa.ok K (.glo "InvalidInput"),
  fun K => He.Fa.ok K (.exc "InvalidInput"),
  fun K => He.Fa.ok K (.exm "InvalidBook" "InvalidBook" true),
  fun K => He.Fa.ok K (.glo "ENTRIES"),
  fun K => He.Fa.ok K (.glo "CHOICES"),
  fun K => He.tupB K "ENTRIES" (entriesL.map He.Dv.str),
  tabAt "CHOICES" (ent 0) (chs 0),
  tabAt "CHOICES" (ent 1) (chs 1),
  tabAt "CHOICES" (ent 2) (chs 2),
  tabAt "CHOICES" (ent 3) (chs 3),
  tabAt "CHOICES" (ent 4) (chs 4),
  tabAt "CHOICES" (ent 5) (chs 5),
  tabAt "CHOICES" (ent 6) (chs 6),
  tabAt "CHOICES" (ent 7) (chs 7),
  tabAt "CHOICES" (ent 8) (chs 8),
  tabAt "CHOICES" (ent 9) (chs 9),
  getB "Book",
  setB "Book",
  insB "Book",
  cmpB "Book" "__eq__",
  nfB "Book" "Book",
  excB "InvalidBook",
  kitB "InvalidBook" "MarkError" true,
  kitB "InvalidBook" "InvalidInput" false,
  kitTB "InvalidBook" "ValueError" true]
def tb : List Tab := [((fun K => He.ga K "CHOICES"), entriesL)]
structure Tx (w : World) (K : PySem.W.Frag) (mg : Str → Option Value) : Prop where
  X : ∃ h : Heap, K.In h ∧ h.Ns mainGlobals mg
  c : Known ts fn tb w K
section
variable {w : World} {K : PySem.W.Frag} {mg : Str → Option Value}
theorem Tx.kd_CHOICES (T : Tx w K mg) : ∃ es n, KDict K w (He.ga K "CHOICES") es n := T.c.tab 0
theorem Tx.g__law_cell (T : Tx w K mg) : mg "_law_cell" = some (.ref (He.ga K "_law_cell")) := by
  obtain ⟨h, X, G⟩ := T.X
  exact He.glo_ok X G (T.c.test 0)
theorem Tx.k__law_cell (T : Tx w K mg) : PySem.W.keepIn K (.ref (He.ga K "_law_cell")) = true := He.keep_ok (T.c.test 1)
theorem Tx.g__law_entries (T : Tx w K mg) : mg "_law_entries" = some (.ref (He.ga K "_law_entries")) := by
  obtain ⟨h, X, G⟩ := T.X
  exact He.glo_ok X G (T.c.test 2)
theorem Tx.k__law_entries (T : Tx w K mg) : PySem.W.keepIn K (.ref (He.ga K "_law_entries")) = true := He.keep_ok (T.c.test 3)
theorem Tx.g__law_choices (T : Tx w K mg) : mg "_law_choices" = some (.ref (He.ga K "_law_choices")) := by
  obtain ⟨h, X, G⟩ := T.X
  exact He.glo_ok X G (T.c.test 4)
theorem Tx.k__law_choices (T : Tx w K mg) : PySem.W.keepIn K (.ref (He.ga K "_law_choices")) = true := He.keep_ok (T.c.test 5)
theorem Tx.g__law_picks (T : Tx w K mg) : mg "_law_picks" = some (.ref (He.ga K "_law_picks")) := by
  obtain ⟨h, X, G⟩ := T.X
  exact He.glo_ok X G (T.c.test 6)
theorem Tx.k__law_picks (T : Tx w K mg) : PySem.W.keepIn K (.ref (He.ga K "_law_picks")) = true := He.keep_ok (T.c.test 7)
theorem Tx.g__law_book (T : Tx w K mg) : mg "_law_book" = some (.ref (He.ga K "_law_book")) := by
  obtain ⟨h, X, G⟩ := T.X
  exact He.glo_ok X G (T.c.test 8)
theorem Tx.k__law_book (T : Tx w K mg) : PySem.W.keepIn K (.ref (He.ga K "_law_book")) = true := He.keep_ok (T.c.test 9)
theorem Tx.g__law_digits (T : Tx w K mg) : mg "_law_digits" = some (.ref (He.ga K "_law_digits")) := by
  obtain ⟨h, X, G⟩ := T.X
  exact He.glo_ok X G (T.c.test 10)
theorem Tx.k__law_digits (T : Tx w K mg) : PySem.W.keepIn K (.ref (He.ga K "_law_digits")) = true := He.keep_ok (T.c.test 11)
theorem Tx.g__law_form (T : Tx w K mg) : mg "_law_form" = some (.ref (He.ga K "_law_form")) := by
  obtain ⟨h, X, G⟩ := T.X
  exact He.glo_ok X G (T.c.test 12)
theorem Tx.k__law_form (T : Tx w K mg) : PySem.W.keepIn K (.ref (He.ga K "_law_form")) = true := He.keep_ok (T.c.test 13)
theorem Tx.g__law_made (T : Tx w K mg) : mg "_law_made" = some (.ref (He.ga K "_law_made")) := by
  obtain ⟨h, X, G⟩ := T.X
  exact He.glo_ok X G (T.c.test 14)
theorem Tx.k__law_made (T : Tx w K mg) : PySem.W.keepIn K (.ref (He.ga K "_law_made")) = true := He.keep_ok (T.c.test 15)
theorem Tx.g__law_refused (T : Tx w K mg) : mg "_law_refused" = some (.ref (He.ga K "_law_refused")) := by
  obtain ⟨h, X, G⟩ := T.X
  exact He.glo_ok X G (T.c.test 16)
theorem Tx.k__law_refused (T : Tx w K mg) : PySem.W.keepIn K (.ref (He.ga K "_law_refused")) = true := He.keep_ok (T.c.test 17)
theorem Tx.g__law_wrong (T : Tx w K mg) : mg "_law_wrong" = some (.ref (He.ga K "_law_wrong")) := by
  obtain ⟨h, X, G⟩ := T.X
  exact He.glo_ok X G (T.c.test 18)
theorem Tx.k__law_wrong (T : Tx w K mg) : PySem.W.keepIn K (.ref (He.ga K "_law_wrong")) = true := He.keep_ok (T.c.test 19)
theorem Tx.g_law (T : Tx w K mg) : mg "law" = some (.ref (He.ga K "law")) := by
  obtain ⟨h, X, G⟩ := T.X
  exact He.glo_ok X G (T.c.test 20)
theorem Tx.k_law (T : Tx w K mg) : PySem.W.keepIn K (.ref (He.ga K "law")) = true := He.keep_ok (T.c.test 21)
theorem Tx.m_Book___init__ (T : Tx w K mg) : Meth K (He.ga K "Book") "__init__" (He.fAd K ("Book", some "__init__")) := He.meth_ok (T.c.test 22)
theorem Tx.m_Book___getitem__ (T : Tx w K mg) : Meth K (He.ga K "Book") "__getitem__" (He.fAd K ("Book", some "__getitem__")) := He.meth_ok (T.c.test 23)
theorem Tx.m_Book___setitem__ (T : Tx w K mg) : Meth K (He.ga K "Book") "__setitem__" (He.fAd K ("Book", some "__setitem__")) := He.meth_ok (T.c.test 24)
theorem Tx.m_Book___eq__ (T : Tx w K mg) : Meth K (He.ga K "Book") "__eq__" (He.fAd K ("Book", some "__eq__")) := He.meth_ok (T.c.test 25)
theorem Tx.m_Book_text (T : Tx w K mg) : Meth K (He.ga K "Book") "text" (He.fAd K ("Book", some "text")) := He.meth_ok (T.c.test 26)
theorem Tx.g_read_book (T : Tx w K mg) : mg "read_book" = some (.ref (He.ga K "read_book")) := by
  obtain ⟨h, X, G⟩ := T.X
  exact He.glo_ok X G (T.c.test 27)
theorem Tx.k_read_book (T : Tx w K mg) : PySem.W.keepIn K (.ref (He.ga K "read_book")) = true := He.keep_ok (T.c.test 28)
theorem Tx.n_len (T : Tx w K mg) : mg "len" = none := by
  obtain ⟨h, X, G⟩ := T.X
  exact He.free_ok X G (T.c.test 29)
theorem Tx.n_int (T : Tx w K mg) : mg "int" = none := by
  obtain ⟨h, X, G⟩ := T.X
  exact He.free_ok X G (T.c.test 30)
theorem Tx.n_range (T : Tx w K mg) : mg "range" = none := by
  obtain ⟨h, X, G⟩ := T.X
  exact He.free_ok X G (T.c.test 31)
theorem Tx.n_isinstance (T : Tx w K mg) : mg "isinstance" = none := by
  obtain ⟨h, X, G⟩ := T.X
  exact He.free_ok X G (T.c.test 32)
theorem Tx.n_str (T : Tx w K mg) : mg "str" = none := by
  obtain ⟨h, X, G⟩ := T.X
  exact He.free_ok X G (T.c.test 33)
theorem Tx.n_dict (T : Tx w K mg) : mg "dict" = none := by
  obtain ⟨h, X, G⟩ := T.X
  exact He.free_ok X G (T.c.test 34)
theorem Tx.n_ValueError (T : Tx w K mg) : mg "ValueError" = none := by
  obtain ⟨h, X, G⟩ := T.X
  exact He.free_ok X G (T.c.test 35)
theorem Tx.g_Book (T : Tx w K mg) : mg "Book" = some (.ref (He.ga K "Book")) := by
  obtain ⟨h, X, G⟩ := T.X
  exact He.glo_ok X G (T.c.test 36)
theorem Tx.c_Book (T : Tx w K mg) : Cls K (He.ga K "Book") := He.cls_ok (T.c.test 37)
theorem Tx.mk_Book (T : Tx w K mg) : Mk K (He.ga K "Book") (He.fAd K ("Book", some "__init__")) := He.mkr_ok (T.c.test 38)
theorem Tx.a_Book_held (T : Tx w K mg) : NoAttr K (He.ga K "Book") "held" := He.noat_ok (T.c.test 39)
theorem Tx.k_Book (T : Tx w K mg) : PySem.W.keepIn K (.ref (He.ga K "Book")) = true := He.keep_ok (T.c.test 40)
theorem Tx.g_MarkError (T : Tx w K mg) : mg "MarkError" = some (.ref (He.ga K "MarkError")) := by
  obtain ⟨h, X, G⟩ := T.X
  exact He.glo_ok X G (T.c.test 41)
theorem Tx.e_MarkError (T : Tx w K mg) : PySem.W.excIn K (He.ga K "MarkError") He.veBase "ValueError.__new__" = true ∧ PySem.W.keepIn K (.ref (He.ga K "MarkError")) = true ∧ PySem.W.subIn K (.ref (He.ga K "MarkError")) (.type "BaseException") = some true ∧ PySem.W.typeIn K (.ref (He.ga K "MarkError")) = some (.type "type") := He.exc_ok (T.c.test 42)
theorem Tx.g_InvalidBook (T : Tx w K mg) : mg "InvalidBook" = some (.ref (He.ga K "InvalidBook")) := by
  obtain ⟨h, X, G⟩ := T.X
  exact He.glo_ok X G (T.c.test 43)
theorem Tx.e_InvalidBook (T : Tx w K mg) : PySem.W.excIn K (He.ga K "InvalidBook") He.veBase "ValueError.__new__" = true ∧ PySem.W.keepIn K (.ref (He.ga K "InvalidBook")) = true ∧ PySem.W.subIn K (.ref (He.ga K "InvalidBook")) (.type "BaseException") = some true ∧ PySem.W.typeIn K (.ref (He.ga K "InvalidBook")) = some (.type "type") := He.exc_ok (T.c.test 44)
theorem Tx.g_InvalidInput (T : Tx w K mg) : mg "InvalidInput" = some (.ref (He.ga K "InvalidInput")) := by
  obtain ⟨h, X, G⟩ := T.X
  exact He.glo_ok X G (T.c.test 45)
theorem Tx.e_InvalidInput (T : Tx w K mg) : PySem.W.excIn K (He.ga K "InvalidInput") He.veBase "ValueError.__new__" = true ∧ PySem.W.keepIn K (.ref (He.ga K "InvalidInput")) = true ∧ PySem.W.subIn K (.ref (He.ga K "InvalidInput")) (.type "BaseException") = some true ∧ PySem.W.typeIn K (.ref (He.ga K "InvalidInput")) = some (.type "type") := He.exc_ok (T.c.test 46)
theorem Tx.x_InvalidBook_InvalidBook (T : Tx w K mg) : PySem.W.exmOne K (.ref (He.ga K "InvalidBook")) (.ref (He.ga K "InvalidBook")) = some true := He.exm_ok (T.c.test 47)
theorem Tx.g_ENTRIES (T : Tx w K mg) : mg "ENTRIES" = some (.ref (He.ga K "ENTRIES")) := by
  obtain ⟨h, X, G⟩ := T.X
  exact He.glo_ok X G (T.c.test 48)
theorem Tx.g_CHOICES (T : Tx w K mg) : mg "CHOICES" = some (.ref (He.ga K "CHOICES")) := by
  obtain ⟨h, X, G⟩ := T.X
  exact He.glo_ok X G (T.c.test 49)
theorem Tx.ENTRIES (T : Tx w K mg) : He.tupB K "ENTRIES" (entriesL.map He.Dv.str) = true := T.c.test 50
theorem Tx.CH0 (T : Tx w K mg) : tabAt "CHOICES" (ent 0) (chs 0) K = true := T.c.test 51
theorem Tx.CH1 (T : Tx w K mg) : tabAt "CHOICES" (ent 1) (chs 1) K = true := T.c.test 52
theorem Tx.CH2 (T : Tx w K mg) : tabAt "CHOICES" (ent 2) (chs 2) K = true := T.c.test 53
theorem Tx.CH3 (T : Tx w K mg) : tabAt "CHOICES" (ent 3) (chs 3) K = true := T.c.test 54
theorem Tx.CH4 (T : Tx w K mg) : tabAt "CHOICES" (ent 4) (chs 4) K = true := T.c.test 55
theorem Tx.CH5 (T : Tx w K mg) : tabAt "CHOICES" (ent 5) (chs 5) K = true := T.c.test 56
theorem Tx.CH6 (T : Tx w K mg) : tabAt "CHOICES" (ent 6) (chs 6) K = true := T.c.test 57
theorem Tx.CH7 (T : Tx w K mg) : tabAt "CHOICES" (ent 7) (chs 7) K = true := T.c.test 58
theorem Tx.CH8 (T : Tx w K mg) : tabAt "CHOICES" (ent 8) (chs 8) K = true := T.c.test 59
theorem Tx.CH9 (T : Tx w K mg) : tabAt "CHOICES" (ent 9) (chs 9) K = true := T.c.test 60
theorem Tx.gm_Book (T : Tx w K mg) : GetM K (He.ga K "Book") (He.fAd K ("Book", some "__getitem__")) := getB_ok (T.c.test 61)
theorem Tx.sm_Book (T : Tx w K mg) : SetM K (He.ga K "Book") (He.fAd K ("Book", some "__setitem__")) := setB_ok (T.c.test 62)
theorem Tx.is_Book (T : Tx w K mg) : C8.InsC K (He.ga K "Book") := insB_ok (T.c.test 63)
theorem Tx.cm_Book___eq__ (T : Tx w K mg) : PySem.W.findIn K (.ref (He.ga K "Book")) "__eq__" = some (some (.ref (He.fAd K ("Book", some "__eq__")))) ∧ PySem.W.isFn K (.ref (He.fAd K ("Book", some "__eq__"))) = true := cmpB_ok (T.c.test 64)
theorem Tx.nf_Book_Book (T : Tx w K mg) : PySem.W.notFirst K (He.ga K "Book") (.ref (He.ga K "Book")) = true := T.c.test 65
theorem Tx.ex_InvalidBook (T : Tx w K mg) : ExcC K (He.ga K "InvalidBook") := excB_ok (T.c.test 66)
theorem Tx.kt_InvalidBook_MarkError (T : Tx w K mg) : PySem.W.kitOne K (.ref (He.ga K "InvalidBook")) (.ref (He.ga K "MarkError")) = some true := kitB_ok (T.c.test 67)
theorem Tx.kt_InvalidBook_InvalidInput (T : Tx w K mg) : PySem.W.kitOne K (.ref (He.ga K "InvalidBook")) (.ref (He.ga K "InvalidInput")) = some false := kitB_ok (T.c.test 68)
theorem Tx.kt_InvalidBook_ValueError (T : Tx w K mg) : PySem.W.kitOne K (.ref (He.ga K "InvalidBook")) (.type "ValueError") = some true := kitTB_ok (T.c.test 69)
theorem Tx.F__law_cell (T : Tx w K mg) : ∃ fd, Fun K "_law_cell" "_law_cell" s__law_cell (He.fAd K ("_law_cell", none)) fd := by
  obtain ⟨fd, F⟩ := T.c.fun_ 0
  exact ⟨fd, Fun.of F⟩
theorem Tx.F__law_entries (T : Tx w K mg) : ∃ fd, Fun K "_law_entries" "_law_entries" s__law_entries (He.fAd K ("_law_entries", none)) fd := by
  obtain ⟨fd, F⟩ := T.c.fun_ 1
  exact ⟨fd, Fun.of F⟩
theorem Tx.F__law_choices (T : Tx w K mg) : ∃ fd, Fun K "_law_choices" "_law_choices" s__law_choices (He.fAd K ("_law_choices", none)) fd := by
  obtain ⟨fd, F⟩ := T.c.fun_ 2
  exact ⟨fd, Fun.of F⟩
theorem Tx.F__law_picks (T : Tx w K mg) : ∃ fd, Fun K "_law_picks" "_law_picks" s__law_picks (He.fAd K ("_law_picks", none)) fd := by
  obtain ⟨fd, F⟩ := T.c.fun_ 3
  exact ⟨fd, Fun.of F⟩
theorem Tx.F__law_book (T : Tx w K mg) : ∃ fd, Fun K "_law_book" "_law_book" s__law_book (He.fAd K ("_law_book", none)) fd := by
  obtain ⟨fd, F⟩ := T.c.fun_ 4
  exact ⟨fd, Fun.of F⟩
theorem Tx.F__law_digits (T : Tx w K mg) : ∃ fd, Fun K "_law_digits" "_law_digits" s__law_digits (He.fAd K ("_law_digits", none)) fd := by
  obtain ⟨fd, F⟩ := T.c.fun_ 5
  exact ⟨fd, Fun.of F⟩
theorem Tx.F__law_form (T : Tx w K mg) : ∃ fd, Fun K "_law_form" "_law_form" s__law_form (He.fAd K ("_law_form", none)) fd := by
  obtain ⟨fd, F⟩ := T.c.fun_ 6
  exact ⟨fd, Fun.of F⟩
theorem Tx.F__law_made (T : Tx w K mg) : ∃ fd, Fun K "_law_made" "_law_made" s__law_made (He.fAd K ("_law_made", none)) fd := by
  obtain ⟨fd, F⟩ := T.c.fun_ 7
  exact ⟨fd, Fun.of F⟩
theorem Tx.F__law_refused (T : Tx w K mg) : ∃ fd, Fun K "_law_refused" "_law_refused" s__law_refused (He.fAd K ("_law_refused", none)) fd := by
  obtain ⟨fd, F⟩ := T.c.fun_ 8
  exact ⟨fd, Fun.of F⟩
theorem Tx.F__law_wrong (T : Tx w K mg) : ∃ fd, Fun K "_law_wrong" "_law_wrong" s__law_wrong (He.fAd K ("_law_wrong", none)) fd := by
  obtain ⟨fd, F⟩ := T.c.fun_ 9
  exact ⟨fd, Fun.of F⟩
theorem Tx.F_law (T : Tx w K mg) : ∃ fd, Fun K "law" "law" s_law (He.fAd K ("law", none)) fd := by
  obtain ⟨fd, F⟩ := T.c.fun_ 10
  exact ⟨fd, Fun.of F⟩
theorem Tx.F_Book___init__ (T : Tx w K mg) : ∃ fd, FunD K "__init__" "Book.__init__" (defArgs s_Book___init__) (defBody s_Book___init__) (defScope s_Book___init__) [] [("work", V.str "join"), ("write", V.str "stop"), ("meet", V.str "raise"), ("test", V.str "stop"), ("partly", V.str "stop"), ("value", V.str "stop"), ("path", V.str "stop"), ("loop", V.str "stop"), ("guard", V.str "stop"), ("call", V.str "stop")] (He.fAd K ("Book", some "__init__")) fd := T.c.fun_ 11
theorem Tx.F_Book___getitem__ (T : Tx w K mg) : ∃ fd, Fun K "__getitem__" "Book.__getitem__" s_Book___getitem__ (He.fAd K ("Book", some "__getitem__")) fd := by
  obtain ⟨fd, F⟩ := T.c.fun_ 12
  exact ⟨fd, Fun.of F⟩
theorem Tx.F_Book___setitem__ (T : Tx w K mg) : ∃ fd, Fun K "__setitem__" "Book.__setitem__" s_Book___setitem__ (He.fAd K ("Book", some "__setitem__")) fd := by
  obtain ⟨fd, F⟩ := T.c.fun_ 13
  exact ⟨fd, Fun.of F⟩
theorem Tx.F_Book___eq__ (T : Tx w K mg) : ∃ fd, Fun K "__eq__" "Book.__eq__" s_Book___eq__ (He.fAd K ("Book", some "__eq__")) fd := by
  obtain ⟨fd, F⟩ := T.c.fun_ 14
  exact ⟨fd, Fun.of F⟩
theorem Tx.F_Book_text (T : Tx w K mg) : ∃ fd, Fun K "text" "Book.text" s_Book_text (He.fAd K ("Book", some "text")) fd := by
  obtain ⟨fd, F⟩ := T.c.fun_ 15
  exact ⟨fd, Fun.of F⟩
theorem Tx.F_read_book (T : Tx w K mg) : ∃ fd, Fun K "read_book" "read_book" s_read_book (He.fAd K ("read_book", none)) fd := by
  obtain ⟨fd, F⟩ := T.c.fun_ 16
  exact ⟨fd, Fun.of F⟩
end
end Sm
set_option maxHeartbeats 4000000
namespace Sm
open PySem PySem.Spec PyProof.Rows L2
local macro_rules | `(tactic| walk_at "rd1") => `(tactic| first
  | (with_reducible refine r_seq ?_) | (with_reducible refine r_asg ?_) | (with_reducible refine r_gname ?_)
  | ((with_reducible refine' r_var ?e ?_); (case e => rfl)) | (with_reducible refine r_c ?_)
  | (with_reducible refine r_ret ?_) | (with_reducible refine r_retN ?_) | (with_reducible refine r_drop ?_) | (with_reducible refine r_next ?_) | (with_reducible refine r_ifs ?_)
  | (with_reducible refine r_op ?_) | (with_reducible refine r_rI0 ?_)
  | (with_reducible refine r_test ?_) | (with_reducible refine r_tb ?_) | (with_reducible refine Exists.intro _ (And.intro (Eq.refl (V.bl _)) ?_))
  | (with_reducible refine r_nil ?_) | (with_reducible refine r_cons ?_) | (with_reducible refine r_cb ?_) | (with_reducible refine r_call ?_)
  | (with_reducible refine r_callS ?_) | (with_reducible refine r_meth ?_) | (with_reducible refine r_ownIx ?_) | (with_reducible refine r_ownSet ?_)
  | (with_reducible refine r_not ?_) | (with_reducible refine r_and ?_) | (with_reducible refine r_or ?_)
  | (with_reducible refine r_lst ?_) | (with_reducible refine r_tup ?_) | (with_reducible refine Or.inl (Exists.intro _ (And.intro (Eq.refl [V.int _]) ?_)))
  | ((with_reducible refine r_rI ?c ?_); (case c => first | (show (0 : Int) < _; decide) | exact ⟨by decide, by decide⟩))
  | (with_reducible refine r_for ?_) | (with_reducible refine r_rng1 ?_) | (with_reducible refine r_rng2 ?_) | (with_reducible refine r_ilist ?_) | (with_reducible refine r_itup ?_)
  | (with_reducible refine r_m0 ?_) | (with_reducible refine r_m1 ?_) | (with_reducible refine r_isStr ?_) | (with_reducible refine r_newS ?_) | (with_reducible refine r_fld ?_)
  | (with_reducible refine r_bm ?_) | (with_reducible refine r_bm0 ?_) | (with_reducible refine r_sl ?_) | (with_reducible refine r_nopart ?_) | (with_reducible refine r_part ?_)
  | (with_reducible refine r_pcons ?_) | (with_reducible refine r_pnil ?_) | (with_reducible refine r_dget2 ?_) | (with_reducible refine r_dget1 ?_)
  | (with_reducible refine r_lc ?_) | (with_reducible refine r_yes ?_)
  | (with_reducible refine r_un ?_) | (with_reducible refine r_rU ?_)
  | (with_reducible refine r_disp ?_) | (with_reducible refine r_andV ?_) | (with_reducible refine r_orV ?_) | (with_reducible refine r_notV ?_) | (with_reducible refine r_dnewK ?_)
  | (with_reducible refine r_dget ?_) | (with_reducible refine r_dput ?_)
  | ((with_reducible refine r_rEq ?e ?_); (case e => rfl)) | ((with_reducible refine r_rNe ?e ?_); (case e => rfl)))
local macro_rules | `(tactic| walk_at "rd") => `(tactic| repeat (walk_at "rd1"))
section
variable {P : Program} {w : World} {K : PySem.W.Frag} {mg : Str → Option Value} {base : Heap}
/-- a cell of the script -/
def cellAt (ns : List Int) (k : Int) : Int := if k < ns.length then ns.getD k.toNat 0 else 0
def sp_cell (K : PySem.W.Frag) : Sp := fun vs H Q _ => ∃ (a : Addr) (ns : List Int) (k : Int), vs = [.ref a, .int k] ∧ SqL K H a (ns.map V.int) ∧ 0 ≤ k ∧ Q (.int (cellAt ns k)) H
theorem ok_cell (T : Tx w K mg) : ∃ fd, FnOk P w K mg base CX0 1 (He.fAd K ("_law_cell", none)) fd ["script", "k"] (sp_cell K) ∧ Binds K fd ["script", "k"] [] := by
  obtain ⟨fd, F⟩ := T.F__law_cell
  refine ⟨fd, F.ok sc__law_cell (fun vs H Q E h => ?_) (fun cdv A outer s H vs Q E hr h => ?_), F.binds fun _ _ _ _ _ _ us hl => match us, hl with | [_, _], _ => rfl⟩
  · obtain ⟨a, ns, k, rfl, _⟩ := h
    rfl
  · obtain ⟨a, ns, k, rfl, hs, hk, q⟩ := h
    refine ⟨_, (pss_cons (ps_if (pt_cmpR op_lt (pv 1) (pe_callB call_len_seq (by rfl) T.n_len PySem.boot_len (pa_cons (pv 0) pa_nil)) (nomark _))
        (pss_one (ps_ret (pe_ix ix_list (pv 0) (pv 1) (fun _ _ => rfl))))
        pss_nil)
      (pss_one (ps_ret pe_int))), ?_⟩
    walk_at "rd"
    refine ⟨_, _, rfl, .inl hs, ?_⟩
    walk_at "rd"
    rw [List.length_map]
    refine r_ite (fun hlt => ?_) (fun hge => ?_)
    · walk_at "rd"
      refine r_ixL hs (atI_of hk (v := .int (ns.getD k.toNat 0)) ?_) ?_
      · rw [List.getElem?_map, List.getD_eq_getElem?_getD]
        have : k.toNat < ns.length := by omega
        rw [List.getElem?_eq_getElem this]; rfl
      · unfold cellAt at q; rw [if_pos hlt] at q; exact q
    · walk_at "rd"
      unfold cellAt at q; rw [if_neg hge] at q; exact q
def sp_entries : Sp := fun vs H Q _ => vs = [] ∧ ∀ p, H p = none → Q (.ref p) (upd H p (.lst (entriesL.map V.str)))
theorem ok_entries (T : Tx w K mg) : ∃ fd, FnOk P w K mg base CX0 1 (He.fAd K ("_law_entries", none)) fd [] sp_entries ∧ Binds K fd [] [] := by
  obtain ⟨fd, F⟩ := T.F__law_entries
  refine ⟨fd, F.ok sc__law_entries (fun vs H Q E h => ?_) (fun cdv A outer s H vs Q E hr h => ?_), F.binds fun _ _ _ _ _ _ us hl => match us, hl with | [], _ => rfl⟩
  · obtain ⟨rfl, _⟩ := h
    rfl
  · obtain ⟨rfl, q⟩ := h
    refine ⟨_, (pss_one (ps_ret (pe_lst (pa_cons pe_str (pa_cons pe_str (pa_cons pe_str (pa_cons pe_str (pa_cons pe_str (pa_cons pe_str (pa_cons pe_str (pa_cons pe_str (pa_cons pe_str (pa_cons pe_str pa_nil))))))))))))), ?_⟩
    exact ⟨by show 10 ≤ sizeLine; decide, q⟩
def sp_choices : Sp := fun vs H Q _ => ∃ (i : Nat), i < 10 ∧ vs = [.str (ent i)] ∧ ∀ p H', H p = none → Chg [] H H' → H' p = some (.lst ((chs i).map V.str)) → Q (.ref p) H'
def toldD : List (Key × V) := [(.inr "work", .str "drop left short join"), (.inr "write", .str "raise partly skip stop"), (.inr "meet", .str "leave raise"), (.inr "test", .str "ignore raise stop"), (.inr "partly", .str "pass stop"), (.inr "value", .str "show blank skip stop"), (.inr "path", .str "show blank skip stop")]
theorem told_of : ∀ i, i < 10 → ∃ s : Str, (valV (mergeK [] toldD) (Sum.inr (ent i) : Key)).getD (.str "forget stick stop") = .str s ∧ Txt.split s " " = chs i ∧ s.length + 2 ≤ sizeLine := by
  refine ten ?_ ?_ ?_ ?_ ?_ ?_ ?_ ?_ ?_ ?_
  all_goals exact ⟨_, rfl, by decide +kernel, by decide⟩
theorem ok_choices (T : Tx w K mg) : ∃ fd, FnOk P w K mg base CX0 1 (He.fAd K ("_law_choices", none)) fd ["entry"] sp_choices ∧ Binds K fd ["entry"] [] := by
  obtain ⟨fd, F⟩ := T.F__law_choices
  refine ⟨fd, F.ok sc__law_choices (fun vs H Q E h => ?_) (fun cdv A outer s H vs Q E hr h => ?_), F.binds fun _ _ _ _ _ _ us hl => match us, hl with | [_], _ => rfl⟩
  · obtain ⟨i, _, rfl, _⟩ := h
    rfl
  · obtain ⟨i, hi, rfl, q⟩ := h
    have hu := hu_of hr
    refine ⟨_, (pss_cons (ps_set (i := 1) sc__law_choices.nd rfl (Or.inl rfl) (pe_disp (pps_cons pe_str pe_str (pps_cons pe_str pe_str (pps_cons pe_str pe_str (pps_cons pe_str pe_str (pps_cons pe_str pe_str (pps_cons pe_str pe_str (pps_cons pe_str pe_str pps_nil))))))) (by rfl) (by rfl) (fun z => by cases z) (by decide)))
      (pss_one (ps_ret (pe_split (pe_dget2 hu (pv 1) (pv 0) pe_str ⟨rfl, rfl, rfl, rfl⟩) pe_str)))), ?_⟩
    walk_at "rd"
    intro p hp
    walk_at "rd"
    refine ⟨upd_same, toldD, rfl, by decide, ?_⟩
    rw [upd_upd]
    walk_at "rd"
    refine ⟨_, rfl, isD upd_same, ?_⟩
    walk_at "rd"
    refine ⟨_, DGet.k (k := Sum.inr (ent i)) upd_same, ?_⟩
    obtain ⟨s, e1, e2, e3⟩ := told_of i hi
    rw [e1]
    walk_at "rd"
    refine ⟨_, _, rfl, rfl, rfl, e3, ?_⟩
    rw [e2]
    walk_at "rd"
    intro l hl
    refine q l _ ?_ ?_ upd_same
    · exact (Chg.new (S := []) hp).fresh hl
    · exact (Chg.new hp).trans (Chg.new hl)
theorem nat_of_mod (c m : Int) (h : 0 < m) : ∃ n : Nat, c % m = (n : Int) ∧ (n : Int) < m := ⟨(c % m).toNat, (Int.toNat_of_nonneg (Int.emod_nonneg _ (by omega))).symm, by rw [Int.toNat_of_nonneg (Int.emod_nonneg _ (by omega))]; exact Int.emod_lt_of_pos _ h⟩
theorem chs_pick {i : Nat} (hi : i < 10) (c : Int) : ∃ (n : Nat) (x : Str), c % ((chs i).length : Int) = (n : Int) ∧ (chs i)[n]? = some x ∧ x ∈ chs i := by
  obtain ⟨h1, h2⟩ := chs_pos i hi
  obtain ⟨n, e, l⟩ := nat_of_mod c ((chs i).length : Int) (by omega)
  have l' : n < (chs i).length := by omega
  exact ⟨n, (chs i)[n], e, List.getElem?_eq_getElem l', List.getElem_mem l'⟩
def sp_picks : Sp := fun vs H Q _ => ∃ c : Int, vs = [.int c] ∧ ∀ cs p H', OkB cs → H p = none → Chg [] H H' → H' p = some (.dK (dcs cs)) → Q (.ref p) H'
theorem ok_picks (T : Tx w K mg) : ∃ fd, FnOk P w K mg base CX0 2 (He.fAd K ("_law_picks", none)) fd ["cell"] sp_picks ∧ Binds K fd ["cell"] [] := by
  obtain ⟨fd, F⟩ := T.F__law_picks
  obtain ⟨fdE, G__law_entries, b__law_entries⟩ := ok_entries (P := P) (w := w) (base := base) T
  obtain ⟨fdC, G__law_choices, b__law_choices⟩ := ok_choices (P := P) (w := w) (base := base) T
  refine ⟨fd, F.ok sc__law_picks (fun vs H Q E h => ?_) (fun cdv A outer s H vs Q E hr h => ?_), F.binds fun _ _ _ _ _ _ us hl => match us, hl with | [_], _ => rfl⟩
  · obtain ⟨c, rfl, _⟩ := h
    rfl
  · obtain ⟨c, rfl, q⟩ := h
    have hu := hu_of hr
    refine ⟨_, (pss_cons (ps_set (i := 1) sc__law_picks.nd rfl (Or.inl rfl) (pe_lst (pa_cons pe_str (pa_cons pe_str (pa_cons pe_str (pa_cons pe_str (pa_cons pe_str (pa_cons pe_str (pa_cons pe_str (pa_cons pe_str (pa_cons pe_str (pa_cons pe_str pa_nil))))))))))))
      (pss_cons (ps_set (i := 2) sc__law_picks.nd rfl (Or.inl rfl) (pe_call0 G__law_entries (hr.mono (by decide)) (by rfl) T.g__law_entries T.k__law_entries b__law_entries .nil pass0))
      (pss_cons (ps_set (i := 3) sc__law_picks.nd rfl (Or.inl rfl) (pe_split (pe_ix ix_list (pv 1) (pe_op op_mod (pe_callTy call_int1 (by rfl) T.n_int (by decide +kernel) (pa_cons (pv 0) pa_nil)) pe_int) (fun _ _ => rfl)) pe_str))
      (pss_cons (ps_set (i := 4) sc__law_picks.nd rfl (Or.inl rfl) (pe_op op_mod (pe_callTy call_int1 (by rfl) T.n_int (by decide +kernel) (pa_cons (pe_op op_fdiv (pv 0) pe_int) pa_nil)) pe_int))
      (pss_cons (ps_set (i := 5) sc__law_picks.nd rfl (Or.inl rfl) (pe_op op_fdiv (pv 0) pe_int))
      (pss_cons (ps_set (i := 6) sc__law_picks.nd rfl (Or.inl rfl) pe_dnewK)
      (pss_cons (ps_for PassesOwn.never rfl (pi_range1 rfl T.n_range (pa_cons pe_int pa_nil)) (pg_name (i := 7) sc__law_picks.nd rfl (Or.inl rfl))
        (pss_one (ps_dput hu (pv 6) (pe_ix ix_list (pv 2) (pv 7) (fun _ _ => rfl)) (pe_ix ix_list (pv 3) (pv 7) (fun _ _ => rfl)) rfl)))
      (C8.pss_cut (ps_if (pt_cmpR op_eq (pv 4) pe_int (nomark _))
        (pss_cons (ps_set (i := 8) sc__law_picks.nd rfl (Or.inl rfl) (pe_ix ix_list (pv 2) (pe_op op_mod (pe_callTy call_int1 (by rfl) T.n_int (by decide +kernel) (pa_cons (pv 5) pa_nil)) pe_int) (fun _ _ => rfl)))
      (pss_cons (ps_set (i := 9) sc__law_picks.nd rfl (Or.inl rfl) (pe_call G__law_choices (hr.mono (by decide)) (by rfl) T.g__law_choices T.k__law_choices b__law_choices .nil pass0 (pa_cons (pv 8) pa_nil)))
      (pss_one (ps_dput hu (pv 6) (pv 8) (pe_ix ix_list (pv 9) (pe_op op_mod (pe_callTy call_int1 (by rfl) T.n_int (by decide +kernel) (pa_cons (pe_op op_fdiv (pv 5) pe_int) pa_nil)) (pe_callB call_len_seq (by rfl) T.n_len PySem.boot_len (pa_cons (pv 9) pa_nil))) (fun _ _ => rfl)) rfl))))
        pss_nil)
      (C8.pss_cut (ps_if (pt_cmpR op_eq (pv 4) pe_int (nomark _))
        (pss_one (ps_for PassesOwn.never rfl (pi_range1 rfl T.n_range (pa_cons pe_int pa_nil)) (pg_name (i := 7) sc__law_picks.nd rfl (Or.inl rfl))
        (pss_cons (ps_set (i := 9) sc__law_picks.nd rfl (Or.inl rfl) (pe_call G__law_choices (hr.mono (by decide)) (by rfl) T.g__law_choices T.k__law_choices b__law_choices .nil pass0 (pa_cons (pe_ix ix_list (pv 2) (pv 7) (fun _ _ => rfl)) pa_nil)))
      (pss_cons (ps_dput hu (pv 6) (pe_ix ix_list (pv 2) (pv 7) (fun _ _ => rfl)) (pe_ix ix_list (pv 9) (pe_op op_mod (pe_callTy call_int1 (by rfl) T.n_int (by decide +kernel) (pa_cons (pe_op op_add (pv 5) (pv 7)) pa_nil)) (pe_callB call_len_seq (by rfl) T.n_len PySem.boot_len (pa_cons (pv 9) pa_nil))) (fun _ _ => rfl)) rfl)
      (pss_one (ps_set (i := 5) sc__law_picks.nd rfl (Or.inl rfl) (pe_op op_fdiv (pv 5) (pe_callB call_len_seq (by rfl) T.n_len PySem.boot_len (pa_cons (pv 9) pa_nil)))))))))
        pss_nil)
      (pss_one (ps_ret (pv 6)))))))))))), ?_⟩
    walk_at "rd"
    refine ⟨by show 10 ≤ sizeLine; decide, fun l1 h1 => ?_⟩
    generalize eH : upd H l1 _ = H1
    obtain ⟨e1, _, c1, _⟩ : H1 l1 = some (.lst (basesL.map V.str)) ∧ _ := laid (S := []) eH Chg.refl h1
    walk_at "rd"
    refine ⟨rfl, fun l2 h2 => ?_⟩
    generalize eH : upd H1 l2 _ = H2
    obtain ⟨e2, k2, c2, n2⟩ := laid eH c1 h2
    have e1 := k2.at e1
    walk_at "rd"
    obtain ⟨n, hn, hn2⟩ := nat_of_mod c 10 (by decide)
    obtain ⟨s, hs, ho, hz⟩ := bases_ok n (by omega)
    refine r_ixL (sqL e1) (by rw [hn]; exact atI_ofNat (strs_at hs)) ?_
    walk_at "rd"
    refine ⟨_, _, rfl, rfl, rfl, hz, ?_⟩
    generalize Txt.split s " " = bs at ho
    walk_at "rd"
    intro l3 h3
    generalize eH : upd H2 l3 _ = H3
    obtain ⟨e3, k3, c3, n3⟩ := laid eH c2 h3
    have e2 := k3.at e2
    walk_at "rd"
    intro d hd
    generalize eH : upd H3 d _ = H4
    obtain ⟨e4, k4, c4, n4⟩ := laid eH c3 hd
    have e2 := k4.at e2
    have e3 := k4.at e3
    walk_at "rd"
    generalize c / 30 = rest
    generalize c / 10 % 3 = mode
    refine ⟨_, rfl, by decide, by decide, for_range (n := 10) (fun i σ H' => ∃ v7, σ = [some (.int c), some (.ref l1), some (.ref l2), some (.ref l3), some (.int mode), some (.int rest), some (.ref d), v7, none, none] ∧ Chg [d] H4 H' ∧ H' d = some (.dK ((dcs bs).take i))) ⟨none, rfl, Chg.refl, e4⟩ ?_ ?_⟩
    · rintro i σ H5 hi ⟨v7, rfl, c5, e5⟩
      obtain ⟨b, hb, hbc⟩ := ho.at hi
      have hd2 : l2 ≠ d := ne_of e2 e4 (by intro z; cases z)
      have hd3 : l3 ≠ d := ne_of e3 e4 (by intro z; cases z)
      walk_at "rd"
      rw [show (0 : Int) + (i : Nat) = (i : Nat) by omega]
      refine r_ixL (sqL (c5.at1 e3 hd3)) (atI_ofNat (strs_at hb)) ?_
      walk_at "rd"
      refine r_ixL (sqL (c5.at1 e2 hd2)) (atI_ofNat (strs_at (ent_at hi))) ?_
      refine ⟨_, _, rfl, DPut.k (k := Sum.inr (ent i)) e5 (small1000 (by rw [List.length_take]; omega)), ?_⟩
      rw [dcs_take_put ho.len hi hb]
      generalize eH : upd H5 d _ = H6
      obtain ⟨e6, k6⟩ := put eH e5
      exact ⟨_, rfl, c5.trans k6, e6⟩
    · rintro σ H5 ⟨v7, rfl, c5, e5⟩
      rw [List.take_of_length_le (Nat.le_of_eq (dcs_len ho.len))] at e5
      have hd2 : l2 ≠ d := ne_of e2 e4 (by intro z; cases z)
      have e2 := c5.at1 e2 hd2
      have c6 : Chg [] H H5 := c4.then c5 (c3.fresh hd)
      -- if mode == 1
      refine ⟨fun σ' H' => ∃ cs v7 v8 v9, OkB cs ∧ σ' = [some (.int c), some (.ref l1), some (.ref l2), some (.ref l3), some (.int mode), some (.int rest), some (.ref d), v7, v8, v9] ∧ Chg [] H H' ∧ H' d = some (.dK (dcs cs)) ∧ H' l2 = some (.lst (entriesL.map V.str)), ?_, ?_⟩
      · walk_at "rd"
        refine r_ite (fun hm => ?_) (fun hm => ?_)
        · walk_at "rd"
          obtain ⟨n, hn, hn2⟩ := nat_of_mod rest 10 (by decide)
          have hn10 : n < 10 := by omega
          refine r_ixL (sqL e2) (by rw [hn]; exact atI_ofNat (strs_at (ent_at hn10))) ?_
          walk_at "rd"
          refine ⟨n, hn10, rfl, fun l4 H6 h4 k6 e6 => ?_⟩
          walk_at "rd"
          obtain ⟨m, x, hx, hxe, hxc⟩ := chs_pick hn10 (rest / 10)
          obtain ⟨p1, p2⟩ := chs_pos n hn10
          refine ⟨_, _, rfl, .inl (sqL e6), ?_⟩
          rw [List.length_map]
          refine r_rI (by show (0 : Int) < _; omega) ?_
          rw [hx]
          refine r_ixL (sqL e6) (atI_ofNat (strs_at hxe)) ?_
          walk_at "rd"
          refine ⟨_, _, rfl, DPut.k (k := Sum.inr (ent n)) (k6.at e5) (small1000 (by rw [dcs_len ho.len]; decide)), ?_⟩
          rw [dcs_put ho.len hn10]
          generalize eH : upd H6 d _ = H7
          obtain ⟨e7, k7⟩ := put eH (k6.at e5)
          exact ⟨_, _, _, _, ho.set hxc, rfl, (c6.trans k6).then k7 n4, e7, k7.at1 (k6.at e2) hd2⟩
        · walk_at "rd"
          exact ⟨bs, _, _, _, ho, rfl, c6, e5, e2⟩
      · rintro σ' H' ⟨cs, v7, v8, v9, hcs, rfl, c7, e7, e2⟩
        -- if mode == 2
        refine ⟨fun σ' H'' => ∃ cs v5 v7 v8 v9, OkB cs ∧ σ' = [some (.int c), some (.ref l1), some (.ref l2), some (.ref l3), some (.int mode), v5, some (.ref d), v7, v8, v9] ∧ Chg [] H H'' ∧ H'' d = some (.dK (dcs cs)), ?_, ?_⟩
        · walk_at "rd"
          refine r_ite (fun hm => ?_) (fun hm => ?_)
          · walk_at "rd"
            refine ⟨_, rfl, by decide, by decide, for_range (n := 10) (fun i σ H'' => ∃ cs rest v7 v9, OkB cs ∧ σ = [some (.int c), some (.ref l1), some (.ref l2), some (.ref l3), some (.int mode), some (.int rest), some (.ref d), v7, v8, v9] ∧ Chg [d] H' H'' ∧ H'' d = some (.dK (dcs cs))) ⟨cs, rest, v7, v9, hcs, rfl, Chg.refl, e7⟩ ?_ ?_⟩
            · rintro i σ H5 hi ⟨cs, rest, v7, v9, hcs, rfl, c8, e8⟩
              have e2 := c8.at1 e2 hd2
              walk_at "rd"
              rw [show (0 : Int) + (i : Nat) = (i : Nat) by omega]
              refine r_ixL (sqL e2) (atI_ofNat (strs_at (ent_at hi))) ?_
              walk_at "rd"
              refine ⟨i, hi, rfl, fun l4 H6 h4 k6 e6 => ?_⟩
              obtain ⟨p1, p2⟩ := chs_pos i hi
              walk_at "rd"
              obtain ⟨m, x, hx, hxe, hxc⟩ := chs_pick hi (rest + (i : Nat))
              refine ⟨_, _, rfl, .inl (sqL e6), ?_⟩
              rw [List.length_map]
              refine r_rI (by show (0 : Int) < _; omega) ?_
              rw [hx]
              refine r_ixL (sqL e6) (atI_ofNat (strs_at hxe)) ?_
              walk_at "rd"
              refine r_ixL (sqL (k6.at e2)) (atI_ofNat (strs_at (ent_at hi))) ?_
              have e8' := k6.at e8
              refine ⟨_, _, rfl, DPut.k (k := Sum.inr (ent i)) e8' (small1000 (by rw [dcs_len hcs.len]; decide)), ?_⟩
              rw [dcs_put hcs.len hi]
              generalize eH : upd H6 d _ = H7
              obtain ⟨e7, k7⟩ := put eH e8'
              walk_at "rd"
              refine ⟨_, _, rfl, .inl (sqL (k7.at1 e6 (ne_of e6 e8' (by intro z; cases z)))), ?_⟩
              rw [List.length_map]
              refine r_rI ⟨by omega, by omega⟩ ?_
              exact ⟨_, _, _, _, hcs.set hxc, rfl, (c8.trans k6.up).trans k7, e7⟩
            · rintro σ H5 ⟨cs, rest, v7, v9, hcs, rfl, c8, e8⟩
              exact ⟨cs, _, _, _, _, hcs, rfl, c7.then c8 n4, e8⟩
          · walk_at "rd"
            exact ⟨cs, _, _, _, _, hcs, rfl, c7, e7⟩
        · rintro σ' H'' ⟨cs, v5, v7, v8, v9, hcs, rfl, c8, e8⟩
          walk_at "rd"
          exact q cs d H'' hcs n4 c8 e8
end
end Sm
set_option maxHeartbeats 4000000
namespace Sm
open PySem PySem.Spec PyProof.Rows L2
local macro_rules | `(tactic| walk_at "rd1") => `(tactic| first
  | (with_reducible refine r_seq ?_) | (with_reducible refine r_asg ?_) | (with_reducible refine r_gname ?_)
  | ((with_reducible refine' r_var ?e ?_); (case e => rfl)) | (with_reducible refine r_c ?_)
  | (with_reducible refine r_ret ?_) | (with_reducible refine r_retN ?_) | (with_reducible refine r_drop ?_) | (with_reducible refine r_next ?_) | (with_reducible refine r_ifs ?_)
  | (with_reducible refine r_op ?_) | (with_reducible refine r_rI0 ?_)
  | (with_reducible refine r_test ?_) | (with_reducible refine r_tb ?_) | (with_reducible refine Exists.intro _ (And.intro (Eq.refl (V.bl _)) ?_))
  | (with_reducible refine r_nil ?_) | (with_reducible refine r_cons ?_) | (with_reducible refine r_cb ?_) | (with_reducible refine r_call ?_)
  | (with_reducible refine r_callS ?_) | (with_reducible refine r_meth ?_) | (with_reducible refine r_ownIx ?_) | (with_reducible refine r_ownSet ?_)
  | (with_reducible refine r_not ?_) | (with_reducible refine r_and ?_) | (with_reducible refine r_or ?_)
  | (with_reducible refine r_lst ?_) | (with_reducible refine r_tup ?_) | (with_reducible refine Or.inl (Exists.intro _ (And.intro (Eq.refl [V.int _]) ?_)))
  | ((with_reducible refine r_rI ?c ?_); (case c => first | (show (0 : Int) < _; decide) | exact ⟨by decide, by decide⟩))
  | (with_reducible refine r_for ?_) | (with_reducible refine r_rng1 ?_) | (with_reducible refine r_rng2 ?_) | (with_reducible refine r_ilist ?_) | (with_reducible refine r_itup ?_)
  | (with_reducible refine r_m0 ?_) | (with_reducible refine r_m1 ?_) | (with_reducible refine r_isStr ?_) | (with_reducible refine r_newS ?_) | (with_reducible refine r_fld ?_)
  | (with_reducible refine r_bm ?_) | (with_reducible refine r_bm0 ?_) | (with_reducible refine r_sl ?_) | (with_reducible refine r_nopart ?_) | (with_reducible refine r_part ?_)
  | (with_reducible refine r_pcons ?_) | (with_reducible refine r_pnil ?_) | (with_reducible refine r_dget2 ?_) | (with_reducible refine r_dget1 ?_)
  | (with_reducible refine r_lc ?_) | (with_reducible refine r_yes ?_)
  | (with_reducible refine r_un ?_) | (with_reducible refine r_rU ?_)
  | (with_reducible refine r_disp ?_) | (with_reducible refine r_andV ?_) | (with_reducible refine r_orV ?_) | (with_reducible refine r_notV ?_) | (with_reducible refine r_dnewK ?_)
  | (with_reducible refine r_dget ?_) | (with_reducible refine r_dput ?_)
  | ((with_reducible refine r_rEq ?e ?_); (case e => rfl)) | ((with_reducible refine r_rNe ?e ?_); (case e => rfl)))
local macro_rules | `(tactic| walk_at "rd") => `(tactic| repeat (walk_at "rd1"))
section
variable {P : Program} {w : World} {K : PySem.W.Frag} {mg : Str → Option Value} {base : Heap}
/-- digits: many numbers below 5040 -/
def sp_digits : Sp := fun vs H Q _ => ∃ (c salt : Int) (n : Nat), vs = [.int c, .int (n : Int), .int salt] ∧ n ≤ 100 ∧ ∀ (ds : List Int) p H', ds.length = n → (∀ (i : Nat) (x : Int), ds[i]? = some x → 0 ≤ x ∧ x < 5040) → H p = none → Chg [] H H' → H' p = some (.lst (ds.map V.int)) → Q (.ref p) H'
theorem ok_digits (T : Tx w K mg) : ∃ fd, FnOk P w K mg base CX0 1 (He.fAd K ("_law_digits", none)) fd ["cell", "many", "salt"] sp_digits ∧ Binds K fd ["cell", "many", "salt"] [] := by
  obtain ⟨fd, F⟩ := T.F__law_digits
  refine ⟨fd, F.ok sc__law_digits (fun vs H Q E h => ?_) (fun cdv A outer s H vs Q E hr h => ?_), F.binds fun _ _ _ _ _ _ us hl => match us, hl with | [_, _, _], _ => rfl⟩
  · obtain ⟨c, salt, n, rfl, _⟩ := h
    rfl
  · obtain ⟨c, salt, n, rfl, hn, q⟩ := h
    have hu := hu_of hr
    refine ⟨_, (pss_cons (ps_set (i := 3) sc__law_digits.nd rfl (Or.inl rfl) (pe_lst pa_nil))
      (pss_cons (ps_set (i := 4) sc__law_digits.nd rfl (Or.inl rfl) (pv 0))
      (pss_cons (ps_for PassesOwn.never rfl (pi_range1 rfl T.n_range (pa_cons (pv 1) pa_nil)) (pg_name (i := 5) sc__law_digits.nd rfl (Or.inl rfl))
        (pss_cons (ps_expr (pe_bm PySem.F.plainAttrs_list PySem.F.slot_list_append PySem.F.type_list_append mt_append (pv 3) (pa_cons (pe_op op_mod (pe_callTy call_int1 (by rfl) T.n_int (by decide +kernel) (pa_cons (pe_op op_add (pv 4) (pe_op op_mul (pe_op op_add (pv 5) pe_int) (pv 2))) pa_nil)) pe_int) pa_nil)))
      (pss_one (ps_set (i := 4) sc__law_digits.nd rfl (Or.inl rfl) (pe_op op_fdiv (pv 4) pe_int)))))
      (pss_one (ps_ret (pv 3)))))), ?_⟩
    walk_at "rd"
    refine ⟨by show 0 ≤ sizeLine; decide, fun l1 h1 => ?_⟩
    generalize eH : upd H l1 _ = H1
    obtain ⟨e1, _, c1, n1⟩ : H1 l1 = some (.lst []) ∧ _ := laid (S := []) eH Chg.refl h1
    walk_at "rd"
    refine ⟨_, rfl, by omega, by omega, ?_⟩
    rw [Int.toNat_natCast]
    refine for_range (n := n) (fun i σ H' => ∃ (ds : List Int) (r : Int) (v5 : Option V), σ = [some (.int c), some (.int (n : Int)), some (.int salt), some (.ref l1), some (.int r), v5] ∧ Chg [l1] H1 H' ∧ H' l1 = some (.lst (ds.map V.int)) ∧ ds.length = i ∧ (∀ (i : Nat) (x : Int), ds[i]? = some x → 0 ≤ x ∧ x < 5040)) ⟨[], c, none, rfl, Chg.refl, e1, rfl, fun i x h => by simp at h⟩ ?_ ?_
    · rintro i σ H2 hi ⟨ds, r, v5, rfl, c2, e2, hl, hd⟩
      walk_at "rd"
      refine ⟨.inl ⟨rfl, _, sqL e2⟩, ?_⟩
      walk_at "rd"
      refine r_rI (.inl ⟨by omega, by omega⟩) ?_
      walk_at "rd"
      refine r_rAppend e2 (by rw [List.length_map]; exact small1000 (by omega)) ?_
      generalize eH : upd H2 l1 _ = H3
      obtain ⟨e3, k3⟩ := put eH e2
      walk_at "rd"
      refine ⟨ds ++ [(r + (0 + (i : Int) + 1) * salt) % 5040], _, _, rfl, c2.trans k3, ?_, ?_, ?_⟩
      · rw [List.map_append]; exact e3
      · rw [List.length_append, hl]; rfl
      · intro j x hj
        by_cases z : j < ds.length
        · rw [List.getElem?_append_left z] at hj
          exact hd j x hj
        · rw [List.getElem?_append_right (by omega)] at hj
          have : x = (r + (0 + (i : Int) + 1) * salt) % 5040 := by
            cases e : j - ds.length with
            | zero => rw [e] at hj; exact (Option.some.inj hj).symm
            | succ m => rw [e] at hj; simp at hj
          rw [this]
          exact ⟨Int.emod_nonneg _ (by decide), Int.emod_lt_of_pos _ (by decide)⟩
    · rintro σ H2 ⟨ds, r, v5, rfl, c2, e2, hl, hd⟩
      walk_at "rd"
      exact q ds l1 H2 hl hd n1 (c1.then c2 n1) e2
/-- the written form -/
def pairS (e c : Str) : Str := e ++ "=" ++ c
def formL (cs : List Str) : List Str := List.zipWith pairS entriesL cs
def formOf (cs : List Str) : Str := Txt.join " " (formL cs)
def Small (cs : List Str) : Prop := ∀ c ∈ cs, c.length ≤ 100
theorem formL_len {cs : List Str} (h : cs.length = 10) : (formL cs).length = 10 := by unfold formL; rw [List.length_zipWith, h, entries_len]; rfl
theorem formL_at {cs : List Str} {i : Nat} {c : Str} (hi : i < 10) (h : cs[i]? = some c) : (formL cs)[i]? = some (pairS (ent i) c) := by
  unfold formL; rw [List.getElem?_zipWith, ent_at hi, h]
theorem ent_small : ∀ i, i < 10 → (ent i).length ≤ 6 := ten (by decide) (by decide) (by decide) (by decide) (by decide) (by decide) (by decide) (by decide) (by decide) (by decide)
theorem strapp_len (a b : Str) : (a ++ b).length = a.length + b.length := by
  show (a.cps ++ b.cps).size = _
  rw [Array.size_append]; rfl
theorem pair_small {i : Nat} {c : Str} (hi : i < 10) (h : c.length ≤ 100) : (pairS (ent i) c).length ≤ 107 := by
  have := ent_small i hi
  unfold pairS
  rw [strapp_len, strapp_len]
  show (ent i).length + 1 + c.length ≤ 107
  omega
theorem form_sum {cs : List Str} (h : cs.length = 10) (hs : Small cs) : ((formL cs).map (·.length)).sum ≤ 1070 := by
  have hb : ∀ x ∈ (formL cs).map (·.length), x ≤ 107 := by
    intro x hx
    obtain ⟨y, hy, rfl⟩ := List.mem_map.mp hx
    obtain ⟨i, hi, e⟩ := List.getElem_of_mem hy
    rw [formL_len h] at hi
    have hc : cs[i]? = some (cs[i]'(by omega)) := List.getElem?_eq_getElem _
    have e2 := formL_at hi hc
    rw [List.getElem?_eq_getElem (by rw [formL_len h]; exact hi), e] at e2
    rw [Option.some.inj e2]
    exact pair_small hi (hs _ (List.getElem_mem _))
  have hl : ((formL cs).map (·.length)).length = 10 := by rw [List.length_map, formL_len h]
  have : ∀ (l : List Nat), (∀ x ∈ l, x ≤ 107) → l.sum ≤ 107 * l.length := by
    intro l
    induction l with
    | nil => intro _; simp
    | cons a r ih => intro hl; rw [List.sum_cons, List.length_cons]; have := ih fun x hx => hl x (List.mem_cons_of_mem _ hx); have := hl a List.mem_cons_self; omega
  have := this _ hb
  omega
def sp_form : Sp := fun vs H Q _ => ∃ (a : Addr) (cs : List Str), vs = [.ref a] ∧ cs.length = 10 ∧ Small cs ∧ H a = some (.dK (dcs cs)) ∧ ∀ H', Chg [] H H' → Q (.str (formOf cs)) H'
theorem ok_form (T : Tx w K mg) : ∃ fd, FnOk P w K mg base CX0 2 (He.fAd K ("_law_form", none)) fd ["picks"] sp_form ∧ Binds K fd ["picks"] [] := by
  obtain ⟨fd, F⟩ := T.F__law_form
  obtain ⟨fdE, G__law_entries, b__law_entries⟩ := ok_entries (P := P) (w := w) (base := base) T
  refine ⟨fd, F.ok sc__law_form (fun vs H Q E h => ?_) (fun cdv A outer s H vs Q E hr h => ?_), F.binds fun _ _ _ _ _ _ us hl => match us, hl with | [_], _ => rfl⟩
  · obtain ⟨c, cs, rfl, _⟩ := h
    rfl
  · obtain ⟨a, cs, rfl, hcl, hsm, ha, q⟩ := h
    have hu := hu_of hr
    refine ⟨_, (pss_one (ps_ret (pe_join pe_str (pe_lc (own := [("name", 1)]) (g := gName 1) rfl sc__law_form.nd (pi_list (pe_call0 G__law_entries (hr.mono (by decide)) (by rfl) T.g__law_entries T.k__law_entries b__law_entries .nil pass0)) (blkOk_by (own := [("name", 1)]) (N := ["picks", "name"]) (sc := defScope s__law_form) (by decide +kernel)) (fun _ _ _ _ _ => pg_name (i := 1) sc__law_form.nd rfl (Or.inl rfl)) (fun _ _ _ _ _ => pts_nil) (fun _ _ _ _ _ => (pe_op op_add_str (pe_op op_add_str (pv 1) pe_str) (pe_dget hu (pv 0) (pv 1) (fun _ _ => rfl)))))))), ?_⟩
    walk_at "rd"
    refine ⟨rfl, fun l1 h1 => ?_⟩
    generalize eH : upd H l1 _ = H1
    obtain ⟨e1, _, c1, n1⟩ := laid (S := []) eH Chg.refl h1
    refine ⟨_, rfl, ⟨_, sqL e1⟩, fun D hD => ?_⟩
    have hDl : l1 ≠ D := ne_of_none e1 hD
    have hDa : a ≠ D := ne_of_none (c1.at ha) hD
    refine lc_list (K := K) (a := l1) (xs := entriesL.map V.str) (fun i H' => Chg [D] H1 H' ∧ H' D = some (.lst (((formL cs).take i).map V.str))) ⟨(Chg.new hD), upd_same⟩ (fun i H' _ c => sqL (c.1.at1 e1 hDl)) ?_ ?_
    · rintro i x H2 hx ⟨c2, e2⟩
      obtain ⟨hi, rfl⟩ : i < 10 ∧ x = .str (ent i) := by
        have hi : i < (entriesL.map V.str).length := (List.getElem?_eq_some_iff.mp hx).1
        have hi10 : i < 10 := by rw [List.length_map] at hi; exact hi
        rw [strs_at (ent_at hi10)] at hx
        exact ⟨hi10, (Option.some.inj hx).symm⟩
      obtain ⟨c, hc⟩ : ∃ c, cs[i]? = some c := ⟨cs[i]'(by omega), List.getElem?_eq_getElem _⟩
      have hcs : c.length ≤ 100 := hsm c (List.mem_of_getElem? hc)
      have he := ent_small i hi
      walk_at "rd"
      refine ⟨rfl, ?_⟩
      walk_at "rd"
      refine iteT ?_
      walk_at "rd"
      refine ⟨_, _, rfl, rfl, by show (ent i).length + 1 ≤ sizeLine; exact Nat.le_trans (show _ ≤ 100 by omega) (by decide), ?_⟩
      walk_at "rd"
      refine ⟨_, _, rfl, DGet.k (k := Sum.inr (ent i)) (c2.at1 (c1.at ha) hDa) |> (fun z => by rw [dcs_get hcl hi hc] at z; exact z), ?_⟩
      refine ⟨_, _, rfl, rfl, by rw [strapp_len]; show (ent i).length + 1 + c.length ≤ sizeLine; exact Nat.le_trans (show _ ≤ 200 by omega) (by decide), ?_⟩
      refine ⟨_, e2, by rw [List.length_map, List.length_take]; exact small1000 (by omega), ?_, ?_⟩
      · exact c2.trans (Chg.set e2 (List.mem_singleton.mpr rfl))
      · rw [upd_same]
        show some (HO.lst (List.map V.str (List.take i (formL cs)) ++ [V.str (pairS (ent i) c)])) = _
        rw [List.take_add_one, formL_at hi hc, List.map_append]
        rfl
    · rintro H2 ⟨c2, e2⟩
      rw [List.take_of_length_le (by rw [formL_len hcl]; exact Nat.le_of_eq rfl)] at e2
      refine ⟨_, _, formL cs, rfl, rfl, .inl (sqL e2), ?_, ?_⟩
      · have := form_sum hcl hsm
        rw [formL_len hcl]
        show _ + 10 * 1 ≤ _
        omega
      · exact q H2 (c1.trans (c2.drop hD))
end
end Sm
set_option maxHeartbeats 4000000
namespace Sm
open PySem PySem.Spec PyProof.Rows L2
local macro_rules | `(tactic| walk_at "rd1") => `(tactic| first
  | (with_reducible refine r_seq ?_) | (with_reducible refine r_asg ?_) | (with_reducible refine r_gname ?_)
  | ((with_reducible refine' r_var ?e ?_); (case e => rfl)) | (with_reducible refine r_c ?_)
  | (with_reducible refine r_ret ?_) | (with_reducible refine r_retN ?_) | (with_reducible refine r_drop ?_) | (with_reducible refine r_next ?_) | (with_reducible refine r_ifs ?_)
  | (with_reducible refine r_op ?_) | (with_reducible refine r_rI0 ?_)
  | (with_reducible refine r_test ?_) | (with_reducible refine r_tb ?_) | (with_reducible refine Exists.intro _ (And.intro (Eq.refl (V.bl _)) ?_))
  | (with_reducible refine r_nil ?_) | (with_reducible refine r_cons ?_) | (with_reducible refine r_cb ?_) | (with_reducible refine r_call ?_)
  | (with_reducible refine r_callS ?_) | (with_reducible refine r_meth ?_) | (with_reducible refine r_ownIx ?_) | (with_reducible refine r_ownSet ?_)
  | (with_reducible refine r_not ?_) | (with_reducible refine r_and ?_) | (with_reducible refine r_or ?_)
  | (with_reducible refine r_lst ?_) | (with_reducible refine r_tup ?_) | (with_reducible refine Or.inl (Exists.intro _ (And.intro (Eq.refl [V.int _]) ?_)))
  | ((with_reducible refine r_rI ?c ?_); (case c => first | (show (0 : Int) < _; decide) | exact ⟨by decide, by decide⟩))
  | (with_reducible refine r_for ?_) | (with_reducible refine r_rng1 ?_) | (with_reducible refine r_rng2 ?_) | (with_reducible refine r_ilist ?_) | (with_reducible refine r_itup ?_)
  | (with_reducible refine r_m0 ?_) | (with_reducible refine r_m1 ?_) | (with_reducible refine r_isStr ?_) | (with_reducible refine r_newS ?_) | (with_reducible refine r_fld ?_)
  | (with_reducible refine r_bm ?_) | (with_reducible refine r_bm0 ?_) | (with_reducible refine r_sl ?_) | (with_reducible refine r_nopart ?_) | (with_reducible refine r_part ?_)
  | (with_reducible refine r_pcons ?_) | (with_reducible refine r_pnil ?_) | (with_reducible refine r_dget2 ?_) | (with_reducible refine r_dget1 ?_)
  | (with_reducible refine r_lc ?_) | (with_reducible refine r_yes ?_)
  | (with_reducible refine r_un ?_) | (with_reducible refine r_rU ?_)
  | (with_reducible refine r_disp ?_) | (with_reducible refine r_andV ?_) | (with_reducible refine r_orV ?_) | (with_reducible refine r_notV ?_) | (with_reducible refine r_dnewK ?_)
  | (with_reducible refine r_dget ?_) | (with_reducible refine r_dput ?_)
  | ((with_reducible refine r_rEq ?e ?_); (case e => rfl)) | ((with_reducible refine r_rNe ?e ?_); (case e => rfl)))
local macro_rules | `(tactic| walk_at "rd") => `(tactic| repeat (walk_at "rd1"))
section
variable {P : Program} {w : World} {K : PySem.W.Frag} {mg : Str → Option Value} {base : Heap}
/-! ### books -/
def bookFs (d : Addr) : List (Str × V) := [("held", .ref d)]
/-- a book at p with the choices cs, its dict at d -/
structure BookAt (K : PySem.W.Frag) (H : Hp) (p d : Addr) (cs : List Str) : Prop where
  ob : ∃ dx, H p = some (.ins (He.ga K "Book") dx (bookFs d))
  dc : H d = some (.dK (dcs cs))
theorem BookAt.ne {H : Hp} {p d : Addr} {cs : List Str} (b : BookAt K H p d cs) : p ≠ d := by
  obtain ⟨dx, e⟩ := b.ob
  exact ne_of e b.dc (by intro z; cases z)
theorem BookAt.chg {S : List Addr} {H H' : Hp} {p d : Addr} {cs : List Str} (b : BookAt K H p d cs) (c : Chg S H H') (h1 : p ∉ S) (h2 : d ∉ S) : BookAt K H' p d cs := by
  obtain ⟨dx, e⟩ := b.ob
  exact ⟨⟨dx, c.keep _ _ e h1⟩, c.keep _ _ b.dc h2⟩
/-- the choices of the i-th entry, off the module's table -/
theorem Tx.ch (T : Tx w K mg) : ∀ i, i < 10 → tabAt "CHOICES" (ent i) (chs i) K = true := ten T.CH0 T.CH1 T.CH2 T.CH3 T.CH4 T.CH5 T.CH6 T.CH7 T.CH8 T.CH9
theorem Tx.choices (T : Tx w K mg) {i : Nat} (hi : i < 10) : ∃ a, KDct K w (He.ga K "CHOICES") (ent i) (.ref a) ∧ ∀ H, SqT K H a ((chs i).map V.str) := by
  obtain ⟨a, e, h⟩ := tabAt_ok (T.ch i hi)
  obtain ⟨es, n, D⟩ := T.kd_CHOICES
  exact ⟨a, ⟨es, n, _, D.at_, D.lit, e, rfl⟩, h⟩
theorem Tx.entries (T : Tx w K mg) (H : Hp) : SqT K H (He.ga K "ENTRIES") (entriesL.map V.str) := He.tupB_ok T.ENTRIES H
theorem flat_strs (ys : List Str) : (ys.map V.str).all flatV = true := by
  rw [List.all_eq_true]
  intro x hx
  obtain ⟨y, _, rfl⟩ := List.mem_map.mp hx
  rfl
theorem inV_strs (x : Str) (ys : List Str) : inV (.str x) (ys.map V.str) = decide (x ∈ ys) := by
  induction ys with
  | nil => rfl
  | cons y r ih =>
    have h1 : inV (.str x) ((y :: r).map V.str) = (eqV (.str y) (.str x) || inV (.str x) (r.map V.str)) := rfl
    rw [h1, ih]
    have h2 : eqV (.str y) (.str x) = decide (y = x) := rfl
    rw [h2]
    by_cases e : y = x
    · subst e; simp
    · have e2 : ¬ x = y := fun z => e z.symm
      simp [e, e2]
/-- a raise of the class x without an __init__ -/
abbrev Bad (K : PySem.W.Frag) (x : Str) (S : List Addr) (H : Hp) (E : XK) : Prop := ∀ H', Chg S H H' → E (.ref (He.ga K x)) none H'
def sp_Book_init (K : PySem.W.Frag) : Sp := fun vs H Q E => ∃ (p dx : Addr) (ws : List Str), vs = .ref p :: ws.map V.str ∧ ws.length = 10 ∧ H p = some (.ins (He.ga K "Book") dx []) ∧
  (OkB ws → ∀ d H', H d = none → Chg [p] H H' → BookAt K H' p d ws → Q .non H') ∧ (¬ OkB ws → Bad K "InvalidBook" [p] H E)
theorem ok_Book_init (T : Tx w K mg) : ∃ fd, FnOk P w K mg base (L2.CX P w) 1 (He.fAd K ("Book", some "__init__")) fd ["self", "work", "write", "meet", "test", "partly", "value", "path", "loop", "guard", "call"] (sp_Book_init K) ∧
    FunD K "__init__" "Book.__init__" (defArgs s_Book___init__) (defBody s_Book___init__) (defScope s_Book___init__) [] [("work", V.str "join"), ("write", V.str "stop"), ("meet", V.str "raise"), ("test", V.str "stop"), ("partly", V.str "stop"), ("value", V.str "stop"), ("path", V.str "stop"), ("loop", V.str "stop"), ("guard", V.str "stop"), ("call", V.str "stop")] (He.fAd K ("Book", some "__init__")) fd := by
  obtain ⟨fd, F⟩ := T.F_Book___init__
  refine ⟨fd, F.ok sc_Book___init__ (fun vs H Q E h => ?_) (fun cdv A outer s H vs Q E hr h => ?_), F⟩
  · obtain ⟨p, dx, ws, rfl, hl, _⟩ := h
    rw [List.length_cons, List.length_map, hl]
    rfl
  · obtain ⟨p, dx, ws, rfl, hl, hp, qg, qb⟩ := h
    have hu := hu_of hr
    obtain ⟨w0, w1, w2, w3, w4, w5, w6, w7, w8, w9, rfl⟩ : ∃ a b c d e f g h i j, ws = [a, b, c, d, e, f, g, h, i, j] := by
      match ws, hl with
      | [a, b, c, d, e, f, g, h, i, j], _ => exact ⟨a, b, c, d, e, f, g, h, i, j, rfl⟩
    refine ⟨_, (pss_cons (ps_set (i := 11) sc_Book___init__.nd rfl (Or.inl rfl) (pe_tup (pa_cons (pv 1) (pa_cons (pv 2) (pa_cons (pv 3) (pa_cons (pv 4) (pa_cons (pv 5) (pa_cons (pv 6) (pa_cons (pv 7) (pa_cons (pv 8) (pa_cons (pv 9) (pa_cons (pv 10) pa_nil))))))))))))
      (pss_cons (ps_fld (pv 0) pe_dnewK rfl)
      (pss_one (ps_for (passes_of rfl) rfl (pi_range1 rfl T.n_range (pa_cons (pe_callB call_len_seq (by rfl) T.n_len PySem.boot_len (pa_cons (pe_glob (v := .ref (He.ga K "ENTRIES")) rfl T.g_ENTRIES rfl) pa_nil)) pa_nil)) (pg_name (i := 12) sc_Book___init__.nd rfl (Or.inl rfl))
        (pss_cons (ps_if (pt_cmpR op_notIn_seq (pe_ix ix_tup (pv 11) (pv 12) (fun _ _ => rfl)) (pe_ix ix_kdict (pe_glob (v := .ref (He.ga K "CHOICES")) rfl T.g_CHOICES rfl) (pe_ix ix_tup (pe_glob (v := .ref (He.ga K "ENTRIES")) rfl T.g_ENTRIES rfl) (pv 12) (fun _ _ => rfl)) (fun _ _ => rfl)) rfl)
        (pss_one (ps_raise rfl (takes_of rfl rfl rfl rfl) (pmk_own PySem.F.excBase_ValueError (T.e_InvalidBook).1 T.g_InvalidBook (T.e_InvalidBook).2.1 (raises_own (T.e_InvalidBook).2.2.1 (T.e_InvalidBook).2.2.2) rfl)))
        pss_nil)
      (pss_one (ps_dput hu (pe_fld (pv 0) (by rfl)) (pe_ix ix_tup (pe_glob (v := .ref (He.ga K "ENTRIES")) rfl T.g_ENTRIES rfl) (pv 12) (fun _ _ => rfl)) (pe_ix ix_tup (pv 11) (pv 12) (fun _ _ => rfl)) rfl))))))), ?_⟩
    walk_at "rd"
    refine ⟨by show 10 ≤ sizeLine; decide, fun t ht => ?_⟩
    generalize eH : upd H t _ = H1
    obtain ⟨e1, k1, c1, n1⟩ : H1 t = some (.tup ([w0, w1, w2, w3, w4, w5, w6, w7, w8, w9].map V.str)) ∧ _ := laid (S := []) eH Chg.refl ht
    generalize hws : [w0, w1, w2, w3, w4, w5, w6, w7, w8, w9] = ws at *
    walk_at "rd"
    intro d hd
    generalize eH : upd H1 d _ = H2
    obtain ⟨e2, k2, c2, n2⟩ := laid eH c1 hd
    have e1 := k2.at e1
    walk_at "rd"
    refine ⟨p, _, dx, [], rfl, c2.at hp, T.c_Book, T.a_Book_held, by decide, ?_⟩
    generalize eH : upd H2 p _ = H3
    obtain ⟨e3, k3⟩ := put eH (c2.at hp)
    have npd : d ≠ p := (ne_of_none hp n2).symm
    have npt : t ≠ p := (ne_of_none hp n1).symm
    have e2 := k3.at1 e2 npd
    have e1 := k3.at1 e1 npt
    have c3 : Chg [p] H H3 := c2.up.trans k3
    walk_at "rd"
    refine ⟨_, _, rfl, .inr (T.entries H3), _, rfl, by decide, by decide, ?_⟩
    refine for_range (n := 10) (fun i σ H' => ∃ v12, σ = [some (.ref p), some (.str w0), some (.str w1), some (.str w2), some (.str w3), some (.str w4), some (.str w5), some (.str w6), some (.str w7), some (.str w8), some (.str w9), some (.ref t), v12] ∧ Chg [d] H3 H' ∧ H' d = some (.dK ((dcs ws).take i)) ∧ ∀ j (c : Str), j < i → ws[j]? = some c → c ∈ chs j) ⟨none, by rw [← hws]; rfl, Chg.refl, e2, fun j c h => absurd h (by omega)⟩ ?_ ?_
    · rintro i σ H4 hi ⟨v12, rfl, c4, e4, hg⟩
      have hdt : t ≠ d := ne_of e1 e2 (by intro z; cases z)
      have e1 := c4.at1 e1 hdt
      have e3 := c4.at1 e3 npd.symm
      obtain ⟨x, hx⟩ : ∃ x, ws[i]? = some x := ⟨ws[i]'(by omega), List.getElem?_eq_getElem _⟩
      obtain ⟨ca, hca, hct⟩ := T.choices hi
      walk_at "rd"
      rw [show (0 : Int) + (i : Nat) = (i : Nat) by omega]
      refine r_ixT (sqT e1) (atI_ofNat (strs_at hx)) ?_
      walk_at "rd"
      refine r_ixT (T.entries H4) (atI_ofNat (strs_at (ent_at hi))) ?_
      refine ⟨_, _, _, rfl, rfl, hca, ?_⟩
      refine ⟨_, _, rfl, .inr (hct H4), rfl, flat_strs _, ?_⟩
      rw [inV_strs]
      walk_at "rd"
      show if (!decide (x ∈ chs i)) = true then _ else _
      refine r_iteN (fun hbad => ?_) (fun hok => ?_)
      · exact qb (fun o => hbad (o.ch i x hx)) H4 (c3.then c4 n2)
      · walk_at "rd"
        refine r_ixT (sqT e1) (atI_ofNat (strs_at hx)) ?_
        walk_at "rd"
        refine ⟨_, _, _, _, _, rfl, e3, T.c_Book, T.a_Book_held, rfl, ?_⟩
        walk_at "rd"
        refine r_ixT (T.entries H4) (atI_ofNat (strs_at (ent_at hi))) ?_
        refine ⟨_, _, rfl, DPut.k (k := Sum.inr (ent i)) e4 (small1000 (by rw [List.length_take]; omega)), ?_⟩
        rw [dcs_take_put hl hi hx]
        generalize eH : upd H4 d _ = H5
        obtain ⟨e5, k5⟩ := put eH e4
        refine ⟨_, rfl, c4.trans k5, e5, fun j c hj hc => ?_⟩
        by_cases z : j < i
        · exact hg j c z hc
        · have : j = i := by omega
          subst this
          rw [hx] at hc
          cases hc
          exact hok
    · rintro σ H4 ⟨v12, rfl, c4, e4, hg⟩
      rw [List.take_of_length_le (Nat.le_of_eq (dcs_len hl))] at e4
      walk_at "rd"
      refine qg ⟨hl, fun i c hc => hg i c ?_ hc⟩ d H4 n2 (c3.then c4 n2) ⟨⟨dx, c4.at1 e3 npd.symm⟩, e4⟩
      rw [← hl]
      exact (List.getElem?_eq_some_iff.mp hc).1
end
end Sm
set_option maxHeartbeats 4000000
namespace Sm
open PySem PySem.Spec PyProof.Rows L2
local macro_rules | `(tactic| walk_at "rd1") => `(tactic| first
  | (with_reducible refine r_seq ?_) | (with_reducible refine r_asg ?_) | (with_reducible refine r_gname ?_)
  | ((with_reducible refine' r_var ?e ?_); (case e => rfl)) | (with_reducible refine r_c ?_)
  | (with_reducible refine r_ret ?_) | (with_reducible refine r_retN ?_) | (with_reducible refine r_drop ?_) | (with_reducible refine r_next ?_) | (with_reducible refine r_ifs ?_)
  | (with_reducible refine r_op ?_) | (with_reducible refine r_rI0 ?_)
  | (with_reducible refine r_test ?_) | (with_reducible refine r_tb ?_) | (with_reducible refine Exists.intro _ (And.intro (Eq.refl (V.bl _)) ?_))
  | (with_reducible refine r_nil ?_) | (with_reducible refine r_cons ?_) | (with_reducible refine r_cb ?_) | (with_reducible refine r_call ?_)
  | (with_reducible refine r_callS ?_) | (with_reducible refine r_meth ?_) | (with_reducible refine r_ownIx ?_) | (with_reducible refine r_ownSet ?_)
  | (with_reducible refine r_not ?_) | (with_reducible refine r_and ?_) | (with_reducible refine r_or ?_)
  | (with_reducible refine r_lst ?_) | (with_reducible refine r_tup ?_) | (with_reducible refine Or.inl (Exists.intro _ (And.intro (Eq.refl [V.int _]) ?_)))
  | ((with_reducible refine r_rI ?c ?_); (case c => first | (show (0 : Int) < _; decide) | exact ⟨by decide, by decide⟩))
  | (with_reducible refine r_for ?_) | (with_reducible refine r_rng1 ?_) | (with_reducible refine r_rng2 ?_) | (with_reducible refine r_ilist ?_) | (with_reducible refine r_itup ?_)
  | (with_reducible refine r_m0 ?_) | (with_reducible refine r_m1 ?_) | (with_reducible refine r_isStr ?_) | (with_reducible refine r_newS ?_) | (with_reducible refine r_fld ?_)
  | (with_reducible refine r_bm ?_) | (with_reducible refine r_bm0 ?_) | (with_reducible refine r_sl ?_) | (with_reducible refine r_nopart ?_) | (with_reducible refine r_part ?_)
  | (with_reducible refine r_pcons ?_) | (with_reducible refine r_pnil ?_) | (with_reducible refine r_dget2 ?_) | (with_reducible refine r_dget1 ?_)
  | (with_reducible refine r_lc ?_) | (with_reducible refine r_yes ?_)
  | (with_reducible refine r_un ?_) | (with_reducible refine r_rU ?_)
  | (with_reducible refine r_disp ?_) | (with_reducible refine r_andV ?_) | (with_reducible refine r_orV ?_) | (with_reducible refine r_notV ?_) | (with_reducible refine r_dnewK ?_)
  | (with_reducible refine r_dget ?_) | (with_reducible refine r_dput ?_)
  | ((with_reducible refine r_rEq ?e ?_); (case e => rfl)) | ((with_reducible refine r_rNe ?e ?_); (case e => rfl)))
local macro_rules | `(tactic| walk_at "rd") => `(tactic| repeat (walk_at "rd1"))
section
variable {P : Program} {w : World} {K : PySem.W.Frag} {mg : Str → Option Value} {base : Heap}
theorem mem_entries {e : Str} (h : e ∈ entriesL) : ∃ i, i < 10 ∧ e = ent i := by
  obtain ⟨i, hi, he⟩ := List.getElem_of_mem h
  have h10 : i < 10 := hi
  have := ent_at h10
  rw [List.getElem?_eq_getElem hi] at this
  exact ⟨i, h10, he.symm.trans (Option.some.inj this)⟩
theorem ent_mem {i : Nat} (h : i < 10) : ent i ∈ entriesL := List.mem_of_getElem? (ent_at h)
def sp_Book_get (K : PySem.W.Frag) : Sp := fun vs H Q E => ∃ (p d : Addr) (cs : List Str) (e : Str), vs = [.ref p, .str e] ∧ BookAt K H p d cs ∧ cs.length = 10 ∧
  (∀ (i : Nat) (c : Str), i < 10 → e = ent i → cs[i]? = some c → Q (.str c) H) ∧ (¬ e ∈ entriesL → Bad K "InvalidBook" [] H E)
theorem ok_Book_get (T : Tx w K mg) : ∃ fd, FnOk P w K mg base (L2.CX P w) 1 (He.fAd K ("Book", some "__getitem__")) fd ["self", "entry"] (sp_Book_get K) ∧ Binds K fd ["self", "entry"] [] := by
  obtain ⟨fd, F⟩ := T.F_Book___getitem__
  refine ⟨fd, F.okX sc_Book___getitem__ (fun vs H Q E h => ?_) (fun cdv A outer s H vs Q E hr h => ?_), F.binds fun _ _ _ _ _ _ us hl => match us, hl with | [_, _], _ => rfl⟩
  · obtain ⟨p, d, cs, e, rfl, _⟩ := h
    rfl
  · obtain ⟨p, d, cs, e, rfl, B, hl, qg, qb⟩ := h
    have hu := hu_of hr
    obtain ⟨⟨dx, ep⟩, ed⟩ := id B
    refine ⟨_, (pss_cons (ps_if (pt_cmpR op_notIn_seq (pv 1) (pe_glob (v := .ref (He.ga K "ENTRIES")) rfl T.g_ENTRIES rfl) rfl)
        (pss_one (ps_raise rfl (takes_of rfl rfl rfl rfl) (pmk_own PySem.F.excBase_ValueError (T.e_InvalidBook).1 T.g_InvalidBook (T.e_InvalidBook).2.1 (raises_own (T.e_InvalidBook).2.2.1 (T.e_InvalidBook).2.2.2) rfl)))
        pss_nil)
      (pss_one (ps_ret (pe_dget hu (pe_fld (pv 0) (by rfl)) (pv 1) (fun _ _ => rfl))))), ?_⟩
    walk_at "rd"
    refine ⟨_, _, rfl, .inr (T.entries H), rfl, flat_strs _, ?_⟩
    rw [inV_strs]
    walk_at "rd"
    show if (!decide (e ∈ entriesL)) = true then _ else _
    refine r_iteN (fun hbad => ?_) (fun hok => ?_)
    · exact qb hbad H Chg.refl
    · obtain ⟨i, hi, rfl⟩ := mem_entries hok
      obtain ⟨c, hc⟩ : ∃ c, cs[i]? = some c := ⟨cs[i]'(by omega), List.getElem?_eq_getElem _⟩
      walk_at "rd"
      refine ⟨_, _, _, _, _, rfl, ep, T.c_Book, T.a_Book_held, rfl, ?_⟩
      walk_at "rd"
      refine ⟨_, _, rfl, ?_, qg i c hi rfl hc⟩
      have z := DGet.k (k := Sum.inr (ent i)) ed
      rw [dcs_get hl hi hc] at z
      exact z
def sp_Book_set (K : PySem.W.Frag) : Sp := fun vs H Q E => ∃ (p d : Addr) (cs : List Str) (e c : Str), vs = [.ref p, .str e, .str c] ∧ BookAt K H p d cs ∧ cs.length = 10 ∧
  (∀ i, i < 10 → e = ent i → c ∈ chs i → ∀ H', Chg [d] H H' → BookAt K H' p d (cs.set i c) → Q .non H') ∧ (¬ (∃ i, i < 10 ∧ e = ent i ∧ c ∈ chs i) → Bad K "InvalidBook" [] H E)
theorem ok_Book_set (T : Tx w K mg) : ∃ fd, FnOk P w K mg base (L2.CX P w) 1 (He.fAd K ("Book", some "__setitem__")) fd ["self", "entry", "choice"] (sp_Book_set K) ∧ Binds K fd ["self", "entry", "choice"] [] := by
  obtain ⟨fd, F⟩ := T.F_Book___setitem__
  refine ⟨fd, F.okX sc_Book___setitem__ (fun vs H Q E h => ?_) (fun cdv A outer s H vs Q E hr h => ?_), F.binds fun _ _ _ _ _ _ us hl => match us, hl with | [_, _, _], _ => rfl⟩
  · obtain ⟨p, d, cs, e, c, rfl, _⟩ := h
    rfl
  · obtain ⟨p, d, cs, e, c, rfl, B, hl, qg, qb⟩ := h
    have hu := hu_of hr
    obtain ⟨⟨dx, ep⟩, ed⟩ := id B
    refine ⟨_, (pss_cons (ps_if (PW.pt (pw_or (pt_cmpR op_notIn_seq (pv 1) (pe_glob (v := .ref (He.ga K "ENTRIES")) rfl T.g_ENTRIES rfl) rfl) (pw_or1 (pt_cmpR op_notIn_seq (pv 2) (pe_ix ix_kdict (pe_glob (v := .ref (He.ga K "CHOICES")) rfl T.g_CHOICES rfl) (pv 1) (fun _ _ => rfl)) rfl))))
        (pss_one (ps_raise rfl (takes_of rfl rfl rfl rfl) (pmk_own PySem.F.excBase_ValueError (T.e_InvalidBook).1 T.g_InvalidBook (T.e_InvalidBook).2.1 (raises_own (T.e_InvalidBook).2.2.1 (T.e_InvalidBook).2.2.2) rfl)))
        pss_nil)
      (pss_one (ps_dput hu (pe_fld (pv 0) (by rfl)) (pv 1) (pv 2) rfl))), ?_⟩
    walk_at "rd"
    refine ⟨_, _, rfl, .inr (T.entries H), rfl, flat_strs _, ?_⟩
    rw [inV_strs]
    walk_at "rd"
    show if (!decide (e ∈ entriesL)) = true then _ else _
    refine r_iteN (fun hbad => ?_) (fun hok => ?_)
    · refine iteT ?_
      exact qb (fun ⟨i, hi, he, _⟩ => hbad (by rw [he]; exact ent_mem hi)) H Chg.refl
    · obtain ⟨i, hi, rfl⟩ := mem_entries hok
      obtain ⟨ca, hca, hct⟩ := T.choices hi
      walk_at "rd"
      refine ⟨_, _, _, rfl, rfl, hca, ?_⟩
      refine ⟨_, _, rfl, .inr (hct H), rfl, flat_strs _, ?_⟩
      rw [inV_strs]
      walk_at "rd"
      show if (!decide (c ∈ chs i)) = true then _ else _
      refine r_iteN (fun hbad => ?_) (fun hok => ?_)
      · exact qb (fun ⟨j, hj, he, hc⟩ => hbad (by rw [ent_inj hi hj he]; exact hc)) H Chg.refl
      · walk_at "rd"
        refine ⟨_, _, _, _, _, rfl, ep, T.c_Book, T.a_Book_held, rfl, ?_⟩
        walk_at "rd"
        refine ⟨_, _, rfl, DPut.k (k := Sum.inr (ent i)) ed (small1000 (by rw [dcs_len hl]; decide)), ?_⟩
        rw [dcs_put hl hi]
        generalize eH : upd H d _ = H1
        obtain ⟨e1, k1⟩ := put eH ed
        exact qg i hi rfl hok H1 k1 ⟨⟨dx, k1.at1 ep B.ne⟩, e1⟩
def sp_Book_text (K : PySem.W.Frag) : Sp := fun vs H Q _ => ∃ (p d : Addr) (cs : List Str), vs = [.ref p] ∧ BookAt K H p d cs ∧ cs.length = 10 ∧ Small cs ∧ ∀ H', Chg [] H H' → Q (.str (formOf cs)) H'
theorem ok_Book_text (T : Tx w K mg) : ∃ fd, FnOk P w K mg base CX0 1 (He.fAd K ("Book", some "text")) fd ["self"] (sp_Book_text K) ∧ Binds K fd ["self"] [] := by
  obtain ⟨fd, F⟩ := T.F_Book_text
  refine ⟨fd, F.ok sc_Book_text (fun vs H Q E h => ?_) (fun cdv A outer s H vs Q E hr h => ?_), F.binds fun _ _ _ _ _ _ us hl => match us, hl with | [_], _ => rfl⟩
  · obtain ⟨p, d, cs, rfl, _⟩ := h
    rfl
  · obtain ⟨p, d, cs, rfl, B, hcl, hsm, q⟩ := h
    have hu := hu_of hr
    obtain ⟨⟨dx, ep⟩, ed⟩ := id B
    refine ⟨_, (pss_one (ps_ret (pe_join pe_str (pe_lc (own := [("entry", 1)]) (g := gName 1) rfl sc_Book_text.nd (pi_tup (pe_glob (v := .ref (He.ga K "ENTRIES")) rfl T.g_ENTRIES rfl)) (blkOk_by (own := [("entry", 1)]) (N := ["self", "entry"]) (sc := defScope s_Book_text) (by decide +kernel)) (fun _ _ _ _ _ => pg_name (i := 1) sc_Book_text.nd rfl (Or.inl rfl)) (fun _ _ _ _ _ => pts_nil) (fun _ _ _ _ _ => (pe_op op_add_str (pe_op op_add_str (pv 1) pe_str) (pe_dget hu (pe_fldK (K := K) rfl (pv 0) (by rfl)) (pv 1) (fun _ _ => rfl)))))))), ?_⟩
    walk_at "rd"
    refine ⟨_, rfl, ⟨_, T.entries H⟩, fun D hD => ?_⟩
    have hDa : d ≠ D := ne_of_none ed hD
    have hDp : p ≠ D := ne_of_none ep hD
    refine lc_tup (K := K) (a := He.ga K "ENTRIES") (xs := entriesL.map V.str) (fun i H' => Chg [D] H H' ∧ H' D = some (.lst (((formL cs).take i).map V.str))) ⟨(Chg.new hD), upd_same⟩ (fun i H' _ c => T.entries H') ?_ ?_
    · rintro i x H2 hx ⟨c2, e2⟩
      obtain ⟨hi, rfl⟩ : i < 10 ∧ x = .str (ent i) := by
        have hi : i < (entriesL.map V.str).length := (List.getElem?_eq_some_iff.mp hx).1
        have hi10 : i < 10 := by rw [List.length_map] at hi; exact hi
        rw [strs_at (ent_at hi10)] at hx
        exact ⟨hi10, (Option.some.inj hx).symm⟩
      obtain ⟨c, hc⟩ : ∃ c, cs[i]? = some c := ⟨cs[i]'(by omega), List.getElem?_eq_getElem _⟩
      have hcs : c.length ≤ 100 := hsm c (List.mem_of_getElem? hc)
      have he := ent_small i hi
      walk_at "rd"
      refine ⟨rfl, ?_⟩
      walk_at "rd"
      refine iteT ?_
      walk_at "rd"
      refine ⟨_, _, rfl, rfl, by show (ent i).length + 1 ≤ sizeLine; exact Nat.le_trans (show _ ≤ 100 by omega) (by decide), ?_⟩
      walk_at "rd"
      refine ⟨_, _, _, _, _, rfl, c2.at1 ep hDp, T.c_Book, T.a_Book_held, rfl, ?_⟩
      walk_at "rd"
      refine ⟨_, _, rfl, DGet.k (k := Sum.inr (ent i)) (c2.at1 ed hDa) |> (fun z => by rw [dcs_get hcl hi hc] at z; exact z), ?_⟩
      refine ⟨_, _, rfl, rfl, by rw [strapp_len]; show (ent i).length + 1 + c.length ≤ sizeLine; exact Nat.le_trans (show _ ≤ 200 by omega) (by decide), ?_⟩
      refine ⟨_, e2, by rw [List.length_map, List.length_take]; exact small1000 (by omega), ?_, ?_⟩
      · exact c2.trans (Chg.set e2 (List.mem_singleton.mpr rfl))
      · rw [upd_same]
        show some (HO.lst (List.map V.str (List.take i (formL cs)) ++ [V.str (pairS (ent i) c)])) = _
        rw [List.take_add_one, formL_at hi hc, List.map_append]
        rfl
    · rintro H2 ⟨c2, e2⟩
      rw [List.take_of_length_le (by rw [formL_len hcl]; exact Nat.le_of_eq rfl)] at e2
      refine ⟨_, _, formL cs, rfl, rfl, .inl (sqL e2), ?_, ?_⟩
      · have := form_sum hcl hsm
        rw [formL_len hcl]
        show _ + 10 * 1 ≤ _
        omega
      · exact q H2 (c2.drop hD)
def sp_Book_eq (K : PySem.W.Frag) : Sp := fun vs H Q _ => ∃ (p d p' d' : Addr) (cs cs' : List Str), vs = [.ref p, .ref p'] ∧ BookAt K H p d cs ∧ BookAt K H p' d' cs' ∧ cs.length = 10 ∧ cs'.length = 10 ∧ Q (.bl (decide (cs = cs'))) H
end
end Sm
set_option maxHeartbeats 4000000
namespace Sm
open PySem PySem.Spec PyProof.Rows L2
local macro_rules | `(tactic| walk_at "rd1") => `(tactic| first
  | (with_reducible refine r_seq ?_) | (with_reducible refine r_asg ?_) | (with_reducible refine r_gname ?_)
  | ((with_reducible refine' r_var ?e ?_); (case e => rfl)) | (with_reducible refine r_c ?_)
  | (with_reducible refine r_ret ?_) | (with_reducible refine r_retN ?_) | (with_reducible refine r_drop ?_) | (with_reducible refine r_next ?_) | (with_reducible refine r_ifs ?_)
  | (with_reducible refine r_op ?_) | (with_reducible refine r_rI0 ?_)
  | (with_reducible refine r_test ?_) | (with_reducible refine r_tb ?_) | (with_reducible refine Exists.intro _ (And.intro (Eq.refl (V.bl _)) ?_))
  | (with_reducible refine r_nil ?_) | (with_reducible refine r_cons ?_) | (with_reducible refine r_cb ?_) | (with_reducible refine r_call ?_)
  | (with_reducible refine r_callS ?_) | (with_reducible refine r_meth ?_) | (with_reducible refine r_ownIx ?_) | (with_reducible refine r_ownSet ?_)
  | (with_reducible refine r_not ?_) | (with_reducible refine r_and ?_) | (with_reducible refine r_or ?_)
  | (with_reducible refine r_lst ?_) | (with_reducible refine r_tup ?_) | (with_reducible refine Or.inl (Exists.intro _ (And.intro (Eq.refl [V.int _]) ?_)))
  | ((with_reducible refine r_rI ?c ?_); (case c => first | (show (0 : Int) < _; decide) | exact ⟨by decide, by decide⟩))
  | (with_reducible refine r_for ?_) | (with_reducible refine r_rng1 ?_) | (with_reducible refine r_rng2 ?_) | (with_reducible refine r_ilist ?_) | (with_reducible refine r_itup ?_)
  | (with_reducible refine r_m0 ?_) | (with_reducible refine r_m1 ?_) | (with_reducible refine r_isStr ?_) | (with_reducible refine r_newS ?_) | (with_reducible refine r_fld ?_)
  | (with_reducible refine r_bm ?_) | (with_reducible refine r_bm0 ?_) | (with_reducible refine r_sl ?_) | (with_reducible refine r_nopart ?_) | (with_reducible refine r_part ?_)
  | (with_reducible refine r_pcons ?_) | (with_reducible refine r_pnil ?_) | (with_reducible refine r_dget2 ?_) | (with_reducible refine r_dget1 ?_)
  | (with_reducible refine r_lc ?_) | (with_reducible refine r_yes ?_)
  | (with_reducible refine r_un ?_) | (with_reducible refine r_rU ?_)
  | (with_reducible refine r_disp ?_) | (with_reducible refine r_andV ?_) | (with_reducible refine r_orV ?_) | (with_reducible refine r_notV ?_) | (with_reducible refine r_dnewK ?_)
  | (with_reducible refine r_dget ?_) | (with_reducible refine r_dput ?_)
  | ((with_reducible refine r_rEq ?e ?_); (case e => rfl)) | ((with_reducible refine r_rNe ?e ?_); (case e => rfl)))
local macro_rules | `(tactic| walk_at "rd") => `(tactic| repeat (walk_at "rd1"))
section
variable {P : Program} {w : World} {K : PySem.W.Frag} {mg : Str → Option Value} {base : Heap}
theorem ok_Book_eq (T : Tx w K mg) : ∃ fd, FnOk P w K mg base CX0 1 (He.fAd K ("Book", some "__eq__")) fd ["self", "other"] (fun vs H Q _ => ∃ (p d p' d' : Addr) (cs : List Str), vs = [.ref p, .ref p'] ∧ BookAt K H p d cs ∧ BookAt K H p' d' cs ∧ cs.length = 10 ∧ Q (.bl true) H) ∧ Binds K fd ["self", "other"] [] := by
  obtain ⟨fd, F⟩ := T.F_Book___eq__
  refine ⟨fd, F.ok sc_Book___eq__ (fun vs H Q E h => ?_) (fun cdv A outer s H vs Q E hr h => ?_), F.binds fun _ _ _ _ _ _ us hl => match us, hl with | [_, _], _ => rfl⟩
  · obtain ⟨p, d, p', d', cs, rfl, _⟩ := h
    rfl
  · obtain ⟨p, d, p', d', cs, rfl, B, B', hl, q⟩ := h
    obtain ⟨⟨dx, ep⟩, ed⟩ := id B
    obtain ⟨⟨dx', ep'⟩, ed'⟩ := id B'
    refine ⟨_, (pss_cons (ps_if (pt_not (pt_val (pe_callB (C8.call_isC T.is_Book) (by rfl) T.n_isinstance (by decide +kernel) (pa_cons (pv 1) (pa_cons (pe_glob (v := .ref (He.ga K "Book")) rfl T.g_Book rfl) pa_nil)))))
        (pss_one ps_never)
        pss_nil)
      (pss_one (ps_ret (pe_cmpR (op_eq_dictA hr.units0) (pe_fld (pv 0) (by rfl)) (pe_fld (pv 1) (by rfl)) (nomark _))))), ?_⟩
    walk_at "rd"
    refine ⟨p', _, _, rfl, ep', ?_⟩
    walk_at "rd"
    refine iteF ?_
    walk_at "rd"
    refine ⟨_, _, _, _, _, rfl, ep, T.c_Book, T.a_Book_held, rfl, ?_⟩
    walk_at "rd"
    refine ⟨_, _, _, _, _, rfl, ep', T.c_Book, T.a_Book_held, rfl, ?_⟩
    refine ⟨_, _, _, _, rfl, rfl, ed, ed', rfl, fun z hz => ?_, q⟩
    obtain ⟨i, hi, e⟩ := List.getElem_of_mem hz
    rw [dcs_len hl] at hi
    have hc : cs[i]? = some (cs[i]'(by omega)) := List.getElem?_eq_getElem _
    have e2 := dcs_at hi hc
    rw [List.getElem?_eq_getElem (by rw [dcs_len hl]; exact hi), e] at e2
    rw [Option.some.inj e2]
    exact ⟨dcs_get hl hi hc, rfl⟩
/-- the ten keyword defaults bound: Book() -/
theorem binds_Book0 {fd : FuncData} (F : FunD K "__init__" "Book.__init__" (defArgs s_Book___init__) (defBody s_Book___init__) (defScope s_Book___init__) [] [("work", V.str "join"), ("write", V.str "stop"), ("meet", V.str "raise"), ("test", V.str "stop"), ("partly", V.str "stop"), ("value", V.str "stop"), ("path", V.str "stop"), ("loop", V.str "stop"), ("guard", V.str "stop"), ("call", V.str "stop")] (He.fAd K ("Book", some "__init__")) fd) :
    ∃ ds, Vals ((["join", "stop", "raise", "stop", "stop", "stop", "stop", "stop", "stop", "stop"] : List Str).map V.str) ds ∧ Binds K fd ["self", "work", "write", "meet", "test", "partly", "value", "path", "loop", "guard", "call"] ds :=
  F.binds0 1 (by simp) rfl fun D doc pm an cdv ct us ks h1 h2 => match us, ks, h1, h2 with
    | [u], [k0, k1, k2, k3, k4, k5, k6, k7, k8, k9], _, _ => by
      refine ⟨_, _, _, _, _, _, rfl, rfl, ?_⟩
      refine ⟨_, _, _, _, _, _, rfl, rfl, ?_⟩
      refine ⟨_, _, _, _, _, _, rfl, rfl, ?_⟩
      refine ⟨_, _, _, _, _, _, rfl, rfl, ?_⟩
      refine ⟨_, _, _, _, _, _, rfl, rfl, ?_⟩
      refine ⟨_, _, _, _, _, _, rfl, rfl, ?_⟩
      refine ⟨_, _, _, _, _, _, rfl, rfl, ?_⟩
      refine ⟨_, _, _, _, _, _, rfl, rfl, ?_⟩
      refine ⟨_, _, _, _, _, _, rfl, rfl, ?_⟩
      refine ⟨_, _, _, _, _, _, rfl, rfl, ?_⟩
      rfl
end
end Sm
set_option maxHeartbeats 4000000
namespace Sm
open PySem PySem.Spec PyProof.Rows L2
local macro_rules | `(tactic| walk_at "rd1") => `(tactic| first
  | (with_reducible refine r_seq ?_) | (with_reducible refine r_asg ?_) | (with_reducible refine r_gname ?_)
  | ((with_reducible refine' r_var ?e ?_); (case e => rfl)) | (with_reducible refine r_c ?_)
  | (with_reducible refine r_ret ?_) | (with_reducible refine r_retN ?_) | (with_reducible refine r_drop ?_) | (with_reducible refine r_next ?_) | (with_reducible refine r_ifs ?_)
  | (with_reducible refine r_op ?_) | (with_reducible refine r_rI0 ?_)
  | (with_reducible refine r_test ?_) | (with_reducible refine r_tb ?_) | (with_reducible refine Exists.intro _ (And.intro (Eq.refl (V.bl _)) ?_))
  | (with_reducible refine r_nil ?_) | (with_reducible refine r_cons ?_) | (with_reducible refine r_cb ?_) | (with_reducible refine r_call ?_)
  | (with_reducible refine r_callS ?_) | (with_reducible refine r_meth ?_) | (with_reducible refine r_ownIx ?_) | (with_reducible refine r_ownSet ?_)
  | (with_reducible refine r_not ?_) | (with_reducible refine r_and ?_) | (with_reducible refine r_or ?_)
  | (with_reducible refine r_lst ?_) | (with_reducible refine r_tup ?_) | (with_reducible refine Or.inl (Exists.intro _ (And.intro (Eq.refl [V.int _]) ?_)))
  | ((with_reducible refine r_rI ?c ?_); (case c => first | (show (0 : Int) < _; decide) | exact ⟨by decide, by decide⟩))
  | (with_reducible refine r_for ?_) | (with_reducible refine r_rng1 ?_) | (with_reducible refine r_rng2 ?_) | (with_reducible refine r_ilist ?_) | (with_reducible refine r_itup ?_)
  | (with_reducible refine r_m0 ?_) | (with_reducible refine r_m1 ?_) | (with_reducible refine r_isStr ?_) | (with_reducible refine r_newS ?_) | (with_reducible refine r_fld ?_)
  | (with_reducible refine r_bm ?_) | (with_reducible refine r_bm0 ?_) | (with_reducible refine r_sl ?_) | (with_reducible refine r_nopart ?_) | (with_reducible refine r_part ?_)
  | (with_reducible refine r_pcons ?_) | (with_reducible refine r_pnil ?_) | (with_reducible refine r_dget2 ?_) | (with_reducible refine r_dget1 ?_)
  | (with_reducible refine r_lc ?_) | (with_reducible refine r_yes ?_)
  | (with_reducible refine r_un ?_) | (with_reducible refine r_rU ?_)
  | (with_reducible refine r_disp ?_) | (with_reducible refine r_andV ?_) | (with_reducible refine r_orV ?_) | (with_reducible refine r_notV ?_) | (with_reducible refine r_dnewK ?_)
  | (with_reducible refine r_dget ?_) | (with_reducible refine r_dput ?_)
  | ((with_reducible refine r_rEq ?e ?_); (case e => rfl)) | ((with_reducible refine r_rNe ?e ?_); (case e => rfl)))
local macro_rules | `(tactic| walk_at "rd") => `(tactic| repeat (walk_at "rd1"))
section
variable {P : Program} {w : World} {K : PySem.W.Frag} {mg : Str → Option Value} {base : Heap}
def defaultB : List Str := ["join", "stop", "raise", "stop", "stop", "stop", "stop", "stop", "stop", "stop"]
theorem okB_default : OkB defaultB := OkB.of (by decide +kernel)
/-- no blank in a choice, and no great length -/
def fine (x : Str) : Bool := decide (¬ 32 ∈ x.cps.toList) && decide (x.length ≤ 100)
def Fine (cs : List Str) : Prop := ∀ c ∈ cs, fine c = true
theorem fine_of {x : Str} (h : fine x = true) : ¬ 32 ∈ x.cps.toList ∧ x.length ≤ 100 := by
  unfold fine at h
  rw [Bool.and_eq_true, decide_eq_true_eq, decide_eq_true_eq] at h
  exact h
theorem Fine.small {cs : List Str} (h : Fine cs) : Small cs := fun c hc => (fine_of (h c hc)).2
theorem chs_fine : ∀ i, i < 10 → (chs i).all fine = true := ten (by decide +kernel) (by decide +kernel) (by decide +kernel) (by decide +kernel) (by decide +kernel) (by decide +kernel) (by decide +kernel) (by decide +kernel) (by decide +kernel) (by decide +kernel)
theorem OkB.fine {cs : List Str} (h : OkB cs) : Fine cs := fun c hc => by
  obtain ⟨i, hi, e⟩ := List.getElem_of_mem hc
  have h10 : i < 10 := by rw [← h.len]; exact hi
  exact List.all_eq_true.mp (chs_fine i h10) c (h.ch i c (by rw [List.getElem?_eq_getElem hi, e]))
theorem ent_fine : ∀ i, i < 10 → ¬ 32 ∈ (ent i).cps.toList := ten (by decide +kernel) (by decide +kernel) (by decide +kernel) (by decide +kernel) (by decide +kernel) (by decide +kernel) (by decide +kernel) (by decide +kernel) (by decide +kernel) (by decide +kernel)
theorem pair_cps (e c : Str) : (pairS e c).cps.toList = e.cps.toList ++ (61 :: c.cps.toList) := by
  show ((e.cps ++ #[61]) ++ c.cps).toList = _
  simp
theorem form_split {cs : List Str} (h : cs.length = 10) (hf : Fine cs) : Txt.split (formOf cs) " " = formL cs := by
  refine TL.split_join (y := " ") (s := 32) (S := []) (by decide +kernel) (by decide +kernel) (fun z => ?_) fun p hp => ?_
  · have := formL_len h
    rw [z] at this
    cases this
  · obtain ⟨i, hi, e⟩ := List.getElem_of_mem hp
    rw [formL_len h] at hi
    have hc : cs[i]? = some (cs[i]'(by omega)) := List.getElem?_eq_getElem _
    have e2 := formL_at hi hc
    rw [List.getElem?_eq_getElem (by rw [formL_len h]; exact hi), e] at e2
    rw [Option.some.inj e2]
    show ¬ 32 ∈ (pairS (ent i) _).cps.toList
    rw [pair_cps]
    intro z
    rcases List.mem_append.mp z with z | z
    · exact ent_fine i hi z
    · rcases List.mem_cons.mp z with z | z
      · cases z
      · exact (fine_of (hf _ (List.mem_of_getElem? hc))).1 z
theorem pair_starts (e c : Str) : Txt.startswith (pairS e c) (e ++ "=") = true := by
  have hl : (e ++ ("=" : Str)).length = e.length + 1 := strapp_len e "="
  have ht : (e ++ ("=" : Str)).cps.toList = e.cps.toList ++ [61] := by
    show (e.cps ++ #[61]).toList = _
    simp
  have hlt : (e.cps.toList ++ [61]).length = (e ++ ("=" : Str)).length := by
    rw [hl, List.length_append]; rfl
  show (decide (0 + (e ++ ("=" : Str)).length ≤ (pairS e c).length) && Builtin.Str.subAt (pairS e c) (e ++ "=") 0) = true
  rw [Bool.and_eq_true]
  constructor
  · refine decide_eq_true ?_
    have : (pairS e c).length = (e ++ ("=" : Str)).length + c.length := strapp_len _ _
    rw [this]
    omega
  · rw [StrLaws.subAt_eq, pair_cps, ht, List.drop_zero]
    rw [show e.cps.toList ++ 61 :: c.cps.toList = (e.cps.toList ++ [61]) ++ c.cps.toList by simp, ← hlt, List.take_left]
    exact beq_self_eq_true _
theorem pair_cut (e c : Str) : cutS (pairS e c) (some ((e.length : Int) + 1)) none = c := by
  unfold cutS
  have hlen : (pairS e c).length = e.length + 1 + c.length := by
    unfold pairS
    rw [strapp_len, strapp_len]; rfl
  rw [show (e.length : Int) + 1 = ((e.length + 1 : Nat) : Int) by omega, HT.sIx_nat, HT.sIx_none, hlen, Nat.min_eq_left (by omega), pair_cps]
  have hlt : (e.cps.toList ++ [61]).length = e.length + 1 := by rw [List.length_append]; rfl
  rw [show e.cps.toList ++ 61 :: c.cps.toList = (e.cps.toList ++ [61]) ++ c.cps.toList by simp, ← hlt, List.drop_left, List.take_of_length_le (by rw [hlt]; show c.cps.toList.length ≤ _; rw [Array.length_toList]; show c.cps.size ≤ _; have : c.length = c.cps.size := rfl; omega)]
theorem join_len_le : ∀ ps : List Str, (Str.join " " ps).length ≤ (ps.map fun p => p.length + 1).sum
  | [] => Nat.zero_le _
  | [p] => by
    show p.length ≤ _
    simp
  | p :: q :: r => by
    have ih := join_len_le (q :: r)
    have e : (Str.join " " (p :: q :: r)) = p ++ " " ++ Str.join " " (q :: r) := rfl
    rw [e, strapp_len, strapp_len]
    simp only [List.map_cons, List.sum_cons] at ih ⊢
    have : (" " : Str).length = 1 := rfl
    omega
theorem form_len {cs : List Str} (h : cs.length = 10) (hf : Fine cs) : (formOf cs).length + 2 ≤ sizeLine := by
  have h1 : (formOf cs).length ≤ ((formL cs).map fun p => p.length + 1).sum := by
    unfold formOf
    rw [TL.join_eq]
    exact join_len_le (formL cs)
  have h2 := form_sum h hf.small
  have h3 : ((formL cs).map fun p => p.length + 1).sum = ((formL cs).map (·.length)).sum + (formL cs).length := by
    generalize formL cs = l
    induction l with
    | nil => rfl
    | cons a r ih => simp only [List.map_cons, List.sum_cons, List.length_cons, ih]; omega
  rw [formL_len h] at h3
  exact Nat.le_trans (show _ ≤ 2000 by omega) (by decide)
def sp_read (K : PySem.W.Frag) : Sp := fun vs H Q E => ∃ (cs : List Str), vs = [.str (formOf cs)] ∧ cs.length = 10 ∧ Fine cs ∧
  (OkB cs → ∀ p d H', H p = none → H d = none → Chg [] H H' → BookAt K H' p d cs → Q (.ref p) H') ∧ (¬ OkB cs → Bad K "InvalidBook" [] H E)
theorem ok_read (T : Tx w K mg) : ∃ fd, FnOk P w K mg base (L2.CX P w) 3 (He.fAd K ("read_book", none)) fd ["text"] (sp_read K) ∧ Binds K fd ["text"] [] := by
  obtain ⟨fd, F⟩ := T.F_read_book
  obtain ⟨fdI, G_Book___init__, FI⟩ := ok_Book_init (P := P) (w := w) (base := base) T
  obtain ⟨ds, hds, b_Book___init__⟩ := binds_Book0 FI
  obtain ⟨fdS, G_set, b_set⟩ := ok_Book_set (P := P) (w := w) (base := base) T
  refine ⟨fd, F.okX sc_read_book (fun vs H Q E h => ?_) (fun cdv A outer s H vs Q E hr h => ?_), F.binds fun _ _ _ _ _ _ us hl => match us, hl with | [_], _ => rfl⟩
  · obtain ⟨cs, rfl, _⟩ := h
    rfl
  · obtain ⟨cs, rfl, hl, hf, qg, qb⟩ := h
    have hu := hu_of hr
    have hr1 : Room 1 _ := hr.mono (by decide)
    refine ⟨_, (pss_cons (ps_set (i := 1) sc_read_book.nd rfl (Or.inl rfl) (pe_make0 T.mk_Book G_Book___init__ hr (by rfl) T.g_Book b_Book___init__ hds passL))
      (pss_cons (ps_set (i := 2) sc_read_book.nd rfl (Or.inl rfl) (pe_split (pv 0) pe_str))
      (pss_cons (ps_if (pt_cmpR op_ne (pe_callB call_len_seq (by rfl) T.n_len PySem.boot_len (pa_cons (pv 2) pa_nil)) (pe_callB call_len_seq (by rfl) T.n_len PySem.boot_len (pa_cons (pe_glob (v := .ref (He.ga K "ENTRIES")) rfl T.g_ENTRIES rfl) pa_nil)) (nomark _))
        (pss_one (ps_raise rfl (takes_of rfl rfl rfl rfl) (pmk_own PySem.F.excBase_ValueError (T.e_InvalidBook).1 T.g_InvalidBook (T.e_InvalidBook).2.1 (raises_own (T.e_InvalidBook).2.2.1 (T.e_InvalidBook).2.2.2) rfl)))
        pss_nil)
      (pss_cons (ps_for (passes_of rfl) rfl (pi_range1 rfl T.n_range (pa_cons (pe_callB call_len_seq (by rfl) T.n_len PySem.boot_len (pa_cons (pe_glob (v := .ref (He.ga K "ENTRIES")) rfl T.g_ENTRIES rfl) pa_nil)) pa_nil)) (pg_name (i := 3) sc_read_book.nd rfl (Or.inl rfl))
        (pss_cons (ps_set (i := 4) sc_read_book.nd rfl (Or.inl rfl) (pe_ix ix_tup (pe_glob (v := .ref (He.ga K "ENTRIES")) rfl T.g_ENTRIES rfl) (pv 3) (fun _ _ => rfl)))
      (pss_cons (ps_if (pt_not (pt_val (pe_m1 PySem.F.slot_str_startswith PySem.F.type_str_startswith mt_startswith (pe_ix ix_list (pv 2) (pv 3) (fun _ _ => rfl)) (pe_op op_add_str (pv 4) pe_str))))
        (pss_one (ps_raise rfl (takes_of rfl rfl rfl rfl) (pmk_own PySem.F.excBase_ValueError (T.e_InvalidBook).1 T.g_InvalidBook (T.e_InvalidBook).2.1 (raises_own (T.e_InvalidBook).2.2.1 (T.e_InvalidBook).2.2.2) rfl)))
        pss_nil)
      (pss_one (ps_asg (pe_slice sl_str (pe_ix ix_list (pv 2) (pv 3) (fun _ _ => rfl)) (po_some (pe_op op_add (pe_callB call_len_str (by rfl) T.n_len PySem.boot_len (pa_cons (pv 4) pa_nil)) pe_int)) po_none) (pg_ownSet T.sm_Book G_set hr1 b_set (fun σ => passAt (takes_of rfl rfl rfl rfl) σ) (pv 1) (pv 4)))))))
      (pss_one (ps_ret (pv 1))))))), ?_⟩
    walk_at "rd"
    intro p dx hp hdx hne
    refine ⟨p, dx, defaultB, rfl, rfl, upd_same, fun _ d H1 hd c1 B1 => ⟨rfl, ?_⟩, fun z => (z okB_default).elim⟩
    have c0 : Chg [] H (upd (upd H dx (.own p)) p (.ins (He.ga K "Book") dx [])) := (Chg.new hdx).trans (Chg.new (by rw [upd_ne hne.symm]; exact hp))
    have n_d : H d = none := c0.fresh hd
    have c1 : Chg [] H H1 := c0.then c1 hp
    have npd : p ≠ d := B1.ne
    walk_at "rd"
    refine ⟨_, _, rfl, rfl, rfl, form_len hl hf, ?_⟩
    rw [form_split hl hf]
    walk_at "rd"
    intro l h2
    generalize eH : upd H1 l _ = H2
    obtain ⟨e2, k2, c2, n2⟩ := laid eH c1 h2
    have B2 := B1.chg k2 nm0 nm0
    walk_at "rd"
    refine ⟨_, _, rfl, .inl (sqL e2), ?_⟩
    walk_at "rd"
    refine ⟨_, _, rfl, .inr (T.entries H2), ?_⟩
    rw [List.length_map, formL_len hl]
    walk_at "rd"
    show if (!decide ((V.int 10 : V) = V.int 10)) = true then _ else _
    refine r_iteN (fun z => absurd rfl z) (fun _ => ?_)
    walk_at "rd"
    refine ⟨_, _, rfl, .inr (T.entries H2), _, rfl, by decide, by decide, ?_⟩
    refine for_range (n := 10) (fun i σ H' => ∃ (v3 v4 : Option V) (bs : List Str), σ = [some (.str (formOf cs)), some (.ref p), some (.ref l), v3, v4] ∧ Chg [d] H2 H' ∧ BookAt K H' p d bs ∧ OkB bs ∧ (∀ j, j < i → bs[j]? = cs[j]?) ∧ (∀ j c, j < i → cs[j]? = some c → c ∈ chs j)) ⟨none, none, defaultB, rfl, Chg.refl, B2, okB_default, fun j h => absurd h (by omega), fun j c h => absurd h (by omega)⟩ ?_ ?_
    · rintro i σ H3 hi ⟨v3, v4, bs, rfl, c3, B3, hb, h1, h2⟩
      obtain ⟨c, hc⟩ : ∃ c, cs[i]? = some c := ⟨cs[i]'(by omega), List.getElem?_eq_getElem _⟩
      have hcf := fine_of (hf c (List.mem_of_getElem? hc))
      have hld : l ≠ d := ne_of e2 B2.dc (by intro z; cases z)
      have e3 := c3.at1 e2 hld
      have hes := ent_small i hi
      walk_at "rd"
      rw [show (0 : Int) + (i : Nat) = (i : Nat) by omega]
      refine r_ixT (T.entries H3) (atI_ofNat (strs_at (ent_at hi))) ?_
      walk_at "rd"
      refine r_ixL (sqL e3) (atI_ofNat (strs_at (formL_at hi hc))) ?_
      walk_at "rd"
      refine ⟨_, _, rfl, rfl, by show (ent i).length + 1 ≤ sizeLine; exact Nat.le_trans (show _ ≤ 100 by omega) (by decide), ?_⟩
      refine ⟨_, _, rfl, rfl, ?_⟩
      rw [pair_starts]
      walk_at "rd"
      refine iteF ?_
      walk_at "rd"
      refine r_ixL (sqL e3) (atI_ofNat (strs_at (formL_at hi hc))) ?_
      walk_at "rd"
      refine ⟨_, rfl, Nat.le_trans (show _ ≤ 100 by omega) (by decide), ?_⟩
      walk_at "rd"
      refine ⟨_, rfl, ?_⟩
      walk_at "rd"
      refine ⟨_, rfl, Nat.le_trans (pair_small hi hcf.2) (by decide), ?_⟩
      rw [pair_cut]
      obtain ⟨⟨dx3, ep3⟩, _⟩ := id B3
      walk_at "rd"
      refine ⟨p, dx3, _, rfl, ep3, ?_⟩
      refine ⟨p, d, bs, _, _, rfl, B3, hb.len, fun j hj he hcj H4 k4 B4 => ?_, fun hbad => ?_⟩
      · have := ent_inj hi hj he
        subst this
        refine ⟨_, _, bs.set i c, rfl, c3.trans k4, B4, hb.set hcj, fun j hj => ?_, fun j x hj hx => ?_⟩
        · by_cases z : j = i
          · subst z
            rw [List.getElem?_set_self (by rw [hb.len]; exact hi), hc]
          · rw [List.getElem?_set_ne (Ne.symm z)]
            exact h1 j (by omega)
        · by_cases z : j = i
          · subst z
            rw [hc] at hx
            cases hx
            exact hcj
          · exact h2 j x (by omega) hx
      · refine fun H4 k4 => qb (fun o => hbad ⟨i, hi, rfl, o.ch i c hc⟩) H4 ?_
        exact ((c2.then c3 n_d).trans k4)
    · rintro σ H3 ⟨v3, v4, bs, rfl, c3, B3, hb, h1, h2⟩
      have hbs : bs = cs := List.ext_getElem? fun j => by
        by_cases z : j < 10
        · exact h1 j z
        · rw [List.getElem?_eq_none (by rw [hb.len]; omega), List.getElem?_eq_none (by omega)]
      subst hbs
      walk_at "rd"
      exact qg hb p d H3 hp n_d (c2.then c3 n_d) B3
end
end Sm
set_option maxHeartbeats 4000000
namespace Sm
open PySem PySem.Spec PyProof.Rows L2
local macro_rules | `(tactic| walk_at "rd1") => `(tactic| first
  | (with_reducible refine r_seq ?_) | (with_reducible refine r_asg ?_) | (with_reducible refine r_gname ?_)
  | ((with_reducible refine' r_var ?e ?_); (case e => rfl)) | (with_reducible refine r_c ?_)
  | (with_reducible refine r_ret ?_) | (with_reducible refine r_retN ?_) | (with_reducible refine r_drop ?_) | (with_reducible refine r_next ?_) | (with_reducible refine r_ifs ?_)
  | (with_reducible refine r_op ?_) | (with_reducible refine r_rI0 ?_)
  | (with_reducible refine r_test ?_) | (with_reducible refine r_tb ?_) | (with_reducible refine Exists.intro _ (And.intro (Eq.refl (V.bl _)) ?_))
  | (with_reducible refine r_nil ?_) | (with_reducible refine r_cons ?_) | (with_reducible refine r_cb ?_) | (with_reducible refine r_call ?_)
  | (with_reducible refine r_callS ?_) | (with_reducible refine r_meth ?_) | (with_reducible refine r_ownIx ?_) | (with_reducible refine r_ownSet ?_)
  | (with_reducible refine r_not ?_) | (with_reducible refine r_and ?_) | (with_reducible refine r_or ?_)
  | (with_reducible refine r_lst ?_) | (with_reducible refine r_tup ?_) | (with_reducible refine Or.inl (Exists.intro _ (And.intro (Eq.refl [V.int _]) ?_)))
  | ((with_reducible refine r_rI ?c ?_); (case c => first | (show (0 : Int) < _; decide) | exact ⟨by decide, by decide⟩))
  | (with_reducible refine r_for ?_) | (with_reducible refine r_rng1 ?_) | (with_reducible refine r_rng2 ?_) | (with_reducible refine r_ilist ?_) | (with_reducible refine r_itup ?_)
  | (with_reducible refine r_m0 ?_) | (with_reducible refine r_m1 ?_) | (with_reducible refine r_isStr ?_) | (with_reducible refine r_newS ?_) | (with_reducible refine r_fld ?_)
  | (with_reducible refine r_bm ?_) | (with_reducible refine r_bm0 ?_) | (with_reducible refine r_sl ?_) | (with_reducible refine r_nopart ?_) | (with_reducible refine r_part ?_)
  | (with_reducible refine r_pcons ?_) | (with_reducible refine r_pnil ?_) | (with_reducible refine r_dget2 ?_) | (with_reducible refine r_dget1 ?_)
  | (with_reducible refine r_lc ?_) | (with_reducible refine r_yes ?_)
  | (with_reducible refine r_un ?_) | (with_reducible refine r_rU ?_)
  | (with_reducible refine r_disp ?_) | (with_reducible refine r_andV ?_) | (with_reducible refine r_orV ?_) | (with_reducible refine r_notV ?_) | (with_reducible refine r_dnewK ?_)
  | (with_reducible refine r_dget ?_) | (with_reducible refine r_dput ?_)
  | ((with_reducible refine r_rEq ?e ?_); (case e => rfl)) | ((with_reducible refine r_rNe ?e ?_); (case e => rfl)))
local macro_rules | `(tactic| walk_at "rd") => `(tactic| repeat (walk_at "rd1"))
section
variable {P : Program} {w : World} {K : PySem.W.Frag} {mg : Str → Option Value} {base : Heap}
theorem kb_0 {fd : FuncData} (F : FunD K "__init__" "Book.__init__" (defArgs s_Book___init__) (defBody s_Book___init__) (defScope s_Book___init__) [] [("work", V.str "join"), ("write", V.str "stop"), ("meet", V.str "raise"), ("test", V.str "stop"), ("partly", V.str "stop"), ("value", V.str "stop"), ("path", V.str "stop"), ("loop", V.str "stop"), ("guard", V.str "stop"), ("call", V.str "stop")] (He.fAd K ("Book", some "__init__")) fd) :
    ∃ mv : List Value, KBn K fd ["self", "work", "write", "meet", "test", "partly", "value", "path", "loop", "guard", "call"] 1 ["work"] (fun us ws => us ++ (mv.take 0 ++ ws ++ mv.drop 0)) (fun vs zs => vs ++ (((["stop", "raise", "stop", "stop", "stop", "stop", "stop", "stop", "stop"] : List Str).map V.str).take 0 ++ zs ++ ((["stop", "raise", "stop", "stop", "stop", "stop", "stop", "stop", "stop"] : List Str).map V.str).drop 0)) :=
  F.kbinds0 1 ["work"] [("write", V.str "stop"), ("meet", V.str "raise"), ("test", V.str "stop"), ("partly", V.str "stop"), ("value", V.str "stop"), ("path", V.str "stop"), ("loop", V.str "stop"), ("guard", V.str "stop"), ("call", V.str "stop")] (fun us mv ws => us ++ (mv.take 0 ++ ws ++ mv.drop 0)) (by simp) (by simp) (fun r1 r2 r3 => r1.append (((r2.take 0).append r3).append (r2.drop 0)))
    fun D doc pm an cdv ct us mv ws h1 h2 h3 => match us, mv, ws, h1, h2, h3 with
    | [u], [k0, k1, k2, k3, k4, k5, k6, k7, k8], [z], _, _, _ => by
      refine ⟨_, _, _, _, _, _, rfl, rfl, ?_⟩
      refine ⟨_, _, _, _, _, _, rfl, rfl, ?_⟩
      refine ⟨_, _, _, _, _, _, rfl, rfl, ?_⟩
      refine ⟨_, _, _, _, _, _, rfl, rfl, ?_⟩
      refine ⟨_, _, _, _, _, _, rfl, rfl, ?_⟩
      refine ⟨_, _, _, _, _, _, rfl, rfl, ?_⟩
      refine ⟨_, _, _, _, _, _, rfl, rfl, ?_⟩
      refine ⟨_, _, _, _, _, _, rfl, rfl, ?_⟩
      refine ⟨_, _, _, _, _, _, rfl, rfl, ?_⟩
      rfl
theorem kb_1 {fd : FuncData} (F : FunD K "__init__" "Book.__init__" (defArgs s_Book___init__) (defBody s_Book___init__) (defScope s_Book___init__) [] [("work", V.str "join"), ("write", V.str "stop"), ("meet", V.str "raise"), ("test", V.str "stop"), ("partly", V.str "stop"), ("value", V.str "stop"), ("path", V.str "stop"), ("loop", V.str "stop"), ("guard", V.str "stop"), ("call", V.str "stop")] (He.fAd K ("Book", some "__init__")) fd) :
    ∃ mv : List Value, KBn K fd ["self", "work", "write", "meet", "test", "partly", "value", "path", "loop", "guard", "call"] 1 ["write"] (fun us ws => us ++ (mv.take 1 ++ ws ++ mv.drop 1)) (fun vs zs => vs ++ (((["join", "raise", "stop", "stop", "stop", "stop", "stop", "stop", "stop"] : List Str).map V.str).take 1 ++ zs ++ ((["join", "raise", "stop", "stop", "stop", "stop", "stop", "stop", "stop"] : List Str).map V.str).drop 1)) :=
  F.kbinds0 1 ["write"] [("work", V.str "join"), ("meet", V.str "raise"), ("test", V.str "stop"), ("partly", V.str "stop"), ("value", V.str "stop"), ("path", V.str "stop"), ("loop", V.str "stop"), ("guard", V.str "stop"), ("call", V.str "stop")] (fun us mv ws => us ++ (mv.take 1 ++ ws ++ mv.drop 1)) (by simp) (by simp) (fun r1 r2 r3 => r1.append (((r2.take 1).append r3).append (r2.drop 1)))
    fun D doc pm an cdv ct us mv ws h1 h2 h3 => match us, mv, ws, h1, h2, h3 with
    | [u], [k0, k1, k2, k3, k4, k5, k6, k7, k8], [z], _, _, _ => by
      refine ⟨_, _, _, _, _, _, rfl, rfl, ?_⟩
      refine ⟨_, _, _, _, _, _, rfl, rfl, ?_⟩
      refine ⟨_, _, _, _, _, _, rfl, rfl, ?_⟩
      refine ⟨_, _, _, _, _, _, rfl, rfl, ?_⟩
      refine ⟨_, _, _, _, _, _, rfl, rfl, ?_⟩
      refine ⟨_, _, _, _, _, _, rfl, rfl, ?_⟩
      refine ⟨_, _, _, _, _, _, rfl, rfl, ?_⟩
      refine ⟨_, _, _, _, _, _, rfl, rfl, ?_⟩
      refine ⟨_, _, _, _, _, _, rfl, rfl, ?_⟩
      rfl
theorem kb_2 {fd : FuncData} (F : FunD K "__init__" "Book.__init__" (defArgs s_Book___init__) (defBody s_Book___init__) (defScope s_Book___init__) [] [("work", V.str "join"), ("write", V.str "stop"), ("meet", V.str "raise"), ("test", V.str "stop"), ("partly", V.str "stop"), ("value", V.str "stop"), ("path", V.str "stop"), ("loop", V.str "stop"), ("guard", V.str "stop"), ("call", V.str "stop")] (He.fAd K ("Book", some "__init__")) fd) :
    ∃ mv : List Value, KBn K fd ["self", "work", "write", "meet", "test", "partly", "value", "path", "loop", "guard", "call"] 1 ["meet"] (fun us ws => us ++ (mv.take 2 ++ ws ++ mv.drop 2)) (fun vs zs => vs ++ (((["join", "stop", "stop", "stop", "stop", "stop", "stop", "stop", "stop"] : List Str).map V.str).take 2 ++ zs ++ ((["join", "stop", "stop", "stop", "stop", "stop", "stop", "stop", "stop"] : List Str).map V.str).drop 2)) :=
  F.kbinds0 1 ["meet"] [("work", V.str "join"), ("write", V.str "stop"), ("test", V.str "stop"), ("partly", V.str "stop"), ("value", V.str "stop"), ("path", V.str "stop"), ("loop", V.str "stop"), ("guard", V.str "stop"), ("call", V.str "stop")] (fun us mv ws => us ++ (mv.take 2 ++ ws ++ mv.drop 2)) (by simp) (by simp) (fun r1 r2 r3 => r1.append (((r2.take 2).append r3).append (r2.drop 2)))
    fun D doc pm an cdv ct us mv ws h1 h2 h3 => match us, mv, ws, h1, h2, h3 with
    | [u], [k0, k1, k2, k3, k4, k5, k6, k7, k8], [z], _, _, _ => by
      refine ⟨_, _, _, _, _, _, rfl, rfl, ?_⟩
      refine ⟨_, _, _, _, _, _, rfl, rfl, ?_⟩
      refine ⟨_, _, _, _, _, _, rfl, rfl, ?_⟩
      refine ⟨_, _, _, _, _, _, rfl, rfl, ?_⟩
      refine ⟨_, _, _, _, _, _, rfl, rfl, ?_⟩
      refine ⟨_, _, _, _, _, _, rfl, rfl, ?_⟩
      refine ⟨_, _, _, _, _, _, rfl, rfl, ?_⟩
      refine ⟨_, _, _, _, _, _, rfl, rfl, ?_⟩
      refine ⟨_, _, _, _, _, _, rfl, rfl, ?_⟩
      rfl
theorem kb_3 {fd : FuncData} (F : FunD K "__init__" "Book.__init__" (defArgs s_Book___init__) (defBody s_Book___init__) (defScope s_Book___init__) [] [("work", V.str "join"), ("write", V.str "stop"), ("meet", V.str "raise"), ("test", V.str "stop"), ("partly", V.str "stop"), ("value", V.str "stop"), ("path", V.str "stop"), ("loop", V.str "stop"), ("guard", V.str "stop"), ("call", V.str "stop")] (He.fAd K ("Book", some "__init__")) fd) :
    ∃ mv : List Value, KBn K fd ["self", "work", "write", "meet", "test", "partly", "value", "path", "loop", "guard", "call"] 1 ["test"] (fun us ws => us ++ (mv.take 3 ++ ws ++ mv.drop 3)) (fun vs zs => vs ++ (((["join", "stop", "raise", "stop", "stop", "stop", "stop", "stop", "stop"] : List Str).map V.str).take 3 ++ zs ++ ((["join", "stop", "raise", "stop", "stop", "stop", "stop", "stop", "stop"] : List Str).map V.str).drop 3)) :=
  F.kbinds0 1 ["test"] [("work", V.str "join"), ("write", V.str "stop"), ("meet", V.str "raise"), ("partly", V.str "stop"), ("value", V.str "stop"), ("path", V.str "stop"), ("loop", V.str "stop"), ("guard", V.str "stop"), ("call", V.str "stop")] (fun us mv ws => us ++ (mv.take 3 ++ ws ++ mv.drop 3)) (by simp) (by simp) (fun r1 r2 r3 => r1.append (((r2.take 3).append r3).append (r2.drop 3)))
    fun D doc pm an cdv ct us mv ws h1 h2 h3 => match us, mv, ws, h1, h2, h3 with
    | [u], [k0, k1, k2, k3, k4, k5, k6, k7, k8], [z], _, _, _ => by
      refine ⟨_, _, _, _, _, _, rfl, rfl, ?_⟩
      refine ⟨_, _, _, _, _, _, rfl, rfl, ?_⟩
      refine ⟨_, _, _, _, _, _, rfl, rfl, ?_⟩
      refine ⟨_, _, _, _, _, _, rfl, rfl, ?_⟩
      refine ⟨_, _, _, _, _, _, rfl, rfl, ?_⟩
      refine ⟨_, _, _, _, _, _, rfl, rfl, ?_⟩
      refine ⟨_, _, _, _, _, _, rfl, rfl, ?_⟩
      refine ⟨_, _, _, _, _, _, rfl, rfl, ?_⟩
      refine ⟨_, _, _, _, _, _, rfl, rfl, ?_⟩
      rfl
theorem kb_4 {fd : FuncData} (F : FunD K "__init__" "Book.__init__" (defArgs s_Book___init__) (defBody s_Book___init__) (defScope s_Book___init__) [] [("work", V.str "join"), ("write", V.str "stop"), ("meet", V.str "raise"), ("test", V.str "stop"), ("partly", V.str "stop"), ("value", V.str "stop"), ("path", V.str "stop"), ("loop", V.str "stop"), ("guard", V.str "stop"), ("call", V.str "stop")] (He.fAd K ("Book", some "__init__")) fd) :
    ∃ mv : List Value, KBn K fd ["self", "work", "write", "meet", "test", "partly", "value", "path", "loop", "guard", "call"] 1 ["partly"] (fun us ws => us ++ (mv.take 4 ++ ws ++ mv.drop 4)) (fun vs zs => vs ++ (((["join", "stop", "raise", "stop", "stop", "stop", "stop", "stop", "stop"] : List Str).map V.str).take 4 ++ zs ++ ((["join", "stop", "raise", "stop", "stop", "stop", "stop", "stop", "stop"] : List Str).map V.str).drop 4)) :=
  F.kbinds0 1 ["partly"] [("work", V.str "join"), ("write", V.str "stop"), ("meet", V.str "raise"), ("test", V.str "stop"), ("value", V.str "stop"), ("path", V.str "stop"), ("loop", V.str "stop"), ("guard", V.str "stop"), ("call", V.str "stop")] (fun us mv ws => us ++ (mv.take 4 ++ ws ++ mv.drop 4)) (by simp) (by simp) (fun r1 r2 r3 => r1.append (((r2.take 4).append r3).append (r2.drop 4)))
    fun D doc pm an cdv ct us mv ws h1 h2 h3 => match us, mv, ws, h1, h2, h3 with
    | [u], [k0, k1, k2, k3, k4, k5, k6, k7, k8], [z], _, _, _ => by
      refine ⟨_, _, _, _, _, _, rfl, rfl, ?_⟩
      refine ⟨_, _, _, _, _, _, rfl, rfl, ?_⟩
      refine ⟨_, _, _, _, _, _, rfl, rfl, ?_⟩
      refine ⟨_, _, _, _, _, _, rfl, rfl, ?_⟩
      refine ⟨_, _, _, _, _, _, rfl, rfl, ?_⟩
      refine ⟨_, _, _, _, _, _, rfl, rfl, ?_⟩
      refine ⟨_, _, _, _, _, _, rfl, rfl, ?_⟩
      refine ⟨_, _, _, _, _, _, rfl, rfl, ?_⟩
      refine ⟨_, _, _, _, _, _, rfl, rfl, ?_⟩
      rfl
theorem kb_5 {fd : FuncData} (F : FunD K "__init__" "Book.__init__" (defArgs s_Book___init__) (defBody s_Book___init__) (defScope s_Book___init__) [] [("work", V.str "join"), ("write", V.str "stop"), ("meet", V.str "raise"), ("test", V.str "stop"), ("partly", V.str "stop"), ("value", V.str "stop"), ("path", V.str "stop"), ("loop", V.str "stop"), ("guard", V.str "stop"), ("call", V.str "stop")] (He.fAd K ("Book", some "__init__")) fd) :
    ∃ mv : List Value, KBn K fd ["self", "work", "write", "meet", "test", "partly", "value", "path", "loop", "guard", "call"] 1 ["value"] (fun us ws => us ++ (mv.take 5 ++ ws ++ mv.drop 5)) (fun vs zs => vs ++ (((["join", "stop", "raise", "stop", "stop", "stop", "stop", "stop", "stop"] : List Str).map V.str).take 5 ++ zs ++ ((["join", "stop", "raise", "stop", "stop", "stop", "stop", "stop", "stop"] : List Str).map V.str).drop 5)) :=
  F.kbinds0 1 ["value"] [("work", V.str "join"), ("write", V.str "stop"), ("meet", V.str "raise"), ("test", V.str "stop"), ("partly", V.str "stop"), ("path", V.str "stop"), ("loop", V.str "stop"), ("guard", V.str "stop"), ("call", V.str "stop")] (fun us mv ws => us ++ (mv.take 5 ++ ws ++ mv.drop 5)) (by simp) (by simp) (fun r1 r2 r3 => r1.append (((r2.take 5).append r3).append (r2.drop 5)))
    fun D doc pm an cdv ct us mv ws h1 h2 h3 => match us, mv, ws, h1, h2, h3 with
    | [u], [k0, k1, k2, k3, k4, k5, k6, k7, k8], [z], _, _, _ => by
      refine ⟨_, _, _, _, _, _, rfl, rfl, ?_⟩
      refine ⟨_, _, _, _, _, _, rfl, rfl, ?_⟩
      refine ⟨_, _, _, _, _, _, rfl, rfl, ?_⟩
      refine ⟨_, _, _, _, _, _, rfl, rfl, ?_⟩
      refine ⟨_, _, _, _, _, _, rfl, rfl, ?_⟩
      refine ⟨_, _, _, _, _, _, rfl, rfl, ?_⟩
      refine ⟨_, _, _, _, _, _, rfl, rfl, ?_⟩
      refine ⟨_, _, _, _, _, _, rfl, rfl, ?_⟩
      refine ⟨_, _, _, _, _, _, rfl, rfl, ?_⟩
      rfl
theorem kb_6 {fd : FuncData} (F : FunD K "__init__" "Book.__init__" (defArgs s_Book___init__) (defBody s_Book___init__) (defScope s_Book___init__) [] [("work", V.str "join"), ("write", V.str "stop"), ("meet", V.str "raise"), ("test", V.str "stop"), ("partly", V.str "stop"), ("value", V.str "stop"), ("path", V.str "stop"), ("loop", V.str "stop"), ("guard", V.str "stop"), ("call", V.str "stop")] (He.fAd K ("Book", some "__init__")) fd) :
    ∃ mv : List Value, KBn K fd ["self", "work", "write", "meet", "test", "partly", "value", "path", "loop", "guard", "call"] 1 ["path"] (fun us ws => us ++ (mv.take 6 ++ ws ++ mv.drop 6)) (fun vs zs => vs ++ (((["join", "stop", "raise", "stop", "stop", "stop", "stop", "stop", "stop"] : List Str).map V.str).take 6 ++ zs ++ ((["join", "stop", "raise", "stop", "stop", "stop", "stop", "stop", "stop"] : List Str).map V.str).drop 6)) :=
  F.kbinds0 1 ["path"] [("work", V.str "join"), ("write", V.str "stop"), ("meet", V.str "raise"), ("test", V.str "stop"), ("partly", V.str "stop"), ("value", V.str "stop"), ("loop", V.str "stop"), ("guard", V.str "stop"), ("call", V.str "stop")] (fun us mv ws => us ++ (mv.take 6 ++ ws ++ mv.drop 6)) (by simp) (by simp) (fun r1 r2 r3 => r1.append (((r2.take 6).append r3).append (r2.drop 6)))
    fun D doc pm an cdv ct us mv ws h1 h2 h3 => match us, mv, ws, h1, h2, h3 with
    | [u], [k0, k1, k2, k3, k4, k5, k6, k7, k8], [z], _, _, _ => by
      refine ⟨_, _, _, _, _, _, rfl, rfl, ?_⟩
      refine ⟨_, _, _, _, _, _, rfl, rfl, ?_⟩
      refine ⟨_, _, _, _, _, _, rfl, rfl, ?_⟩
      refine ⟨_, _, _, _, _, _, rfl, rfl, ?_⟩
      refine ⟨_, _, _, _, _, _, rfl, rfl, ?_⟩
      refine ⟨_, _, _, _, _, _, rfl, rfl, ?_⟩
      refine ⟨_, _, _, _, _, _, rfl, rfl, ?_⟩
      refine ⟨_, _, _, _, _, _, rfl, rfl, ?_⟩
      refine ⟨_, _, _, _, _, _, rfl, rfl, ?_⟩
      rfl
theorem kb_7 {fd : FuncData} (F : FunD K "__init__" "Book.__init__" (defArgs s_Book___init__) (defBody s_Book___init__) (defScope s_Book___init__) [] [("work", V.str "join"), ("write", V.str "stop"), ("meet", V.str "raise"), ("test", V.str "stop"), ("partly", V.str "stop"), ("value", V.str "stop"), ("path", V.str "stop"), ("loop", V.str "stop"), ("guard", V.str "stop"), ("call", V.str "stop")] (He.fAd K ("Book", some "__init__")) fd) :
    ∃ mv : List Value, KBn K fd ["self", "work", "write", "meet", "test", "partly", "value", "path", "loop", "guard", "call"] 1 ["loop"] (fun us ws => us ++ (mv.take 7 ++ ws ++ mv.drop 7)) (fun vs zs => vs ++ (((["join", "stop", "raise", "stop", "stop", "stop", "stop", "stop", "stop"] : List Str).map V.str).take 7 ++ zs ++ ((["join", "stop", "raise", "stop", "stop", "stop", "stop", "stop", "stop"] : List Str).map V.str).drop 7)) :=
  F.kbinds0 1 ["loop"] [("work", V.str "join"), ("write", V.str "stop"), ("meet", V.str "raise"), ("test", V.str "stop"), ("partly", V.str "stop"), ("value", V.str "stop"), ("path", V.str "stop"), ("guard", V.str "stop"), ("call", V.str "stop")] (fun us mv ws => us ++ (mv.take 7 ++ ws ++ mv.drop 7)) (by simp) (by simp) (fun r1 r2 r3 => r1.append (((r2.take 7).append r3).append (r2.drop 7)))
    fun D doc pm an cdv ct us mv ws h1 h2 h3 => match us, mv, ws, h1, h2, h3 with
    | [u], [k0, k1, k2, k3, k4, k5, k6, k7, k8], [z], _, _, _ => by
      refine ⟨_, _, _, _, _, _, rfl, rfl, ?_⟩
      refine ⟨_, _, _, _, _, _, rfl, rfl, ?_⟩
      refine ⟨_, _, _, _, _, _, rfl, rfl, ?_⟩
      refine ⟨_, _, _, _, _, _, rfl, rfl, ?_⟩
      refine ⟨_, _, _, _, _, _, rfl, rfl, ?_⟩
      refine ⟨_, _, _, _, _, _, rfl, rfl, ?_⟩
      refine ⟨_, _, _, _, _, _, rfl, rfl, ?_⟩
      refine ⟨_, _, _, _, _, _, rfl, rfl, ?_⟩
      refine ⟨_, _, _, _, _, _, rfl, rfl, ?_⟩
      rfl
theorem kb_8 {fd : FuncData} (F : FunD K "__init__" "Book.__init__" (defArgs s_Book___init__) (defBody s_Book___init__) (defScope s_Book___init__) [] [("work", V.str "join"), ("write", V.str "stop"), ("meet", V.str "raise"), ("test", V.str "stop"), ("partly", V.str "stop"), ("value", V.str "stop"), ("path", V.str "stop"), ("loop", V.str "stop"), ("guard", V.str "stop"), ("call", V.str "stop")] (He.fAd K ("Book", some "__init__")) fd) :
    ∃ mv : List Value, KBn K fd ["self", "work", "write", "meet", "test", "partly", "value", "path", "loop", "guard", "call"] 1 ["guard"] (fun us ws => us ++ (mv.take 8 ++ ws ++ mv.drop 8)) (fun vs zs => vs ++ (((["join", "stop", "raise", "stop", "stop", "stop", "stop", "stop", "stop"] : List Str).map V.str).take 8 ++ zs ++ ((["join", "stop", "raise", "stop", "stop", "stop", "stop", "stop", "stop"] : List Str).map V.str).drop 8)) :=
  F.kbinds0 1 ["guard"] [("work", V.str "join"), ("write", V.str "stop"), ("meet", V.str "raise"), ("test", V.str "stop"), ("partly", V.str "stop"), ("value", V.str "stop"), ("path", V.str "stop"), ("loop", V.str "stop"), ("call", V.str "stop")] (fun us mv ws => us ++ (mv.take 8 ++ ws ++ mv.drop 8)) (by simp) (by simp) (fun r1 r2 r3 => r1.append (((r2.take 8).append r3).append (r2.drop 8)))
    fun D doc pm an cdv ct us mv ws h1 h2 h3 => match us, mv, ws, h1, h2, h3 with
    | [u], [k0, k1, k2, k3, k4, k5, k6, k7, k8], [z], _, _, _ => by
      refine ⟨_, _, _, _, _, _, rfl, rfl, ?_⟩
      refine ⟨_, _, _, _, _, _, rfl, rfl, ?_⟩
      refine ⟨_, _, _, _, _, _, rfl, rfl, ?_⟩
      refine ⟨_, _, _, _, _, _, rfl, rfl, ?_⟩
      refine ⟨_, _, _, _, _, _, rfl, rfl, ?_⟩
      refine ⟨_, _, _, _, _, _, rfl, rfl, ?_⟩
      refine ⟨_, _, _, _, _, _, rfl, rfl, ?_⟩
      refine ⟨_, _, _, _, _, _, rfl, rfl, ?_⟩
      refine ⟨_, _, _, _, _, _, rfl, rfl, ?_⟩
      rfl
theorem kb_9 {fd : FuncData} (F : FunD K "__init__" "Book.__init__" (defArgs s_Book___init__) (defBody s_Book___init__) (defScope s_Book___init__) [] [("work", V.str "join"), ("write", V.str "stop"), ("meet", V.str "raise"), ("test", V.str "stop"), ("partly", V.str "stop"), ("value", V.str "stop"), ("path", V.str "stop"), ("loop", V.str "stop"), ("guard", V.str "stop"), ("call", V.str "stop")] (He.fAd K ("Book", some "__init__")) fd) :
    ∃ mv : List Value, KBn K fd ["self", "work", "write", "meet", "test", "partly", "value", "path", "loop", "guard", "call"] 1 ["call"] (fun us ws => us ++ (mv.take 9 ++ ws ++ mv.drop 9)) (fun vs zs => vs ++ (((["join", "stop", "raise", "stop", "stop", "stop", "stop", "stop", "stop"] : List Str).map V.str).take 9 ++ zs ++ ((["join", "stop", "raise", "stop", "stop", "stop", "stop", "stop", "stop"] : List Str).map V.str).drop 9)) :=
  F.kbinds0 1 ["call"] [("work", V.str "join"), ("write", V.str "stop"), ("meet", V.str "raise"), ("test", V.str "stop"), ("partly", V.str "stop"), ("value", V.str "stop"), ("path", V.str "stop"), ("loop", V.str "stop"), ("guard", V.str "stop")] (fun us mv ws => us ++ (mv.take 9 ++ ws ++ mv.drop 9)) (by simp) (by simp) (fun r1 r2 r3 => r1.append (((r2.take 9).append r3).append (r2.drop 9)))
    fun D doc pm an cdv ct us mv ws h1 h2 h3 => match us, mv, ws, h1, h2, h3 with
    | [u], [k0, k1, k2, k3, k4, k5, k6, k7, k8], [z], _, _, _ => by
      refine ⟨_, _, _, _, _, _, rfl, rfl, ?_⟩
      refine ⟨_, _, _, _, _, _, rfl, rfl, ?_⟩
      refine ⟨_, _, _, _, _, _, rfl, rfl, ?_⟩
      refine ⟨_, _, _, _, _, _, rfl, rfl, ?_⟩
      refine ⟨_, _, _, _, _, _, rfl, rfl, ?_⟩
      refine ⟨_, _, _, _, _, _, rfl, rfl, ?_⟩
      refine ⟨_, _, _, _, _, _, rfl, rfl, ?_⟩
      refine ⟨_, _, _, _, _, _, rfl, rfl, ?_⟩
      refine ⟨_, _, _, _, _, _, rfl, rfl, ?_⟩
      rfl
end
end Sm
set_option maxHeartbeats 4000000
namespace Sm
open PySem PySem.Spec PyProof.Rows L2
local macro_rules | `(tactic| walk_at "rd1") => `(tactic| first
  | (with_reducible refine r_seq ?_) | (with_reducible refine r_asg ?_) | (with_reducible refine r_gname ?_)
  | ((with_reducible refine' r_var ?e ?_); (case e => rfl)) | (with_reducible refine r_c ?_)
  | (with_reducible refine r_ret ?_) | (with_reducible refine r_retN ?_) | (with_reducible refine r_drop ?_) | (with_reducible refine r_next ?_) | (with_reducible refine r_ifs ?_)
  | (with_reducible refine r_op ?_) | (with_reducible refine r_rI0 ?_)
  | (with_reducible refine r_test ?_) | (with_reducible refine r_tb ?_) | (with_reducible refine Exists.intro _ (And.intro (Eq.refl (V.bl _)) ?_))
  | (with_reducible refine r_nil ?_) | (with_reducible refine r_cons ?_) | (with_reducible refine r_cb ?_) | (with_reducible refine r_call ?_)
  | (with_reducible refine r_callS ?_) | (with_reducible refine r_meth ?_) | (with_reducible refine r_ownIx ?_) | (with_reducible refine r_ownSet ?_)
  | (with_reducible refine r_not ?_) | (with_reducible refine r_and ?_) | (with_reducible refine r_or ?_)
  | (with_reducible refine r_lst ?_) | (with_reducible refine r_tup ?_) | (with_reducible refine Or.inl (Exists.intro _ (And.intro (Eq.refl [V.int _]) ?_)))
  | ((with_reducible refine r_rI ?c ?_); (case c => first | (show (0 : Int) < _; decide) | exact ⟨by decide, by decide⟩))
  | (with_reducible refine r_for ?_) | (with_reducible refine r_rng1 ?_) | (with_reducible refine r_rng2 ?_) | (with_reducible refine r_ilist ?_) | (with_reducible refine r_itup ?_)
  | (with_reducible refine r_m0 ?_) | (with_reducible refine r_m1 ?_) | (with_reducible refine r_isStr ?_) | (with_reducible refine r_newS ?_) | (with_reducible refine r_fld ?_)
  | (with_reducible refine r_bm ?_) | (with_reducible refine r_bm0 ?_) | (with_reducible refine r_sl ?_) | (with_reducible refine r_nopart ?_) | (with_reducible refine r_part ?_)
  | (with_reducible refine r_pcons ?_) | (with_reducible refine r_pnil ?_) | (with_reducible refine r_dget2 ?_) | (with_reducible refine r_dget1 ?_)
  | (with_reducible refine r_lc ?_) | (with_reducible refine r_yes ?_)
  | (with_reducible refine r_un ?_) | (with_reducible refine r_rU ?_)
  | (with_reducible refine r_disp ?_) | (with_reducible refine r_andV ?_) | (with_reducible refine r_orV ?_) | (with_reducible refine r_notV ?_) | (with_reducible refine r_dnewK ?_)
  | (with_reducible refine r_dget ?_) | (with_reducible refine r_dput ?_)
  | ((with_reducible refine r_rEq ?e ?_); (case e => rfl)) | ((with_reducible refine r_rNe ?e ?_); (case e => rfl)))
local macro_rules | `(tactic| walk_at "rd") => `(tactic| repeat (walk_at "rd1"))
section
variable {P : Program} {w : World} {K : PySem.W.Frag} {mg : Str → Option Value} {base : Heap}
theorem made_end (H : Hp) (Q : VK) (E : XK) (x : Str) (i : Nat) (hi : i < 10) (p dx : Addr) (hp : H p = none) (hdx : H dx = none) (hne : dx ≠ p)
    (qg : x ∈ chs i → ∀ p d H', H p = none → H d = none → Chg [] H H' → BookAt K H' p d (defaultB.set i x) → Q (.ref p) H') (qb : ¬ x ∈ chs i → Bad K "InvalidBook" [] H E) :
    sp_Book_init K (.ref p :: (defaultB.set i x).map V.str) (upd (upd H dx (.own p)) p (.ins (He.ga K "Book") dx [])) (fun v H3 => v = .non ∧ Q (.ref p) H3) E := by
  have c0 : Chg [] H (upd (upd H dx (.own p)) p (.ins (He.ga K "Book") dx [])) := (Chg.new hdx).trans (Chg.new (by rw [upd_ne hne.symm]; exact hp))
  refine ⟨p, dx, defaultB.set i x, rfl, by rw [List.length_set]; rfl, upd_same, fun o d H' hd c B => ⟨rfl, ?_⟩, fun o H' c => ?_⟩
  · have hx : x ∈ chs i := o.ch i x (by rw [List.getElem?_set_self (by exact hi)])
    exact qg hx p d H' hp (c0.fresh hd) (c0.then c hp) B
  · exact qb (fun hx => o (okB_default.set hx)) H' (c0.then c hp)
def sp_made (K : PySem.W.Frag) : Sp := fun vs H Q E => ∃ (i : Nat) (x : Str), i < 10 ∧ vs = [.str (ent i), .str x] ∧
  (x ∈ chs i → ∀ p d H', H p = none → H d = none → Chg [] H H' → BookAt K H' p d (defaultB.set i x) → Q (.ref p) H') ∧ (¬ x ∈ chs i → Bad K "InvalidBook" [] H E)
theorem ok_made (T : Tx w K mg) : ∃ fd, FnOk P w K mg base (L2.CX P w) 3 (He.fAd K ("_law_made", none)) fd ["name", "word"] (sp_made K) ∧ Binds K fd ["name", "word"] [] := by
  obtain ⟨fd, F⟩ := T.F__law_made
  obtain ⟨fdI, G_I, FI⟩ := ok_Book_init (P := P) (w := w) (base := base) T
  obtain ⟨mv0, kb0⟩ := kb_0 FI
  obtain ⟨mv1, kb1⟩ := kb_1 FI
  obtain ⟨mv2, kb2⟩ := kb_2 FI
  obtain ⟨mv3, kb3⟩ := kb_3 FI
  obtain ⟨mv4, kb4⟩ := kb_4 FI
  obtain ⟨mv5, kb5⟩ := kb_5 FI
  obtain ⟨mv6, kb6⟩ := kb_6 FI
  obtain ⟨mv7, kb7⟩ := kb_7 FI
  obtain ⟨mv8, kb8⟩ := kb_8 FI
  obtain ⟨mv9, kb9⟩ := kb_9 FI
  refine ⟨fd, F.okX sc__law_made (fun vs H Q E h => ?_) (fun cdv A outer s H vs Q E hr h => ?_), F.binds fun _ _ _ _ _ _ us hl => match us, hl with | [_, _], _ => rfl⟩
  · obtain ⟨i, x, _, rfl, _⟩ := h
    rfl
  · obtain ⟨i, x, hi, rfl, qg, qb⟩ := h
    have hr1 : Room 2 _ := hr
    refine ⟨_, (pss_cons (ps_if (pt_cmpR op_eq (pv 0) pe_str (nomark _))
        (pss_one (ps_ret (pe_makeK0 T.mk_Book G_I hr1 (by rfl) T.g_Book kb0 (passes_call (takes_of rfl rfl rfl rfl) (fun _ _ _ _ h => h)) (pk_cons (pv 1) pk_nil))))
        pss_nil)
      (pss_cons (ps_if (pt_cmpR op_eq (pv 0) pe_str (nomark _))
        (pss_one (ps_ret (pe_makeK0 T.mk_Book G_I hr1 (by rfl) T.g_Book kb1 (passes_call (takes_of rfl rfl rfl rfl) (fun _ _ _ _ h => h)) (pk_cons (pv 1) pk_nil))))
        pss_nil)
      (pss_cons (ps_if (pt_cmpR op_eq (pv 0) pe_str (nomark _))
        (pss_one (ps_ret (pe_makeK0 T.mk_Book G_I hr1 (by rfl) T.g_Book kb2 (passes_call (takes_of rfl rfl rfl rfl) (fun _ _ _ _ h => h)) (pk_cons (pv 1) pk_nil))))
        pss_nil)
      (pss_cons (ps_if (pt_cmpR op_eq (pv 0) pe_str (nomark _))
        (pss_one (ps_ret (pe_makeK0 T.mk_Book G_I hr1 (by rfl) T.g_Book kb3 (passes_call (takes_of rfl rfl rfl rfl) (fun _ _ _ _ h => h)) (pk_cons (pv 1) pk_nil))))
        pss_nil)
      (pss_cons (ps_if (pt_cmpR op_eq (pv 0) pe_str (nomark _))
        (pss_one (ps_ret (pe_makeK0 T.mk_Book G_I hr1 (by rfl) T.g_Book kb4 (passes_call (takes_of rfl rfl rfl rfl) (fun _ _ _ _ h => h)) (pk_cons (pv 1) pk_nil))))
        pss_nil)
      (pss_cons (ps_if (pt_cmpR op_eq (pv 0) pe_str (nomark _))
        (pss_one (ps_ret (pe_makeK0 T.mk_Book G_I hr1 (by rfl) T.g_Book kb5 (passes_call (takes_of rfl rfl rfl rfl) (fun _ _ _ _ h => h)) (pk_cons (pv 1) pk_nil))))
        pss_nil)
      (pss_cons (ps_if (pt_cmpR op_eq (pv 0) pe_str (nomark _))
        (pss_one (ps_ret (pe_makeK0 T.mk_Book G_I hr1 (by rfl) T.g_Book kb6 (passes_call (takes_of rfl rfl rfl rfl) (fun _ _ _ _ h => h)) (pk_cons (pv 1) pk_nil))))
        pss_nil)
      (pss_cons (ps_if (pt_cmpR op_eq (pv 0) pe_str (nomark _))
        (pss_one (ps_ret (pe_makeK0 T.mk_Book G_I hr1 (by rfl) T.g_Book kb7 (passes_call (takes_of rfl rfl rfl rfl) (fun _ _ _ _ h => h)) (pk_cons (pv 1) pk_nil))))
        pss_nil)
      (pss_cons (ps_if (pt_cmpR op_eq (pv 0) pe_str (nomark _))
        (pss_one (ps_ret (pe_makeK0 T.mk_Book G_I hr1 (by rfl) T.g_Book kb8 (passes_call (takes_of rfl rfl rfl rfl) (fun _ _ _ _ h => h)) (pk_cons (pv 1) pk_nil))))
        pss_nil)
      (pss_one (ps_ret (pe_makeK0 T.mk_Book G_I hr1 (by rfl) T.g_Book kb9 (passes_call (takes_of rfl rfl rfl rfl) (fun _ _ _ _ h => h)) (pk_cons (pv 1) pk_nil))))))))))))), ?_⟩
    walk_at "rd"
    refine r_ite (fun z => ?_) (fun z0 => ?_)
    · have : i = 0 := ent_inj hi (by decide) ((V.str.inj z).trans rfl)
      subst this
      walk_at "rd"
      refine ⟨_, rfl, rfl, rfl, fun p dx hp hdx hne => ?_⟩
      exact made_end H Q E x 0 (by decide) p dx hp hdx hne qg qb
    · walk_at "rd"
      refine r_ite (fun z => ?_) (fun z1 => ?_)
      · have : i = 1 := ent_inj hi (by decide) ((V.str.inj z).trans rfl)
        subst this
        walk_at "rd"
        refine ⟨_, rfl, rfl, rfl, fun p dx hp hdx hne => ?_⟩
        exact made_end H Q E x 1 (by decide) p dx hp hdx hne qg qb
      · walk_at "rd"
        refine r_ite (fun z => ?_) (fun z2 => ?_)
        · have : i = 2 := ent_inj hi (by decide) ((V.str.inj z).trans rfl)
          subst this
          walk_at "rd"
          refine ⟨_, rfl, rfl, rfl, fun p dx hp hdx hne => ?_⟩
          exact made_end H Q E x 2 (by decide) p dx hp hdx hne qg qb
        · walk_at "rd"
          refine r_ite (fun z => ?_) (fun z3 => ?_)
          · have : i = 3 := ent_inj hi (by decide) ((V.str.inj z).trans rfl)
            subst this
            walk_at "rd"
            refine ⟨_, rfl, rfl, rfl, fun p dx hp hdx hne => ?_⟩
            exact made_end H Q E x 3 (by decide) p dx hp hdx hne qg qb
          · walk_at "rd"
            refine r_ite (fun z => ?_) (fun z4 => ?_)
            · have : i = 4 := ent_inj hi (by decide) ((V.str.inj z).trans rfl)
              subst this
              walk_at "rd"
              refine ⟨_, rfl, rfl, rfl, fun p dx hp hdx hne => ?_⟩
              exact made_end H Q E x 4 (by decide) p dx hp hdx hne qg qb
            · walk_at "rd"
              refine r_ite (fun z => ?_) (fun z5 => ?_)
              · have : i = 5 := ent_inj hi (by decide) ((V.str.inj z).trans rfl)
                subst this
                walk_at "rd"
                refine ⟨_, rfl, rfl, rfl, fun p dx hp hdx hne => ?_⟩
                exact made_end H Q E x 5 (by decide) p dx hp hdx hne qg qb
              · walk_at "rd"
                refine r_ite (fun z => ?_) (fun z6 => ?_)
                · have : i = 6 := ent_inj hi (by decide) ((V.str.inj z).trans rfl)
                  subst this
                  walk_at "rd"
                  refine ⟨_, rfl, rfl, rfl, fun p dx hp hdx hne => ?_⟩
                  exact made_end H Q E x 6 (by decide) p dx hp hdx hne qg qb
                · walk_at "rd"
                  refine r_ite (fun z => ?_) (fun z7 => ?_)
                  · have : i = 7 := ent_inj hi (by decide) ((V.str.inj z).trans rfl)
                    subst this
                    walk_at "rd"
                    refine ⟨_, rfl, rfl, rfl, fun p dx hp hdx hne => ?_⟩
                    exact made_end H Q E x 7 (by decide) p dx hp hdx hne qg qb
                  · walk_at "rd"
                    refine r_ite (fun z => ?_) (fun z8 => ?_)
                    · have : i = 8 := ent_inj hi (by decide) ((V.str.inj z).trans rfl)
                      subst this
                      walk_at "rd"
                      refine ⟨_, rfl, rfl, rfl, fun p dx hp hdx hne => ?_⟩
                      exact made_end H Q E x 8 (by decide) p dx hp hdx hne qg qb
                    · walk_at "rd"
                      have : i = 9 := by
                        refine ten (P := fun i => V.str (ent i) ≠ _ → V.str (ent i) ≠ _ → V.str (ent i) ≠ _ → V.str (ent i) ≠ _ → V.str (ent i) ≠ _ → V.str (ent i) ≠ _ → V.str (ent i) ≠ _ → V.str (ent i) ≠ _ → V.str (ent i) ≠ _ → i = 9) ?_ ?_ ?_ ?_ ?_ ?_ ?_ ?_ ?_ ?_ i hi z0 z1 z2 z3 z4 z5 z6 z7 z8
                        all_goals (intro a b c d e f g h j; first | rfl | exact absurd rfl a | exact absurd rfl b | exact absurd rfl c | exact absurd rfl d | exact absurd rfl e | exact absurd rfl f | exact absurd rfl g | exact absurd rfl h | exact absurd rfl j)
                      subst this
                      walk_at "rd"
                      refine ⟨_, rfl, rfl, rfl, fun p dx hp hdx hne => ?_⟩
                      exact made_end H Q E x 9 (by decide) p dx hp hdx hne qg qb
end
end Sm
set_option maxHeartbeats 4000000
namespace Sm
open PySem PySem.Spec PyProof.Rows L2
local macro_rules | `(tactic| walk_at "rd1") => `(tactic| first
  | (with_reducible refine r_seq ?_) | (with_reducible refine r_asg ?_) | (with_reducible refine r_gname ?_)
  | ((with_reducible refine' r_var ?e ?_); (case e => rfl)) | (with_reducible refine r_c ?_)
  | (with_reducible refine r_ret ?_) | (with_reducible refine r_retN ?_) | (with_reducible refine r_drop ?_) | (with_reducible refine r_next ?_) | (with_reducible refine r_ifs ?_)
  | (with_reducible refine r_op ?_) | (with_reducible refine r_rI0 ?_)
  | (with_reducible refine r_test ?_) | (with_reducible refine r_tb ?_) | (with_reducible refine Exists.intro _ (And.intro (Eq.refl (V.bl _)) ?_))
  | (with_reducible refine r_nil ?_) | (with_reducible refine r_cons ?_) | (with_reducible refine r_cb ?_) | (with_reducible refine r_call ?_)
  | (with_reducible refine r_callS ?_) | (with_reducible refine r_meth ?_) | (with_reducible refine r_ownIx ?_) | (with_reducible refine r_ownSet ?_)
  | (with_reducible refine r_not ?_) | (with_reducible refine r_and ?_) | (with_reducible refine r_or ?_)
  | (with_reducible refine r_lst ?_) | (with_reducible refine r_tup ?_) | (with_reducible refine Or.inl (Exists.intro _ (And.intro (Eq.refl [V.int _]) ?_)))
  | ((with_reducible refine r_rI ?c ?_); (case c => first | (show (0 : Int) < _; decide) | exact ⟨by decide, by decide⟩))
  | (with_reducible refine r_for ?_) | (with_reducible refine r_rng1 ?_) | (with_reducible refine r_rng2 ?_) | (with_reducible refine r_ilist ?_) | (with_reducible refine r_itup ?_)
  | (with_reducible refine r_m0 ?_) | (with_reducible refine r_m1 ?_) | (with_reducible refine r_isStr ?_) | (with_reducible refine r_newS ?_) | (with_reducible refine r_fld ?_)
  | (with_reducible refine r_bm ?_) | (with_reducible refine r_bm0 ?_) | (with_reducible refine r_sl ?_) | (with_reducible refine r_nopart ?_) | (with_reducible refine r_part ?_)
  | (with_reducible refine r_pcons ?_) | (with_reducible refine r_pnil ?_) | (with_reducible refine r_dget2 ?_) | (with_reducible refine r_dget1 ?_)
  | (with_reducible refine r_lc ?_) | (with_reducible refine r_yes ?_)
  | (with_reducible refine r_un ?_) | (with_reducible refine r_rU ?_)
  | (with_reducible refine r_disp ?_) | (with_reducible refine r_andV ?_) | (with_reducible refine r_orV ?_) | (with_reducible refine r_notV ?_) | (with_reducible refine r_dnewK ?_)
  | (with_reducible refine r_dget ?_) | (with_reducible refine r_dput ?_)
  | ((with_reducible refine r_rEq ?e ?_); (case e => rfl)) | ((with_reducible refine r_rNe ?e ?_); (case e => rfl)))
local macro_rules | `(tactic| walk_at "rd") => `(tactic| repeat (walk_at "rd1"))
section
variable {P : Program} {w : World} {K : PySem.W.Frag} {mg : Str → Option Value} {base : Heap}
def sp_lawbook (K : PySem.W.Frag) : Sp := fun vs H Q _ => ∃ (a : Addr) (cs : List Str), vs = [.ref a] ∧ OkB cs ∧ H a = some (.dK (dcs cs)) ∧ ∀ p d H', H p = none → H d = none → Chg [] H H' → BookAt K H' p d cs → Q (.ref p) H'
theorem ok_lawbook (T : Tx w K mg) : ∃ fd, FnOk P w K mg base CX0 3 (He.fAd K ("_law_book", none)) fd ["picks"] (sp_lawbook K) ∧ Binds K fd ["picks"] [] := by
  obtain ⟨fd, F⟩ := T.F__law_book
  obtain ⟨fdI, G_Book___init__, FI⟩ := ok_Book_init (P := P) (w := w) (base := base) T
  obtain ⟨ds, hds, b_Book___init__⟩ := binds_Book0 FI
  obtain ⟨fdS, G_set, b_set⟩ := ok_Book_set (P := P) (w := w) (base := base) T
  obtain ⟨fdE, G__law_entries, b__law_entries⟩ := ok_entries (P := P) (w := w) (base := base) T
  refine ⟨fd, F.ok sc__law_book (fun vs H Q E h => ?_) (fun cdv A outer s H vs Q E hr h => ?_), F.binds fun _ _ _ _ _ _ us hl => match us, hl with | [_], _ => rfl⟩
  · obtain ⟨a, cs, rfl, _⟩ := h
    rfl
  · obtain ⟨a, cs, rfl, hcs, ha, q⟩ := h
    have hu := hu_of hr
    have hr1 : Room 1 _ := hr.mono (by decide)
    refine ⟨_, (pss_cons (ps_set (i := 1) sc__law_book.nd rfl (Or.inl rfl) (pe_make0 T.mk_Book G_Book___init__ hr (by rfl) T.g_Book b_Book___init__ hds passL))
      (pss_cons (ps_for PassesOwn.never rfl (pi_list (pe_call0 G__law_entries (hr.mono (by decide)) (by rfl) T.g__law_entries T.k__law_entries b__law_entries .nil pass0)) (pg_name (i := 2) sc__law_book.nd rfl (Or.inl rfl))
        (pss_one (ps_asg (pe_dget hu (pv 0) (pv 2) (fun _ _ => rfl)) (pg_ownSet T.sm_Book G_set hr1 b_set (fun _ => passAt0) (pv 1) (pv 2)))))
      (pss_one (ps_ret (pv 1))))), ?_⟩
    walk_at "rd"
    intro p dx hp hdx hne
    refine ⟨p, dx, defaultB, rfl, rfl, upd_same, fun _ d H1 hd c1 B1 => ⟨rfl, ?_⟩, fun z => (z okB_default).elim⟩
    have c0 : Chg [] H (upd (upd H dx (.own p)) p (.ins (He.ga K "Book") dx [])) := (Chg.new hdx).trans (Chg.new (by rw [upd_ne hne.symm]; exact hp))
    have n_d : H d = none := c0.fresh hd
    have c1 : Chg [] H H1 := c0.then c1 hp
    walk_at "rd"
    refine ⟨rfl, fun l h2 => ?_⟩
    generalize eH : upd H1 l _ = H2
    obtain ⟨e2, k2, c2, n2⟩ := laid eH c1 h2
    have B2 := B1.chg k2 nm0 nm0
    refine ⟨_, rfl, ⟨_, sqL e2⟩, ?_⟩
    have hld : l ≠ d := ne_of e2 B2.dc (by intro z; cases z)
    refine for_list (K := K) (a := l) (xs := entriesL.map V.str) (fun i σ H' => ∃ (v2 : Option V) (bs : List Str), σ = [some (.ref a), some (.ref p), v2] ∧ Chg [d] H2 H' ∧ BookAt K H' p d bs ∧ OkB bs ∧ (∀ j, j < i → bs[j]? = cs[j]?)) ⟨none, defaultB, rfl, Chg.refl, B2, okB_default, fun j h => absurd h (by omega)⟩
      (fun i σ H' _ ⟨_, _, _, c3, _⟩ => sqL (c3.at1 e2 hld)) ?_ ?_
    · rintro i y σ H3 hy ⟨v2, bs, rfl, c3, B3, hb, h1⟩
      obtain ⟨hi, rfl⟩ : i < 10 ∧ y = .str (ent i) := by
        have hi : i < (entriesL.map V.str).length := (List.getElem?_eq_some_iff.mp hy).1
        have hi10 : i < 10 := by rw [List.length_map] at hi; exact hi
        rw [strs_at (ent_at hi10)] at hy
        exact ⟨hi10, (Option.some.inj hy).symm⟩
      obtain ⟨c, hc, hcc⟩ := hcs.at hi
      have had : a ≠ d := ne_of_none ha n_d
      have ea := c3.at1 (c2.at ha) had
      obtain ⟨⟨dx3, ep3⟩, _⟩ := id B3
      walk_at "rd"
      refine ⟨_, _, rfl, DGet.k (k := Sum.inr (ent i)) ea |> (fun z => by rw [dcs_get hcs.len hi hc] at z; exact z), ?_⟩
      walk_at "rd"
      refine ⟨p, dx3, _, rfl, ep3, ?_⟩
      refine ⟨p, d, bs, _, _, rfl, B3, hb.len, fun j hj he hcj H4 k4 B4 => ?_, fun hbad => (hbad ⟨i, hi, rfl, hcc⟩).elim⟩
      have := ent_inj hi hj he
      subst this
      refine ⟨_, bs.set i c, rfl, c3.trans k4, B4, hb.set hcj, fun j hj => ?_⟩
      by_cases z : j = i
      · subst z
        rw [List.getElem?_set_self (by rw [hb.len]; exact hi), hc]
      · rw [List.getElem?_set_ne (Ne.symm z)]
        exact h1 j (by omega)
    · rintro σ H3 ⟨v2, bs, rfl, c3, B3, hb, h1⟩
      have hbs : bs = cs := List.ext_getElem? fun j => by
        by_cases z : j < 10
        · exact h1 j (by rw [List.length_map]; exact z)
        · rw [List.getElem?_eq_none (by rw [hb.len]; omega), List.getElem?_eq_none (by rw [hcs.len]; omega)]
      subst hbs
      walk_at "rd"
      exact q p d H3 hp n_d (c2.then c3 n_d) B3
end
end Sm
set_option maxHeartbeats 4000000
namespace Sm
open PySem PySem.Spec PyProof.Rows L2
local macro_rules | `(tactic| walk_at "rd1") => `(tactic| first
  | (with_reducible refine r_seq ?_) | (with_reducible refine r_asg ?_) | (with_reducible refine r_gname ?_)
  | ((with_reducible refine' r_var ?e ?_); (case e => rfl)) | (with_reducible refine r_c ?_)
  | (with_reducible refine r_ret ?_) | (with_reducible refine r_retN ?_) | (with_reducible refine r_drop ?_) | (with_reducible refine r_next ?_) | (with_reducible refine r_ifs ?_)
  | (with_reducible refine r_op ?_) | (with_reducible refine r_rI0 ?_)
  | (with_reducible refine r_test ?_) | (with_reducible refine r_tb ?_) | (with_reducible refine Exists.intro _ (And.intro (Eq.refl (V.bl _)) ?_))
  | (with_reducible refine r_nil ?_) | (with_reducible refine r_cons ?_) | (with_reducible refine r_cb ?_) | (with_reducible refine r_call ?_)
  | (with_reducible refine r_callS ?_) | (with_reducible refine r_meth ?_) | (with_reducible refine r_ownIx ?_) | (with_reducible refine r_ownSet ?_)
  | (with_reducible refine r_not ?_) | (with_reducible refine r_and ?_) | (with_reducible refine r_or ?_)
  | (with_reducible refine r_lst ?_) | (with_reducible refine r_tup ?_) | (with_reducible refine Or.inl (Exists.intro _ (And.intro (Eq.refl [V.int _]) ?_)))
  | ((with_reducible refine r_rI ?c ?_); (case c => first | (show (0 : Int) < _; decide) | exact ⟨by decide, by decide⟩))
  | (with_reducible refine r_for ?_) | (with_reducible refine r_rng1 ?_) | (with_reducible refine r_rng2 ?_) | (with_reducible refine r_ilist ?_) | (with_reducible refine r_itup ?_)
  | (with_reducible refine r_m0 ?_) | (with_reducible refine r_m1 ?_) | (with_reducible refine r_isStr ?_) | (with_reducible refine r_newS ?_) | (with_reducible refine r_fld ?_)
  | (with_reducible refine r_bm ?_) | (with_reducible refine r_bm0 ?_) | (with_reducible refine r_sl ?_) | (with_reducible refine r_nopart ?_) | (with_reducible refine r_part ?_)
  | (with_reducible refine r_pcons ?_) | (with_reducible refine r_pnil ?_) | (with_reducible refine r_dget2 ?_) | (with_reducible refine r_dget1 ?_)
  | (with_reducible refine r_lc ?_) | (with_reducible refine r_yes ?_)
  | (with_reducible refine r_un ?_) | (with_reducible refine r_rU ?_)
  | (with_reducible refine r_disp ?_) | (with_reducible refine r_andV ?_) | (with_reducible refine r_orV ?_) | (with_reducible refine r_notV ?_) | (with_reducible refine r_dnewK ?_)
  | (with_reducible refine r_dget ?_) | (with_reducible refine r_dput ?_)
  | ((with_reducible refine r_rEq ?e ?_); (case e => rfl)) | ((with_reducible refine r_rNe ?e ?_); (case e => rfl)))
local macro_rules | `(tactic| walk_at "rd") => `(tactic| repeat (walk_at "rd1"))
section
variable {P : Program} {w : World} {K : PySem.W.Frag} {mg : Str → Option Value} {base : Heap}
/-- the words that are tried -/
def wordsOf (t : Str) : List Str := (["drop", "left", "short", "join", "raise", "partly", "skip", "stop", "leave", "ignore", "pass", "show"] : List Str) ++ (["blank", "forget", "stick", "", Txt.upper t, t ++ "s", cutS t none (some (-1)), Txt.upper (cutS t none (some 1)) ++ cutS t (some 1) none] : List Str)
theorem words_fine : ∀ i, i < 10 → (chs i).all (fun t => (wordsOf t).all fine && decide (t.length ≤ 6)) = true := ten (by decide +kernel) (by decide +kernel) (by decide +kernel) (by decide +kernel) (by decide +kernel) (by decide +kernel) (by decide +kernel) (by decide +kernel) (by decide +kernel) (by decide +kernel)
theorem no_empty : ∀ i, i < 10 → ¬ ("" : Str) ∈ chs i := ten (by decide +kernel) (by decide +kernel) (by decide +kernel) (by decide +kernel) (by decide +kernel) (by decide +kernel) (by decide +kernel) (by decide +kernel) (by decide +kernel) (by decide +kernel)
def wrongs (i : Nat) (t : Str) : List Str := (wordsOf t).filter fun x => decide (¬ x ∈ chs i)
def sp_wrong : Sp := fun vs H Q _ => ∃ (i : Nat) (t : Str) (g : Int), i < 10 ∧ t ∈ chs i ∧ vs = [.str (ent i), .str t, .int g] ∧ ∀ x H', ¬ x ∈ chs i → fine x = true → Chg [] H H' → Q (.str x) H'
theorem ok_wrong (T : Tx w K mg) : ∃ fd, FnOk P w K mg base CX0 2 (He.fAd K ("_law_wrong", none)) fd ["name", "told", "digit"] sp_wrong ∧ Binds K fd ["name", "told", "digit"] [] := by
  obtain ⟨fd, F⟩ := T.F__law_wrong
  obtain ⟨fdC, G__law_choices, b__law_choices⟩ := ok_choices (P := P) (w := w) (base := base) T
  refine ⟨fd, F.ok sc__law_wrong (fun vs H Q E h => ?_) (fun cdv A outer s H vs Q E hr h => ?_), F.binds fun _ _ _ _ _ _ us hl => match us, hl with | [_, _, _], _ => rfl⟩
  · obtain ⟨i, t, g, _, _, rfl, _⟩ := h
    rfl
  · obtain ⟨i, t, g, hi, ht, rfl, q⟩ := h
    have hf := List.all_eq_true.mp (words_fine i hi) t ht
    rw [Bool.and_eq_true, decide_eq_true_eq] at hf
    obtain ⟨hf, htl⟩ := hf
    have hsz : t.length ≤ sizeLine := Nat.le_trans (show _ ≤ 100 by omega) (by decide)
    have cut_len : ∀ lo hi, (cutS t lo hi).length ≤ 6 := fun lo hi => by
      show (Array.size (List.toArray _)) ≤ 6
      rw [List.size_toArray, List.length_take, List.length_drop, Array.length_toList]
      have : t.length = t.cps.size := rfl
      omega
    refine ⟨_, (pss_cons (ps_set (i := 3) sc__law_wrong.nd rfl (Or.inl rfl) (pe_lst (pa_cons pe_str (pa_cons pe_str (pa_cons pe_str (pa_cons pe_str (pa_cons pe_str (pa_cons pe_str (pa_cons pe_str (pa_cons pe_str (pa_cons pe_str (pa_cons pe_str (pa_cons pe_str (pa_cons pe_str pa_nil))))))))))))))
      (pss_cons (ps_set (i := 3) sc__law_wrong.nd rfl (Or.inl rfl) (pe_op op_cat (pv 3) (pe_lst (pa_cons pe_str (pa_cons pe_str (pa_cons pe_str (pa_cons pe_str (pa_cons (pe_upper (pv 1)) (pa_cons (pe_op op_add_str (pv 1) pe_str) (pa_cons (pe_slice sl_str (pv 1) po_none (po_some (pe_un un_neg pe_int))) (pa_cons (pe_op op_add_str (pe_upper (pe_slice sl_str (pv 1) po_none (po_some pe_int))) (pe_slice sl_str (pv 1) (po_some pe_int) po_none)) pa_nil)))))))))))
      (pss_cons (ps_setLc (i := 4) (own := [("word", 5)]) (g := gName 5) rfl sc__law_wrong.nd rfl rfl (sw_true rfl rfl rfl (by decide +kernel)) (pi_list (pv 3)) (blkOk_by (own := [("word", 5)]) (N := ["name", "told", "digit", "words", "wrong", "word"]) (sc := defScope s__law_wrong) (by decide +kernel)) (fun _ _ _ _ _ => pg_name (i := 5) sc__law_wrong.nd rfl (Or.inl rfl)) (fun _ _ _ _ _ => (pts_one (pt_cmpR (op_notIn_seqK (K := K) rfl) (pv 5) (pe_call G__law_choices (hr.mono (by decide)) (by rfl) T.g__law_choices T.k__law_choices b__law_choices .nil pass0 (pa_cons (pv 0) pa_nil)) rfl))) (fun _ _ _ _ _ => (pv 5)))
      (pss_one (ps_ret (pe_ix ix_list (pv 4) (pe_op op_mod (pe_callTy call_int1 (by rfl) T.n_int (by decide +kernel) (pa_cons (pv 2) pa_nil)) (pe_callB call_len_seq (by rfl) T.n_len PySem.boot_len (pa_cons (pv 4) pa_nil))) (fun _ _ => rfl))))))), ?_⟩
    walk_at "rd"
    refine ⟨by show 12 ≤ sizeLine; decide, fun l1 h1 => ?_⟩
    generalize eH : upd H l1 _ = H1
    obtain ⟨e1, _, c1, n1⟩ := laid (S := []) eH Chg.refl h1
    walk_at "rd"
    refine ⟨_, rfl, rfl, Nat.le_trans (show _ ≤ 100 by omega) (by decide), ?_⟩
    walk_at "rd"
    refine ⟨_, _, rfl, rfl, Nat.le_trans (show _ ≤ 100 from by show t.length + 1 ≤ 100; omega) (by decide), ?_⟩
    walk_at "rd"
    refine ⟨_, rfl, ?_⟩
    refine ⟨_, rfl, hsz, ?_⟩
    walk_at "rd"
    refine ⟨_, rfl, ?_⟩
    refine ⟨_, rfl, hsz, ?_⟩
    walk_at "rd"
    refine ⟨_, rfl, rfl, Nat.le_trans (cut_len _ _) (by decide), ?_⟩
    walk_at "rd"
    refine ⟨_, rfl, ?_⟩
    walk_at "rd"
    refine ⟨_, rfl, hsz, ?_⟩
    have h8 := (fine_of (List.all_eq_true.mp hf (Txt.upper (cutS t none (some 1)) ++ cutS t (some 1) none) (List.mem_append_right _ (by simp)))).2
    refine ⟨_, _, rfl, rfl, Nat.le_trans (by rw [← strapp_len]; exact h8) (by decide), ?_⟩
    walk_at "rd"
    refine ⟨by show 8 ≤ sizeLine; decide, fun l2 h2 => ?_⟩
    generalize eH : upd H1 l2 _ = H2
    obtain ⟨e2, k2, c2, n2⟩ := laid eH c1 h2
    refine ⟨l1, l2, _, _, rfl, rfl, k2.at e1, e2, by show 20 ≤ sizeLine; decide, fun l3 h3 => ?_⟩
    generalize eH : upd H2 l3 _ = H3
    obtain ⟨e3, k3, c3, n3⟩ := laid eH c2 h3
    replace e3 : H3 l3 = some (.lst ((wordsOf t).map V.str)) := e3
    walk_at "rd"
    refine ⟨_, rfl, ⟨_, sqL e3⟩, fun D hD => ?_⟩
    have hDl : l3 ≠ D := ne_of_none e3 hD
    refine lc_list (K := K) (a := l3) (xs := (wordsOf t).map V.str) (fun j H' => Chg [D] H3 H' ∧ H' D = some (.lst ((((wordsOf t).take j).filter fun x => decide (¬ x ∈ chs i)).map V.str))) ⟨(Chg.new hD), upd_same⟩ (fun j H' _ c => sqL (c.1.at1 e3 hDl)) ?_ ?_
    · rintro j x H4 hx ⟨c4, e4⟩
      obtain ⟨y, hy, rfl⟩ : ∃ y, (wordsOf t)[j]? = some y ∧ x = .str y := by
        rw [List.getElem?_map] at hx
        cases e : (wordsOf t)[j]? with
        | none => rw [e] at hx; cases hx
        | some y => rw [e] at hx; exact ⟨y, rfl, (Option.some.inj hx).symm⟩
      have hj : j < 20 := (List.getElem?_eq_some_iff.mp hy).1
      have htk : (wordsOf t).take (j + 1) = (wordsOf t).take j ++ [y] := by rw [List.take_add_one, hy]; rfl
      walk_at "rd"
      refine ⟨rfl, ?_⟩
      walk_at "rd"
      refine ⟨i, hi, rfl, fun p H5 hp k5 e5 => ?_⟩
      refine ⟨p, _, rfl, .inl (sqL e5), rfl, flat_strs _, ?_⟩
      rw [inV_strs]
      walk_at "rd"
      have c5 := c4.trans (Chg.up k5)
      have e45 := k5.at e4
      refine r_iteB (fun z => ?_) (fun z => ?_)
      · have hn : ¬ y ∈ chs i := by simpa using z
        walk_at "rd"
        refine ⟨_, e45, ?_, ?_, ?_⟩
        · rw [List.length_map]
          exact Nat.le_trans (Nat.succ_le_succ (Nat.le_trans (List.length_filter_le _ _) (List.length_take_le _ _))) (Nat.le_trans (show _ ≤ 100 by omega) (by decide))
        · exact c5.trans (Chg.set e45 (List.mem_singleton.mpr rfl))
        · rw [htk, List.filter_append, List.map_append, List.filter_cons, if_pos (by simpa using hn)]
          exact upd_same
      · have hn : y ∈ chs i := by simpa using z
        refine ⟨c5, ?_⟩
        rw [htk, List.filter_append, List.filter_cons, if_neg (by simpa using hn)]
        simpa using e45
    · rintro H4 ⟨c4, e4⟩
      rw [List.length_map, List.take_length] at e4
      walk_at "rd"
      have hmem : ("" : Str) ∈ wrongs i t := List.mem_filter.mpr ⟨List.mem_append_right _ (by simp), by simpa using no_empty i hi⟩
      have hlen : 0 < (wrongs i t).length := List.length_pos_of_mem hmem
      refine ⟨D, _, rfl, .inl (sqL e4), ?_⟩
      rw [List.length_map]
      refine ⟨g, _, rfl, rfl, by show (0 : Int) < ((wrongs i t).length : Nat); omega, ?_⟩
      obtain ⟨n, y, en, ln, hy⟩ := mod_at (ys := wrongs i t) g rfl (by omega)
      refine r_ixL (sqL e4) (by rw [show ((wordsOf t).filter fun x => decide (¬ x ∈ chs i)) = wrongs i t from rfl, en]; exact atI_ofNat (strs_at hy)) ?_
      obtain ⟨hm1, hm2⟩ := List.mem_filter.mp (List.mem_of_getElem? hy)
      exact q y H4 (by simpa using hm2) (List.all_eq_true.mp hf y hm1) (c3.trans (c4.drop hD)) 
end
end Sm
set_option maxHeartbeats 4000000
namespace Sm
open PySem PySem.Spec PyProof.Rows L2
local macro_rules | `(tactic| walk_at "rd1") => `(tactic| first
  | (with_reducible refine r_seq ?_) | (with_reducible refine r_asg ?_) | (with_reducible refine r_gname ?_)
  | ((with_reducible refine' r_var ?e ?_); (case e => rfl)) | (with_reducible refine r_c ?_)
  | (with_reducible refine r_ret ?_) | (with_reducible refine r_retN ?_) | (with_reducible refine r_drop ?_) | (with_reducible refine r_next ?_) | (with_reducible refine r_ifs ?_)
  | (with_reducible refine r_op ?_) | (with_reducible refine r_rI0 ?_)
  | (with_reducible refine r_test ?_) | (with_reducible refine r_tb ?_) | (with_reducible refine Exists.intro _ (And.intro (Eq.refl (V.bl _)) ?_))
  | (with_reducible refine r_nil ?_) | (with_reducible refine r_cons ?_) | (with_reducible refine r_cb ?_) | (with_reducible refine r_call ?_)
  | (with_reducible refine r_callS ?_) | (with_reducible refine r_meth ?_) | (with_reducible refine r_ownIx ?_) | (with_reducible refine r_ownSet ?_)
  | (with_reducible refine r_not ?_) | (with_reducible refine r_and ?_) | (with_reducible refine r_or ?_)
  | (with_reducible refine r_lst ?_) | (with_reducible refine r_tup ?_) | (with_reducible refine Or.inl (Exists.intro _ (And.intro (Eq.refl [V.int _]) ?_)))
  | ((with_reducible refine r_rI ?c ?_); (case c => first | (show (0 : Int) < _; decide) | exact ⟨by decide, by decide⟩))
  | (with_reducible refine r_for ?_) | (with_reducible refine r_rng1 ?_) | (with_reducible refine r_rng2 ?_) | (with_reducible refine r_ilist ?_) | (with_reducible refine r_itup ?_)
  | (with_reducible refine r_m0 ?_) | (with_reducible refine r_m1 ?_) | (with_reducible refine r_isStr ?_) | (with_reducible refine r_newS ?_) | (with_reducible refine r_fld ?_)
  | (with_reducible refine r_bm ?_) | (with_reducible refine r_bm0 ?_) | (with_reducible refine r_sl ?_) | (with_reducible refine r_nopart ?_) | (with_reducible refine r_part ?_)
  | (with_reducible refine r_pcons ?_) | (with_reducible refine r_pnil ?_) | (with_reducible refine r_dget2 ?_) | (with_reducible refine r_dget1 ?_)
  | (with_reducible refine r_lc ?_) | (with_reducible refine r_yes ?_)
  | (with_reducible refine r_un ?_) | (with_reducible refine r_rU ?_)
  | (with_reducible refine r_disp ?_) | (with_reducible refine r_andV ?_) | (with_reducible refine r_orV ?_) | (with_reducible refine r_notV ?_) | (with_reducible refine r_dnewK ?_)
  | (with_reducible refine r_dget ?_) | (with_reducible refine r_dput ?_)
  | ((with_reducible refine r_rEq ?e ?_); (case e => rfl)) | ((with_reducible refine r_rNe ?e ?_); (case e => rfl)))
local macro_rules | `(tactic| walk_at "rd") => `(tactic| repeat (walk_at "rd1"))
section
variable {P : Program} {w : World} {K : PySem.W.Frag} {mg : Str → Option Value} {base : Heap}
def sp_refused (K : PySem.W.Frag) : Sp := fun vs H Q _ => ∃ (way : Nat) (b d pk : Addr) (i : Nat) (x : Str) (bs cs : List Str), vs = [.int (way : Int), .ref b, .str (ent i), .str x, .ref pk] ∧ way < 3 ∧ i < 10 ∧ ¬ x ∈ chs i ∧ fine x = true ∧ BookAt K H b d bs ∧ OkB bs ∧ OkB cs ∧ H pk = some (.dK (dcs cs)) ∧
  ∀ H', Chg [] H H' → Q (.bl true) H'
theorem ok_refused (T : Tx w K mg) : ∃ fd, FnOk P w K mg base CX0 4 (He.fAd K ("_law_refused", none)) fd ["way", "book", "name", "word", "picks"] (sp_refused K) ∧ Binds K fd ["way", "book", "name", "word", "picks"] [] := by
  obtain ⟨fd, F⟩ := T.F__law_refused
  obtain ⟨fdF, G__law_form, b__law_form⟩ := ok_form (P := P) (w := w) (base := base) T
  obtain ⟨fdR, G_read_book, b_read_book⟩ := ok_read (P := P) (w := w) (base := base) T
  obtain ⟨fdM, G__law_made, b__law_made⟩ := ok_made (P := P) (w := w) (base := base) T
  obtain ⟨fdS, G_set, b_set⟩ := ok_Book_set (P := P) (w := w) (base := base) T
  refine ⟨fd, F.ok sc__law_refused (fun vs H Q E h => ?_) (fun cdv A outer s H vs Q E hr h => ?_), F.binds fun _ _ _ _ _ _ us hl => match us, hl with | [_, _, _, _, _], _ => rfl⟩
  · obtain ⟨way, b, d, pk, i, x, bs, cs, rfl, _⟩ := h
    rfl
  · obtain ⟨way, b, d, pk, i, x, bs, cs, rfl, hw, hi, hx, hfx, B, hb, hcs, epk, q⟩ := h
    have hu := hu_of hr
    have hr1 : Room 1 _ := hr.mono (by decide)
    refine ⟨_, (pss_cons (ps_try_as (i := 6) rfl rfl sc__law_refused.nd rfl rfl ⟨rfl, by decide, .inl T.g_InvalidBook⟩ takes0 (fun W pn xe tk _ => (pss_one (ps_if (pt_cmpR op_eq (pv 0) pe_int (nomark _))
        (pss_cons (ps_set (i := 5) sc__law_refused.nd rfl (Or.inl rfl) (pe_callTy call_dictD (by rfl) T.n_dict (by decide +kernel) (pa_cons (pv 4) pa_nil)))
      (pss_cons (ps_dput hu (pv 5) (pv 2) (pv 3) rfl)
      (pss_one (ps_expr (pe_callS G_read_book (hr.mono (by decide)) (by rfl) T.g_read_book T.k_read_book b_read_book (fun σ => passAt tk σ) (pa_cons (pe_call G__law_form (hr.mono (by decide)) (by rfl) T.g__law_form T.k__law_form b__law_form .nil pass0 (pa_cons (pv 5) pa_nil)) pa_nil))))))
        (pss_one (ps_if (pt_cmpR op_eq (pv 0) pe_int (nomark _))
        (pss_one (ps_expr (pe_callS G__law_made (hr.mono (by decide)) (by rfl) T.g__law_made T.k__law_made b__law_made (fun σ => passAt tk σ) (pa_cons (pv 2) (pa_cons (pv 3) pa_nil)))))
        (pss_one (ps_asg (pv 3) (pg_ownSet T.sm_Book G_set hr1 b_set (fun σ => passAt tk σ) (pv 1) (pv 2)))))))))
      (fun a oe cls d pn hz hf => (pss_one (ps_ret (pe_and (pe_callB (call_isS T.ex_InvalidBook hz hf) (by rfl) T.n_isinstance (by decide +kernel) (pa_cons (pv 6) (pa_cons (pe_glob (v := .ref (He.ga K "MarkError")) rfl T.g_MarkError rfl) pa_nil))) (pe_and (pe_callB (call_isS T.ex_InvalidBook hz hf) (by rfl) T.n_isinstance (by decide +kernel) (pa_cons (pv 6) (pa_cons (pe_bltn (v := .ty "ValueError") rfl T.n_ValueError (by decide +kernel) rfl) pa_nil))) (pe_one (pe_not (pe_callB (call_isS T.ex_InvalidBook hz hf) (by rfl) T.n_isinstance (by decide +kernel) (pa_cons (pv 6) (pa_cons (pe_glob (v := .ref (He.ga K "InvalidInput")) rfl T.g_InvalidInput rfl) pa_nil)))))))))))
      (pss_one (ps_ret pe_bl))), ?_⟩
    walk_at "rd"
    refine r_ite (fun z => ?_) (fun z0 => ?_)
    · walk_at "rd"
      refine ⟨pk, _, rfl, .inl epk, fun p hp => ?_⟩
      generalize eH : upd H p _ = H1
      obtain ⟨e1, k1, c1, n1⟩ := laid (S := []) eH Chg.refl hp
      walk_at "rd"
      refine ⟨_, _, rfl, DPut.k (k := Sum.inr (ent i)) e1 (small1000 (by rw [dcs_len hcs.len]; decide)), ?_⟩
      rw [dcs_put hcs.len hi]
      generalize eH : upd H1 p _ = H2
      obtain ⟨e2, k2⟩ := put eH e1
      have c2 := c1.then k2 n1
      have hl : (cs.set i x).length = 10 := by rw [List.length_set]; exact hcs.len
      have hf : Fine (cs.set i x) := fun y hy => by
        rcases List.mem_or_eq_of_mem_set hy with m | e
        · exact hcs.fine y m
        · rw [e]; exact hfx
      walk_at "rd"
      refine ⟨p, cs.set i x, rfl, hl, hf.small, e2, fun H3 k3 => ?_⟩
      refine ⟨cs.set i x, rfl, hl, hf, fun o => absurd (o.ch i x (List.getElem?_set_self (by rw [hcs.len]; exact hi))) hx, fun _ H4 k4 => ?_⟩
      refine ⟨true, T.x_InvalidBook_InvalidBook, fun _ a0 _ => ?_, fun q => Bool.noConfusion q⟩
      walk_at "rd"
      refine ⟨rfl, rfl, _, _, true, rfl, fun u r => r, T.kt_InvalidBook_MarkError, ?_⟩
      walk_at "rd"
      refine iteT ?_
      walk_at "rd"
      refine ⟨rfl, rfl, _, _, true, rfl, fun u r => r, T.kt_InvalidBook_ValueError, ?_⟩
      walk_at "rd"
      refine iteT ?_
      walk_at "rd"
      refine ⟨rfl, rfl, _, _, false, rfl, fun u r => r, T.kt_InvalidBook_InvalidInput, ?_⟩
      walk_at "rd"
      exact q _ ((c2.trans k3).trans k4)
    · walk_at "rd"
      refine r_ite (fun z => ?_) (fun z1 => ?_)
      · walk_at "rd"
        refine ⟨i, x, hi, rfl, fun o => absurd o hx, fun _ H4 k4 => ?_⟩
        refine ⟨true, T.x_InvalidBook_InvalidBook, fun _ a0 _ => ?_, fun q => Bool.noConfusion q⟩
        walk_at "rd"
        refine ⟨rfl, rfl, _, _, true, rfl, fun u r => r, T.kt_InvalidBook_MarkError, ?_⟩
        walk_at "rd"
        refine iteT ?_
        walk_at "rd"
        refine ⟨rfl, rfl, _, _, true, rfl, fun u r => r, T.kt_InvalidBook_ValueError, ?_⟩
        walk_at "rd"
        refine iteT ?_
        walk_at "rd"
        refine ⟨rfl, rfl, _, _, false, rfl, fun u r => r, T.kt_InvalidBook_InvalidInput, ?_⟩
        walk_at "rd"
        exact q _ k4
      · walk_at "rd"
        obtain ⟨⟨dx, ep⟩, _⟩ := id B
        refine ⟨b, dx, _, rfl, ep, ?_⟩
        refine ⟨b, d, bs, _, _, rfl, B, hb.len, fun j hj he hc => absurd (by rw [ent_inj hi hj he]; exact hc) hx, fun _ H4 k4 => ?_⟩
        refine ⟨true, T.x_InvalidBook_InvalidBook, fun _ a0 _ => ?_, fun q => Bool.noConfusion q⟩
        walk_at "rd"
        refine ⟨rfl, rfl, _, _, true, rfl, fun u r => r, T.kt_InvalidBook_MarkError, ?_⟩
        walk_at "rd"
        refine iteT ?_
        walk_at "rd"
        refine ⟨rfl, rfl, _, _, true, rfl, fun u r => r, T.kt_InvalidBook_ValueError, ?_⟩
        walk_at "rd"
        refine iteT ?_
        walk_at "rd"
        refine ⟨rfl, rfl, _, _, false, rfl, fun u r => r, T.kt_InvalidBook_InvalidInput, ?_⟩
        walk_at "rd"
        exact q _ k4
end
end Sm
set_option maxHeartbeats 4000000
namespace Sm
open PySem PySem.Spec PyProof.Rows L2
local macro_rules | `(tactic| walk_at "rd1") => `(tactic| first
  | (with_reducible refine r_seq ?_) | (with_reducible refine r_asg ?_) | (with_reducible refine r_gname ?_)
  | ((with_reducible refine' r_var ?e ?_); (case e => rfl)) | (with_reducible refine r_c ?_)
  | (with_reducible refine r_ret ?_) | (with_reducible refine r_retN ?_) | (with_reducible refine r_drop ?_) | (with_reducible refine r_next ?_) | (with_reducible refine r_ifs ?_)
  | (with_reducible refine r_op ?_) | (with_reducible refine r_rI0 ?_)
  | (with_reducible refine r_test ?_) | (with_reducible refine r_tb ?_) | (with_reducible refine Exists.intro _ (And.intro (Eq.refl (V.bl _)) ?_))
  | (with_reducible refine r_nil ?_) | (with_reducible refine r_cons ?_) | (with_reducible refine r_cb ?_) | (with_reducible refine r_call ?_)
  | (with_reducible refine r_callS ?_) | (with_reducible refine r_meth ?_) | (with_reducible refine r_ownIx ?_) | (with_reducible refine r_ownSet ?_)
  | (with_reducible refine r_not ?_) | (with_reducible refine r_and ?_) | (with_reducible refine r_or ?_)
  | (with_reducible refine r_lst ?_) | (with_reducible refine r_tup ?_) | (with_reducible refine Or.inl (Exists.intro _ (And.intro (Eq.refl [V.int _]) ?_)))
  | ((with_reducible refine r_rI ?c ?_); (case c => first | (show (0 : Int) < _; decide) | exact ⟨by decide, by decide⟩))
  | (with_reducible refine r_for ?_) | (with_reducible refine r_rng1 ?_) | (with_reducible refine r_rng2 ?_) | (with_reducible refine r_ilist ?_) | (with_reducible refine r_itup ?_)
  | (with_reducible refine r_m0 ?_) | (with_reducible refine r_m1 ?_) | (with_reducible refine r_isStr ?_) | (with_reducible refine r_newS ?_) | (with_reducible refine r_fld ?_)
  | (with_reducible refine r_bm ?_) | (with_reducible refine r_bm0 ?_) | (with_reducible refine r_sl ?_) | (with_reducible refine r_nopart ?_) | (with_reducible refine r_part ?_)
  | (with_reducible refine r_pcons ?_) | (with_reducible refine r_pnil ?_) | (with_reducible refine r_dget2 ?_) | (with_reducible refine r_dget1 ?_)
  | (with_reducible refine r_lc ?_) | (with_reducible refine r_yes ?_)
  | (with_reducible refine r_un ?_) | (with_reducible refine r_rU ?_)
  | (with_reducible refine r_disp ?_) | (with_reducible refine r_andV ?_) | (with_reducible refine r_orV ?_) | (with_reducible refine r_notV ?_) | (with_reducible refine r_dnewK ?_)
  | (with_reducible refine r_dget ?_) | (with_reducible refine r_dput ?_)
  | ((with_reducible refine r_rEq ?e ?_); (case e => rfl)) | ((with_reducible refine r_rNe ?e ?_); (case e => rfl)))
local macro_rules | `(tactic| walk_at "rd") => `(tactic| repeat (walk_at "rd1"))
section
variable {P : Program} {w : World} {K : PySem.W.Frag} {mg : Str → Option Value} {base : Heap}
def sp_law (K : PySem.W.Frag) : Sp := fun vs H Q _ => ∃ (a : Addr) (ns : List Int), vs = [.ref a] ∧ SqL K H a (ns.map V.int) ∧ ∀ H', Q (.bl true) H'
theorem cell_pos {k : Int} (h : 0 ≤ k) {i : Nat} : 0 ≤ k + i := by omega
theorem ok_law (T : Tx w K mg) {fd : FuncData} (F : Fun K "law" "law" s_law (He.fAd K ("law", none)) fd) : FnOk P w K mg base CX0 5 (He.fAd K ("law", none)) fd ["script"] (sp_law K) := by
  obtain ⟨fd1, G__law_cell, b__law_cell⟩ := ok_cell (P := P) (w := w) (base := base) T
  obtain ⟨fd2, G__law_entries, b__law_entries⟩ := ok_entries (P := P) (w := w) (base := base) T
  obtain ⟨fd3, G__law_choices, b__law_choices⟩ := ok_choices (P := P) (w := w) (base := base) T
  obtain ⟨fd4, G__law_picks, b__law_picks⟩ := ok_picks (P := P) (w := w) (base := base) T
  obtain ⟨fd5, G__law_digits, b__law_digits⟩ := ok_digits (P := P) (w := w) (base := base) T
  obtain ⟨fd6, G__law_form, b__law_form⟩ := ok_form (P := P) (w := w) (base := base) T
  obtain ⟨fd7, G__law_book, b__law_book⟩ := ok_lawbook (P := P) (w := w) (base := base) T
  obtain ⟨fd8, G__law_wrong, b__law_wrong⟩ := ok_wrong (P := P) (w := w) (base := base) T
  obtain ⟨fd9, G__law_made, b__law_made⟩ := ok_made (P := P) (w := w) (base := base) T
  obtain ⟨fd10, G__law_refused, b__law_refused⟩ := ok_refused (P := P) (w := w) (base := base) T
  obtain ⟨fd11, G_read_book, b_read_book⟩ := ok_read (P := P) (w := w) (base := base) T
  obtain ⟨fd12, G_Book_get, b_Book_get⟩ := ok_Book_get (P := P) (w := w) (base := base) T
  obtain ⟨fd13, G_set, b_set⟩ := ok_Book_set (P := P) (w := w) (base := base) T
  obtain ⟨fd14, G_Book_text, b_Book_text⟩ := ok_Book_text (P := P) (w := w) (base := base) T
  obtain ⟨fd15, G_eq, b_eq⟩ := ok_Book_eq (P := P) (w := w) (base := base) T
  refine F.ok sc_law (fun vs H Q E h => ?_) (fun cdv A outer s H vs Q E hr h => ?_)
  · obtain ⟨a, ns, rfl, _⟩ := h
    rfl
  · obtain ⟨a, ns, rfl, hs, q⟩ := h
    have hu := hu_of hr
    have hr1 : Room 1 _ := hr.mono (by decide)
    refine ⟨_, (pss_cons (ps_set (i := 1) sc_law.nd rfl (Or.inl rfl) (pe_call G__law_picks (hr.mono (by decide)) (by rfl) T.g__law_picks T.k__law_picks b__law_picks .nil pass0 (pa_cons (pe_call G__law_cell (hr.mono (by decide)) (by rfl) T.g__law_cell T.k__law_cell b__law_cell .nil pass0 (pa_cons (pv 0) (pa_cons pe_int pa_nil))) pa_nil)))
      (pss_cons (ps_set (i := 2) sc_law.nd rfl (Or.inl rfl) (pe_call G__law_book (hr.mono (by decide)) (by rfl) T.g__law_book T.k__law_book b__law_book .nil pass0 (pa_cons (pv 1) pa_nil)))
      (pss_cons (ps_for PassesOwn.never rfl (pi_range1 rfl T.n_range (pa_cons (pe_op op_mod (pe_callTy call_int1 (by rfl) T.n_int (by decide +kernel) (pa_cons (pe_call G__law_cell (hr.mono (by decide)) (by rfl) T.g__law_cell T.k__law_cell b__law_cell .nil pass0 (pa_cons (pv 0) (pa_cons pe_int pa_nil))) pa_nil)) pe_int) pa_nil)) (pg_name (i := 3) sc_law.nd rfl (Or.inl rfl))
        (pss_cons (ps_if (pt_cmpR op_ne (pe_meth0 (pv 2) T.c_Book T.m_Book_text G_Book_text (hr.mono (by decide)) b_Book_text .nil pass0) (pe_call G__law_form (hr.mono (by decide)) (by rfl) T.g__law_form T.k__law_form b__law_form .nil pass0 (pa_cons (pv 1) pa_nil)) (nomark _))
        (pss_one (ps_ret pe_bl))
        pss_nil)
      (pss_cons (ps_set (i := 4) sc_law.nd rfl (Or.inl rfl) (pe_ix ix_list (pe_call0 G__law_entries (hr.mono (by decide)) (by rfl) T.g__law_entries T.k__law_entries b__law_entries .nil pass0) (pe_op op_mod (pe_callTy call_int1 (by rfl) T.n_int (by decide +kernel) (pa_cons (pe_call G__law_cell (hr.mono (by decide)) (by rfl) T.g__law_cell T.k__law_cell b__law_cell .nil pass0 (pa_cons (pv 0) (pa_cons (pe_op op_add pe_int (pv 3)) pa_nil))) pa_nil)) pe_int) (fun _ _ => rfl)))
      (pss_cons (ps_set (i := 5) sc_law.nd rfl (Or.inl rfl) (pe_call G__law_choices (hr.mono (by decide)) (by rfl) T.g__law_choices T.k__law_choices b__law_choices .nil pass0 (pa_cons (pv 4) pa_nil)))
      (pss_cons (ps_dput hu (pv 1) (pv 4) (pe_ix ix_list (pv 5) (pe_op op_mod (pe_callTy call_int1 (by rfl) T.n_int (by decide +kernel) (pa_cons (pe_op op_fdiv (pe_call G__law_cell (hr.mono (by decide)) (by rfl) T.g__law_cell T.k__law_cell b__law_cell .nil pass0 (pa_cons (pv 0) (pa_cons (pe_op op_add pe_int (pv 3)) pa_nil))) pe_int) pa_nil)) (pe_callB call_len_seq (by rfl) T.n_len PySem.boot_len (pa_cons (pv 5) pa_nil))) (fun _ _ => rfl)) rfl)
      (pss_one (ps_asg (pe_dget hu (pv 1) (pv 4) (fun _ _ => rfl)) (pg_ownSet T.sm_Book G_set hr1 b_set (fun _ => passAt0) (pv 2) (pv 4)))))))))
      (pss_cons (ps_set (i := 6) sc_law.nd rfl (Or.inl rfl) (pe_meth0 (pv 2) T.c_Book T.m_Book_text G_Book_text (hr.mono (by decide)) b_Book_text .nil pass0))
      (pss_cons (ps_if (PW.pt (pw_or (pt_not (pt_val (pe_callB call_isi (by rfl) T.n_isinstance (by decide +kernel) (pa_cons (pv 6) (pa_cons (pe_bltn (v := .ty "str") rfl T.n_str (by decide +kernel) rfl) pa_nil))))) (pw_or1 (pt_cmpR op_ne (pv 6) (pe_call G__law_form (hr.mono (by decide)) (by rfl) T.g__law_form T.k__law_form b__law_form .nil pass0 (pa_cons (pv 1) pa_nil)) (nomark _)))))
        (pss_one (ps_ret pe_bl))
        pss_nil)
      (pss_cons (ps_set (i := 7) sc_law.nd rfl (Or.inl rfl) (pe_call G_read_book (hr.mono (by decide)) (by rfl) T.g_read_book T.k_read_book b_read_book .nil passL (pa_cons (pv 6) pa_nil)))
      (pss_cons (ps_set (i := 8) sc_law.nd rfl (Or.inl rfl) (pe_call G__law_digits (hr.mono (by decide)) (by rfl) T.g__law_digits T.k__law_digits b__law_digits .nil pass0 (pa_cons (pe_call G__law_cell (hr.mono (by decide)) (by rfl) T.g__law_cell T.k__law_cell b__law_cell .nil pass0 (pa_cons (pv 0) (pa_cons pe_int pa_nil))) (pa_cons pe_int (pa_cons pe_int pa_nil)))))
      (pss_cons (ps_for PassesOwn.never rfl (pi_range1 rfl T.n_range (pa_cons pe_int pa_nil)) (pg_name (i := 3) sc_law.nd rfl (Or.inl rfl))
        (pss_cons (ps_set (i := 4) sc_law.nd rfl (Or.inl rfl) (pe_ix ix_list (pe_call0 G__law_entries (hr.mono (by decide)) (by rfl) T.g__law_entries T.k__law_entries b__law_entries .nil pass0) (pv 3) (fun _ _ => rfl)))
      (pss_cons (ps_set (i := 9) sc_law.nd rfl (Or.inl rfl) (pe_call G__law_wrong (hr.mono (by decide)) (by rfl) T.g__law_wrong T.k__law_wrong b__law_wrong .nil pass0 (pa_cons (pv 4) (pa_cons (pe_dget hu (pv 1) (pv 4) (fun _ _ => rfl)) (pa_cons (pe_ix ix_list (pv 8) (pv 3) (fun _ _ => rfl)) pa_nil)))))
      (pss_cons (ps_if (PW.pt (pw_or (pt_cmpR op_ne (pe_ownIx T.gm_Book G_Book_get (hr.mono (by decide)) b_Book_get (fun _ => passAt0) (pv 7) (pv 4)) (pe_dget hu (pv 1) (pv 4) (fun _ _ => rfl)) (nomark _)) (pw_or1 (pt_cmpR op_ne (pe_ownIx T.gm_Book G_Book_get (hr.mono (by decide)) b_Book_get (fun _ => passAt0) (pe_call G__law_made (hr.mono (by decide)) (by rfl) T.g__law_made T.k__law_made b__law_made .nil passL (pa_cons (pv 4) (pa_cons (pe_dget hu (pv 1) (pv 4) (fun _ _ => rfl)) pa_nil))) (pv 4)) (pe_dget hu (pv 1) (pv 4) (fun _ _ => rfl)) (nomark _)))))
        (pss_one (ps_ret pe_bl))
        pss_nil)
      (pss_one (ps_for PassesOwn.never rfl (pi_range1 rfl T.n_range (pa_cons pe_int pa_nil)) (pg_name (i := 10) sc_law.nd rfl (Or.inl rfl))
        (pss_one (ps_if (pt_not (pt_val (pe_call G__law_refused (hr.mono (by decide)) (by rfl) T.g__law_refused T.k__law_refused b__law_refused .nil pass0 (pa_cons (pv 10) (pa_cons (pv 2) (pa_cons (pv 4) (pa_cons (pv 9) (pa_cons (pv 1) pa_nil))))))))
        (pss_one (ps_ret pe_bl))
        pss_nil))))))))
      (pss_one (ps_ret (pe_and (pe_cmpR (op_ownCmp (by intro _ _; rfl) T.cm_Book___eq__.1 T.cm_Book___eq__.2 G_eq hr1 b_eq pass0) (pv 2) (pv 7) (nomark _)) (pe_one (pe_cmpR op_eq (pe_meth0 (pv 2) T.c_Book T.m_Book_text G_Book_text (hr.mono (by decide)) b_Book_text .nil pass0) (pe_call G__law_form (hr.mono (by decide)) (by rfl) T.g__law_form T.k__law_form b__law_form .nil pass0 (pa_cons (pv 1) pa_nil)) (nomark _)))))))))))))), ?_⟩
    walk_at "rd"
    refine ⟨a, ns, 0, rfl, hs, by decide, ?_⟩
    walk_at "rd"
    refine ⟨_, rfl, fun cs0 pk H1 hc0 npk c1 e1 => ?_⟩
    walk_at "rd"
    refine ⟨pk, cs0, rfl, hc0, e1, fun p d H2 np nd c2 B2 => ?_⟩
    have hsL : ∀ {H'}, Chg [] H H' → SqL K H' a (ns.map V.int) := fun c => SqL.chg c hs nm0
    have c12 := c1.trans c2
    have hdp : d ≠ pk := fun z => by rw [z, e1] at nd; cases nd
    have nd0 : H d = none := c1.fresh nd
    have e2 := c2.at e1
    walk_at "rd"
    refine ⟨a, ns, 1, rfl, hsL c12, by decide, ?_⟩
    walk_at "rd"
    obtain ⟨n7, en7, hn7⟩ := nat_of_mod (cellAt ns 1) 7 (by decide)
    rw [en7]
    refine ⟨_, rfl, by omega, by omega, ?_⟩
    refine for_range (n := n7) (fun i σ H' => ∃ (v3 v4 v5 : Option V) (cs : List Str), σ = [some (.ref a), some (.ref pk), some (.ref p), v3, v4, v5, none, none, none, none, none] ∧ Chg [] H H' ∧ OkB cs ∧ H' pk = some (.dK (dcs cs)) ∧ BookAt K H' p d cs) ⟨none, none, none, cs0, rfl, c12, hc0, e2, B2⟩ ?_ ?_
    · rintro i σ H3 hi ⟨v3, v4, v5, cs, rfl, c3, hc, e3, B3⟩
      obtain ⟨⟨dx, ep⟩, ed⟩ := id B3
      walk_at "rd"
      refine ⟨p, dx, _, rfl, ep, rfl, ?_⟩
      walk_at "rd"
      refine ⟨p, d, cs, rfl, B3, hc.len, hc.fine.small, fun H4 k4 => ?_⟩
      walk_at "rd"
      refine ⟨pk, cs, rfl, hc.len, hc.fine.small, k4.at e3, fun H5 k5 => ?_⟩
      walk_at "rd"
      refine r_iteN (fun z => absurd rfl z) (fun _ => ?_)
      have c5 := (c3.trans k4).trans k5
      have k45 := k4.trans k5
      walk_at "rd"
      refine ⟨rfl, fun l1 h1 => ?_⟩
      generalize eH : upd H5 l1 _ = H6
      obtain ⟨e6, k6, c6, n6⟩ := laid eH c5 h1
      walk_at "rd"
      refine ⟨a, ns, _, rfl, hsL c6, by omega, ?_⟩
      walk_at "rd"
      obtain ⟨j, ej, hj⟩ := nat_of_mod (cellAt ns (2 + (0 + (i : Nat)))) 10 (by decide)
      refine r_ixL (sqL e6) (by rw [ej]; exact atI_ofNat (strs_at (ent_at (by omega)))) ?_
      have hj10 : j < 10 := by omega
      walk_at "rd"
      refine ⟨j, hj10, rfl, fun l2 H7 n7 k7 e7 => ?_⟩
      have c7 := c6.trans k7
      walk_at "rd"
      refine ⟨a, ns, _, rfl, hsL c7, by omega, ?_⟩
      walk_at "rd"
      refine ⟨l2, _, rfl, .inl (sqL e7), ?_⟩
      rw [List.length_map]
      obtain ⟨n, x, en, hx, hxc⟩ := chs_pick hj10 (cellAt ns (2 + (0 + (i : Nat))) / 10)
      refine ⟨_, _, rfl, rfl, by have := chs_pos j hj10; omega, ?_⟩
      refine r_ixL (sqL e7) (by rw [en]; exact atI_ofNat (strs_at hx)) ?_
      walk_at "rd"
      have k37 := (k45.trans k6).trans k7
      refine ⟨_, _, rfl, DPut.k (k := Sum.inr (ent j)) (k37.at e3) (small1000 (by rw [dcs_len hc.len]; decide)), ?_⟩
      rw [dcs_put hc.len hj10]
      generalize eH : upd H7 pk _ = H8
      obtain ⟨e8, k8⟩ := put eH (k37.at e3)
      have c8 := c7.then k8 npk
      have hpp : p ≠ pk := ne_of ep e3 (by intro z; cases z)
      have B8 := (B3.chg k37 nm0 nm0).chg k8 (nm1 hpp) (nm1 hdp)
      obtain ⟨⟨dx8, ep8⟩, ed8⟩ := id B8
      walk_at "rd"
      refine ⟨pk, _, rfl, DGet.k (k := Sum.inr (ent j)) e8 |> (fun z => by rw [dcs_get (hc.set hxc).len hj10 (List.getElem?_set_self (by rw [hc.len]; exact hj10))] at z; exact z), ?_⟩
      walk_at "rd"
      refine ⟨p, dx8, _, rfl, ep8, ?_⟩
      refine ⟨p, d, cs, _, _, rfl, B8, hc.len, fun j' hj' he hcj H9 k9 B9 => ?_, fun hbad => (hbad ⟨j, hj10, rfl, hxc⟩).elim⟩
      have := ent_inj hj10 hj' he
      subst this
      exact ⟨_, _, _, cs.set j x, rfl, c8.then k9 nd0, hc.set hxc, k9.at1 e8 (Ne.symm hdp), B9⟩
    · rintro σ H3 ⟨v3, v4, v5, cs, rfl, c3, hc, e3, B3⟩
      obtain ⟨⟨dx, ep⟩, ed⟩ := id B3
      walk_at "rd"
      refine ⟨p, dx, _, rfl, ep, rfl, ?_⟩
      walk_at "rd"
      refine ⟨p, d, cs, rfl, B3, hc.len, hc.fine.small, fun H4 k4 => ?_⟩
      walk_at "rd"
      refine ⟨_, _, .type "str", _, true, rfl, .ty "str", .base (.str _), by rfl, ?_⟩
      walk_at "rd"
      refine iteF ?_
      walk_at "rd"
      refine ⟨pk, cs, rfl, hc.len, hc.fine.small, k4.at e3, fun H5 k5 => ?_⟩
      walk_at "rd"
      refine r_iteN (fun z => absurd rfl z) (fun _ => ?_)
      have c5 := (c3.trans k4).trans k5
      have k45 := k4.trans k5
      have B5 := B3.chg k45 nm0 nm0
      walk_at "rd"
      refine ⟨cs, rfl, hc.len, hc.fine, fun _ q' dq H6 nq ndq k6 Bq => ?_, fun h => absurd hc h⟩
      have c6 := c5.trans k6
      walk_at "rd"
      refine ⟨a, ns, 8, rfl, hsL c6, by decide, ?_⟩
      walk_at "rd"
      refine ⟨_, _, 10, rfl, by decide, fun ds dl H7 hds _ ndl k7 e7 => ?_⟩
      have c7 := c6.trans k7
      have k67 := k6.trans k7
      have B7 := B5.chg k67 nm0 nm0
      have Bq7 := Bq.chg k7 nm0 nm0
      have epk7 := (k45.trans k67).at e3
      walk_at "rd"
      refine ⟨_, rfl, by decide, by decide, ?_⟩
      refine for_range (n := 10) (fun i σ H' => ∃ (v3 v4 v9 v10 : Option V), σ = [some (.ref a), some (.ref pk), some (.ref p), v3, v4, v5, some (.str (formOf cs)), some (.ref q'), some (.ref dl), v9, v10] ∧ Chg [] H7 H') ⟨_, _, _, _, rfl, Chg.refl⟩ ?_ ?_
      · rintro i σ H8 hi ⟨v3, v4, v9, v10, rfl, k8⟩
        obtain ⟨c, hcc, hcm⟩ := hc.at hi
        obtain ⟨g, hg⟩ : ∃ g, ds[i]? = some g := ⟨ds[i]'(by omega), List.getElem?_eq_getElem _⟩
        walk_at "rd"
        rw [show (0 : Int) + (i : Nat) = (i : Nat) by omega]
        refine ⟨rfl, fun l h1 => ?_⟩
        generalize eH : upd H8 l _ = H9
        obtain ⟨e9, _, k9, n9⟩ := laid eH k8 h1
        walk_at "rd"
        refine r_ixL (sqL e9) (atI_ofNat (strs_at (ent_at hi))) ?_
        walk_at "rd"
        refine ⟨pk, _, rfl, DGet.k (k := Sum.inr (ent i)) (k9.at epk7) |> (fun z => by rw [dcs_get hc.len hi hcc] at z; exact z), ?_⟩
        walk_at "rd"
        refine r_ixL (sqL (k9.at e7)) (atI_ofNat (ints_at hg)) ?_
        walk_at "rd"
        refine ⟨i, c, g, hi, hcm, rfl, fun x H10 hx hfx k10 => ?_⟩
        replace k10 := k9.trans k10
        have Bq10 := Bq7.chg k10 nm0 nm0
        obtain ⟨⟨dxq, epq⟩, _⟩ := id Bq10
        walk_at "rd"
        refine ⟨q', dxq, _, rfl, epq, ?_⟩
        refine ⟨q', dq, cs, ent i, rfl, Bq10, hc.len, fun i' c' hi' he hcc' => ?_, fun hb => absurd (ent_mem hi) hb⟩
        have := ent_inj hi hi' he
        subst this
        rw [hcc] at hcc'
        cases hcc'
        walk_at "rd"
        refine ⟨pk, _, rfl, DGet.k (k := Sum.inr (ent i)) (k10.at epk7) |> (fun z => by rw [dcs_get hc.len hi hcc] at z; exact z), ?_⟩
        walk_at "rd"
        refine r_iteN (fun z => absurd rfl z) (fun _ => ?_)
        walk_at "rd"
        refine ⟨pk, _, rfl, DGet.k (k := Sum.inr (ent i)) (k10.at epk7) |> (fun z => by rw [dcs_get hc.len hi hcc] at z; exact z), ?_⟩
        walk_at "rd"
        refine ⟨i, c, hi, rfl, fun _ p' d' H11 _ _ k11 B11 => ?_, fun h => absurd hcm h⟩
        obtain ⟨⟨dx11, ep11⟩, _⟩ := id B11
        have k11' := k10.trans k11
        walk_at "rd"
        refine ⟨p', dx11, _, rfl, ep11, ?_⟩
        refine ⟨p', d', defaultB.set i c, ent i, rfl, B11, by rw [List.length_set]; rfl, fun i' c' hi' he hcc' => ?_, fun hb => absurd (ent_mem hi) hb⟩
        have := ent_inj hi hi' he
        subst this
        rw [List.getElem?_set_self (by exact hi)] at hcc'
        cases hcc'
        walk_at "rd"
        refine ⟨pk, _, rfl, DGet.k (k := Sum.inr (ent i)) (k11'.at epk7) |> (fun z => by rw [dcs_get hc.len hi hcc] at z; exact z), ?_⟩
        walk_at "rd"
        refine r_iteN (fun z => absurd rfl z) (fun _ => ?_)
        walk_at "rd"
        refine ⟨_, rfl, by decide, by decide, ?_⟩
        refine for_range (n := 3) (fun way σ H' => ∃ (v10 : Option V), σ = [some (.ref a), some (.ref pk), some (.ref p), some (.int i), some (.str (ent i)), v5, some (.str (formOf cs)), some (.ref q'), some (.ref dl), some (.str x), v10] ∧ Chg [] H7 H') ⟨_, rfl, k11'⟩ ?_ ?_
        · rintro way σ H12 hw ⟨v10, rfl, k12⟩
          walk_at "rd"
          rw [show (0 : Int) + (way : Nat) = (way : Nat) by omega]
          refine ⟨way, p, d, pk, i, x, cs, cs, rfl, hw, hi, hx, hfx, B7.chg k12 nm0 nm0, hc, hc, k12.at epk7, fun H13 k13 => ?_⟩
          walk_at "rd"
          refine iteF ?_
          exact ⟨_, rfl, k12.trans k13⟩
        · rintro σ H12 ⟨v10, rfl, k12⟩
          exact ⟨_, _, _, _, rfl, k12⟩
      · rintro σ H8 ⟨v3, v4, v9, v10, rfl, k8⟩
        walk_at "rd"
        have B8 := B7.chg k8 nm0 nm0
        have Bq8 := Bq7.chg k8 nm0 nm0
        obtain ⟨⟨dx8, ep8⟩, _⟩ := id B8
        obtain ⟨⟨dq8, eq8⟩, _⟩ := id Bq8
        refine ⟨p, dx8, _, q', _, dq8, _, rfl, rfl, ep8, eq8, T.nf_Book_Book, ?_⟩
        refine ⟨p, d, q', dq, cs, rfl, B8, Bq8, hc.len, ?_⟩
        walk_at "rd"
        refine iteT ?_
        walk_at "rd"
        refine ⟨p, dx8, _, rfl, ep8, rfl, ?_⟩
        walk_at "rd"
        refine ⟨p, d, cs, rfl, B8, hc.len, hc.fine.small, fun H9 k9 => ?_⟩
        walk_at "rd"
        refine ⟨pk, cs, rfl, hc.len, hc.fine.small, k9.at (k8.at epk7), fun H10 k10 => ?_⟩
        walk_at "rd"
        rw [decide_eq_true rfl]
        exact q H10
end
end Sm
set_option maxHeartbeats 4000000
namespace Sm
open PySem PySem.Spec PyProof.Rows L2
abbrev R : PySem.W.OpenRow := PySem.W.OpenLaw.row PySem.Challenge.rw_stickymarks_k56_book_text_again
abbrev hk : PySem.W.Hook := hookX 5 ts fn tb
def ob (s : PySem.W.SharedT) : AlX := seenG 5 ts fn tb (HandSHeadRun.getT s)
def names : List PySem.Str := (["_wall", "__name__", "MarkError", "InvalidBook", "InvalidInput", "ENTRIES", "CHOICES", "Book", "below", "read_book", "_law_cell", "_law_entries", "_law_choices", "_law_picks", "_law_book", "_law_digits", "_law_form", "_law_made", "_law_refused", "_law_wrong"] : List PySem.Str)
theorem ob_eq (s : PySem.W.SharedT) : ob s = hk.obs s.abs := seenG_eq (HandSHeadRun.getT_eq s)
theorem run0 (w : World) : HandSHeadRun.RunEq R (PySem.W.view R.prog [22]) hk ob 6000 names (w.withFollow "special-get-raises" false) := by
  intro os
  kernel_rfl
theorem run1 (w : World) : HandSHeadRun.RunEq R (PySem.W.view R.prog [22]) hk ob 6000 names (w.withFollow "special-get-raises" true) := by
  intro os
  kernel_rfl
theorem run (w : World) : HandSHeadRun.RunEq R (PySem.W.view R.prog [22]) hk ob 6000 names w :=
  PySem.W.byRow2 "special-get-raises" (P := fun w => HandSHeadRun.RunEq R (PySem.W.view R.prog [22]) hk ob 6000 names w) run0 run1 w
end Sm
set_option maxHeartbeats 4000000
open PySem PySem.W PySem.Calls PyProof.Rows
theorem PySem.Challenge.cw_stickymarks_k56_book_text_again_holds : PySem.Challenge.rw_stickymarks_k56_book_text_again.Holds := by
  w_on; o_law
  refine HandSHeadRun.head_any (r := OpenLaw.row PySem.Challenge.rw_stickymarks_k56_book_text_again) (q := view Sm.R.prog [22]) (H := Sm.hk) (ob := Sm.ob) (M := 6000) (loose := Sm.names) (d := HandSHeadRun.topDef Sm.R.prog 22) (kwd := []) Sm.ob_eq
    (by kernel_rfl) (fun s => by kernel_rfl) Sm.run (by kernel_rfl) (by kernel_rfl) (by kernel_rfl) (by rfl) (by first | assumption | decide +kernel) (by decide +kernel) ⟨rfl, rfl, rfl, rfl, rfl, by decide +kernel⟩ ?hw ?hc
  case hw => w_witness2
  case hc =>
    refine L2.walk_ofE (l := PySem.Challenge.rw_stickymarks_k56_book_text_again) (n := 63) (k := 5) (x := "script") (CX := L2.CX0) rfl (by decide) (by kernel_rfl) ⟨rfl, by decide, by decide⟩ ?F (fun _ _ _ _ z => z)
    intro w mg fa h Y G hmg0
    obtain ⟨K, KX, c⟩ := Y
    have hmg : mg ("law" : PySem.Str) = some (.ref fa) := by
      have e : (HandSHeadRun.topDef Sm.R.prog 22).name = ("law" : PySem.Str) := by kernel_rfl
      rw [← e]
      exact hmg0
    have T : Sm.Tx w K mg := ⟨⟨h, KX, G⟩, c⟩
    have e := hmg.symm.trans T.g_law
    cases e
    obtain ⟨fd, F⟩ := T.F_law
    refine ⟨K, fd, Sm.sp_law K, KX, fun s v => ?_, fun H a ns hl _ hS => ⟨a, ns, rfl, hS, fun _ => rfl⟩, fun base hb hn => ?_⟩
    · obtain ⟨oc, od, kV, doc, pm, an, cdv, ct, osl, rfl, _, _⟩ := F.ex
      exact .of_eq rfl
    · exact Sm.ok_law (P := (PySem.Challenge.rw_stickymarks_k56_book_text_again).prog) (w := w) (base := base) T F
