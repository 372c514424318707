import PyProof.Rows.All
import Wide.All
import OpenK.AllK
import Wide.FinOn
import HandS.ForMost
import HandS.ForExc
import HandS.Wide
import HandS.Evl
import HandS.Conv
import HandS.IsInst
import KE.KExcSuper
import HandS.ExcSuper
import HandS.ExcInit
import KE.KExcIs
import HandS.ExcField
import KE.RegKIsAll
import KE.RegKTryMore
import PySem.Challenge.RW_takenahead_k58_turned_lists
set_option Elab.async false
set_option linter.all false
set_option maxRecDepth 100000
set_option maxHeartbeats 4000000
namespace TK
open PySem L2
section
variable {K : PySem.W.Frag} {σ : L2.St} {H H' : Hp} {ta tb te to tv : TE} {t u : TT} {x y z v : V} {r : R2} {D : Ends} {tu tw : TS} {Q : VK} {E : XK}
theorem rd_seq (h : tu { D with nx := tw D } σ H) : tSeq tu tw D σ H := h
theorem rd_nx (h : D.nx σ H) : tNext D σ H := h
theorem rd_brk (h : D.bk σ H) : tBreak D σ H := h
theorem rd_ct (h : D.ct σ H) : tCont D σ H := h
theorem rd_var {i : Nat} (h : σ[i]? = some (some v)) (q : Q v H) : tVar i σ H Q := ⟨v, h, q⟩
theorem rd_c (q : Q v H) : tC v σ H Q := q
theorem rd_op (h : ta σ H fun x H1 => tb σ H1 fun y H2 => r x y H2 Q) : tOp r ta tb σ H Q := h
theorem rd_un {r : V → Hp → VK → Prop} (h : ta σ H fun x H1 => r x H1 Q) : tUn r ta σ H Q := h
theorem rd_I0 {g : Int → Int → V} {i j : Int} (q : Q (g i j) H) : rI0 g (.int i) (.int j) H Q := ⟨i, j, rfl, rfl, q⟩
theorem rd_I {C : Int → Int → Prop} {g : Int → Int → V} {i j : Int} (c : C i j) (q : Q (g i j) H) : rI C g (.int i) (.int j) H Q := ⟨i, j, rfl, rfl, c, q⟩
theorem rd_U {g : Int → V} {i : Int} (q : Q (g i) H) : rU g (.int i) H Q := ⟨i, rfl, q⟩
theorem rd_eq (s : scal x y = true) (q : Q (.bl (decide (x = y))) H) : rEq x y H Q := ⟨s, q⟩
theorem rd_ne (s : scal x y = true) (q : Q (.bl (!decide (x = y))) H) : rNe x y H Q := ⟨s, q⟩
theorem rd_asg {g : TG} (h : te σ H fun x H1 => g x σ H1 D.nx) : tAsg te g D σ H := h
theorem rd_name {i : Nat} {k : L2.St → Hp → Prop} (q : k (σ.set i (some v)) H) : gName i v σ H k := q
theorem rd_ret (h : te σ H D.rt) : tRet te D σ H := h
theorem rd_drop (h : te σ H fun _ H1 => D.nx σ H1) : tDrop te D σ H := h
theorem rd_ifS (h : t σ H fun b H1 => if b = true then tu D σ H1 else tw D σ H1) : tIfS t tu tw D σ H := h
theorem rd_test {Q : Bool → Hp → Prop} (h : te σ H fun x H1 => ∃ k, x = .bl k ∧ Q k H1) : tTest te σ H Q := h
theorem rd_B {Q : Bool → Hp → Prop} (h : te σ H fun x H1 => ∃ k, x = .bl k ∧ Q k H1) : tB te σ H Q := h
theorem rd_bl {b : Bool} {Q : Bool → Prop} (h : Q b) : ∃ k, V.bl b = .bl k ∧ Q k := ⟨b, rfl, h⟩
theorem rd_not {Q : Bool → Hp → Prop} (h : t σ H fun c H1 => Q (!c) H1) : tNot t σ H Q := h
theorem rd_and {Q : Bool → Hp → Prop} (h : t σ H fun c H1 => if c = true then u σ H1 Q else Q false H1) : tAnd t u σ H Q := h
theorem rd_or {Q : Bool → Hp → Prop} (h : t σ H fun c H1 => if c = true then Q true H1 else u σ H1 Q) : tOr t u σ H Q := h
theorem rd_andV (h : ta σ H fun x H1 => ∃ c, x = .bl c ∧ if c = true then tb σ H1 Q else Q (.bl false) H1) : tAndV ta tb σ H Q := h
theorem rd_orV (h : ta σ H fun x H1 => ∃ c, x = .bl c ∧ if c = true then Q (.bl true) H1 else tb σ H1 Q) : tOrV ta tb σ H Q := h
theorem rd_notV (h : ta σ H fun x H1 => ∃ c, x = .bl c ∧ Q (.bl (!c)) H1) : tNotV ta σ H Q := h
theorem rd_if (h : t σ H fun c H1 => if c = true then ta σ H1 Q else tb σ H1 Q) : tIf t ta tb σ H Q := h
theorem rd_nil {Q : List V → Hp → Prop} (q : Q [] H) : tNil σ H Q := q
theorem rd_cons {tr : TA} {Q : List V → Hp → Prop} (h : ta σ H fun x H1 => tr σ H1 fun xs H2 => Q (x :: xs) H2) : tCons ta tr σ H Q := h
theorem rd_tup {tr : TA} (h : tr σ H fun xs H1 => xs.length ≤ sizeLine ∧ ∀ p, H1 p = none → Q (.ref p) (upd H1 p (.tup xs))) : tTup tr σ H Q := h
theorem rd_lst {tr : TA} (h : tr σ H fun xs H1 => xs.length ≤ sizeLine ∧ ∀ p, H1 p = none → Q (.ref p) (upd H1 p (.lst xs))) : tLst tr σ H Q := h
theorem rd_cb {r : List V → Hp → VK → Prop} {tr : TA} (h : tr σ H fun vs H1 => r vs H1 Q) : tCB r tr σ H Q := h
theorem rd_call {sp : Sp} {dvs : List V} {tr : TA} (h : tr σ H fun vs H1 => sp (vs ++ dvs) H1 Q E) : tCall sp dvs E tr σ H Q := h
theorem rd_bm {T : String} {r : V → List V → Hp → VK → Prop} {tr : TA} (h : to σ H fun x H1 => tyV K T x H1 ∧ tr σ H1 fun xs H2 => r x xs H2 Q) : tBM K T r to tr σ H Q := h
theorem rd_bm0 {T : String} {r : V → List V → Hp → VK → Prop} (h : to σ H fun x H1 => tyV K T x H1 ∧ r x [] H1 Q) : tBM0 K T r to σ H Q := h
theorem rd_sub {tset : TSet} {k : L2.St → Hp → Prop} (h : to σ H fun o H1 => te σ H1 fun i H2 => tset o i v H2 fun H3 => k σ H3) : gSub to te tset v σ H k := h
theorem rd_aug {i : Nat} {ti : TIp} (h : σ[i]? = some (some x)) (q : te σ H fun y H1 => ti x y H1 fun z H2 => D.nx (σ.set i (some z)) H2) : tAug i te ti D σ H := ⟨x, h, q⟩
theorem rd_ipI {f : Int → Int → Int} {i j : Int} (q : Q (.int (f i j)) H) : ipI f (.int i) (.int j) H Q := ⟨i, j, rfl, rfl, q⟩
theorem rd_gtup {n : Nat} {ts : TGs} {a : Addr} {xs : List V} {k : L2.St → Hp → Prop} (h : SqT K H a xs) (hl : xs.length = n) (q : ts xs σ H k) : gTup K n ts (.ref a) σ H k := ⟨a, xs, rfl, h, hl, q⟩
theorem rd_gcons {g : TG} {ts : TGs} {xs : List V} {k : L2.St → Hp → Prop} (q : g v σ H fun σ' H' => ts xs σ' H' k) : gCons g ts (v :: xs) σ H k := ⟨v, xs, rfl, q⟩
theorem rd_gnil {k : L2.St → Hp → Prop} (q : k σ H) : gNil [] σ H k := ⟨rfl, q⟩
theorem rd_ixL {p : Addr} {xs : List V} {i : Int} (h : SqL K H p xs) (ha : atI xs i = some v) (q : Q v H) : rIxL K (.ref p) (.int i) H Q := ⟨p, xs, i, v, rfl, rfl, h, ha, q⟩
theorem rd_ixT {p : Addr} {xs : List V} {i : Int} (h : SqT K H p xs) (ha : atI xs i = some v) (q : Q v H) : rIxT K (.ref p) (.int i) H Q := ⟨p, xs, i, v, rfl, rfl, h, ha, q⟩
theorem rd_setL {p : Addr} {xs : List V} {i : Int} {j : Nat} {Q : Hp → Prop} (h : H p = some (.lst xs)) (hj : ixN xs.length i = some j) (q : Q (upd H p (.lst (xs.set j v)))) : rSetL (.ref p) (.int i) v H Q := ⟨p, xs, i, j, rfl, rfl, h, hj, q⟩
theorem rd_append {l : Addr} {xs : List V} (h : H l = some (.lst xs)) (hz : xs.length < sizeLine) (q : Q .non (upd H l (.lst (xs ++ [y])))) : rAppend (.ref l) [y] H Q := ⟨l, xs, y, rfl, rfl, h, hz, q⟩
theorem rd_cat {l b : Addr} {xs zs : List V} (h : H l = some (.lst xs)) (h2 : H b = some (.lst zs)) (hz : xs.length + zs.length ≤ sizeLine) (q : ∀ p, H p = none → Q (.ref p) (upd H p (.lst (xs ++ zs)))) : rCat (.ref l) (.ref b) H Q := ⟨l, b, xs, zs, rfl, rfl, h, h2, hz, q⟩
theorem ty_list {p : Addr} {xs : List V} (h : SqL K H p xs) : tyV K "list" (.ref p) H := .inl ⟨rfl, _, h⟩
theorem rd_int {i : Int} {Q : Int → Prop} {R : Prop} (h : Q i) : (∃ i', [V.int i] = [V.int i'] ∧ Q i') ∨ R := .inl ⟨i, rfl, h⟩
theorem rd_int1 {b : Bool} {R : Prop} {Q : Bool → Prop} (h : Q b) : R ∨ ∃ k, [V.bl b] = [V.bl k] ∧ Q k := .inr ⟨b, rfl, h⟩
theorem rd_len {p : Addr} {ys : List V} {R : List V → Prop} (h : SqL K H p ys) (q : R ys) : ∃ p' ys', [V.ref p] = [V.ref p'] ∧ (SqL K H p' ys' ∨ SqT K H p' ys') ∧ R ys' := ⟨p, ys, rfl, .inl h, q⟩
theorem rd_lenT {p : Addr} {ys : List V} {R : List V → Prop} (h : SqT K H p ys) (q : R ys) : ∃ p' ys', [V.ref p] = [V.ref p'] ∧ (SqL K H p' ys' ∨ SqT K H p' ys') ∧ R ys' := ⟨p, ys, rfl, .inr h, q⟩
theorem rd_isi {x c : V} {t u : Value} {b : Bool} (k : ClsV c u) (ty : TyX K H x t) (e : PySem.W.kitOne K t u = some b) (q : Q (.bl b) H) : rIsi K [x, c] H Q := ⟨x, c, t, u, b, rfl, k, ty, e, q⟩
theorem if_t {c : Bool} {A B : Prop} (hc : c = true) (h : A) : if c = true then A else B := by rw [if_pos hc]; exact h
theorem if_f {c : Bool} {A B : Prop} (hc : c = false) (h : B) : if c = true then A else B := by rw [hc, if_neg Bool.false_ne_true]; exact h
theorem if_d {P A B : Prop} {_ : Decidable P} (h1 : P → A) (h2 : ¬ P → B) : if decide P = true then A else B := by
  by_cases p : P
  · exact if_t (decide_eq_true p) (h1 p)
  · exact if_f (decide_eq_false p) (h2 p)
theorem if_nd {P A B : Prop} {_ : Decidable P} (h1 : ¬ P → A) (h2 : P → B) : if (!decide P) = true then A else B := by
  by_cases p : P
  · exact if_f (by rw [decide_eq_true p]; rfl) (h2 p)
  · exact if_t (by rw [decide_eq_false p]; rfl) (h1 p)
theorem if_b {b : Bool} {A B : Prop} (h1 : b = true → A) (h2 : b = false → B) : if b = true then A else B := by
  cases b
  · exact if_f rfl (h2 rfl)
  · exact if_t rfl (h1 rfl)
def ForW (g : TG) (tb : TS) (D : Ends) (σ : L2.St) (J : It) (H1 : Hp) : Prop := ∃ W : Nat → Nat → L2.St → Hp → Prop, (∃ m, W 0 m σ H1) ∧ ∀ i m σ H, W i m σ H →
  (J.stop i H ∧ D.nx σ H) ∨ (J.go i H ∧ ∃ Nx : L2.St → Hp → Prop, (∀ σ' H', Nx σ' H' → ∃ m', m' < m ∧ W (i + 1) m' σ' H') ∧ ∀ x H', J.yld i H x H' → g x σ H' fun σ2 H2 => tb { D with nx := Nx, ct := Nx, bk := D.nx } σ2 H2)
theorem rd_forR1 {ta : TA} {g : TG} (h : ta σ H fun vs H1 => ∃ j : Int, vs = [.int j] ∧ -(2 ^ 62) ≤ j ∧ j < 2 ^ 62 ∧ ForW g tu D σ (Itr 0 j.toNat) H1) : tFor (iRng1 ta) g tu D σ H := h
theorem rd_forR2 {ta : TA} {g : TG} (h : ta σ H fun vs H1 => ∃ i j : Int, vs = [.int i, .int j] ∧ (-(2 ^ 62) ≤ i ∧ i < 2 ^ 62 ∧ -(2 ^ 62) ≤ j ∧ j < 2 ^ 62) ∧ ForW g tu D σ (Itr i (j - i).toNat) H1) : tFor (iRng2 ta) g tu D σ H := h
theorem rd_forL {tl : TE} {g : TG} (h : tl σ H fun x H1 => ∃ a, x = .ref a ∧ (∃ xs, SqL K H1 a xs) ∧ ForW g tu D σ (Itl K a) H1) : tFor (iList K tl) g tu D σ H := h
theorem rd_forT {tl : TE} {g : TG} (h : tl σ H fun x H1 => ∃ a, x = .ref a ∧ (∃ xs, SqT K H1 a xs) ∧ ForW g tu D σ (Itt K a) H1) : tFor (iTup K tl) g tu D σ H := h
theorem get_new {a q : Addr} {oa o : HO} (hl : H a = some oa) (hq : H q = none) : upd H q o a = some oa := (upd_ne (ne_of_none hl hq)).trans hl
theorem get_ne {a q : Addr} {oa o : HO} (h : a ≠ q) (hl : H a = some oa) : upd H q o a = some oa := (upd_ne h).trans hl
theorem get_old {a q : Addr} {oa oq o : HO} (hl : H a = some oa) (hq : H q = some oq) (d : oa ≠ oq) : upd H q o a = some oa := (upd_ne (ne_of hl hq d)).trans hl
theorem sl_new {a q : Addr} {xs : List V} {o : HO} (h : SqL K H a xs) (hq : H q = none) : SqL K (upd H q o) a xs := Evl.ex_l (Evl.Ex.new hq) h
theorem st_new {a q : Addr} {xs : List V} {o : HO} (h : SqT K H a xs) (hq : H q = none) : SqT K (upd H q o) a xs := Evl.ex_t (Evl.Ex.new hq) h
end
theorem cxK0 {CX : CXT} {P : Program} {w : World} {K : PySem.W.Frag} {mg : Str → Option Value} {base : Heap} {N : List Str} {qual : Str} {scope : Scope} {f : Addr} {cd : Value} {A : Around} {outer : List Env} {s : Shared} {H : Hp} {E : XK} : (cxOf CX P w K mg base N qual scope f cd A outer s H E).nox.K = K := rfl
theorem cxK1 {CX : CXT} {P : Program} {w : World} {K : PySem.W.Frag} {mg : Str → Option Value} {base : Heap} {N : List Str} {qual : Str} {scope : Scope} {f : Addr} {cd : Value} {A : Around} {outer : List Env} {s : Shared} {H : Hp} {E : XK} : (cxOf CX P w K mg base N qual scope f cd A outer s H E).K = K := rfl
theorem cxW1 {CX : CXT} {P : Program} {w : World} {K : PySem.W.Frag} {mg : Str → Option Value} {base : Heap} {N : List Str} {qual : Str} {scope : Scope} {f : Addr} {cd : Value} {A : Around} {outer : List Env} {s : Shared} {H : Hp} {E : XK} : (cxOf CX P w K mg base N qual scope f cd A outer s H E).w = w := rfl
end TK
set_option maxRecDepth 100000
set_option maxHeartbeats 4000000
namespace TK
open PySem L2
def ExT (H H' : Hp) : Prop := ∀ a xs, Rd H a (.tup xs) → Rd H' a (.tup xs)
theorem ExT.refl (H : Hp) : ExT H H := fun _ _ h => h
theorem ExT.trans {H H1 H2 : Hp} (a : ExT H H1) (b : ExT H1 H2) : ExT H H2 := fun x xs h => b x xs (a x xs h)
theorem ExT.of {H H' : Hp} (e : Evl.Ex H H') : ExT H H' := fun _ _ h => Evl.ex_rd e h
theorem ExT.upd {H : Hp} {p : Addr} {o : HO} (h : ∀ xs, ¬ Rd H p (.tup xs)) : ExT H (upd H p o) := fun a xs r => by
  have ne : a ≠ p := fun z => h xs (z ▸ r)
  rcases r with r | ⟨u, r⟩
  · exact .inl ((upd_ne ne).trans r)
  · exact .inr ⟨u, (upd_ne ne).trans r⟩
theorem noT_none {H : Hp} {p : Addr} (h : H p = none) (xs : List V) : ¬ Rd H p (.tup xs) := fun r => by
  rcases r with r | ⟨u, r⟩ <;> (rw [h] at r; cases r)
theorem noT_lst {H : Hp} {p : Addr} {ys : List V} (h : H p = some (.lst ys)) (xs : List V) : ¬ Rd H p (.tup xs) := fun r => by
  rcases r with r | ⟨u, r⟩ <;> (rw [h] at r; cases r)
theorem noT_ins {H : Hp} {p C dx : Addr} {fs : List (Str × V)} (h : H p = some (.ins C dx fs)) (xs : List V) : ¬ Rd H p (.tup xs) := fun r => by
  rcases r with r | ⟨u, r⟩ <;> (rw [h] at r; cases r)
theorem noT_dK {H : Hp} {p : Addr} {kvs : List (Key × V)} (h : H p = some (.dK kvs)) (xs : List V) : ¬ Rd H p (.tup xs) := fun r => by
  rcases r with r | ⟨u, r⟩ <;> (rw [h] at r; cases r)
theorem noT_dT {H : Hp} {p : Addr} {kvs : List (List Key × V)} (h : H p = some (.dT kvs)) (xs : List V) : ¬ Rd H p (.tup xs) := fun r => by
  rcases r with r | ⟨u, r⟩ <;> (rw [h] at r; cases r)
theorem ext_new {H : Hp} {p : Addr} {o : HO} (h : H p = none) : ExT H (upd H p o) := .upd (noT_none h)
theorem ext_lst {H : Hp} {p : Addr} {o : HO} {ys : List V} (h : H p = some (.lst ys)) : ExT H (upd H p o) := .upd (noT_lst h)
theorem ext_t {K : PySem.W.Frag} {H H' : Hp} {a : Addr} {xs : List V} (e : ExT H H') (h : SqT K H a xs) : SqT K H' a xs := by
  rcases h with h | h
  · exact .inl (e a xs h)
  · exact .inr h
mutual
inductive Dt (K : PySem.W.Frag) (H : Hp) : V → PyData → Prop
  | non : Dt K H .non .none
  | bl (b : Bool) : Dt K H (.bl b) (.bool b)
  | int (i : Int) : Dt K H (.int i) (.int i)
  | str (x : Str) : Dt K H (.str x) (.str x)
  | tup {a : Addr} {xs : List V} {ds : List PyData} : SqT K H a xs → DtAll K H xs ds → Dt K H (.ref a) (.tuple ds)
inductive DtAll (K : PySem.W.Frag) (H : Hp) : List V → List PyData → Prop
  | nil : DtAll K H [] []
  | cons {v : V} {vs : List V} {d : PyData} {ds : List PyData} : Dt K H v d → DtAll K H vs ds → DtAll K H (v :: vs) (d :: ds)
end
section
variable {K : PySem.W.Frag} {H H' : Hp}
mutual
theorem Dt.mono (e : ExT H H') : ∀ {v : V} {d : PyData}, Dt K H v d → Dt K H' v d
  | _, _, .non => .non
  | _, _, .bl b => .bl b
  | _, _, .int i => .int i
  | _, _, .str x => .str x
  | _, _, .tup h a => .tup (ext_t e h) (DtAll.mono e a)
theorem DtAll.mono (e : ExT H H') : ∀ {vs : List V} {ds : List PyData}, DtAll K H vs ds → DtAll K H' vs ds
  | _, _, .nil => .nil
  | _, _, .cons h t => .cons (Dt.mono e h) (DtAll.mono e t)
end
mutual
theorem Dt.dp : ∀ {v : V} {d : PyData}, Dt K H v d → Dp K H v d
  | _, _, .non => .non
  | _, _, .bl b => .bl b
  | _, _, .int i => .int i
  | _, _, .str x => .str x
  | _, _, .tup h a => .tup h (DtAll.dp a)
theorem DtAll.dp : ∀ {vs : List V} {ds : List PyData}, DtAll K H vs ds → DpAll K H vs ds
  | _, _, .nil => .nil
  | _, _, .cons h t => .cons (Dt.dp h) (DtAll.dp t)
end
theorem DtAll.length : ∀ {vs : List V} {ds : List PyData}, DtAll K H vs ds → vs.length = ds.length
  | _, _, .nil => rfl
  | _, _, .cons _ t => congrArg (· + 1) (DtAll.length t)
theorem DtAll.append : ∀ {vs us : List V} {ds es : List PyData}, DtAll K H vs ds → DtAll K H us es → DtAll K H (vs ++ us) (ds ++ es)
  | _, _, _, _, .nil, h => h
  | _, _, _, _, .cons h t, q => .cons h (DtAll.append t q)
theorem DtAll.snoc {vs : List V} {ds : List PyData} {v : V} {d : PyData} (h : DtAll K H vs ds) (q : Dt K H v d) : DtAll K H (vs ++ [v]) (ds ++ [d]) := h.append (.cons q .nil)
theorem DtAll.get : ∀ {vs : List V} {ds : List PyData} {i : Nat} {v : V}, DtAll K H vs ds → vs[i]? = some v → ∃ d, ds[i]? = some d ∧ Dt K H v d
  | _, _, _, _, .nil, e => by simp at e
  | _, _, 0, _, .cons h _, e => by simp at e; subst e; exact ⟨_, rfl, h⟩
  | _, _, i + 1, v, .cons _ t, e => by
    obtain ⟨d, h1, h2⟩ := DtAll.get (i := i) t (by simpa using e)
    exact ⟨d, by simpa using h1, h2⟩
theorem DtAll.getD : ∀ {vs : List V} {ds : List PyData} {i : Nat} {d : PyData}, DtAll K H vs ds → ds[i]? = some d → ∃ v, vs[i]? = some v ∧ Dt K H v d
  | _, _, _, _, .nil, e => by simp at e
  | _, _, 0, _, .cons h _, e => by simp at e; subst e; exact ⟨_, rfl, h⟩
  | _, _, i + 1, v, .cons _ t, e => by
    obtain ⟨d, h1, h2⟩ := DtAll.getD (i := i) t (by simpa using e)
    exact ⟨d, by simpa using h1, h2⟩
theorem dt_new {p : Addr} {vs : List V} {ds : List PyData} (h : H p = none) (a : DtAll K H vs ds) : Dt K (upd H p (.tup vs)) (.ref p) (.tuple ds) :=
  .tup (SqT.of upd_same) (a.mono (ext_new h))
theorem Dt.tup_inv {v : V} {ds : List PyData} (h : Dt K H v (.tuple ds)) : ∃ a xs, v = .ref a ∧ SqT K H a xs ∧ DtAll K H xs ds := by
  cases h with
  | tup h a => exact ⟨_, _, rfl, h, a⟩
end
def Sh (k : Nat) (d : PyData) : Prop := d.canLay0 = true ∧ d.depth ≤ k
def ShA (k : Nat) (ds : List PyData) : Prop := PyData.canLayAll0 ds = true ∧ PyData.depthAll ds ≤ k
theorem ShA.nil {k : Nat} : ShA k [] := ⟨by simp [PyData.canLayAll0], Nat.zero_le _⟩
theorem ShA.cons {k : Nat} {d : PyData} {ds : List PyData} (h : Sh k d) (t : ShA k ds) : ShA k (d :: ds) := by
  refine ⟨by simp [PyData.canLayAll0, h.1, t.1], ?_⟩
  rw [PyData.depthAll]
  exact Nat.max_le.mpr ⟨h.2, t.2⟩
theorem ShA.of {k : Nat} : ∀ {ds : List PyData}, (∀ d ∈ ds, Sh k d) → ShA k ds
  | [], _ => .nil
  | d :: ds, h => .cons (h d (List.mem_cons_self ..)) (ShA.of fun e he => h e (List.mem_cons_of_mem _ he))
theorem Sh.tup {k : Nat} {ds : List PyData} (h : ShA k ds) : Sh (k + 1) (.tuple ds) := by
  refine ⟨?_, ?_⟩
  · rw [PyData.canLay0]; exact h.1
  · rw [PyData.depth]; exact Nat.succ_le_succ h.2
theorem Sh.lst {k : Nat} {ds : List PyData} (h : ShA k ds) : Sh (k + 1) (.list ds) := by
  refine ⟨?_, ?_⟩
  · rw [PyData.canLay0]; exact h.1
  · rw [PyData.depth]; exact Nat.succ_le_succ h.2
theorem Sh.mono {k m : Nat} {d : PyData} (h : Sh k d) (l : k ≤ m) : Sh m d := ⟨h.1, Nat.le_trans h.2 l⟩
theorem Sh.shaped {k : Nat} {d : PyData} (h : Sh k d) (l : k ≤ 64) : SeqAt.shaped d = true := by
  unfold SeqAt.shaped
  rw [h.1, decide_eq_true (Nat.le_trans h.2 l)]
  rfl
theorem Sh.refl {k : Nat} {d : PyData} (h : Sh k d) : PyData.eqv d d = true := SeqAt.eqv_refl d h.1
theorem Sh.int (i : Int) : Sh 0 (.int i) := ⟨by simp [PyData.canLay0], by simp [PyData.depth]⟩
theorem Sh.non : Sh 0 .none := ⟨by simp [PyData.canLay0], by simp [PyData.depth]⟩
theorem Sh.bl (b : Bool) : Sh 0 (.bool b) := ⟨by simp [PyData.canLay0], by simp [PyData.depth]⟩
theorem Sh.str {x : Str} (h : PyData.strOk x = true) : Sh 0 (.str x) := ⟨by rw [PyData.canLay0]; exact h, by simp [PyData.depth]⟩
section
variable {K : PySem.W.Frag} {H : Hp} {σ : L2.St} {te tl : TE} {ta : TA} {Q : VK} {vs : List Nat} {j : Nat}
theorem rd_yes {A B : Hp → Prop} (h : A H) : tYes σ H fun b H3 => if b = true then A H3 else B H3 := by
  show if true = true then A H else B H
  rw [if_pos rfl]
  exact h
theorem szl {n : Nat} (h : n < 100000) : n < sizeLine := Nat.lt_of_lt_of_le h (by decide)
theorem szle {n : Nat} (h : n ≤ 100000) : n ≤ sizeLine := Nat.le_trans h (by decide)
theorem rd_lcL {a : Addr} {xs : List V} (J : Addr → Nat → List V → Hp → Prop) (htl : ∀ R : VK, R (.ref a) H → tl σ H R) (hS : SqL K H a xs) (hn : xs.length ≤ 50000)
    (hw : ∀ x, wipe ((wipe σ vs).set j (some x)) vs = wipe σ vs) (j0 : ∀ D, H D = none → J D 0 [] (upd H D (.lst [])))
    (turn : ∀ D i x acc H' (R : VK), H D = none → Evl.Ex H H' → xs[i]? = some x → H' D = some (.lst acc) → acc.length = i → J D i acc H' →
      (∀ y H4, Evl.Ex H H4 → H4 D = some (.lst acc) → J D (i + 1) (acc ++ [y]) (upd H4 D (.lst (acc ++ [y]))) → R y H4) → te ((wipe σ vs).set j (some x)) H' R)
    (fin : ∀ D acc H', H D = none → Evl.Ex H H' → H' D = some (.lst acc) → acc.length = xs.length → J D xs.length acc H' → Q (.ref D) H') :
    tLc (iList K tl) (gName j) tYes te vs σ H Q := by
  refine htl _ ⟨a, rfl, ⟨xs, hS⟩, fun D hD => lc_list (K := K) (a := a) (xs := xs) (fun i H' => ∃ acc, Evl.Ex H H' ∧ H' D = some (.lst acc) ∧ acc.length = i ∧ J D i acc H') ⟨[], Evl.Ex.new hD, upd_same, rfl, j0 D hD⟩ (fun i H' _ ⟨_, e, _⟩ => Evl.ex_l e hS) ?_ ?_⟩
  · rintro i x H' hi ⟨acc, e, hd, hl, hj⟩
    refine ⟨hw x, ?_⟩
    refine rd_yes ?_
    have hlt : i < xs.length := (List.getElem?_eq_some_iff.mp hi).1
    refine turn D i x acc H' _ hD e hi hd hl hj fun y H4 e4 h4 j4 => ⟨acc, h4, szl (by omega), acc ++ [y], e4.mut hD, upd_same, by simp [hl], j4⟩
  · rintro H' ⟨acc, e, hd, hl, hj⟩
    exact fin D acc H' hD e hd hl hj
theorem rd_lcR2 {lo hi : Int} (J : Addr → Nat → List V → Hp → Prop) (htl : ∀ R : List V → Hp → Prop, R [.int lo, .int hi] H → ta σ H R) (hb : -100000 ≤ lo ∧ lo ≤ 100000 ∧ -100000 ≤ hi ∧ hi ≤ 100000) (hn : (hi - lo).toNat ≤ 50000)
    (hw : ∀ x, wipe ((wipe σ vs).set j (some x)) vs = wipe σ vs) (j0 : ∀ D, H D = none → J D 0 [] (upd H D (.lst [])))
    (turn : ∀ D (i : Nat) acc H' (R : VK), H D = none → Evl.Ex H H' → i < (hi - lo).toNat → H' D = some (.lst acc) → acc.length = i → J D i acc H' →
      (∀ y H4, Evl.Ex H H4 → H4 D = some (.lst acc) → J D (i + 1) (acc ++ [y]) (upd H4 D (.lst (acc ++ [y]))) → R y H4) → te ((wipe σ vs).set j (some (.int (lo + i)))) H' R)
    (fin : ∀ D acc H', H D = none → Evl.Ex H H' → H' D = some (.lst acc) → acc.length = (hi - lo).toNat → J D (hi - lo).toNat acc H' → Q (.ref D) H') :
    tLc (iRng2 ta) (gName j) tYes te vs σ H Q := by
  refine htl _ ⟨lo, hi, rfl, ⟨by omega, by omega, by omega, by omega⟩, fun D hD => lc_range (lo := lo) (n := (hi - lo).toNat) (fun i H' => ∃ acc, Evl.Ex H H' ∧ H' D = some (.lst acc) ∧ acc.length = i ∧ J D i acc H') ⟨[], Evl.Ex.new hD, upd_same, rfl, j0 D hD⟩ ?_ ?_⟩
  · rintro i H' hi' ⟨acc, e, hd, hl, hj⟩
    refine ⟨hw _, ?_⟩
    refine rd_yes ?_
    refine turn D i acc H' _ hD e hi' hd hl hj fun y H4 e4 h4 j4 => ⟨acc, h4, szl (by omega), acc ++ [y], e4.mut hD, upd_same, by simp [hl], j4⟩
  · rintro H' ⟨acc, e, hd, hl, hj⟩
    exact fin D acc H' hD e hd hl hj
theorem rd_lcR1 {hi : Int} (J : Addr → Nat → List V → Hp → Prop) (htl : ∀ R : List V → Hp → Prop, R [.int hi] H → ta σ H R) (hb : 0 ≤ hi ∧ hi ≤ 50000)
    (hw : ∀ x, wipe ((wipe σ vs).set j (some x)) vs = wipe σ vs) (j0 : ∀ D, H D = none → J D 0 [] (upd H D (.lst [])))
    (turn : ∀ D (i : Nat) acc H' (R : VK), H D = none → Evl.Ex H H' → i < hi.toNat → H' D = some (.lst acc) → acc.length = i → J D i acc H' →
      (∀ y H4, Evl.Ex H H4 → H4 D = some (.lst acc) → J D (i + 1) (acc ++ [y]) (upd H4 D (.lst (acc ++ [y]))) → R y H4) → te ((wipe σ vs).set j (some (.int (0 + i)))) H' R)
    (fin : ∀ D acc H', H D = none → Evl.Ex H H' → H' D = some (.lst acc) → acc.length = hi.toNat → J D hi.toNat acc H' → Q (.ref D) H') :
    tLc (iRng1 ta) (gName j) tYes te vs σ H Q := by
  refine htl _ ⟨hi, rfl, by omega, by omega, fun D hD => lc_range (lo := 0) (n := hi.toNat) (fun i H' => ∃ acc, Evl.Ex H H' ∧ H' D = some (.lst acc) ∧ acc.length = i ∧ J D i acc H') ⟨[], Evl.Ex.new hD, upd_same, rfl, j0 D hD⟩ ?_ ?_⟩
  · rintro i H' hi' ⟨acc, e, hd, hl, hj⟩
    refine ⟨hw _, ?_⟩
    refine rd_yes ?_
    refine turn D i acc H' _ hD e hi' hd hl hj fun y H4 e4 h4 j4 => ⟨acc, h4, szl (by omega), acc ++ [y], e4.mut hD, upd_same, by simp [hl], j4⟩
  · rintro H' ⟨acc, e, hd, hl, hj⟩
    exact fin D acc H' hD e hd hl hj
end
theorem atI_in {α : Type} {xs : List α} {i : Int} (h0 : 0 ≤ i) (h1 : i < xs.length) : ∃ v, atI xs i = some v ∧ v ∈ xs := by
  obtain ⟨n, rfl⟩ := Int.eq_ofNat_of_zero_le h0
  have hn : n < xs.length := by omega
  exact ⟨xs[n], atI_nat (List.getElem?_eq_getElem hn), List.getElem_mem hn⟩
def Fs (K : PySem.W.Frag) (H : Hp) : List V → List V → Prop := Paired fun x y => ∃ a o, x = .ref a ∧ SqT K H a [y, o]
theorem Paired.getL {α β : Type} {F : α → β → Prop} : ∀ {l : List α} {m : List β} {i : Nat} {x : α}, Paired F l m → l[i]? = some x → ∃ y, m[i]? = some y ∧ F x y
  | _, _, _, _, .nil, e => by simp at e
  | _, _, 0, _, .cons h _, e => by simp at e; subst e; exact ⟨_, rfl, h⟩
  | _, _, i + 1, x, .cons _ t, e => by
    obtain ⟨y, h1, h2⟩ := Paired.getL (i := i) t (by simpa using e)
    exact ⟨y, by simpa using h1, h2⟩
theorem Paired.lenL {α β : Type} {F : α → β → Prop} : ∀ {l : List α} {m : List β}, Paired F l m → l.length = m.length
  | _, _, .nil => rfl
  | _, _, .cons _ t => congrArg (· + 1) (Paired.lenL t)
theorem rep_len {α : Type} (l : List α) : ∀ n : Nat, (List.replicate n l).flatten.length = n * l.length
  | 0 => by simp
  | n + 1 => by rw [List.replicate_succ, List.flatten_cons, List.length_append, rep_len l n, Nat.succ_mul]; omega
theorem take_more {α : Type} : ∀ {l : List α} {i : Nat} {x : α}, l[i]? = some x → l.take (i + 1) = l.take i ++ [x]
  | [], i, x, h => by simp at h
  | a :: l, 0, x, h => by
    have e : a = x := Option.some.inj h
    subst e
    rfl
  | a :: l, i + 1, x, h => by
    have ih := take_more (l := l) (i := i) (x := x) h
    show a :: l.take (i + 1) = a :: l.take i ++ [x]
    rw [ih]
    rfl
section
variable {K : PySem.W.Frag} {H : Hp} {σ : L2.St} {tl : TE} {Q : VK} {vs : List Nat} {j : Nat}
theorem Fs.ex {H H' : Hp} {xs ys : List V} (e : ExT H H') (h : Fs K H xs ys) : Fs K H' xs ys := L2.Paired.mapP h fun _ _ ⟨a, o, q, t⟩ => ⟨a, o, q, ext_t e t⟩
theorem rd_firsts {a : Addr} {xs sx : List V} (htl : ∀ R : VK, R (.ref a) H → tl σ H R) (hS : SqL K H a xs) (hF : Fs K H xs sx) (hn : xs.length ≤ 50000)
    (hw : ∀ x, wipe ((wipe σ vs).set j (some x)) vs = wipe σ vs) (hj : ∀ x, ((wipe σ vs).set j (some x))[j]? = some (some x))
    (fin : ∀ D H', H D = none → Evl.Ex H H' → H' D = some (.lst sx) → Q (.ref D) H') :
    tLc (iList K tl) (gName j) tYes (tOp (rIxT K) (tVar j) (tC (.int 0))) vs σ H Q := by
  refine rd_lcL (fun _ i acc _ => acc = sx.take i) htl hS hn hw (fun _ _ => rfl) ?_ ?_
  · intro D i x acc H' R hD e hi hd hl hJ k
    obtain ⟨y, hy, b, o, rfl, ht⟩ := Paired.getL hF hi
    refine rd_op (rd_var (hj _) (rd_c (rd_ixT (Evl.ex_t e ht) rfl ?_)))
    refine k y H' e hd ?_
    show acc ++ [y] = sx.take (i + 1)
    rw [take_more hy, ← hJ]
  · intro D acc H' hD e hd hl hJ
    have z : acc = sx.take xs.length := hJ
    rw [Paired.lenL hF, List.take_length] at z
    exact fin D H' hD e (z ▸ hd)
end
theorem xt_new {H H1 : Hp} {p : Addr} {o : HO} (h : H1 p = none) (e : ExT H H1) : ExT H (upd H1 p o) := e.trans (ext_new h)
theorem xt_lst {H H1 : Hp} {p : Addr} {o : HO} {ys : List V} (h : H1 p = some (.lst ys)) (e : ExT H H1) : ExT H (upd H1 p o) := e.trans (ext_lst h)
def Fr1 (p : Addr) (H H' : Hp) : Prop := ∀ a o, a ≠ p → H a = some o → H' a = some o
theorem Fr1.refl {p : Addr} (H : Hp) : Fr1 p H H := fun _ _ _ h => h
theorem Fr1.new {p t : Addr} {H H' : Hp} {o : HO} (h : H' t = none) (f : Fr1 p H H') : Fr1 p H (upd H' t o) := fun a u n e => get_new (f a u n e) h
theorem Fr1.at {p : Addr} {H H' : Hp} {o : HO} (f : Fr1 p H H') : Fr1 p H (upd H' p o) := fun a u n e => get_ne n (f a u n e)
theorem Fr1.own {p t : Addr} {H H' : Hp} {o : HO} (h : H t = none) (f : Fr1 p H H') : Fr1 p H (upd H' t o) := fun a u n e => get_ne (ne_of_none e h) (f a u n e)
theorem Fr1.ex {p : Addr} {H H' H'' : Hp} (e : Evl.Ex H H') (f : Fr1 p H' H'') (h : H p = none) : Evl.Ex H H'' := fun a o q => f a o (ne_of_none q h) (e a o q)
theorem lg {n : Nat} (h : n < 2 ^ 300) : n.log2 < 9000 := by
  by_cases z : n = 0
  · rw [z]; decide
  · exact Nat.lt_of_lt_of_le ((Nat.log2_lt z).mpr h) (by decide)
theorem ex_new {H H1 : Hp} {p : Addr} {o : HO} (h : H1 p = none) (e : Evl.Ex H H1) : Evl.Ex H (upd H1 p o) := e.trans (.new h)
theorem ex_mut {H H1 : Hp} {p : Addr} {o : HO} (h : H p = none) (e : Evl.Ex H H1) : Evl.Ex H (upd H1 p o) := e.mut h
end TK
set_option maxRecDepth 100000
set_option maxHeartbeats 4000000
namespace TK
open PySem L2
section
variable {X : Cx} {K : PySem.W.Frag}
def rLenQ (K : PySem.W.Frag) : List V → Hp → VK → Prop := fun xs H Q => ∃ p ys, xs = [.ref p] ∧ (SqL K H p ys ∨ SqT K H p ys) ∧ Q (.int ys.length) H
def rListQ (K : PySem.W.Frag) : List V → Hp → VK → Prop := fun xs H Q => ∃ p ys, xs = [.ref p] ∧ (SqL K H p ys ∨ SqT K H p ys) ∧ ∀ l, H l = none → Q (.ref l) (upd H l (.lst ys))
def rTupQ (K : PySem.W.Frag) : List V → Hp → VK → Prop := fun xs H Q => ∃ p ys, xs = [.ref p] ∧ ((SqL K H p ys ∧ ∀ l, H l = none → Q (.ref l) (upd H l (.tup ys))) ∨ (SqT K H p ys ∧ Q (.ref p) H))
def rIntQ : List V → Hp → VK → Prop := fun xs H Q => (∃ i, xs = [.int i] ∧ Q (.int i) H) ∨ ∃ k, xs = [.bl k] ∧ Q (.int (if k then 1 else 0)) H
def rCatSQ : R2 := fun x y H Q => ∃ i j, x = .str i ∧ y = .str j ∧ i.length + j.length ≤ sizeLine ∧ Q (.str (i ++ j)) H
def rLenSQ : List V → Hp → VK → Prop := fun xs H Q => ∃ z, xs = [.str z] ∧ z.length ≤ sizeLine ∧ Q (.int z.length) H
def rMaxQ : List V → Hp → VK → Prop := fun xs H Q => ∃ i j, xs = [.int i, .int j] ∧ Q (.int (if j > i then j else i)) H
def rMinQ : List V → Hp → VK → Prop := fun xs H Q => ∃ i j, xs = [.int i, .int j] ∧ Q (.int (if j < i then j else i)) H
def rStrQ : List V → Hp → VK → Prop := fun xs H Q => ∃ i, xs = [.int i] ∧ i.natAbs.log2 < 1920 ∧ Q (.str (toString i)) H
def rIsNQ : R2 := fun x y H Q => y = .non ∧ Q (.bl (decide (x = .non))) H
def rNotNQ : R2 := fun x y H Q => y = .non ∧ Q (.bl (!decide (x = .non))) H
theorem k_ixL (h : X.K = K) : IxR X (rIxL K) := h ▸ ix_list
theorem k_ixT (h : X.K = K) : IxR X (rIxT K) := h ▸ ix_tup
theorem k_len (h : X.K = K) : CallR X (.builtin "len") (rLenQ K) := h ▸ call_len_seq
theorem k_list (h : X.K = K) : CallR X (.type "list") (rListQ K) := h ▸ call_list_of
theorem k_tuple (h : X.K = K) : CallR X (.type "tuple") (rTupQ K) := h ▸ call_tuple_of
theorem k_int : CallR X (.type "int") rIntQ := call_int1
theorem k_catS : OpR X (binaryOp .Add) rCatSQ := op_add_str
theorem k_lenS : CallR X (.builtin "len") rLenSQ := call_len_str
theorem k_max (hc : X.calm = true) : CallR X (.builtin "max") rMaxQ := call_max2 hc
theorem k_min (hc : X.calm = true) : CallR X (.builtin "min") rMinQ := call_min2 hc
theorem k_str : CallR X (.type "str") rStrQ := call_str_int
theorem k_isN : OpR X (compareOp .Is) rIsNQ := op_isN
theorem k_notN : OpR X (compareOp .IsNot) rNotNQ := op_notN
theorem k_isi (h : X.K = K) : CallR X (.builtin "isinstance") (rIsi K) := h ▸ call_isi
theorem k_in (h : X.K = K) : OpR X (compareOp .In) (rIn K false) := h ▸ op_in_seq
theorem k_notin (h : X.K = K) : OpR X (compareOp .NotIn) (rIn K true) := h ▸ op_notIn_seq
theorem k_eqD (h : X.K = K) (hu : X.A.units + 64 < cLine) : OpR X (compareOp .Eq) (rEqD K) := h ▸ op_eqD hu
theorem k_neD (h : X.K = K) (hu : X.A.units + 64 < cLine) : OpR X (compareOp .NotEq) (rNeD K) := h ▸ op_neD hu
theorem k_slL (h : X.K = K) : SlR X (rSlL K) := h ▸ sl_list
theorem k_slT (h : X.K = K) : SlR X (rSlT K) := h ▸ sl_tup
theorem k_catT (h : X.K = K) : OpR X (binaryOp .Add) (rCatT K) := h ▸ op_catT
theorem k_any (h : X.K = K) (hc : X.calm = true) : CallR X (.builtin "any") (rAny K) := h ▸ cr_any hc
theorem k_all (h : X.K = K) (hc : X.calm = true) : CallR X (.builtin "all") (rAll K) := h ▸ cr_all hc
theorem k_fld {e : Expr} {ta : TE} {f : Str} {pos : Pos} (h : X.K = K) (he : PE X e ta) (hb : attributeBase e f X.env (eval e X.env) = eval e X.env) : PE X (.Attribute e f pos) (tFld K ta f) := h ▸ pe_fld he hb
theorem k_sfld {o e : Expr} {ta tv : TE} {f : Str} {pos pos' : Pos} (h : X.K = K) (ho : PE X o ta) (he : PE X e tv) (hs : swapsWith e (some (.Attribute o f pos')) pos.line X.env = pure false := by rfl) : PS X (.Assign [.Attribute o f pos'] e pos) (sFld K ta tv f) := h ▸ ps_fld ho he hs
theorem k_pil {tg l : Expr} {tl : TE} (h : X.K = K) (hl : PE X l tl) : PI X tg l (iList K tl) := h ▸ pi_list hl
theorem k_pit {tg l : Expr} {tl : TE} (h : X.K = K) (hl : PE X l tl) : PI X tg l (iTup K tl) := h ▸ pi_tup hl
theorem k_gtup {es : List Expr} {k : Nat} {t : TGs} {n : Nat} {pos : Pos} (h : X.K = K) (hc : X.calm = true) (hh : PGs X es t) (hn : (assignEach es X.env).length = n := by rfl) (hst : (assignEach es X.env).findIdx? (·.1) = none := by rfl) : PG X (.Tuple es k pos) (gTup K n t) := h ▸ pg_tup hc hh hn hst
end
section
variable {K : PySem.W.Frag} {H : Hp} {Q : VK} {v : V}
theorem rd_lenQ {p : Addr} {ys : List V} (h : SqL K H p ys) (q : Q (.int ys.length) H) : rLenQ K [.ref p] H Q := ⟨p, ys, rfl, .inl h, q⟩
theorem rd_lenTQ {p : Addr} {ys : List V} (h : SqT K H p ys) (q : Q (.int ys.length) H) : rLenQ K [.ref p] H Q := ⟨p, ys, rfl, .inr h, q⟩
theorem rd_listQ {p : Addr} {ys : List V} (h : SqL K H p ys) (q : ∀ l, H l = none → Q (.ref l) (upd H l (.lst ys))) : rListQ K [.ref p] H Q := ⟨p, ys, rfl, .inl h, q⟩
theorem rd_tupQ {p : Addr} {ys : List V} (h : SqL K H p ys) (q : ∀ l, H l = none → Q (.ref l) (upd H l (.tup ys))) : rTupQ K [.ref p] H Q := ⟨p, ys, rfl, .inl ⟨h, q⟩⟩
theorem rd_intQ {i : Int} (q : Q (.int i) H) : rIntQ [.int i] H Q := .inl ⟨i, rfl, q⟩
theorem rd_intB {b : Bool} (q : Q (.int (if b then 1 else 0)) H) : rIntQ [.bl b] H Q := .inr ⟨b, rfl, q⟩
theorem rd_catS {a b : Str} (h : a.length + b.length ≤ sizeLine) (q : Q (.str (a ++ b)) H) : rCatSQ (.str a) (.str b) H Q := ⟨a, b, rfl, rfl, h, q⟩
theorem rd_lenS {a : Str} (h : a.length ≤ sizeLine) (q : Q (.int a.length) H) : rLenSQ [.str a] H Q := ⟨a, rfl, h, q⟩
theorem rd_max {i j : Int} (q : Q (.int (if j > i then j else i)) H) : rMaxQ [.int i, .int j] H Q := ⟨i, j, rfl, q⟩
theorem rd_min {i j : Int} (q : Q (.int (if j < i then j else i)) H) : rMinQ [.int i, .int j] H Q := ⟨i, j, rfl, q⟩
theorem rd_str {i : Int} (h : i.natAbs.log2 < 1920) (q : Q (.str (toString i)) H) : rStrQ [.int i] H Q := ⟨i, rfl, h, q⟩
theorem rd_isN (q : Q (.bl (decide (v = .non))) H) : rIsNQ v .non H Q := ⟨rfl, q⟩
theorem rd_notN (q : Q (.bl (!decide (v = .non))) H) : rNotNQ v .non H Q := ⟨rfl, q⟩
theorem rd_rep {l : Addr} {k : Int} {xs : List V} (h : H l = some (.lst xs)) (h0 : 0 ≤ k) (h1 : k ≤ 100000) (hz : xs.length * k.toNat ≤ sizeLine) (q : ∀ p, H p = none → Q (.ref p) (upd H p (.lst (List.replicate k.toNat xs).flatten))) : rRep (.ref l) (.int k) H Q := ⟨l, k, xs, rfl, rfl, h, by omega, by omega, hz, q⟩
theorem rd_fld {ta : TE} {f : Str} {σ : L2.St} (h : ta σ H fun x H1 => ∃ a C dx fs v, x = .ref a ∧ H1 a = some (.ins C dx fs) ∧ Cls K C ∧ NoAttr K C f ∧ fs.lookup f = some v ∧ Q v H1) : tFld K ta f σ H Q := h
end
def tCut (t u : TS) : TS := fun D σ H => ∃ Mid : L2.St → Hp → Prop, t { D with nx := Mid } σ H ∧ ∀ σ' H', Mid σ' H' → u D σ' H'
theorem pss_cut {X : Cx} {st : Stmt} {rest : List Stmt} {t u : TS} (h1 : PS X st t) (h2 : PSs X rest u) : PSs X (st :: rest) (tCut t u) := by
  refine ⟨fun pins s σ H D I h => ?_⟩
  obtain ⟨Mid, hm, hu⟩ := h
  refine wpAny_execs_cons (thn (h1.run pins s σ H { D with nx := Mid } I hm) fun f s1 q => ?_)
  cases f with
  | next =>
    obtain ⟨σ', H', I', q⟩ := q
    exact h2.run pins s1 σ' H' D I' (hu σ' H' q)
  | ret v => exact q
  | brk => exact q
  | cont => exact q
theorem rd_cut {t u : TS} {D : Ends} {σ : L2.St} {H : Hp} (Mid : L2.St → Hp → Prop) (h : t { D with nx := Mid } σ H) (k : ∀ σ' H', Mid σ' H' → u D σ' H') : tCut t u D σ H := ⟨Mid, h, k⟩
end TK
set_option maxRecDepth 100000
set_option maxHeartbeats 4000000
namespace TK
open PySem PySem.W PySem.Calls PyProof.Rows PySem.HandSPX
def supS (msg : Str) (n : Nat) (p1 p2 p3 p4 p5 : Pos) : Stmt := .Expr (.Call (.Attribute (.Call (.Name "super" p1) [] [] p2) "__init__" p3) [.Constant (.str msg) n p4] [] p5) p5
def supE (msg : Str) (n : Nat) (p1 p2 p3 p4 p5 : Pos) : Expr := .Call (.Attribute (.Call (.Name "super" p1) [] [] p2) "__init__" p3) [.Constant (.str msg) n p4] [] p5
def SupEv (msg : Str) (n : Nat) (p1 p2 p3 p4 p5 : Pos) (qual : Str) (scope : Scope) (fI cda cc : Addr) : Prop := ∃ pl : Sem Bool, ∀ L : Addr,
  eval (supE msg n p1 p2 p3 p4 p5) (ksEnv qual scope L fI (.ref cda) cc) = (do
      let ov ← attributeBase (.Call (.Name "super" p1) [] [] p2) "__init__" (ksEnv qual scope L fI (.ref cda) cc) (eval (.Call (.Name "super" p1) [] [] p2) (ksEnv qual scope L fI (.ref cda) cc))
      standAt p3.atName
      let (f, first) ← holding [ov] (getMethod ov "__init__" pl)
      callWith p5 f first (backTo p5 (starEach [.Constant (.str msg) n p4] (ksEnv qual scope L fI (.ref cda) cc))) []) ∧
  swapsWith (supE msg n p1 p2 p3 p4 p5) none p5.line (ksEnv qual scope L fI (.ref cda) cc) = pure false
def fldS (f : Str) (p1 p2 p3 p4 : Pos) : Stmt := .Assign [.Attribute (.Name "self" p1) f p2] (.Name f p3) p4
structure SupTxt (prog : Program) (K : Frag) (mg : Str → Option Value) (x : Str) (C fI cc cda : Addr) : Prop where
  gC : mg x = some (.ref C)
  cls : ∃ nm q N bs bm sn sub ab col dd k0 k1 k2 k3 k5, K.lookup C = some (excClassObj nm q C N bs bm true sn sub ab col dd k0 k1 k2 k3 k5 "ValueError.__new__") ∧ refsVE bm = true
  sa : findIn K (.ref C) "__setattr__" = some (some (.builtin "object.__setattr__"))
  ga : findIn K (.ref C) "__getattribute__" = some (some (.builtin "BaseException.__getattribute__"))
  gg : findIn K (.ref C) "__getattr__" = some none
  iC : findIn K (.ref C) "__init__" = some (some (.ref fI))
  tI : typeIn K (.ref fI) = some (.type "function")
  kC : keepIn K (.ref C) = true
  exC : subIn K (.ref C) (.type "BaseException") = some true
  veC : subIn K (.ref C) (.type "ValueError") = some true
  tyC : typeIn K (.ref C) = some (.type "type")
  hdC : hasDictIn K C = true
  mro : mroIn K C (.ref C) = some true
  sup : ks_superIn K C C "__init__" = some (some (.builtin "ValueError.__init__"))
  opq : nsIn K cStatics "thirdparty.any" = some none
  noS : mg "super" = none
  cell : ∃ cl cld csl, K.lookup cc = some ⟨cl, cld, .cell (some (.ref C)), csl⟩
  code : ∃ ccl cdd vs ccs file tf, K.lookup cda = some ⟨ccl, cdd, .fields vs, ccs⟩ ∧ vs[2]? = some (.str file tf) ∧ ((prog.main.file : Str) == file) = true
  top : (prog.main.scope.names.lookup ("super" : Str)).isSome = false
section
variable {prog : Program} {w : World} {A : Around} {E : Value → Shared → Prop} {h : Heap} {g : Array GenState} {d : Drawn} {t : Nat} {os : OsState}
variable {nm q : Str} {C N : Addr} {bs bm : List Value} {hdct : Bool} {sn : List Str} {sub : List Value} {ab : Bool} {col : Option Bool} {dd : Option Addr} {k0 k1 k2 k3 k5 : Option Value}
theorem call_mw {u e t0 : Addr} {rest : List Value} {Q : Value → Shared → Prop}
    (hC : h.get? C = some (excClassObj nm q C N bs bm hdct sn sub ab col dd k0 k1 k2 k3 k5 "ValueError.__new__")) (he : h.get? e = some (excO C t0)) (hu : h.get? u = some (kxs_mw "ValueError.__init__" e)) (hrest : rest.length ≤ sizeLine)
    (hq : ∀ h' t1, (∀ b o, b ≠ e → h.get? b = some o → h'.get? b = some o) → h'.get? e = some (excO C t1) → Q .none ⟨h', g, d, t, os⟩) :
    wpAny (model prog w) A (call (.ref u) rest) Q E ⟨h, g, d, t, os⟩ := by
  refine wpAny_call (codeAny_of_tree ?_)
  show wpAny _ A.in1 (callAny (.ref u) ⟨rest, []⟩) _ _ _
  simp only [callAny]
  refine wpAny_bind (wpAny_load hu ?_)
  simp only [kxs_mw, show (Value.type "method-wrapper" == Value.type "method" || Value.type "method-wrapper" == Value.type "builtin_function_or_method" || Value.type "method-wrapper" == Value.type "method-wrapper") = true by decide, if_true]
  refine KFB.if_so (by decide) ?_
  refine wpAny_bind (check_bound_init F.excBase_ValueError.toExcCallFacts hC he rfl ?_)
  refine wpAny_bind (wpAny_pure (wpAny_pure ?_))
  refine ⟨plainId_quiet F.excBase_ValueError.init.plain _, codeAny_builtin F.excBase_ValueError.initEntry ?_⟩
  exact exc_init_tree (cls := .ref C) (t0 := t0) (dv := none) (c2 := .none) (c3 := .none) (b4 := .bool false) he hrest fun h' k e' _ => hq h' _ k e'
end
section
variable {prog : Program} {w : World} {A : Around} {E : Value → Shared → Prop} {s : Shared} {K : Frag} {mg : Str → Option Value} {base : Heap} {x : Str} {C fI cc cda : Addr}
theorem sup_stmt (T : SupTxt prog K mg x C fI cc cda) (Mo : L2.Mod K mg base) (kb : ∀ b o, base.get? b = some o → s.heap.get? b = some o)
    {body rest : List Stmt} {qual : Str} {scope : Scope} {L e t0 : Addr} {m : Str → Option Value} {msg : Str} {n : Nat} {p1 p2 p3 p4 p5 : Pos} {fd : FuncData} {ar : Arg} {oc : Value} {od : Option Addr} {osl : Array (Option Value)} {Q : Flow → Shared → Prop}
    (hf : K.lookup fI = some ⟨oc, od, .func fd, osl⟩) (hp : (fd.params.posonlyargs ++ fd.params.args).head? = some ar) (har : ar.arg = "self")
    (hns : s.heap.Ns L m) (hself : m "self" = some (.ref e)) (he : s.heap.get? e = some (excO C t0))
    (hk : scope.kind = .function) (hks : scope.names.lookup ("super" : Str) = some .globalImplicit) (hkc : scope.names.lookup ("__class__" : Str) = some .free) (hka : scope.names.lookup ("self" : Str) = some .local) (hev : SupEv msg n p1 p2 p3 p4 p5 qual scope fI cda cc)
    (h : ∀ h' t1 tk, (∀ b o, b ≠ e → s.heap.get? b = some o → h'.get? b = some o) → h'.get? e = some (excO C t1) →
      wpAny (model prog w) A (execs rest (ksEnv qual scope L fI (.ref cda) cc)) Q E { s with heap := h', toks := tk }) :
    _root_.PySem.wpAt (model prog w) A (.func body (ksEnv qual scope L fI (.ref cda) cc)) (execs (supS msg n p1 p2 p3 p4 p5 :: rest) (ksEnv qual scope L fI (.ref cda) cc)) Q E s := by
  obtain ⟨nm, qq, N, bs, bm, sn, sub, ab, col, dd, k0, k1, k2, k3, k5, hC, hbm⟩ := T.cls
  obtain ⟨cl, cld, csl, hcell⟩ := T.cell
  obtain ⟨ccl, cdd, vs, ccs, file, tf, hcode, hvs, hfile⟩ := T.code
  obtain ⟨mb, b1, b2⟩ := Mo.blt
  have X : K.In s.heap := Mo.kin.keeps kb
  have hcl : clsIn K C = some { name := nm, bases := bs, mro := .ref C :: bm, ns := N, qualname := qq, hasDict := true, slotNames := sn, subclasses := sub, abstract := ab, collection := col, hasDel := false } := by unfold clsIn; rw [hC] <;> rfl
  have hsup := T.sup
  unfold ks_superIn at hsup
  rw [hcl] at hsup
  obtain ⟨hh, g, d, t, os⟩ := s
  unfold supS
  obtain ⟨pl, hev⟩ := hev
  refine ks_wpAt_execs_cons (ks_wpAt_Expr_any (ks_wpAt_MethodCall ?_ (hev L).1) (by simp [interactive, hk]) (hev L).2)
  refine ks_wpAt_super_base (env := ksEnv qual scope L fI (.ref cda) cc) hks hkc (by decide) rfl (X _ _ hf) rfl hp rfl (X _ _ hcode) rfl hvs hfile T.top ?_
  refine ks_loadName_global hk hks (loadGlobal_builtin (env := ksEnv qual scope L fI (.ref cda) cc) (Mo.glob.keeps kb) T.noS (b1.keeps kb) ((b2 "super" (by decide)).trans (by decide +kernel)) ⟨rfl, ?_⟩)
  refine wpAny_loadName_free hk hkc rfl ⟨_, X _ _ hcell, rfl⟩ ?_
  rw [har]
  refine wpAny_loadName_local hk hka hns hself ?_
  refine ks_wpAny_isType_cls (X _ _ hC) rfl ⟨rfl, ?_⟩
  have I : InstAt hh e (excO C t0) C none := ⟨he, rfl, rfl, trivial⟩
  have hne : e ≠ C := ks_ne X I hcl
  refine ks_wpAny_call_super (X _ _ hC) rfl he rfl (fun c z => by cases z) (looks_mroIn X T.mro) (fun h1 e1 kk1 => ?_)
  have X1 : K.In h1 := X.keeps kk1
  have he1 := kk1 _ _ he
  have I1 : InstAt h1 e (excO C t0) C none := ⟨he1, rfl, rfl, trivial⟩
  refine kxs_getMethod kxs_ValueError e1 (looks_opaque X1 T.opq) (l₀ := .ref C :: bm) ?_ rfl X1 hsup (I1.type.andThen (looks_subIn X1 T.veC)) hne (by decide) ?_
  · exact fun A Q E s k q => wpAny_bind ((looks_clsIn X1 hcl) A _ E s k (wpAny_pure q))
  have kk2 : ∀ b o, h1.get? b = some o → (h1.push (kxs_mw "ValueError.__init__" e)).get? b = some o := fun b o z => Heap.get?_push_of_some _ z
  have hu : (h1.push (kxs_mw "ValueError.__init__" e)).get? h1.objs.size = some (kxs_mw "ValueError.__init__" e) := Heap.get?_push_at rfl rfl
  refine kxs_callWith (i := "ValueError.__init__") (x := e) rfl (evalArgs_plain (spliced_cons (Constant_str (x := msg) (k := n) (pos := p4) (spliced_nil ⟨hu, ?_⟩))))
  refine call_mw (X1.keeps kk2 _ _ hC) (kk2 _ _ he1) hu (by rw [sizeLine_eq]; exact (by decide : 1 ≤ 16777216)) fun h' t1 k3 e3 => ?_
  exact wpAt_of_wpAny (h h' t1 _ (fun b o hb z => k3 b o hb (kk2 _ _ (kk1 _ _ z))) e3)
end
def iA1 (f : Str) (p1 p2 : Pos) : Arguments := { posonlyargs := [], args := [{ arg := "self", annotation := none, pos := p1 }, { arg := f, annotation := none, pos := p2 }], vararg := none, kwonlyargs := [], kw_defaults := [], kwarg := none, defaults := [] }
def iS1 (f : Str) : Scope := { kind := .function, names := [(PySem.Str.ofString "self", .local), (f, .local), (PySem.Str.ofString "__class__", .free), (PySem.Str.ofString "super", .globalImplicit)], isGenerator := false, isCoroutine := false, more := [] }
def iA2 (f f2 : Str) (p1 p2 p3 : Pos) : Arguments := { posonlyargs := [], args := [{ arg := "self", annotation := none, pos := p1 }, { arg := f, annotation := none, pos := p2 }, { arg := f2, annotation := none, pos := p3 }], vararg := none, kwonlyargs := [], kw_defaults := [], kwarg := none, defaults := [] }
def iS2 (f f2 : Str) : Scope := { kind := .function, names := [(PySem.Str.ofString "self", .local), (f, .local), (f2, .local), (PySem.Str.ofString "__class__", .free), (PySem.Str.ofString "super", .globalImplicit)], isGenerator := false, isCoroutine := false, more := [] }
def okF (f : Str) : Bool := f != "self" && f != "__class__" && f != "super" && f != "__debug__"
structure Sup1 (prog : Program) (K : Frag) (mg : Str → Option Value) (x f : Str) (C fI cc cda : Addr) : Prop extends SupTxt prog K mg x C fI cc cda where
  no1 : findIn K (.ref C) f = some none
  ok1 : okF f = true
  fn : ∃ (qual : Str) (oc : Value) (od : Option Addr) (doc pm : Value) (an : Option Addr) (ct : Value) (osl : Array (Option Value)) (msg : Str) (n : Nat) (p1 p2 q1 q2 q3 q4 q5 r1 r2 r3 r4 : Pos),
    K.lookup fI = some ⟨oc, od, .func (ksFn "__init__" qual (iA1 f p1 p2) [supS msg n q1 q2 q3 q4 q5, fldS f r1 r2 r3 r4] (iS1 f) .none .none doc pm an (.ref cda) ct cc), osl⟩ ∧ codeIn K (.ref cda) qual = true ∧
    (∀ u v : Value, bindArgs (ksFn "__init__" qual (iA1 f p1 p2) [supS msg n q1 q2 q3 q4 q5, fldS f r1 r2 r3 r4] (iS1 f) .none .none doc pm an (.ref cda) ct cc) ⟨[u, v], []⟩ = pure [(("self" : Str), u), (f, v)]) ∧ SupEv msg n q1 q2 q3 q4 q5 qual (iS1 f) fI cda cc
structure Sup2 (prog : Program) (K : Frag) (mg : Str → Option Value) (x f f2 : Str) (C fI cc cda : Addr) : Prop extends SupTxt prog K mg x C fI cc cda where
  no1 : findIn K (.ref C) f = some none
  no2 : findIn K (.ref C) f2 = some none
  ok1 : okF f = true
  ok2 : okF f2 = true
  ne12 : f ≠ f2
  fn : ∃ (qual : Str) (oc : Value) (od : Option Addr) (doc pm : Value) (an : Option Addr) (ct : Value) (osl : Array (Option Value)) (msg : Str) (n : Nat) (p1 p2 p3 q1 q2 q3 q4 q5 r1 r2 r3 r4 u1 u2 u3 u4 : Pos),
    K.lookup fI = some ⟨oc, od, .func (ksFn "__init__" qual (iA2 f f2 p1 p2 p3) [supS msg n q1 q2 q3 q4 q5, fldS f r1 r2 r3 r4, fldS f2 u1 u2 u3 u4] (iS2 f f2) .none .none doc pm an (.ref cda) ct cc), osl⟩ ∧ codeIn K (.ref cda) qual = true ∧
    (∀ u v v2 : Value, bindArgs (ksFn "__init__" qual (iA2 f f2 p1 p2 p3) [supS msg n q1 q2 q3 q4 q5, fldS f r1 r2 r3 r4, fldS f2 u1 u2 u3 u4] (iS2 f f2) .none .none doc pm an (.ref cda) ct cc) ⟨[u, v, v2], []⟩ = pure [(("self" : Str), u), (f, v), (f2, v2)]) ∧ SupEv msg n q1 q2 q3 q4 q5 qual (iS2 f f2) fI cda cc
structure InitEnd (h h' : Heap) (x C dx : Addr) (m : Str → Option Value) : Prop where
  keep : ∀ b o, b ≠ x → h.get? b = some o → h'.get? b = some o
  obj : ∃ t1 : Addr, h'.get? x = some { cls := .ref C, dict := some dx, data := .fields #[.ref t1, .none, .none, .none, .bool false, .none] }
  dbig : h.objs.size ≤ dx
  dne : dx ≠ x
  ns : h'.Ns1 dx m
structure OwnMade (h h' : Heap) (e C d : Addr) (m : Str → Option Value) : Prop where
  keep : ∀ b o, h.get? b = some o → h'.get? b = some o
  new : h.objs.size ≤ e
  obj : ∃ oe vs, h'.get? e = some oe ∧ oe.cls = .ref C ∧ oe.dict = some d ∧ oe.data = .fields vs ∧ vs[1]? = some .none
  dbig : h.objs.size ≤ d
  dne : d ≠ e
  ns : h'.Ns1 d m
theorem one_size (v : Value) : [v].length ≤ sizeLine := by
  rw [sizeLine_eq]
  exact (by decide : 1 ≤ 16777216)
theorem two_size (v u : Value) : [v, u].length ≤ sizeLine := by
  rw [sizeLine_eq]
  exact (by decide : 2 ≤ 16777216)
theorem ldK {M : Model} {s : Shared} {name : Str} {scope : Scope} {L a : Addr} {cd : Value} {cc : Addr} {m : Str → Option Value} {x : Str} {pos : Pos} {v : Value} {Q : Value → Shared → Prop} {A : Around} {E : Value → Shared → Prop} (hn : s.heap.Ns L m) (hv : m x = some v) (h : Q v s)
    (hk : scope.kind = .function) (hl : scope.names.lookup x = some .local) (hd : (x == ("__debug__" : Str)) = false) :
    wpAny M A (eval (.Name x pos) (ksEnv name scope L a cd cc)) Q E s := wpAny_Name (wpAny_loadName_local hk hl hn hv h) hd
theorem okF_iff {f : Str} (h : okF f = true) : (f == ("self" : Str)) = false ∧ (f == ("__class__" : Str)) = false ∧ (f == ("super" : Str)) = false ∧ (f == ("__debug__" : Str)) = false := by
  unfold okF at h
  simp only [Bool.and_eq_true, bne, Bool.not_eq_true'] at h
  exact ⟨h.1.1.1, h.1.1.2, h.1.2, h.2⟩
theorem sym_f {a b : Str} (h : (a == b) = false) : (b == a) = false := by
  rw [beq_eq_false_iff_ne] at h ⊢
  exact fun z => h z.symm
section
variable {prog : Program} {w : World} {A : Around} {E : Value → Shared → Prop} {R : Result → Shared → Prop} {s : Shared} {K : Frag} {mg : Str → Option Value} {base : Heap} {x f f2 : Str} {C fI cc cda : Addr}
theorem init1 (T : Sup1 prog K mg x f C fI cc cda) (Mo : L2.Mod K mg base) (kb : ∀ b o, base.get? b = some o → s.heap.get? b = some o) {e t0 : Addr} {v : Value} (he : s.heap.get? e = some (excO C t0)) (hbe : base.get? e = none) (hroom : A.depth < recursionLimit)
    (hq : ∀ h' tk dx, InitEnd s.heap h' e C dx (fun y => if y = f then some v else none) → R (.ok (.ret .none)) { s with heap := h', toks := tk }) :
    codeAny (model prog w) A (.call (.ref fI) ⟨[.ref e, v], []⟩) R s := by
  obtain ⟨qual, oc, od, doc, pm, an, ct, osl, msg, n, p1, p2, q1, q2, q3, q4, q5, r1, r2, r3, r4, hfn, hcd, hbd, hev⟩ := T.fn
  obtain ⟨nm, qq, N, bs, bm, sn, sub, ab, col, dd, k0, k1, k2, k3, k5, hC, hbm⟩ := T.cls
  obtain ⟨f1, f3, f4, f5⟩ := okF_iff T.ok1
  have X : K.In s.heap := Mo.kin.keeps kb
  have hcl : clsIn K C = some { name := nm, bases := bs, mro := .ref C :: bm, ns := N, qualname := qq, hasDict := true, slotNames := sn, subclasses := sub, abstract := ab, collection := col, hasDel := false } := by unfold clsIn; rw [hC] <;> rfl
  have g0 : (iS1 f).names.lookup ("self" : Str) = some .local := by simp [iS1, List.lookup]
  have g1 : (iS1 f).names.lookup f = some .local := by
    have z : (f == PySem.Str.ofString "self") = false := f1
    simp [iS1, List.lookup, z]
  have g2 : (iS1 f).names.lookup ("__class__" : Str) = some .free := by
    have z : (PySem.Str.ofString "__class__" == f) = false := sym_f f3
    have z1 : (PySem.Str.ofString "__class__" == PySem.Str.ofString "self") = false := by decide
    simp [iS1, List.lookup, z, z1]
  have g3 : (iS1 f).names.lookup ("super" : Str) = some .globalImplicit := by
    have z : (PySem.Str.ofString "super" == f) = false := sym_f f4
    have z1 : (PySem.Str.ofString "super" == PySem.Str.ofString "self") = false := by decide
    have z2 : (PySem.Str.ofString "super" == PySem.Str.ofString "__class__") = false := by decide
    simp [iS1, List.lookup, z, z1, z2]
  refine ks_codeAny_call_defAt (fd := ksFn "__init__" qual (iA1 f p1 p2) [supS msg n q1 q2 q3 q4 q5, fldS f r1 r2 r3 r4] (iS1 f) .none .none doc pm an (.ref cda) ct cc) (body := _) (binds := [("self", .ref e), (f, v)]) hroom (X _ _ hfn) rfl (Mo.nolimit.keeps kb) (codeRec_of X hcd) rfl (BindsTo.of_eq (hbd _ _)) ?_ ?_ (fun h₀ hns hk₀ => ?_)
  · intro y hy
    simp only [iS1, List.mem_cons, List.not_mem_nil, or_false] at hy
    rcases hy with rfl | rfl | rfl | rfl <;> intro z <;> cases z
  · intro y hy
    rcases List.mem_cons.mp hy with rfl | hy
    · exact g0
    · rcases List.mem_cons.mp hy with rfl | hy
      · exact g1
      · cases hy
  have L0 : s.heap.objs.size ≠ e := Nat.ne_of_gt (Heap.lt_size he)
  have l0 : (fun y => ([(("self" : Str), Value.ref e), (f, v)] : List (Str × Value)).reverse.lookup y) "self" = some (.ref e) := by
    have z : (PySem.Str.ofString "self" == f) = false := sym_f f1
    show ([(f, v), (("self" : Str), Value.ref e)] : List (Str × Value)).lookup ("self" : Str) = _
    simp [List.lookup, z]
  have l1 : (fun y => ([(("self" : Str), Value.ref e), (f, v)] : List (Str × Value)).reverse.lookup y) f = some v := by
    show ([(f, v), (("self" : Str), Value.ref e)] : List (Str × Value)).lookup f = _
    simp [List.lookup]
  refine sup_stmt (s := { s with heap := h₀, toks := s.toks + 2 }) T.toSupTxt Mo (fun b o z => hk₀ b o (kb b o z)) hfn rfl rfl hns l0 (hk₀ _ _ he) rfl g3 g2 g0 hev (fun h1 t1 tk1 kk1 e1 => ?_)
  have hns1 : h1.Ns s.heap.objs.size _ := hns.at fun o z => kk1 _ o L0 z
  unfold fldS
  refine wpAny_execs_cons (plainObj_wpAny_Assign_Attribute ?_)
  refine ldK (v := v) hns1 l1 (ldK (v := .ref e) hns1 l0 ?_ rfl g0 (by decide)) rfl g1 f5
  have X1 : K.In h1 := Mo.kin.keeps fun b o z => kk1 b o (fun y => by rw [y, hbe] at z; cases z) (hk₀ b o (kb b o z))
  refine set_plain X1 (ox := excO C t1) (od := none) ⟨e1, rfl, rfl, trivial⟩ T.sa ?_
  refine exc_osa X1 e1 hcl (show refsVE (.ref C :: bm) = true from hbm) rfl T.no1 (fun h3 tk3 dx kk3 dn dne hx3 hn3 => ?_)
  have z1 : s.heap.objs.size < h1.objs.size := hns1.lt
  refine wpAny_execs_nil (hq h3 tk3 dx ⟨fun b o hb z => kk3 b o hb (kk1 b o hb (hk₀ b o z)), ⟨t1, hx3⟩, Nat.le_of_lt (Nat.lt_of_lt_of_le z1 dn), dne, hn3⟩)
theorem made1 (T : Sup1 prog K mg x f C fI cc cda) (Mo : L2.Mod K mg base) (kb : ∀ b o, base.get? b = some o → s.heap.get? b = some o) {v : Value} (hroom : A.depth + 1 < recursionLimit)
    (hq : ∀ h' tk e d, OwnMade s.heap h' e C d (fun y => if y = f then some v else none) → R (.ok (.ret (.ref e))) { s with heap := h', toks := tk }) :
    codeAny (model prog w) A (.call (.ref C) ⟨[v], []⟩) R s := by
  obtain ⟨nm, q, N, bs, bm, sn, sub, ab, col, dd, k0, k1, k2, k3, k5, hC, hbm⟩ := T.cls
  have X : K.In s.heap := Mo.kin.keeps kb
  obtain ⟨hp, g, dr, tk, os⟩ := s
  have k : ∀ b o, hp.get? b = some o → ((hp.push (kdv_tup [v])).push (excO C hp.objs.size)).get? b = some o := fun b o e => Heap.get?_push_of_some _ (Heap.get?_push_of_some _ e)
  have hget : ((hp.push (kdv_tup [v])).push (excO C hp.objs.size)).get? (hp.objs.size + 1) = some (excO C hp.objs.size) := by heap_get
  have hnx : base.get? (hp.objs.size + 1) = none := by
    cases e : base.get? (hp.objs.size + 1) with
    | none => rfl
    | some o =>
      have z : hp.get? (hp.objs.size + 1) = some o := kb _ _ e
      exact absurd (Nat.lt_of_succ_lt (Heap.lt_size z)) (Nat.lt_irrefl _)
  refine call_own F.excBase_ValueError (fun X => refsVE_contains X bm hbm) (X _ _ hC) (looks_findIn X T.iC) (fun self => bind_fn X self T.tI) (one_size v) ?_
  refine init1 (s := ⟨(hp.push (kdv_tup [v])).push (excO C hp.objs.size), g, dr, tk, os⟩) T Mo (fun b o z => k b o (kb b o z)) hget hnx ?_ fun h' tk' dx ⟨k', ⟨t1, hx⟩, dn, dne, hns⟩ => ?_
  · show A.depth + 1 < recursionLimit
    exact hroom
  · have old : ∀ b o, hp.get? b = some o → h'.get? b = some o := fun b o e => k' b o (Nat.ne_of_lt (Nat.lt_succ_of_lt (Heap.lt_size e))) (k b o e)
    have z : hp.objs.size + 1 + 1 ≤ dx := by
      first
        | (simpa only [Heap.size_push] using dn)
        | exact dn
        | (have q := dn; rw [Heap.size_push, Heap.size_push] at q; exact q)
    exact ⟨rfl, hq h' tk' (hp.objs.size + 1) dx ⟨old, Nat.le_succ _, ⟨_, _, hx, rfl, rfl, rfl, rfl⟩, Nat.le_trans (Nat.le_trans (Nat.le_succ _) (Nat.le_succ _)) z, dne, hns⟩⟩
end
end TK
set_option maxRecDepth 100000
set_option maxHeartbeats 4000000
namespace TK
open PySem PySem.W PySem.Calls PyProof.Rows PySem.HandSPX
section
variable {prog : Program} {w : World} {A : Around} {E : Value → Shared → Prop} {R : Result → Shared → Prop} {s : Shared} {K : Frag} {mg : Str → Option Value} {base : Heap} {x f f2 : Str} {C fI cc cda : Addr}
theorem within1 {f : Str} {v : Value} : Within (fun y => if y = f then some v else none) [f] := fun y hy => by
  by_cases e : y = f
  · rw [e]; exact List.mem_cons_self ..
  · exact absurd (if_neg e) hy
theorem init2 (T : Sup2 prog K mg x f f2 C fI cc cda) (Mo : L2.Mod K mg base) (kb : ∀ b o, base.get? b = some o → s.heap.get? b = some o) {e t0 : Addr} {v v2 : Value} (he : s.heap.get? e = some (excO C t0)) (hbe : base.get? e = none) (hroom : A.depth < recursionLimit)
    (hq : ∀ h' tk dx, InitEnd s.heap h' e C dx (fun y => if y = f2 then some v2 else if y = f then some v else none) → R (.ok (.ret .none)) { s with heap := h', toks := tk }) :
    codeAny (model prog w) A (.call (.ref fI) ⟨[.ref e, v, v2], []⟩) R s := by
  obtain ⟨qual, oc, od, doc, pm, an, ct, osl, msg, n, p1, p2, p3, q1, q2, q3, q4, q5, r1, r2, r3, r4, u1, u2, u3, u4, hfn, hcd, hbd, hev⟩ := T.fn
  obtain ⟨nm, qq, N, bs, bm, sn, sub, ab, col, dd, k0, k1, k2, k3, k5, hC, hbm⟩ := T.cls
  obtain ⟨f1, f3, f4, f5⟩ := okF_iff T.ok1
  obtain ⟨f1', f3', f4', f5'⟩ := okF_iff T.ok2
  have n12 : (f == f2) = false := beq_eq_false_iff_ne.mpr T.ne12
  have n21 : (f2 == f) = false := sym_f n12
  have X : K.In s.heap := Mo.kin.keeps kb
  have hcl : clsIn K C = some { name := nm, bases := bs, mro := .ref C :: bm, ns := N, qualname := qq, hasDict := true, slotNames := sn, subclasses := sub, abstract := ab, collection := col, hasDel := false } := by unfold clsIn; rw [hC] <;> rfl
  have g0 : (iS2 f f2).names.lookup ("self" : Str) = some .local := by simp [iS2, List.lookup]
  have g1 : (iS2 f f2).names.lookup f = some .local := by
    have z : (f == PySem.Str.ofString "self") = false := f1
    simp [iS2, List.lookup, z]
  have g1' : (iS2 f f2).names.lookup f2 = some .local := by
    have z : (f2 == PySem.Str.ofString "self") = false := f1'
    simp [iS2, List.lookup, z, n21]
  have g2 : (iS2 f f2).names.lookup ("__class__" : Str) = some .free := by
    have z : (PySem.Str.ofString "__class__" == f) = false := sym_f f3
    have z' : (PySem.Str.ofString "__class__" == f2) = false := sym_f f3'
    have z1 : (PySem.Str.ofString "__class__" == PySem.Str.ofString "self") = false := by decide
    simp [iS2, List.lookup, z, z', z1]
  have g3 : (iS2 f f2).names.lookup ("super" : Str) = some .globalImplicit := by
    have z : (PySem.Str.ofString "super" == f) = false := sym_f f4
    have z' : (PySem.Str.ofString "super" == f2) = false := sym_f f4'
    have z1 : (PySem.Str.ofString "super" == PySem.Str.ofString "self") = false := by decide
    have z2 : (PySem.Str.ofString "super" == PySem.Str.ofString "__class__") = false := by decide
    simp [iS2, List.lookup, z, z', z1, z2]
  refine ks_codeAny_call_defAt (fd := ksFn "__init__" qual (iA2 f f2 p1 p2 p3) [supS msg n q1 q2 q3 q4 q5, fldS f r1 r2 r3 r4, fldS f2 u1 u2 u3 u4] (iS2 f f2) .none .none doc pm an (.ref cda) ct cc) (body := _) (binds := [("self", .ref e), (f, v), (f2, v2)]) hroom (X _ _ hfn) rfl (Mo.nolimit.keeps kb) (codeRec_of X hcd) rfl (BindsTo.of_eq (hbd _ _ _)) ?_ ?_ (fun h₀ hns hk₀ => ?_)
  · intro y hy
    simp only [iS2, List.mem_cons, List.not_mem_nil, or_false] at hy
    rcases hy with rfl | rfl | rfl | rfl | rfl <;> intro z <;> cases z
  · intro y hy
    rcases List.mem_cons.mp hy with rfl | hy
    · exact g0
    · rcases List.mem_cons.mp hy with rfl | hy
      · exact g1
      · rcases List.mem_cons.mp hy with rfl | hy
        · exact g1'
        · cases hy
  have L0 : s.heap.objs.size ≠ e := Nat.ne_of_gt (Heap.lt_size he)
  have l0 : (fun y => ([(("self" : Str), Value.ref e), (f, v), (f2, v2)] : List (Str × Value)).reverse.lookup y) "self" = some (.ref e) := by
    have z : (PySem.Str.ofString "self" == f) = false := sym_f f1
    have z' : (PySem.Str.ofString "self" == f2) = false := sym_f f1'
    show ([(f2, v2), (f, v), (("self" : Str), Value.ref e)] : List (Str × Value)).lookup ("self" : Str) = _
    simp [List.lookup, z, z']
  have l1 : (fun y => ([(("self" : Str), Value.ref e), (f, v), (f2, v2)] : List (Str × Value)).reverse.lookup y) f = some v := by
    show ([(f2, v2), (f, v), (("self" : Str), Value.ref e)] : List (Str × Value)).lookup f = _
    simp [List.lookup, n12]
  have l2 : (fun y => ([(("self" : Str), Value.ref e), (f, v), (f2, v2)] : List (Str × Value)).reverse.lookup y) f2 = some v2 := by
    show ([(f2, v2), (f, v), (("self" : Str), Value.ref e)] : List (Str × Value)).lookup f2 = _
    simp [List.lookup]
  refine sup_stmt (s := { s with heap := h₀, toks := s.toks + 3 }) T.toSupTxt Mo (fun b o z => hk₀ b o (kb b o z)) hfn rfl rfl hns l0 (hk₀ _ _ he) rfl g3 g2 g0 hev (fun h1 t1 tk1 kk1 e1 => ?_)
  have hns1 : h1.Ns s.heap.objs.size _ := hns.at fun o z => kk1 _ o L0 z
  unfold fldS
  refine wpAny_execs_cons (plainObj_wpAny_Assign_Attribute ?_)
  refine ldK (v := v) hns1 l1 (ldK (v := .ref e) hns1 l0 ?_ rfl g0 (by decide)) rfl g1 f5
  have kb1 : ∀ b o, base.get? b = some o → h1.get? b = some o := fun b o z => kk1 b o (fun y => by rw [y, hbe] at z; cases z) (hk₀ b o (kb b o z))
  have X1 : K.In h1 := Mo.kin.keeps kb1
  refine set_plain X1 (ox := excO C t1) (od := none) ⟨e1, rfl, rfl, trivial⟩ T.sa ?_
  refine exc_osa X1 e1 hcl (show refsVE (.ref C :: bm) = true from hbm) rfl T.no1 (fun h3 tk3 dx kk3 dn dne hx3 hn3 => ?_)
  have z1 : s.heap.objs.size < h1.objs.size := hns1.lt
  have hns3 : h3.Ns s.heap.objs.size _ := hns1.at fun o z => kk3 _ o L0 z
  have kb3 : ∀ b o, base.get? b = some o → h3.get? b = some o := fun b o z => kk3 b o (fun y => by rw [y, hbe] at z; cases z) (kb1 b o z)
  have X3 : K.In h3 := Mo.kin.keeps kb3
  refine wpAny_execs_cons (plainObj_wpAny_Assign_Attribute ?_)
  refine ldK (v := v2) hns3 l2 (ldK (v := .ref e) hns3 l0 ?_ rfl g0 (by decide)) rfl g1' f5'
  obtain ⟨oD, _, _, hoD, _, _⟩ := hn3.count within1
  refine set_plain X3 (ox := { cls := .ref C, dict := some dx, data := .fields #[.ref t1, .none, .none, .none, .bool false, .none] }) (od := some oD) ⟨hx3, rfl, rfl, hoD⟩ T.sa ?_
  refine PySem.OEX.osa_old X3 hx3 hn3 within1 (by simp) hcl (show refsVE (.ref C :: bm) = true from hbm) rfl T.no2 (fun h4 tk4 kk4 hn4 => ?_)
  have dnew : s.heap.objs.size ≤ dx := Nat.le_of_lt (Nat.lt_of_lt_of_le z1 dn)
  refine wpAny_execs_nil (hq h4 tk4 dx ⟨fun b o hb z => kk4 b o (Nat.ne_of_lt (Nat.lt_of_lt_of_le (Heap.lt_size z) dnew)) (kk3 b o hb (kk1 b o hb (hk₀ b o z))), ⟨t1, kk4 _ _ (Ne.symm dne) hx3⟩, dnew, dne, hn4⟩)
theorem made2 (T : Sup2 prog K mg x f f2 C fI cc cda) (Mo : L2.Mod K mg base) (kb : ∀ b o, base.get? b = some o → s.heap.get? b = some o) {v v2 : Value} (hroom : A.depth + 1 < recursionLimit)
    (hq : ∀ h' tk e d, OwnMade s.heap h' e C d (fun y => if y = f2 then some v2 else if y = f then some v else none) → R (.ok (.ret (.ref e))) { s with heap := h', toks := tk }) :
    codeAny (model prog w) A (.call (.ref C) ⟨[v, v2], []⟩) R s := by
  obtain ⟨nm, q, N, bs, bm, sn, sub, ab, col, dd, k0, k1, k2, k3, k5, hC, hbm⟩ := T.cls
  have X : K.In s.heap := Mo.kin.keeps kb
  obtain ⟨hp, g, dr, tk, os⟩ := s
  have k : ∀ b o, hp.get? b = some o → ((hp.push (kdv_tup [v, v2])).push (excO C hp.objs.size)).get? b = some o := fun b o e => Heap.get?_push_of_some _ (Heap.get?_push_of_some _ e)
  have hget : ((hp.push (kdv_tup [v, v2])).push (excO C hp.objs.size)).get? (hp.objs.size + 1) = some (excO C hp.objs.size) := by heap_get
  have hnx : base.get? (hp.objs.size + 1) = none := by
    cases e : base.get? (hp.objs.size + 1) with
    | none => rfl
    | some o =>
      have z : hp.get? (hp.objs.size + 1) = some o := kb _ _ e
      exact absurd (Nat.lt_of_succ_lt (Heap.lt_size z)) (Nat.lt_irrefl _)
  refine call_own F.excBase_ValueError (fun X => refsVE_contains X bm hbm) (X _ _ hC) (looks_findIn X T.iC) (fun self => bind_fn X self T.tI) (two_size v v2) ?_
  refine init2 (s := ⟨(hp.push (kdv_tup [v, v2])).push (excO C hp.objs.size), g, dr, tk, os⟩) T Mo (fun b o z => k b o (kb b o z)) hget hnx ?_ fun h' tk' dx ⟨k', ⟨t1, hx⟩, dn, dne, hns⟩ => ?_
  · show A.depth + 1 < recursionLimit
    exact hroom
  · have old : ∀ b o, hp.get? b = some o → h'.get? b = some o := fun b o e => k' b o (Nat.ne_of_lt (Nat.lt_succ_of_lt (Heap.lt_size e))) (k b o e)
    have z : hp.objs.size + 1 + 1 ≤ dx := by
      first
        | (simpa only [Heap.size_push] using dn)
        | exact dn
        | (have q := dn; rw [Heap.size_push, Heap.size_push] at q; exact q)
    exact ⟨rfl, hq h' tk' (hp.objs.size + 1) dx ⟨old, Nat.le_succ _, ⟨_, _, hx, rfl, rfl, rfl, rfl⟩, Nat.le_trans (Nat.le_trans (Nat.le_succ _) (Nat.le_succ _)) z, dne, hns⟩⟩
end
end TK
namespace TK
open PySem PySem.Spec PyProof.Rows L2
section
variable {X : Cx} {C fI cc cda : Addr} {x f f2 : Str}
theorem mk_sup {pins : List (Addr × Obj)} {σ : L2.St} {H1 : Hp} {Q : XK} {hp h' : Heap} {g : Array GenState} {dr : Drawn} {tk tk' : Nat} {os : OsState} {e d : Addr} {m : Str → Option Value} {fs : List (Str × V)}
    (I1 : Inv X pins σ H1 ⟨hp, g, dr, tk, os⟩) (T : Raises X (.ref C)) (M : OwnMade hp h' e C d m) (rel : ∀ y, RelO (fs.lookup y) (m y)) (q1 : ∀ d, H1 d = none → Q (.ref C) (some d) (upd H1 d (.xd fs))) : MkP X pins σ Q (.ref e) ⟨h', g, dr, tk', os⟩ := by
  obtain ⟨oe, fv, hoe, hc, hd, hdat, h1⟩ := M.obj
  have hns := M.ns
  obtain ⟨G', g1, g2⟩ := restrict h' fun b => decide (b ≠ e)
  have gk : ∀ b, b ≠ e → G'.get? b = h'.get? b := fun b hb => g1 b (decide_eq_true hb)
  have ge : G'.get? e = none := g2 e (by simp)
  have old : ∀ b o, hp.get? b = some o → G'.get? b = some o := fun b o q => (gk b (Nat.ne_of_lt (Nat.lt_of_lt_of_le (Heap.lt_size q) M.new))).trans (M.keep b o q)
  have ob : ObjOk X.prog X.w (upd H1 d (.xd fs)) G' d (.xd fs) := ⟨_, hns.at (fun o q => (gk d M.dne).trans q), rel⟩
  have J : Inv X pins σ (upd H1 d (.xd fs)) ⟨G', g, dr, tk', os⟩ := I1.laid (t' := tk') old M.dbig ob
  refine ⟨e, oe, fv, ⟨G', g, dr, tk', os⟩, _, .ref C, some d, rfl, J, fun b o q => ?_, ge, hoe, ⟨hc, hd⟩, hdat, h1, ?_, rfl, I1.bare, T, q1 d (I1.hok.fresh M.dbig)⟩
  · by_cases hb : b = e
    · have q' : G'.get? b = some o := q
      rw [hb, ge] at q'; cases q'
    · exact (gk b hb).symm.trans q
  · rw [upd_ne (Ne.symm M.dne)]
    exact I1.hok.fresh M.new
def tMk1 (C : Addr) (f : Str) (ta : TA) : L2.St → Hp → XK → Prop := fun σ H Q => ta σ H fun vs H1 => ∃ v, vs = [v] ∧ ∀ d, H1 d = none → Q (.ref C) (some d) (upd H1 d (.xd [(f, v)]))
def tMk2 (C : Addr) (f f2 : Str) (ta : TA) : L2.St → Hp → XK → Prop := fun σ H Q => ta σ H fun vs H1 => ∃ v v2, vs = [v, v2] ∧ ∀ d, H1 d = none → Q (.ref C) (some d) (upd H1 d (.xd [(f2, v2), (f, v)]))
theorem pmk_sup1 {a : Expr} {ta : TA} {p pos : Pos} {k : Nat} (T : Sup1 X.prog X.K X.mg x f C fI cc cda) (hr : Room k X.A) (ha : PA X [a] ta) (hg : Gl X x)
    (he : starEach (a :: []) X.env = (false, eval a X.env) :: starEach [] X.env := by rfl) (hpl : (backTo pos (starEach [] X.env)).any (·.1) = false := by rfl) (hdb : (x == ("__debug__" : Str)) = false := by decide) :
    PMk X (.Call (.Name x p) [a] [] pos) (tMk1 C f ta) := by
  intro pins s σ H Q I h
  refine wpAny_Call_Name_kw (ld_glob I hg T.gC ?_ hdb)
  refine PySem.W.callWith_K (h₀ := X.base) I.ok.mod.kin T.kC (thn (ha.run pos pins s σ H _ I h) fun us s1 hh => ?_) he hpl
  obtain ⟨vs, H1, I1, r1, v, ev, q1⟩ := hh
  subst ev
  refine ⟨I1.kIn, ?_⟩
  cases r1 with
  | cons rv rn =>
    rename_i v' us'
    cases rn
    show wpAny _ _ (call (.ref C) [v']) _ _ _
    have bk := I1.bk
    obtain ⟨hp, g, dr, tk, os⟩ := s1
    refine wpAny_call (made1 T I1.ok.mod bk (by have := hr.dp; omega) fun h' tk' e d M => ?_)
    exact mk_sup I1 (raises_own T.exC T.tyC) M (fun y => relO_put (fs := []) (mA := fun _ => none) rv (fun _ => True.intro) y) q1
theorem pmk_sup2 {a b : Expr} {ta : TA} {p pos : Pos} {k : Nat} (T : Sup2 X.prog X.K X.mg x f f2 C fI cc cda) (hr : Room k X.A) (ha : PA X [a, b] ta) (hg : Gl X x)
    (he : starEach (a :: [b]) X.env = (false, eval a X.env) :: starEach [b] X.env := by rfl) (hpl : (backTo pos (starEach [b] X.env)).any (·.1) = false := by rfl) (hdb : (x == ("__debug__" : Str)) = false := by decide) :
    PMk X (.Call (.Name x p) [a, b] [] pos) (tMk2 C f f2 ta) := by
  intro pins s σ H Q I h
  refine wpAny_Call_Name_kw (ld_glob I hg T.gC ?_ hdb)
  refine PySem.W.callWith_K (h₀ := X.base) I.ok.mod.kin T.kC (thn (ha.run pos pins s σ H _ I h) fun us s1 hh => ?_) he hpl
  obtain ⟨vs, H1, I1, r1, v, v2, ev, q1⟩ := hh
  subst ev
  refine ⟨I1.kIn, ?_⟩
  cases r1 with
  | cons rv rn =>
    rename_i v' us'
    cases rn with
    | cons rv2 rn =>
      rename_i v2' us2'
      cases rn
      show wpAny _ _ (call (.ref C) [v', v2']) _ _ _
      have bk := I1.bk
      obtain ⟨hp, g, dr, tk, os⟩ := s1
      refine wpAny_call (made2 T I1.ok.mod bk (by have := hr.dp; omega) fun h' tk' e d M => ?_)
      exact mk_sup I1 (raises_own T.exC T.tyC) M (fun y => relO_put (fs := [(f, v)]) rv2 (fun z => relO_put (fs := []) (mA := fun _ => none) rv (fun _ => True.intro) z) y) q1
structure IsC (K : PySem.W.Frag) (D : Addr) : Prop where
  hg : PySem.W.findIn K (.ref D) "__getattribute__" = some (some (.builtin "BaseException.__getattribute__"))
  hk : PySem.W.findIn K (.ref D) "__getattr__" = some none
  hs : PySem.W.subIn K (.ref D) (.type "BaseException") = some true
  hc : (PySem.W.clsIn K D).isSome = true
  ha : PySem.W.findIn K (.ref D) "__class__" = some (some (.builtin "object.__class__"))
  hn : PySem.W.specialIn K (.builtin "object.__class__") "__get__" = some (some (.builtin "getset_descriptor.__get__"))
  ht : PySem.W.takesIn K (.builtin "object.__class__") = some true
  hm : PySem.W.mroIn K D (.type "object") = some true
theorem rd_mk1 {σ : L2.St} {H : Hp} {Q : XK} {ta : TA} (h : ta σ H fun vs H1 => ∃ v, vs = [v] ∧ ∀ d, H1 d = none → Q (.ref C) (some d) (upd H1 d (.xd [(f, v)]))) : tMk1 C f ta σ H Q := h
theorem rd_mk2 {σ : L2.St} {H : Hp} {Q : XK} {ta : TA} (h : ta σ H fun vs H1 => ∃ v v2, vs = [v, v2] ∧ ∀ d, H1 d = none → Q (.ref C) (some d) (upd H1 d (.xd [(f2, v2), (f, v)]))) : tMk2 C f f2 ta σ H Q := h
def rIsX (K : PySem.W.Frag) (a : Addr) (cls : Value) (d : Option Addr) : List V → Hp → VK → Prop := fun xs H Q => ∃ (D : Addr) (c : V) (cv : Value) (b : Bool) (dd : Addr) (fs : List (Str × V)), xs = [.ref a, c] ∧ cls = .ref D ∧ IsC K D ∧ ClsV c cv ∧ PySem.W.kitOne K (.ref D) cv = some b ∧ d = some dd ∧ H dd = some (.xd fs) ∧ Q (.bl b) H
theorem rd_isX {K : PySem.W.Frag} {a D : Addr} {dd : Addr} {c : V} {cv : Value} {b : Bool} {fs : List (Str × V)} {H : Hp} {Q : VK} (i : IsC K D) (k : ClsV c cv) (e : PySem.W.kitOne K (.ref D) cv = some b) (hd : H dd = some (.xd fs)) (q : Q (.bl b) H) : rIsX K a (.ref D) (some dd) [.ref a, c] H Q :=
  ⟨D, c, cv, b, dd, fs, rfl, rfl, i, k, e, rfl, hd, q⟩
theorem rd_xf {a C dd : Addr} {f : Str} {te : TE} {fs : List (Str × V)} {v : V} {σ : L2.St} {H : Hp} {Q : VK} (he : ∀ R : VK, R (.ref a) H → te σ H R) (hd : H dd = some (.xd fs)) (hl : fs.lookup f = some v) (q : Q v H) : tXf a (.ref C) (some dd) C f te σ H Q :=
  he _ ⟨rfl, rfl, dd, fs, v, rfl, hd, hl, q⟩
theorem call_isX {a : Addr} {cls : Value} {d : Option Addr} {oe : Obj} {pn : List (Addr × Obj)} (hz : Zc cls d oe) (hf : ∃ vs, oe.data = .fields vs) : CallR (X.suite a ((a, oe) :: pn)) (.builtin "isinstance") (rIsX X.K a cls d) := by
  intro pins s σ H xs us Q I r h
  obtain ⟨D, c, cv, b, dd, fs, rfl, rfl, C, kc, e, rfl, hdd, q⟩ := h
  obtain ⟨u1, u2, rfl, r1, r2⟩ := vals2 r
  obtain rfl : u1 = Value.ref a := r1
  have e2 := kc.eq r2
  subst e2
  obtain ⟨hget, _⟩ := I.pin (a, oe) (List.mem_append.mpr (.inl List.mem_cons_self))
  obtain ⟨vs, hv⟩ := hf
  have hx : ObjOk X.prog X.w H s.heap dd (.xd fs) := I.hok dd _ hdd
  obtain ⟨mA, hns, hr⟩ := hx
  obtain ⟨od, ho, hl⟩ := lookIn_ns hns
  have J : PySem.W.InstAt s.heap a oe D (some od) := ⟨hget, hz.1, by unfold PySem.W.notCls; rw [hv] <;> rfl, by rw [hz.2]; exact ho⟩
  exact PySem.W.kia_one (PySem.W.kitx_exc C.hc C.hg C.hk C.hs C.ha C.hn C.ht C.hm) I.kIn J e (fun z => nomatch z) fun tk => ⟨.bl b, H, I.tok tk, rfl, q⟩
theorem tyOf_ex {K : PySem.W.Frag} {H H' : Hp} {v : V} {t : Value} (e : Evl.Ex H H') (h : TyOf K H v t) : TyOf K H' v t := by
  cases h with
  | non => exact .non
  | bl y => exact .bl y
  | int i => exact .int i
  | str y => exact .str y
  | flt y => exact .flt y
  | lst ea => exact .lst (e _ _ ea)
  | frz ea => exact .frz (e _ _ ea)
  | tup ea => exact .tup (e _ _ ea)
  | dK ea => exact .dK (e _ _ ea)
  | dT ea => exact .dT (e _ _ ea)
  | ins ea cl ha hn htk hm => exact .ins (e _ _ ea) cl ha hn htk hm
theorem tyX_ex {K : PySem.W.Frag} {H H' : Hp} {v : V} {t : Value} (e : Evl.Ex H H') (h : TyX K H v t) : TyX K H' v t := by
  cases h with
  | base h => exact .base (tyOf_ex e h)
  | byt b => exact .byt b
  | set ea => exact .set (e _ _ ea)
  | kList a b => exact .kList a b
  | kTuple a b => exact .kTuple a b
  | kDict a b => exact .kDict a b
  | fTuple ea => exact .fTuple (e _ _ ea)
  | fDict ea => exact .fDict (e _ _ ea)
theorem rd_callS {sp : Sp} {E : L2.St → XK} {ta : TA} {σ : L2.St} {H : Hp} {Q : VK} (h : ta σ H fun vs H1 => sp vs H1 Q (E σ)) : tCallS sp E ta σ H Q := h
end
end TK
set_option maxRecDepth 100000
set_option maxHeartbeats 4000000
namespace TK
open PySem L2
def top (i : Nat) : Stmt := PySem.Challenge.pw_takenahead_k58_turned_lists.main.body.getD i (.Pass ⟨0, 0, 0, 0⟩)
abbrev s_is_integer : Stmt := top 5
abbrev N_is_integer : List Str := ["value"]
theorem sc_is_integer : FnScope N_is_integer ["value"] (defScope s_is_integer) := ⟨rfl, rfl, rfl, by decide +kernel, rfl, by decide +kernel, by decide +kernel⟩
abbrev s_turned : Stmt := top 8
abbrev N_turned : List Str := ["before", "around", "after", "times", "first", "inside", "last", "pair"]
theorem sc_turned : FnScope N_turned ["before", "around", "after", "times"] (defScope s_turned) := ⟨rfl, rfl, rfl, by decide +kernel, rfl, by decide +kernel, by decide +kernel⟩
abbrev s_l_box : Stmt := top 10
abbrev N_l_box : List Str := ["_law_script", "_law_k", "_law_cell"]
theorem sc_l_box : FnScope N_l_box ["_law_script", "_law_k"] (defScope s_l_box) := ⟨rfl, rfl, rfl, by decide +kernel, rfl, by decide +kernel, by decide +kernel⟩
abbrev s_l_pick : Stmt := top 11
abbrev N_l_pick : List Str := ["_law_box_here", "_law_size", "_law_digit", "_law_number"]
theorem sc_l_pick : FnScope N_l_pick ["_law_box_here", "_law_size"] (defScope s_l_pick) := ⟨rfl, rfl, rfl, by decide +kernel, rfl, by decide +kernel, by decide +kernel⟩
abbrev s_l_marked : Stmt := top 12
abbrev N_l_marked : List Str := ["_law_box_here", "_law_rows", "_law_k", "_law_step"]
theorem sc_l_marked : FnScope N_l_marked ["_law_box_here"] (defScope s_l_marked) := ⟨rfl, rfl, rfl, by decide +kernel, rfl, by decide +kernel, by decide +kernel⟩
abbrev s_l_refused : Stmt := top 13
abbrev N_l_refused : List Str := ["_law_roads", "_law_times", "_law_found", "e"]
theorem sc_l_refused : FnScope N_l_refused ["_law_roads", "_law_times"] (defScope s_l_refused) := ⟨rfl, rfl, rfl, by decide +kernel, rfl, by decide +kernel, by decide +kernel⟩
abbrev s_law : Stmt := top 14
abbrev N_law : List Str := ["_law_script", "_law_box_here", "_law_times", "_law_far", "_law_wrong", "_law_roads", "_law_kept", "_law_told", "_law_due", "_law_turn", "_law_k", "_law_road", "_law_pair"]
theorem sc_law : FnScope N_law ["_law_script"] (defScope s_law) := ⟨rfl, rfl, rfl, by decide +kernel, rfl, by decide +kernel, by decide +kernel⟩
abbrev PR : Program := PySem.Challenge.pw_takenahead_k58_turned_lists
structure Tx (w : World) (K : PySem.W.Frag) (mg : Str → Option Value) where
  n_bool : mg "bool" = none
  n_int : mg "int" = none
  n_isinstance : mg "isinstance" = none
  n_len : mg "len" = none
  n_list : mg "list" = none
  n_range : mg "range" = none
  n_ValueError : mg "ValueError" = none
  t_MOST_TIMES : Tok
  c_MOST_TIMES : mg "MOST_TIMES" = some (.int 100 t_MOST_TIMES)
  C_TakeError : Addr
  g_TakeError : mg "TakeError" = some (.ref C_TakeError)
  C_NoMeasure : Addr
  g_NoMeasure : mg "NoMeasure" = some (.ref C_NoMeasure)
  C_BadTimes : Addr
  g_BadTimes : mg "BadTimes" = some (.ref C_BadTimes)
  fI_BadTimes : Addr
  cc_BadTimes : Addr
  cda_BadTimes : Addr
  e_BadTimes : Sup1 PR K mg "BadTimes" "times" C_BadTimes fI_BadTimes cc_BadTimes cda_BadTimes
  i_BadTimes : IsC K C_BadTimes
  x_BadTimes : XfC K C_BadTimes
  q_BadTimes_TakeError : PySem.W.kitOne K (.ref C_BadTimes) (.ref C_TakeError) = some true
  q_BadTimes_ValueError : PySem.W.kitOne K (.ref C_BadTimes) (.type "ValueError") = some true
  q_BadTimes_NoMeasure : PySem.W.kitOne K (.ref C_BadTimes) (.ref C_NoMeasure) = some false
  m_BadTimes_BadTimes : PySem.W.exmOne K (.ref C_BadTimes) (.ref C_BadTimes) = some true
  a_is_integer : Addr
  fd_is_integer : FuncData
  F_is_integer : Fun K "is_integer" "is_integer" s_is_integer a_is_integer fd_is_integer
  g_is_integer : mg "is_integer" = some (.ref a_is_integer)
  k_is_integer : PySem.W.keepIn K (.ref a_is_integer) = true
  b_is_integer : Binds K fd_is_integer ["value"] []
  a_turned : Addr
  fd_turned : FuncData
  F_turned : Fun K "turned" "turned" s_turned a_turned fd_turned
  g_turned : mg "turned" = some (.ref a_turned)
  k_turned : PySem.W.keepIn K (.ref a_turned) = true
  b_turned : Binds K fd_turned ["before", "around", "after", "times"] []
  a_l_box : Addr
  fd_l_box : FuncData
  F_l_box : Fun K "_law_box" "_law_box" s_l_box a_l_box fd_l_box
  g_l_box : mg "_law_box" = some (.ref a_l_box)
  k_l_box : PySem.W.keepIn K (.ref a_l_box) = true
  b_l_box : Binds K fd_l_box ["_law_script", "_law_k"] []
  a_l_pick : Addr
  fd_l_pick : FuncData
  F_l_pick : Fun K "_law_pick" "_law_pick" s_l_pick a_l_pick fd_l_pick
  g_l_pick : mg "_law_pick" = some (.ref a_l_pick)
  k_l_pick : PySem.W.keepIn K (.ref a_l_pick) = true
  b_l_pick : Binds K fd_l_pick ["_law_box_here", "_law_size"] []
  a_l_marked : Addr
  fd_l_marked : FuncData
  F_l_marked : Fun K "_law_marked" "_law_marked" s_l_marked a_l_marked fd_l_marked
  g_l_marked : mg "_law_marked" = some (.ref a_l_marked)
  k_l_marked : PySem.W.keepIn K (.ref a_l_marked) = true
  b_l_marked : Binds K fd_l_marked ["_law_box_here"] []
  a_l_refused : Addr
  fd_l_refused : FuncData
  F_l_refused : Fun K "_law_refused" "_law_refused" s_l_refused a_l_refused fd_l_refused
  g_l_refused : mg "_law_refused" = some (.ref a_l_refused)
  k_l_refused : PySem.W.keepIn K (.ref a_l_refused) = true
  b_l_refused : Binds K fd_l_refused ["_law_roads", "_law_times"] []
  a_law : Addr
  fd_law : FuncData
  F_law : Fun K "law" "law" s_law a_law fd_law
  g_law : mg "law" = some (.ref a_law)
  k_law : PySem.W.keepIn K (.ref a_law) = true
  b_law : Binds K fd_law ["_law_script"] []
local macro_rules | `(tactic| walk_at "rd1") => `(tactic| first
  | with_reducible refine rd_seq ?_ | with_reducible refine rd_asg ?_ | with_reducible refine rd_name ?_ | ((with_reducible apply rd_var); rfl) | with_reducible refine rd_c ?_ | with_reducible refine rd_op ?_ | with_reducible refine rd_un ?_
  | with_reducible refine rd_I0 ?_ | with_reducible refine rd_U ?_ | ((with_reducible apply rd_eq); rfl) | ((with_reducible apply rd_ne); rfl) | with_reducible refine rd_ret ?_ | with_reducible refine rd_drop ?_ | with_reducible refine rd_ifS ?_ | with_reducible refine rd_test ?_ | with_reducible refine rd_B ?_
  | with_reducible refine rd_bl ?_ | with_reducible refine rd_not ?_ | with_reducible refine rd_and ?_ | with_reducible refine rd_or ?_ | with_reducible refine rd_andV ?_ | with_reducible refine rd_orV ?_ | with_reducible refine rd_notV ?_ | with_reducible refine rd_if ?_
  | with_reducible refine rd_nil ?_ | with_reducible refine rd_cons ?_ | with_reducible refine rd_tup ?_ | with_reducible refine rd_lst ?_ | with_reducible refine rd_cb ?_ | with_reducible refine rd_call ?_ | with_reducible refine rd_bm ?_ | with_reducible refine rd_bm0 ?_ | with_reducible refine rd_sub ?_
  | ((with_reducible apply rd_aug); rfl) | with_reducible refine rd_ipI ?_ | with_reducible refine rd_gcons ?_ | with_reducible refine rd_gnil ?_ | with_reducible refine rd_forR1 ?_ | with_reducible refine rd_forR2 ?_ | with_reducible refine rd_forL ?_ | with_reducible refine rd_forT ?_ | with_reducible refine rd_nx ?_ | with_reducible refine rd_brk ?_ | with_reducible refine rd_ct ?_)
local macro_rules | `(tactic| walk_at "sc") => `(tactic| first
  | decide | (refine Or.inl ⟨?_, ?_⟩ <;> (first | decide | omega)) | (refine Or.inr ⟨?_, ?_⟩ <;> (first | decide | omega)) | (refine And.intro ?_ ?_ <;> (first | decide | omega)) | (refine And.intro ?_ (And.intro ?_ ?_) <;> (first | decide | omega)) | omega | assumption)
local macro_rules | `(tactic| walk_at "rd2") => `(tactic| first
  | walk_at "rd1" | ((with_reducible apply rd_I); (focus walk_at "sc")) | ((with_reducible apply rd_ixL); (focus walk_at "sl"); (focus first | rfl | assumption)) | with_reducible refine rd_int ?_ | with_reducible refine rd_int1 ?_ | ((with_reducible apply rd_len); (focus walk_at "sl"))
  | ((with_reducible apply rd_lenQ); (focus walk_at "sl")) | with_reducible refine rd_intQ ?_ | with_reducible refine rd_intB ?_ | with_reducible refine rd_max ?_ | with_reducible refine rd_min ?_ | with_reducible refine rd_isN ?_ | with_reducible refine rd_notN ?_
  | ((with_reducible apply rd_setL); (focus walk_at "hp"); (focus rfl)) | (((with_reducible apply And.intro); apply ty_list); (focus walk_at "sl")))
local macro_rules | `(tactic| walk_at "rdd") => `(tactic| ((try dsimp only [cxK0, cxK1, cxW1]); repeat walk_at "rd2"))
local macro_rules | `(tactic| walk_at "rdc") => `(tactic| repeat walk_at "rd2")
local macro_rules | `(tactic| walk_at "rd") => `(tactic| repeat walk_at "rd1")
local macro_rules | `(tactic| walk_at "hp") => `(tactic| first
  | assumption | exact upd_same | (apply get_new <;> walk_at "hp") | (apply get_ne; (focus first | assumption | (apply Ne.symm; assumption)); walk_at "hp"))
local macro_rules | `(tactic| walk_at "sl") => `(tactic| first
  | assumption | (apply SqL.of; walk_at "hp") | (apply sl_new; (focus walk_at "sl"); assumption))
local macro_rules | `(tactic| walk_at "xt") => `(tactic| first
  | exact ExT.refl _ | assumption | (apply xt_new; (focus walk_at "hp"); walk_at "xt") | (apply xt_lst; (focus walk_at "hp"); walk_at "xt"))
local macro_rules | `(tactic| walk_at "fr") => `(tactic| first
  | exact Fr1.refl _ | assumption | (apply Fr1.at; walk_at "fr") | (apply Fr1.new; (focus assumption); walk_at "fr") | (apply Fr1.own; (focus assumption); walk_at "fr"))
local macro_rules | `(tactic| walk_at "ex") => `(tactic| first
  | exact Evl.Ex.refl _ | assumption | (apply ex_mut; (focus assumption); walk_at "ex") | (apply ex_new; (focus assumption); walk_at "ex"))
structure Bx where
  a : Int
  b : Int
  c : Int
def bxL (x : Bx) : List V := [.int x.a, .int x.b, .int x.c]
def mkBx (c k : Int) : Bx := if 10 ^ 18 ≤ c then ⟨c - 10 ^ 18, c % 2147483629 + k, 0⟩ else ⟨0, c % 2147483629 + 104729 * k, 0⟩
def cellI (ns : List Int) (k : Nat) : Int := ns.getD k 0
def rnd (b c : Int) : Int :=
  let n0 := (b + 7919 * c + 1) * 48271 % 2147483647
  let n1 := n0 * (n0 / 1009 + 69621) % 2147483647
  let n2 := n1 * (n1 / 2003 + 40692) % 2147483399
  n2 / 16
def pkV (x : Bx) (n : Int) : Int := if 0 < x.a then x.a % n else rnd x.b (x.c + 1) % n
def pkB (x : Bx) (n : Int) : Bx := if 0 < x.a then { x with a := x.a / n } else { x with c := x.c + 1 }
theorem pkV_lo {x : Bx} {n : Int} (h : 0 < n) : 0 ≤ pkV x n := by
  unfold pkV
  split <;> exact Int.emod_nonneg _ (by omega)
theorem pkV_hi {x : Bx} {n : Int} (h : 0 < n) : pkV x n < n := by
  unfold pkV
  split <;> exact Int.emod_lt_of_pos _ h
def sp_box (K : PySem.W.Frag) : Sp := fun vs H Q _ => ∃ (a : Addr) (ns : List Int) (k : Nat), vs = [.ref a, .int (k : Nat)] ∧ SqL K H a (ns.map V.int) ∧
  ∀ p, H p = none → Q (.ref p) (upd H p (.lst (bxL (mkBx (cellI ns k) k))))
def sp_pick : Sp := fun vs H Q _ => ∃ (p : Addr) (x : Bx) (n : Int), vs = [.ref p, .int n] ∧ H p = some (.lst (bxL x)) ∧ 0 < n ∧ n.natAbs.log2 < 9000 ∧
  Q (.int (pkV x n)) (upd H p (.lst (bxL (pkB x n))))
section
variable {w : World} {K : PySem.W.Frag} {mg : Str → Option Value} {base : Heap}
theorem atI_cell {ns : List Int} {k : Nat} (h : k < ns.length) : atI (ns.map V.int) (k : Int) = some (V.int (cellI ns k)) := by
  refine atI_nat ?_
  rw [List.getElem?_map, List.getElem?_eq_getElem h]
  simp [cellI, h]
theorem cell_out {ns : List Int} {k : Nat} (h : ¬ k < ns.length) : cellI ns k = 0 := by
  unfold cellI
  rw [List.getD_eq_getElem?_getD, List.getElem?_eq_none (by omega)]
  rfl
theorem bx_hi {c k : Int} (h : 10 ^ 18 ≤ c) : bxL (mkBx c k) = [.int (c - 10 ^ 18), .int (c % 2147483629 + k), .int 0] := by
  unfold mkBx
  rw [if_pos h]
  rfl
theorem bx_lo {c k : Int} (h : ¬ 10 ^ 18 ≤ c) : bxL (mkBx c k) = [.int 0, .int (c % 2147483629 + 104729 * k), .int 0] := by
  unfold mkBx
  rw [if_neg h]
  rfl
theorem rd_pick {p : Addr} {x : Bx} {n : Int} {H : Hp} {Q : VK} {E : XK} (hp : H p = some (.lst (bxL x))) (hn : 0 < n) (h2 : n.natAbs < 2 ^ 300) (q : ∀ r x', 0 ≤ r → r < n → Q (.int r) (upd H p (.lst (bxL x')))) : sp_pick ([.ref p, .int n] ++ []) H Q E :=
  ⟨p, x, n, rfl, hp, hn, lg h2, q _ _ (pkV_lo hn) (pkV_hi hn)⟩
theorem rd_box {K : PySem.W.Frag} {a : Addr} {ns : List Int} {k : Nat} {H : Hp} {Q : VK} {E : XK} (hS : SqL K H a (ns.map V.int)) (q : ∀ p x, H p = none → Q (.ref p) (upd H p (.lst (bxL x)))) : sp_box K ([.ref a, .int (k : Nat)] ++ []) H Q E :=
  ⟨a, ns, k, rfl, hS, fun p h => q p _ h⟩
theorem ok_l_box (T : Tx w K mg) : FnOk PR w K mg base CX0 1 T.a_l_box T.fd_l_box ["_law_script", "_law_k"] (sp_box K) := by
  refine T.F_l_box.ok sc_l_box (fun vs H Q E h => ?_) (fun cdv A outer s H vs Q E hr h => ?_)
  · obtain ⟨a, ns, k, rfl, _⟩ := h
    rfl
  · obtain ⟨a, ns, k, rfl, hS, q⟩ := h
    refine ⟨_, (pss_cons (ps_set (i := 2) sc_l_box.nd rfl (Or.inl rfl) pe_int)
  (pss_cons (ps_if (pt_cmpR op_lt (pv 1) (pe_callB (k_len (K := K) rfl) (by rfl) T.n_len PySem.boot_len (pa_cons (pv 0) pa_nil)) (nomark _))
  (pss_one (ps_set (i := 2) sc_l_box.nd rfl (Or.inl rfl) (pe_callTy k_int (by rfl) T.n_int (by decide +kernel) (pa_cons (pe_ix (k_ixL (K := K) rfl) (pv 0) (pv 1) (fun _ _ => rfl)) pa_nil))))
  pss_nil)
  (pss_cons (ps_if (pt_cmpR op_ge (pv 2) (pe_op op_pow pe_int pe_int) (nomark _))
  (pss_one (ps_ret (pe_lst (pa_cons (pe_op op_sub (pv 2) (pe_op op_pow pe_int pe_int)) (pa_cons (pe_op op_add (pe_op op_mod (pe_callTy k_int (by rfl) T.n_int (by decide +kernel) (pa_cons (pv 2) pa_nil)) pe_int) (pv 1)) (pa_cons pe_int pa_nil))))))
  pss_nil)
  (pss_one (ps_ret (pe_lst (pa_cons pe_int (pa_cons (pe_op op_add (pe_op op_mod (pe_callTy k_int (by rfl) T.n_int (by decide +kernel) (pa_cons (pv 2) pa_nil)) pe_int) (pe_op op_mul pe_int (pv 1))) (pa_cons pe_int pa_nil))))))))), ?_⟩
    walk_at "rdd"
    rw [List.length_map]
    refine if_d (fun c => ?_) (fun c => ?_)
    · have hk : k < ns.length := by omega
      walk_at "rdc"
      refine rd_ixL hS (atI_cell hk) ?_
      walk_at "rdc"
      refine if_d (fun d => ?_) (fun d => ?_)
      · walk_at "rdc"
        refine ⟨by show 3 ≤ sizeLine; decide, fun p hp => ?_⟩
        have q' := q p hp
        rw [bx_hi d] at q'
        exact q'
      · walk_at "rdc"
        refine ⟨by show 3 ≤ sizeLine; decide, fun p hp => ?_⟩
        have q' := q p hp
        rw [bx_lo d] at q'
        exact q'
    · walk_at "rdc"
      refine if_d (fun d => absurd d (by decide)) (fun d => ?_)
      walk_at "rdc"
      refine ⟨by show 3 ≤ sizeLine; decide, fun p hp => ?_⟩
      have q' := q p hp
      rw [cell_out (by omega : ¬ k < ns.length), bx_lo (by decide)] at q'
      exact q'
theorem ok_l_pick (T : Tx w K mg) : FnOk PR w K mg base CX0 1 T.a_l_pick T.fd_l_pick ["_law_box_here", "_law_size"] sp_pick := by
  refine T.F_l_pick.ok sc_l_pick (fun vs H Q E h => ?_) (fun cdv A outer s H vs Q E hr h => ?_)
  · obtain ⟨p, x, n, rfl, _⟩ := h
    rfl
  · obtain ⟨p, x, n, rfl, hp, hn, hn2, q⟩ := h
    refine ⟨_, (pss_cons (ps_if (pt_cmpR op_gt (pe_ix (k_ixL (K := K) rfl) (pv 0) pe_int (fun _ _ => rfl)) pe_int (nomark _))
  (pss_cons (ps_set (i := 2) sc_l_pick.nd rfl (Or.inl rfl) (pe_op op_mod (pe_callTy k_int (by rfl) T.n_int (by decide +kernel) (pa_cons (pe_ix (k_ixL (K := K) rfl) (pv 0) pe_int (fun _ _ => rfl)) pa_nil)) (pv 1)))
  (pss_cons (ps_asg (pe_op op_fdivW (pe_ix (k_ixL (K := K) rfl) (pv 0) pe_int (fun _ _ => rfl)) (pv 1)) (pg_sub (pv 0) pe_int set_list))
  (pss_one (ps_ret (pv 2)))))
  pss_nil)
  (pss_cons (ps_asg (pe_op op_add (pe_ix (k_ixL (K := K) rfl) (pv 0) pe_int (fun _ _ => rfl)) pe_int) (pg_sub (pv 0) pe_int set_list))
  (pss_cons (ps_set (i := 3) sc_l_pick.nd rfl (Or.inl rfl) (pe_op op_mod (pe_callTy k_int (by rfl) T.n_int (by decide +kernel) (pa_cons (pe_op op_mul (pe_op op_add (pe_op op_add (pe_ix (k_ixL (K := K) rfl) (pv 0) pe_int (fun _ _ => rfl)) (pe_op op_mul pe_int (pe_ix (k_ixL (K := K) rfl) (pv 0) pe_int (fun _ _ => rfl)))) pe_int) pe_int) pa_nil)) pe_int))
  (pss_cons (ps_set (i := 3) sc_l_pick.nd rfl (Or.inl rfl) (pe_op op_mod (pe_callTy k_int (by rfl) T.n_int (by decide +kernel) (pa_cons (pe_op op_mul (pv 3) (pe_op op_add (pe_op op_fdiv (pv 3) pe_int) pe_int)) pa_nil)) pe_int))
  (pss_cons (ps_set (i := 3) sc_l_pick.nd rfl (Or.inl rfl) (pe_op op_mod (pe_callTy k_int (by rfl) T.n_int (by decide +kernel) (pa_cons (pe_op op_mul (pv 3) (pe_op op_add (pe_op op_fdiv (pv 3) pe_int) pe_int)) pa_nil)) pe_int))
  (pss_one (ps_ret (pe_op op_mod (pe_callTy k_int (by rfl) T.n_int (by decide +kernel) (pa_cons (pe_op op_fdiv (pv 3) pe_int) pa_nil)) (pv 1))))))))), ?_⟩
    walk_at "rdd"
    refine if_d (fun c => ?_) (fun c => ?_)
    · walk_at "rdc"
      unfold pkV pkB at q
      rw [if_pos c, if_pos c] at q
      exact q
    · walk_at "rdc"
      unfold pkV pkB at q
      rw [if_neg c, if_neg c] at q
      exact q
def sp_isint (K : PySem.W.Frag) : Sp := fun vs H Q _ => ∃ (v : V) (t : Value) (b1 b2 : Bool), vs = [v] ∧ TyX K H v t ∧ PySem.W.kitOne K t (.type "int") = some b1 ∧ PySem.W.kitOne K t (.type "bool") = some b2 ∧ Q (.bl (b1 && !b2)) H
theorem ok_is_integer (T : Tx w K mg) : FnOk PR w K mg base CX0 1 T.a_is_integer T.fd_is_integer ["value"] (sp_isint K) := by
  refine T.F_is_integer.ok sc_is_integer (fun vs H Q E h => ?_) (fun cdv A outer s H vs Q E hr h => ?_)
  · obtain ⟨v, t, b1, b2, rfl, _⟩ := h
    rfl
  · obtain ⟨v, t, b1, b2, rfl, ty, k1, k2, q⟩ := h
    refine ⟨_, (pss_one (ps_ret (pe_and (pe_callB (k_isi (K := K) rfl) (by rfl) T.n_isinstance (by decide +kernel) (pa_cons (pv 0) (pa_cons (pe_bltn (v := .ty "int") (by rfl) T.n_int (by decide +kernel) rfl) pa_nil))) (pe_one (pe_not (pe_callB (k_isi (K := K) rfl) (by rfl) T.n_isinstance (by decide +kernel) (pa_cons (pv 0) (pa_cons (pe_bltn (v := .ty "bool") (by rfl) T.n_bool (by decide +kernel) rfl) pa_nil)))))))), ?_⟩
    walk_at "rdd"
    refine rd_isi (.ty _) ty k1 ?_
    walk_at "rdc"
    refine if_b (fun c => ?_) (fun c => ?_)
    · walk_at "rdc"
      refine rd_isi (.ty _) ty k2 ?_
      walk_at "rdc"
      rw [c] at q
      exact q
    · rw [c] at q
      exact q
def Bad (C : Addr) (E : XK) (H : Hp) (v : V) : Prop := ∀ d, H d = none → E (.ref C) (some d) (upd H d (.xd [("times", v)]))
def sp_turned (K : PySem.W.Frag) (C : Addr) : Sp := fun vs H Q E => ∃ (a b c : Addr) (xs ys zs sx sy sz : List V) (v : V) (t : Value) (bi bb : Bool), vs = [.ref a, .ref b, .ref c, v] ∧ SqL K H a xs ∧ SqL K H b ys ∧ SqL K H c zs ∧
  Fs K H xs sx ∧ Fs K H ys sy ∧ Fs K H zs sz ∧ xs.length ≤ 10 ∧ ys.length ≤ 10 ∧ zs.length ≤ 10 ∧
  TyX K H v t ∧ PySem.W.kitOne K t (.type "int") = some bi ∧ PySem.W.kitOne K t (.type "bool") = some bb ∧ ((bi && !bb) = false → Bad C E H v) ∧
  ((bi && !bb) = true → ∃ n : Int, v = .int n ∧ ((n < 0 ∨ 100 < n) → Bad C E H v) ∧ (0 ≤ n → n ≤ 100 → ∀ p H', H p = none → Evl.Ex H H' → H' p = some (.lst (sx ++ (List.replicate n.toNat sy).flatten ++ sz)) → Q (.ref p) H'))
theorem ok_turned (T : Tx w K mg) : FnOk PR w K mg base (L2.CX PR w) 3 T.a_turned T.fd_turned ["before", "around", "after", "times"] (sp_turned K T.C_BadTimes) := by
  refine T.F_turned.okX sc_turned (fun vs H Q E h => ?_) (fun cdv A outer s H vs Q E hr h => ?_)
  · obtain ⟨a, b, c, xs, ys, zs, sx, sy, sz, v, t, bi, bb, rfl, _⟩ := h
    rfl
  · obtain ⟨a, b, c, xs, ys, zs, sx, sy, sz, v, t, bi, bb, rfl, h1, h2, h3, f1, f2, f3, l1, l2, l3, ty, k1, k2, q1, q2⟩ := h
    refine ⟨_, (pss_cons (ps_if (PW.pt (pw_or (pt_not (pt_val (pe_call (ok_is_integer T) (hr.mono (by decide)) rfl T.g_is_integer T.k_is_integer T.b_is_integer .nil pass0 (pa_cons (pv 3) pa_nil)))) (pw_or (pt_cmpR op_lt (pv 3) pe_int (nomark _)) (pw_or1 (pt_cmpR op_gt (pv 3) (pe_glob (v := .int 100) (by rfl) T.c_MOST_TIMES ⟨_, rfl⟩) (nomark _))))))
  (pss_one (ps_raise rfl (takes_of rfl rfl rfl rfl) (pmk_sup1 T.e_BadTimes hr (pa_cons (pv 3) pa_nil) rfl)))
  pss_nil)
  (pss_cons (ps_setLc (i := 4) (own := [("pair", 7)]) (g := (gName 7)) (tt := tYes) rfl sc_turned.nd rfl rfl (sw_true rfl rfl rfl (by decide +kernel)) (k_pil (K := K) rfl (pv 0)) (blkOk_by (own := [("pair", 7)]) (N := N_turned) (sc := defScope s_turned) (by decide +kernel)) (fun _ _ _ _ _ => pg_name (i := 7) sc_turned.nd rfl (Or.inl rfl)) (fun _ _ _ _ _ => pts_nil) (fun _ _ _ _ _ => (pe_ix (k_ixT (K := K) rfl) (pv 7) pe_int (fun _ _ => rfl))))
  (pss_cons (ps_setLc (i := 5) (own := [("pair", 7)]) (g := (gName 7)) (tt := tYes) rfl sc_turned.nd rfl rfl (sw_true rfl rfl rfl (by decide +kernel)) (k_pil (K := K) rfl (pv 1)) (blkOk_by (own := [("pair", 7)]) (N := N_turned) (sc := defScope s_turned) (by decide +kernel)) (fun _ _ _ _ _ => pg_name (i := 7) sc_turned.nd rfl (Or.inl rfl)) (fun _ _ _ _ _ => pts_nil) (fun _ _ _ _ _ => (pe_ix (k_ixT (K := K) rfl) (pv 7) pe_int (fun _ _ => rfl))))
  (pss_cons (ps_setLc (i := 6) (own := [("pair", 7)]) (g := (gName 7)) (tt := tYes) rfl sc_turned.nd rfl rfl (sw_true rfl rfl rfl (by decide +kernel)) (k_pil (K := K) rfl (pv 2)) (blkOk_by (own := [("pair", 7)]) (N := N_turned) (sc := defScope s_turned) (by decide +kernel)) (fun _ _ _ _ _ => pg_name (i := 7) sc_turned.nd rfl (Or.inl rfl)) (fun _ _ _ _ _ => pts_nil) (fun _ _ _ _ _ => (pe_ix (k_ixT (K := K) rfl) (pv 7) pe_int (fun _ _ => rfl))))
  (pss_one (ps_ret (pe_op op_cat (pe_op op_cat (pv 4) (pe_op op_rep (pv 5) (pv 3))) (pv 6)))))))), ?_⟩
    walk_at "rdd"
    refine ⟨v, t, bi, bb, rfl, ty, k1, k2, ?_⟩
    refine rd_bl ?_
    cases e : (bi && !bb) with
    | false =>
      refine if_t rfl (if_t rfl ?_)
      refine rd_mk1 ?_
      walk_at "rdc"
      exact ⟨v, rfl, q1 e⟩
    | true =>
      obtain ⟨n, rfl, qb, qg⟩ := q2 e
      refine if_f rfl ?_
      walk_at "rdc"
      refine if_d (fun c1 => ?_) (fun c1 => ?_)
      · refine if_t rfl ?_
        refine rd_mk1 ?_
        walk_at "rdc"
        exact ⟨_, rfl, qb (.inl c1)⟩
      walk_at "rdc"
      refine if_d (fun c2 => ?_) (fun c2 => ?_)
      · refine rd_mk1 ?_
        walk_at "rdc"
        exact ⟨_, rfl, qb (.inr c2)⟩
      walk_at "rdc"
      have l1' := Paired.lenL f1
      have l2' := Paired.lenL f2
      have l3' := Paired.lenL f3
      refine rd_firsts (fun R q => rd_var rfl q) h1 f1 (by omega) (fun _ => rfl) (fun _ => rfl) fun D1 H1 n1 e1 d1 => ?_
      walk_at "rdc"
      refine rd_firsts (fun R q => rd_var rfl q) (Evl.ex_l e1 h2) (f2.ex (.of e1)) (by omega) (fun _ => rfl) (fun _ => rfl) fun D2 H2 n2 e2 d2 => ?_
      walk_at "rdc"
      have e12 := e1.trans e2
      refine rd_firsts (fun R q => rd_var rfl q) (Evl.ex_l e12 h3) (f3.ex (.of e12)) (by omega) (fun _ => rfl) (fun _ => rfl) fun D3 H3 n3 e3 d3 => ?_
      walk_at "rdc"
      have e13 := e12.trans e3
      refine rd_rep (e3 _ _ d2) (by omega) (by omega) ?_ fun D4 n4 => ?_
      · have z : sy.length * n.toNat ≤ 10 * 100 := Nat.mul_le_mul (by omega) (by omega)
        exact szle (by omega)
      refine rd_cat (Evl.Ex.new n4 _ _ (e3 _ _ (e2 _ _ d1))) upd_same ?_ fun D5 n5 => ?_
      · rw [rep_len]
        have z : n.toNat * sy.length ≤ 100 * 10 := Nat.mul_le_mul (by omega) (by omega)
        exact szle (by omega)
      walk_at "rdc"
      have e15 : Evl.Ex H (upd (upd H3 D4 (.lst (List.replicate n.toNat sy).flatten)) D5 (.lst (sx ++ (List.replicate n.toNat sy).flatten))) := (e13.trans (.new n4)).trans (.new n5)
      refine rd_cat upd_same (Evl.Ex.new n5 _ _ (Evl.Ex.new n4 _ _ d3)) ?_ fun D6 n6 => ?_
      · rw [List.length_append, rep_len]
        have z : n.toNat * sy.length ≤ 100 * 10 := Nat.mul_le_mul (by omega) (by omega)
        exact szle (by omega)
      exact qg (by omega) (by omega) D6 _ (Evl.fresh_back e15 n6) (e15.trans (.new n6)) upd_same
def stepD (s : PyData) : Prop := Sh 1 s
def Rows (K : PySem.W.Frag) (H : Hp) (xs : List V) : Prop := ∃ ds : List (PyData × PyData), DtAll K H xs (ds.map fun d => .tuple [d.1, d.2]) ∧ ∀ d ∈ ds, Sh 1 d.1 ∧ Sh 1 d.2
def sp_marked (K : PySem.W.Frag) : Sp := fun vs H Q _ => ∃ (p : Addr) (x : Bx), vs = [.ref p] ∧ H p = some (.lst (bxL x)) ∧
  ∀ q H' xs, H q = none → (∀ a o, a ≠ p → H a = some o → H' a = some o) → H' q = some (.lst xs) → xs.length ≤ 10 → Rows K H' xs → Q (.ref q) H'
theorem ok_l_marked (T : Tx w K mg) : FnOk PR w K mg base CX0 3 T.a_l_marked T.fd_l_marked ["_law_box_here"] (sp_marked K) := by
  refine T.F_l_marked.ok sc_l_marked (fun vs H Q E h => ?_) (fun cdv A outer s H vs Q E hr h => ?_)
  · obtain ⟨p, x, rfl, _⟩ := h
    rfl
  · obtain ⟨p, x, rfl, hp, k⟩ := h
    refine ⟨_, (pss_cons (ps_set (i := 1) sc_l_marked.nd rfl (Or.inl rfl) (pe_lst pa_nil))
  (pss_cons (ps_for PassesOwn.never rfl (pi_range1 (by rfl) T.n_range (pa_cons (pe_call (ok_l_pick T) (hr.mono (by decide)) rfl T.g_l_pick T.k_l_pick T.b_l_pick .nil pass0 (pa_cons (pv 0) (pa_cons pe_int pa_nil))) pa_nil)) (pg_name (i := 2) sc_l_marked.nd rfl (Or.inl rfl))
  (pss_cons (ps_set (i := 3) sc_l_marked.nd rfl (Or.inl rfl) (pe_tup (pa_cons (pe_call (ok_l_pick T) (hr.mono (by decide)) rfl T.g_l_pick T.k_l_pick T.b_l_pick .nil pass0 (pa_cons (pv 0) (pa_cons pe_int pa_nil))) (pa_cons (pe_call (ok_l_pick T) (hr.mono (by decide)) rfl T.g_l_pick T.k_l_pick T.b_l_pick .nil pass0 (pa_cons (pv 0) (pa_cons pe_int pa_nil))) pa_nil))))
  (pss_cut (ps_if (pt_cmpR op_eq (pe_call (ok_l_pick T) (hr.mono (by decide)) rfl T.g_l_pick T.k_l_pick T.b_l_pick .nil pass0 (pa_cons (pv 0) (pa_cons pe_int pa_nil))) pe_int (nomark _))
  (pss_one (ps_set (i := 3) sc_l_marked.nd rfl (Or.inl rfl) (pe_tup (pa_cons pe_str pa_nil))))
  pss_nil)
  (pss_one (ps_expr (pe_bm PySem.F.plainAttrs_list PySem.F.slot_list_append PySem.F.type_list_append mt_append (pv 1) (pa_cons (pe_tup (pa_cons (pv 3) (pa_cons (pe_ix (k_ixL (K := K) rfl) (pe_lst (pa_cons (pe_tup (pa_cons pe_non (pa_cons pe_non pa_nil))) (pa_cons (pe_tup (pa_cons pe_non (pa_cons pe_non pa_nil))) (pa_cons (pe_tup (pa_cons pe_int (pa_cons pe_non pa_nil))) (pa_cons (pe_tup (pa_cons pe_non (pa_cons pe_int pa_nil))) (pa_cons (pe_tup (pa_cons pe_int (pa_cons pe_int pa_nil))) pa_nil)))))) (pe_call (ok_l_pick T) (hr.mono (by decide)) rfl T.g_l_pick T.k_l_pick T.b_l_pick .nil pass0 (pa_cons (pv 0) (pa_cons pe_int pa_nil))) (fun _ _ => rfl)) pa_nil))) pa_nil)))))))
  (pss_one (ps_ret (pv 1))))), ?_⟩
    walk_at "rdd"
    refine ⟨Nat.zero_le _, fun r hr0 => ?_⟩
    walk_at "rdc"
    refine rd_pick (x := x) (get_new hp hr0) (by decide) (by decide) fun m x1 m0 m1 => ?_
    have npr : p ≠ r := ne_of_none hp hr0
    refine ⟨m, rfl, by omega, by omega, for_range (lo := 0) (n := m.toNat) (fun i σ H' => ∃ (x' : Bx) (xs : List V) (u : Option V) (z : Option V), σ = [some (.ref p), some (.ref r), u, z] ∧ H' p = some (.lst (bxL x')) ∧ H' r = some (.lst xs) ∧ xs.length = i ∧ Rows K H' xs ∧ Fr1 p H H')
      ⟨x1, [], none, none, rfl, upd_same, get_ne npr.symm upd_same, rfl, ⟨[], .nil, by simp⟩, by walk_at "fr"⟩ ?_ ?_⟩
    · rintro i σ H' hi ⟨x', xs, u, z, rfl, hx, hxs, hl, hR, hF⟩
      walk_at "rdc"
      refine rd_pick hx (by decide) (by decide) fun m2 x2 m20 m21 => ?_
      walk_at "rdc"
      refine rd_pick upd_same (by decide) (by decide) fun m3 x3 m30 m31 => ?_
      walk_at "rdc"
      refine ⟨szle (by simp), fun t1 ht1 => ?_⟩
      walk_at "rdc"
      have ntr : H' t1 = none := by
        cases h : H' t1 with
        | none => rfl
        | some o =>
          exfalso
          rw [upd_upd] at ht1
          by_cases z : t1 = p
          · rw [z, upd_same] at ht1; cases ht1
          · rw [upd_ne z, h] at ht1; cases ht1
      refine rd_cut (fun σ H2 => ∃ (t : Addr) (sd : PyData) (x4 : Bx) (u' : V), σ = [some (.ref p), some (.ref r), some u', some (.ref t)] ∧ Sh 1 sd ∧ Dt K H2 (.ref t) sd ∧ H2 p = some (.lst (bxL x4)) ∧ H2 r = some (.lst xs) ∧ ExT H' H2 ∧ Fr1 p H H2) ?_ ?_
      · walk_at "rdc"
        refine rd_pick (get_new upd_same ht1) (by decide) (by decide) fun m4 x4 _ _ => ?_
        walk_at "rdc"
        refine if_d (fun c => ?_) (fun c => ?_)
        · walk_at "rdc"
          refine ⟨szle (by simp), fun t2 ht2 => ?_⟩
          walk_at "rdc"
          refine ⟨t2, _, x4, _, rfl, Sh.tup (.cons (.str (by decide +kernel)) .nil), dt_new ht2 (.cons (.str _) .nil), by walk_at "hp", ?_, by walk_at "xt", by walk_at "fr"⟩
          exact get_new (get_ne npr.symm (get_new (get_ne npr.symm (get_ne npr.symm hxs)) ht1)) ht2
        · walk_at "rdc"
          refine ⟨t1, _, x4, _, rfl, Sh.tup (.cons (.int m2) (.cons (.int m3) .nil)), (dt_new ht1 (.cons (.int _) (.cons (.int _) .nil))).mono (by walk_at "xt"), upd_same, ?_, by walk_at "xt", by walk_at "fr"⟩
          exact get_ne npr.symm (get_new (get_ne npr.symm (get_ne npr.symm hxs)) ht1)
      · rintro σ H2 ⟨t, sd, x4, u', rfl, hsd, hdt, hx4, hxs2, hT2, hF2⟩
        walk_at "rdc"
        refine ⟨szle (by simp), fun o1 h1 => ?_⟩
        walk_at "rdc"
        refine ⟨szle (by simp), fun o2 h2 => ?_⟩
        walk_at "rdc"
        refine ⟨szle (by simp), fun o3 h3 => ?_⟩
        walk_at "rdc"
        refine ⟨szle (by simp), fun o4 h4 => ?_⟩
        walk_at "rdc"
        refine ⟨szle (by simp), fun o5 h5 => ?_⟩
        walk_at "rdc"
        refine ⟨szle (by simp), fun l hl0 => ?_⟩
        walk_at "rdc"
        refine rd_pick (x := x4) (by walk_at "hp") (by decide) (by decide) fun m5 x5 m50 m51 => ?_
        obtain ⟨v, hv, hm⟩ := atI_in (xs := [V.ref o1, V.ref o2, V.ref o3, V.ref o4, V.ref o5]) m50 m51
        have npl : p ≠ l := ne_of_none (by walk_at "hp" : _ = some (HO.lst (bxL x4))) hl0
        refine rd_ixL (SqL.of (get_ne npl.symm upd_same)) hv ?_
        walk_at "rdc"
        refine ⟨szle (by simp), fun tt htt => ?_⟩
        have hvd : ∃ od, Sh 1 od ∧ Dt K (upd (upd (upd (upd (upd (upd (upd H2 o1 (.tup [.non, .non])) o2 (.tup [.non, .non])) o3 (.tup [.int 0, .non])) o4 (.tup [.non, .int 1])) o5 (.tup [.int 0, .int 2])) l (.lst [V.ref o1, V.ref o2, V.ref o3, V.ref o4, V.ref o5])) p (.lst (bxL x5))) v od := by
          simp only [List.mem_cons, List.not_mem_nil, or_false] at hm
          rcases hm with rfl | rfl | rfl | rfl | rfl
          · exact ⟨_, Sh.tup (.cons .non (.cons .non .nil)), (dt_new h1 (.cons .non (.cons .non .nil))).mono (by walk_at "xt")⟩
          · exact ⟨_, Sh.tup (.cons .non (.cons .non .nil)), (dt_new h2 (.cons .non (.cons .non .nil))).mono (by walk_at "xt")⟩
          · exact ⟨_, Sh.tup (.cons (.int 0) (.cons .non .nil)), (dt_new h3 (.cons (.int 0) (.cons .non .nil))).mono (by walk_at "xt")⟩
          · exact ⟨_, Sh.tup (.cons .non (.cons (.int 1) .nil)), (dt_new h4 (.cons .non (.cons (.int 1) .nil))).mono (by walk_at "xt")⟩
          · exact ⟨_, Sh.tup (.cons (.int 0) (.cons (.int 2) .nil)), (dt_new h5 (.cons (.int 0) (.cons (.int 2) .nil))).mono (by walk_at "xt")⟩
        obtain ⟨od, hod, hdv⟩ := hvd
        have hdt' := hdt.mono (by walk_at "xt" : ExT H2 (upd (upd (upd (upd (upd (upd (upd H2 o1 (.tup [.non, .non])) o2 (.tup [.non, .non])) o3 (.tup [.int 0, .non])) o4 (.tup [.non, .int 1])) o5 (.tup [.int 0, .int 2])) l (.lst [V.ref o1, V.ref o2, V.ref o3, V.ref o4, V.ref o5])) p (.lst (bxL x5))))
        have htd := dt_new htt (.cons hdt' (.cons hdv .nil))
        walk_at "rdc"
        have hrr : (upd (upd (upd (upd (upd (upd (upd (upd H2 o1 (.tup [.non, .non])) o2 (.tup [.non, .non])) o3 (.tup [.int 0, .non])) o4 (.tup [.non, .int 1])) o5 (.tup [.int 0, .int 2])) l (.lst [V.ref o1, V.ref o2, V.ref o3, V.ref o4, V.ref o5])) p (.lst (bxL x5))) tt (.tup [V.ref t, v])) r = some (.lst xs) := by walk_at "hp"
        refine rd_append hrr (szl (by omega)) ?_
        obtain ⟨ds, hds, hsh⟩ := hR
        refine ⟨x5, xs ++ [.ref tt], _, _, rfl, get_ne npr (get_new upd_same htt), upd_same, by simp [hl], ⟨ds ++ [(sd, od)], ?_, ?_⟩, ?_⟩
        · rw [List.map_append]
          exact (hds.mono (ExT.trans hT2 (by walk_at "xt"))).snoc (htd.mono (ext_lst hrr))
        · intro d hd
          rcases List.mem_append.mp hd with hd | hd
          · exact hsh d hd
          · simp only [List.mem_cons, List.not_mem_nil, or_false] at hd
            subst hd
            exact ⟨hsd, hod⟩
        · exact .own hr0 (by walk_at "fr")
    · rintro σ H' ⟨x', xs, u, z, rfl, hx, hxs, hl, hR, hF⟩
      walk_at "rdc"
      exact k r H' xs hr0 hF hxs (by omega) hR
def BadV (K : PySem.W.Frag) (H : Hp) (v : V) : Prop := ∃ (t : Value) (bi bb : Bool), TyX K H v t ∧ PySem.W.kitOne K t (.type "int") = some bi ∧ PySem.W.kitOne K t (.type "bool") = some bb ∧ ((bi && !bb) = true → ∃ n : Int, v = .int n ∧ (n < 0 ∨ 100 < n))
structure Rds (K : PySem.W.Frag) (H : Hp) (r : Addr) (a b c : Addr) (xs ys zs sx sy sz : List V) : Prop where
  r : H r = some (.lst [.ref a, .ref b, .ref c])
  a : H a = some (.lst xs)
  b : H b = some (.lst ys)
  c : H c = some (.lst zs)
  fa : Fs K H xs sx
  fb : Fs K H ys sy
  fc : Fs K H zs sz
  la : xs.length ≤ 10
  lb : ys.length ≤ 10
  lc : zs.length ≤ 10
theorem Rds.ex {K : PySem.W.Frag} {H H' : Hp} {r a b c : Addr} {xs ys zs sx sy sz : List V} (e : Evl.Ex H H') (h : Rds K H r a b c xs ys zs sx sy sz) : Rds K H' r a b c xs ys zs sx sy sz :=
  ⟨e _ _ h.r, e _ _ h.a, e _ _ h.b, e _ _ h.c, h.fa.ex (.of e), h.fb.ex (.of e), h.fc.ex (.of e), h.la, h.lb, h.lc⟩
def sp_refused (K : PySem.W.Frag) : Sp := fun vs H Q _ => ∃ (r a b c : Addr) (xs ys zs sx sy sz : List V) (v : V), vs = [.ref r, v] ∧ Rds K H r a b c xs ys zs sx sy sz ∧ BadV K H v ∧
  ∀ p H', H p = none → Evl.Ex H H' → H' p = some (.tup [.str "times", v]) → Q (.ref p) H'
theorem rd_turned_bad {K : PySem.W.Frag} {C : Addr} {H : Hp} {r a b c : Addr} {xs ys zs sx sy sz : List V} {v : V} {Q : VK} {E : XK} (hR0 : Rds K H r a b c xs ys zs sx sy sz) (hv : BadV K H v) (bad : Bad C E H v) : sp_turned K C [.ref a, .ref b, .ref c, v] H Q E := by
  obtain ⟨t, bi, bb, ty, k1, k2, hb⟩ := hv
  refine ⟨a, b, c, xs, ys, zs, sx, sy, sz, v, t, bi, bb, rfl, SqL.of hR0.a, SqL.of hR0.b, SqL.of hR0.c, hR0.fa, hR0.fb, hR0.fc, hR0.la, hR0.lb, hR0.lc, ty, k1, k2, fun _ => bad, fun z => ?_⟩
  obtain ⟨n, rfl, hn⟩ := hb z
  exact ⟨n, rfl, fun _ => bad, fun h0 h1 => by omega⟩
theorem rd_turned {K : PySem.W.Frag} {C : Addr} {H : Hp} {r a b c : Addr} {xs ys zs sx sy sz : List V} {n : Int} {Q : VK} {E : XK} (hR0 : Rds K H r a b c xs ys zs sx sy sz) (h0 : 0 ≤ n) (h1 : n ≤ 100)
    (q : ∀ p H', H p = none → Evl.Ex H H' → H' p = some (.lst (sx ++ (List.replicate n.toNat sy).flatten ++ sz)) → Q (.ref p) H') : sp_turned K C [.ref a, .ref b, .ref c, .int n] H Q E :=
  ⟨a, b, c, xs, ys, zs, sx, sy, sz, .int n, .type "int", true, false, rfl, SqL.of hR0.a, SqL.of hR0.b, SqL.of hR0.c, hR0.fa, hR0.fb, hR0.fc, hR0.la, hR0.lb, hR0.lc, .base (.int n), kit_ty (by decide +kernel), kit_ty (by decide +kernel), (fun z => nomatch z), fun _ => ⟨n, rfl, fun z => by omega, fun _ _ => q⟩⟩
theorem ok_l_refused (T : Tx w K mg) : FnOk PR w K mg base CX0 5 T.a_l_refused T.fd_l_refused ["_law_roads", "_law_times"] (sp_refused K) := by
  refine T.F_l_refused.ok sc_l_refused (fun vs H Q E h => ?_) (fun cdv A outer s H vs Q E hr h => ?_)
  · obtain ⟨r, a, b, c, xs, ys, zs, sx, sy, sz, v, rfl, _⟩ := h
    rfl
  · obtain ⟨r, a, b, c, xs, ys, zs, sx, sy, sz, v, rfl, hR, ⟨t, bi, bb, ty, k1, k2, hb⟩, k⟩ := h
    refine ⟨_, (pss_cons (ps_set (i := 2) sc_l_refused.nd rfl (Or.inl rfl) (pe_tup (pa_cons pe_str (pa_cons pe_int pa_nil))))
  (pss_cons (ps_try_as (i := 3)  rfl rfl sc_l_refused.nd rfl rfl ⟨rfl, by decide, .inl T.g_BadTimes⟩ takes0
  (fun W pn xe tk po => (pss_one (ps_expr (pe_callS (ok_turned T) (hr.mono (by decide)) rfl T.g_turned T.k_turned T.b_turned (fun σ => passAt tk σ) (pa_cons (pe_ix (k_ixL (K := K) rfl) (pv 0) pe_int (fun _ _ => rfl)) (pa_cons (pe_ix (k_ixL (K := K) rfl) (pv 0) pe_int (fun _ _ => rfl)) (pa_cons (pe_ix (k_ixL (K := K) rfl) (pv 0) pe_int (fun _ _ => rfl)) (pa_cons (pv 1) pa_nil))))))))
  (fun ea oe cls dd pn hz hf => (pss_one (ps_if (PW.pt (pw_and (pt_val (pe_callB (call_isX hz hf) (by rfl) T.n_isinstance (by decide +kernel) (pa_cons (pv 3) (pa_cons (pe_glob (v := .ref T.C_TakeError) (by rfl) T.g_TakeError rfl) pa_nil)))) (pw_and (pt_val (pe_callB (call_isX hz hf) (by rfl) T.n_isinstance (by decide +kernel) (pa_cons (pv 3) (pa_cons (pe_bltn (v := .ty "ValueError") (by rfl) T.n_ValueError (by decide +kernel) rfl) pa_nil)))) (pw_and1 (pt_not (pt_val (pe_callB (call_isX hz hf) (by rfl) T.n_isinstance (by decide +kernel) (pa_cons (pv 3) (pa_cons (pe_glob (v := .ref T.C_NoMeasure) (by rfl) T.g_NoMeasure rfl) pa_nil)))))))))
  (pss_one (ps_set (i := 2) sc_l_refused.nd rfl (Or.inl rfl) (pe_tup (pa_cons pe_str (pa_cons (pe_xf T.x_BadTimes T.e_BadTimes.no1 hz hf (pv 3)) pa_nil)))))
  pss_nil))))
  (pss_one (ps_ret (pv 2))))), ?_⟩
    walk_at "rdd"
    refine ⟨szle (by simp), fun t0 ht0 => ?_⟩
    walk_at "rdc"
    refine rd_callS ?_
    have e0 : Evl.Ex H (upd H t0 (.tup [.str "told", .int 0])) := .new ht0
    have hR0 := hR.ex e0
    walk_at "rdc"
    refine rd_ixL (SqL.of hR0.r) rfl ?_
    walk_at "rdc"
    refine rd_ixL (SqL.of hR0.r) rfl ?_
    walk_at "rdc"
    refine rd_ixL (SqL.of hR0.r) rfl ?_
    walk_at "rdc"
    refine rd_turned_bad hR0 ⟨t, bi, bb, tyX_ex e0 ty, k1, k2, hb⟩ fun d hd => ?_
    refine ⟨true, T.m_BadTimes_BadTimes, fun _ ea hea => ?_, fun q => nomatch q⟩
    walk_at "rdc"
    refine rd_isX T.i_BadTimes (.own _) T.q_BadTimes_TakeError upd_same ?_
    walk_at "rdc"
    refine if_t rfl ?_
    walk_at "rdc"
    refine rd_isX T.i_BadTimes (.ty _) T.q_BadTimes_ValueError upd_same ?_
    walk_at "rdc"
    refine if_t rfl ?_
    walk_at "rdc"
    refine rd_isX T.i_BadTimes (.own _) T.q_BadTimes_NoMeasure upd_same ?_
    walk_at "rdc"
    refine if_t rfl ?_
    walk_at "rdc"
    refine rd_xf (fun R q => rd_var rfl q) upd_same rfl ?_
    walk_at "rdc"
    refine ⟨szle (by simp), fun p hp => ?_⟩
    walk_at "rdc"
    exact k p _ (Evl.fresh_back (e0.trans (.new hd)) hp) ((e0.trans (.new hd)).trans (.new hp)) upd_same
end
end TK
set_option maxRecDepth 100000
set_option maxHeartbeats 4000000
namespace TK
open PySem L2
local macro_rules | `(tactic| walk_at "rd1") => `(tactic| first
  | with_reducible refine rd_seq ?_ | with_reducible refine rd_asg ?_ | with_reducible refine rd_name ?_ | ((with_reducible apply rd_var); rfl) | with_reducible refine rd_c ?_ | with_reducible refine rd_op ?_ | with_reducible refine rd_un ?_
  | with_reducible refine rd_I0 ?_ | with_reducible refine rd_U ?_ | ((with_reducible apply rd_eq); rfl) | ((with_reducible apply rd_ne); rfl) | with_reducible refine rd_ret ?_ | with_reducible refine rd_drop ?_ | with_reducible refine rd_ifS ?_ | with_reducible refine rd_test ?_ | with_reducible refine rd_B ?_
  | with_reducible refine rd_bl ?_ | with_reducible refine rd_not ?_ | with_reducible refine rd_and ?_ | with_reducible refine rd_or ?_ | with_reducible refine rd_andV ?_ | with_reducible refine rd_orV ?_ | with_reducible refine rd_notV ?_ | with_reducible refine rd_if ?_
  | with_reducible refine rd_nil ?_ | with_reducible refine rd_cons ?_ | with_reducible refine rd_tup ?_ | with_reducible refine rd_lst ?_ | with_reducible refine rd_cb ?_ | with_reducible refine rd_call ?_ | with_reducible refine rd_bm ?_ | with_reducible refine rd_bm0 ?_ | with_reducible refine rd_sub ?_
  | ((with_reducible apply rd_aug); rfl) | with_reducible refine rd_ipI ?_ | with_reducible refine rd_gcons ?_ | with_reducible refine rd_gnil ?_ | with_reducible refine rd_forR1 ?_ | with_reducible refine rd_forR2 ?_ | with_reducible refine rd_forL ?_ | with_reducible refine rd_forT ?_ | with_reducible refine rd_nx ?_ | with_reducible refine rd_brk ?_ | with_reducible refine rd_ct ?_)
local macro_rules | `(tactic| walk_at "sc") => `(tactic| first
  | decide | (refine Or.inl ⟨?_, ?_⟩ <;> (first | decide | omega)) | (refine Or.inr ⟨?_, ?_⟩ <;> (first | decide | omega)) | (refine And.intro ?_ ?_ <;> (first | decide | omega)) | (refine And.intro ?_ (And.intro ?_ ?_) <;> (first | decide | omega)) | omega | assumption)
local macro_rules | `(tactic| walk_at "rd2") => `(tactic| first
  | walk_at "rd1" | ((with_reducible apply rd_I); (focus walk_at "sc")) | ((with_reducible apply rd_ixL); (focus walk_at "sl"); (focus first | rfl | assumption)) | with_reducible refine rd_int ?_ | with_reducible refine rd_int1 ?_ | ((with_reducible apply rd_len); (focus walk_at "sl"))
  | ((with_reducible apply rd_lenQ); (focus walk_at "sl")) | with_reducible refine rd_intQ ?_ | with_reducible refine rd_intB ?_ | with_reducible refine rd_max ?_ | with_reducible refine rd_min ?_ | with_reducible refine rd_isN ?_ | with_reducible refine rd_notN ?_
  | ((with_reducible apply rd_setL); (focus walk_at "hp"); (focus rfl)) | (((with_reducible apply And.intro); apply ty_list); (focus walk_at "sl")))
local macro_rules | `(tactic| walk_at "rdd") => `(tactic| ((try dsimp only [cxK0, cxK1, cxW1]); repeat walk_at "rd2"))
local macro_rules | `(tactic| walk_at "rdc") => `(tactic| repeat walk_at "rd2")
local macro_rules | `(tactic| walk_at "rd") => `(tactic| repeat walk_at "rd1")
local macro_rules | `(tactic| walk_at "hp") => `(tactic| first
  | assumption | exact upd_same | (apply get_new <;> walk_at "hp") | (apply get_ne; (focus first | assumption | (apply Ne.symm; assumption)); walk_at "hp"))
local macro_rules | `(tactic| walk_at "sl") => `(tactic| first
  | assumption | (apply SqL.of; walk_at "hp") | (apply sl_new; (focus walk_at "sl"); assumption))
local macro_rules | `(tactic| walk_at "xt") => `(tactic| first
  | exact ExT.refl _ | assumption | (apply xt_new; (focus walk_at "hp"); walk_at "xt") | (apply xt_lst; (focus walk_at "hp"); walk_at "xt"))
local macro_rules | `(tactic| walk_at "fr") => `(tactic| first
  | exact Fr1.refl _ | assumption | (apply Fr1.at; walk_at "fr") | (apply Fr1.new; (focus assumption); walk_at "fr") | (apply Fr1.own; (focus assumption); walk_at "fr"))
local macro_rules | `(tactic| walk_at "ex") => `(tactic| first
  | exact Evl.Ex.refl _ | assumption | (apply ex_mut; (focus assumption); walk_at "ex") | (apply ex_new; (focus assumption); walk_at "ex"))
section
variable {w : World} {K : PySem.W.Frag} {mg : Str → Option Value} {base : Heap}
theorem rd_box' {K : PySem.W.Frag} {a : Addr} {ns : List Int} {j : Int} {H : Hp} {Q : VK} {E : XK} (hS : SqL K H a (ns.map V.int)) (h0 : 0 ≤ j) (q : ∀ p x, H p = none → Q (.ref p) (upd H p (.lst (bxL x)))) : sp_box K ([.ref a, .int j] ++ []) H Q E := by
  obtain ⟨n, rfl⟩ := Int.eq_ofNat_of_zero_le h0
  exact rd_box hS q
theorem rows_fs : ∀ {H : Hp} {xs : List V} {ds : List (PyData × PyData)}, DtAll K H xs (ds.map fun d => .tuple [d.1, d.2]) → ∃ sx, Fs K H xs sx ∧ DtAll K H sx (ds.map (·.1))
  | _, _, [], .nil => ⟨[], .nil, .nil⟩
  | _, _, d :: ds, .cons h t => by
    obtain ⟨sx, f, g⟩ := rows_fs t
    obtain ⟨a, ys, rfl, hs, ha⟩ := h.tup_inv
    cases ha with
    | cons h1 t1 =>
      cases t1 with
      | cons h2 t2 =>
        cases t2
        exact ⟨_ :: sx, .cons ⟨a, _, rfl, hs⟩ f, .cons h1 g⟩
structure Rd3 (K : PySem.W.Frag) (H : Hp) (r a b c : Addr) (xs ys zs : List V) (ds es fs : List (PyData × PyData)) : Prop where
  r : H r = some (.lst [.ref a, .ref b, .ref c])
  a : H a = some (.lst xs)
  b : H b = some (.lst ys)
  c : H c = some (.lst zs)
  da : DtAll K H xs (ds.map fun d => .tuple [d.1, d.2])
  db : DtAll K H ys (es.map fun d => .tuple [d.1, d.2])
  dc : DtAll K H zs (fs.map fun d => .tuple [d.1, d.2])
  sa : ∀ d ∈ ds, Sh 1 d.1 ∧ Sh 1 d.2
  sb : ∀ d ∈ es, Sh 1 d.1 ∧ Sh 1 d.2
  sc : ∀ d ∈ fs, Sh 1 d.1 ∧ Sh 1 d.2
  la : xs.length ≤ 10
  lb : ys.length ≤ 10
  lc : zs.length ≤ 10
theorem Rd3.ex {H H' : Hp} {r a b c : Addr} {xs ys zs : List V} {ds es fs : List (PyData × PyData)} (e : Evl.Ex H H') (h : Rd3 K H r a b c xs ys zs ds es fs) : Rd3 K H' r a b c xs ys zs ds es fs :=
  ⟨e _ _ h.r, e _ _ h.a, e _ _ h.b, e _ _ h.c, h.da.mono (.of e), h.db.mono (.of e), h.dc.mono (.of e), h.sa, h.sb, h.sc, h.la, h.lb, h.lc⟩
theorem Rd3.rds {H : Hp} {r a b c : Addr} {xs ys zs : List V} {ds es fs : List (PyData × PyData)} (h : Rd3 K H r a b c xs ys zs ds es fs) :
    ∃ sx sy sz, Rds K H r a b c xs ys zs sx sy sz ∧ DtAll K H sx (ds.map (·.1)) ∧ DtAll K H sy (es.map (·.1)) ∧ DtAll K H sz (fs.map (·.1)) := by
  obtain ⟨sx, f1, g1⟩ := rows_fs h.da
  obtain ⟨sy, f2, g2⟩ := rows_fs h.db
  obtain ⟨sz, f3, g3⟩ := rows_fs h.dc
  exact ⟨sx, sy, sz, ⟨h.r, h.a, h.b, h.c, f1, f2, f3, h.la, h.lb, h.lc⟩, g1, g2, g3⟩
theorem sh_rows {ds : List (PyData × PyData)} (h : ∀ d ∈ ds, Sh 1 d.1 ∧ Sh 1 d.2) : ShA 2 (ds.map fun d => .tuple [d.1, d.2]) := by
  refine .of fun e he => ?_
  obtain ⟨d, hd, rfl⟩ := List.mem_map.mp he
  exact .tup (.cons (h d hd).1 (.cons (h d hd).2 .nil))
theorem sh_fst {ds : List (PyData × PyData)} (h : ∀ d ∈ ds, Sh 1 d.1 ∧ Sh 1 d.2) : ShA 1 (ds.map (·.1)) := by
  refine .of fun e he => ?_
  obtain ⟨d, hd, rfl⟩ := List.mem_map.mp he
  exact (h d hd).1
theorem Rd3.dp {H : Hp} {r a b c : Addr} {xs ys zs : List V} {ds es fs : List (PyData × PyData)} (h : Rd3 K H r a b c xs ys zs ds es fs) :
    Dp K H (.ref r) (.list [.list (ds.map fun d => .tuple [d.1, d.2]), .list (es.map fun d => .tuple [d.1, d.2]), .list (fs.map fun d => .tuple [d.1, d.2])]) :=
  .lst (SqL.of h.r) (.cons (.lst (SqL.of h.a) h.da.dp) (.cons (.lst (SqL.of h.b) h.db.dp) (.cons (.lst (SqL.of h.c) h.dc.dp) .nil)))
theorem Rd3.sh {H : Hp} {r a b c : Addr} {xs ys zs : List V} {ds es fs : List (PyData × PyData)} (h : Rd3 K H r a b c xs ys zs ds es fs) :
    Sh 4 (.list [.list (ds.map fun d => .tuple [d.1, d.2]), .list (es.map fun d => .tuple [d.1, d.2]), .list (fs.map fun d => .tuple [d.1, d.2])]) :=
  .lst (.cons (.lst (sh_rows h.sa)) (.cons (.lst (sh_rows h.sb)) (.cons (.lst (sh_rows h.sc)) .nil)))
def Made (K : PySem.W.Frag) (H : Hp) (D : Addr) (H' : Hp) : List V → List (List V) → Prop := Paired fun v xs => ∃ q, v = .ref q ∧ H' q = some (.lst xs) ∧ H q = none ∧ q ≠ D ∧ xs.length ≤ 10 ∧ Rows K H' xs
theorem Rows.ex {H H' : Hp} {xs : List V} (e : ExT H H') (h : Rows K H xs) : Rows K H' xs := by
  obtain ⟨ds, a, b⟩ := h
  exact ⟨ds, a.mono e, b⟩
theorem DtAll.rep {H : Hp} {vs : List V} {ds : List PyData} (h : DtAll K H vs ds) : ∀ n : Nat, DtAll K H (List.replicate n vs).flatten (List.replicate n ds).flatten
  | 0 => .nil
  | n + 1 => by
    rw [List.replicate_succ, List.replicate_succ, List.flatten_cons, List.flatten_cons]
    exact h.append (DtAll.rep h n)
def sp_law (K : PySem.W.Frag) : Sp := fun vs H Q _ => ∃ (a : Addr) (ns : List Int), vs = [.ref a] ∧ SqL K H a (ns.map V.int) ∧ ns.length ≤ 63 ∧ ∀ H', Q (.bl true) H'
theorem ok_law (T : Tx w K mg) : FnOk PR w K mg base CX0 10 T.a_law T.fd_law ["_law_script"] (sp_law K) := by
  refine T.F_law.ok sc_law (fun vs H Q E h => ?_) (fun cdv A outer s H vs Q E hr h => ?_)
  · obtain ⟨a, ns, rfl, _⟩ := h
    rfl
  · obtain ⟨a, ns, rfl, hS, hlen, k⟩ := h
    refine ⟨_, (pss_cons (ps_set (i := 1) sc_law.nd rfl (Or.inl rfl) (pe_call (ok_l_box T) (hr.mono (by decide)) rfl T.g_l_box T.k_l_box T.b_l_box .nil pass0 (pa_cons (pv 0) (pa_cons pe_int pa_nil))))
  (pss_cut (ps_set (i := 2) sc_law.nd rfl (Or.inl rfl) (pe_ix (k_ixL (K := K) rfl) (pe_lst (pa_cons (pe_call (ok_l_pick T) (hr.mono (by decide)) rfl T.g_l_pick T.k_l_pick T.b_l_pick .nil pass0 (pa_cons (pv 1) (pa_cons pe_int pa_nil))) (pa_cons (pe_call (ok_l_pick T) (hr.mono (by decide)) rfl T.g_l_pick T.k_l_pick T.b_l_pick .nil pass0 (pa_cons (pv 1) (pa_cons pe_int pa_nil))) (pa_cons pe_int (pa_cons pe_int pa_nil))))) (pe_call (ok_l_pick T) (hr.mono (by decide)) rfl T.g_l_pick T.k_l_pick T.b_l_pick .nil pass0 (pa_cons (pv 1) (pa_cons pe_int pa_nil))) (fun _ _ => rfl)))
  (pss_cons (ps_set (i := 3) sc_law.nd rfl (Or.inl rfl) (pe_call (ok_l_pick T) (hr.mono (by decide)) rfl T.g_l_pick T.k_l_pick T.b_l_pick .nil pass0 (pa_cons (pv 1) (pa_cons (pe_op op_pow pe_int pe_int) pa_nil))))
  (pss_cut (ps_set (i := 4) sc_law.nd rfl (Or.inl rfl) (pe_ix (k_ixL (K := K) rfl) (pe_lst (pa_cons pe_bl (pa_cons pe_bl (pa_cons (pe_un un_neg pe_int) (pa_cons pe_int (pa_cons (pe_op op_sub (pe_un un_neg pe_int) (pv 3)) (pa_cons (pe_op op_add pe_int (pv 3)) (pa_cons pe_non (pa_cons pe_str (pa_cons (pe_tup (pa_cons pe_int pa_nil)) pa_nil)))))))))) (pe_call (ok_l_pick T) (hr.mono (by decide)) rfl T.g_l_pick T.k_l_pick T.b_l_pick .nil pass0 (pa_cons (pv 1) (pa_cons pe_int pa_nil))) (fun _ _ => rfl)))
  (pss_cut (ps_setLc (i := 5) (own := [("_law_k", 10)]) (g := (gName 10)) (tt := tYes) rfl sc_law.nd rfl rfl (sw_true rfl rfl rfl (by decide +kernel)) (pi_range2 (by rfl) T.n_range (pa_cons pe_int (pa_cons pe_int pa_nil))) (blkOk_by (own := [("_law_k", 10)]) (N := N_law) (sc := defScope s_law) (by decide +kernel)) (fun _ _ _ _ _ => pg_name (i := 10) sc_law.nd rfl (Or.inl rfl)) (fun _ _ _ _ _ => pts_nil) (fun _ _ _ _ _ => (pe_call (ok_l_marked T) (hr.mono (by decide)) rfl T.g_l_marked T.k_l_marked T.b_l_marked .nil pass0 (pa_cons (pe_call (ok_l_box T) (hr.mono (by decide)) rfl T.g_l_box T.k_l_box T.b_l_box .nil pass0 (pa_cons (pv 0) (pa_cons (pv 10) pa_nil))) pa_nil))))
  (pss_cut (ps_setLc (i := 6) (own := [("_law_road", 11)]) (g := (gName 11)) (tt := tYes) rfl sc_law.nd rfl rfl (sw_true rfl rfl rfl (by decide +kernel)) (k_pil (K := K) rfl (pv 5)) (blkOk_by (own := [("_law_road", 11)]) (N := N_law) (sc := defScope s_law) (by decide +kernel)) (fun _ _ _ _ _ => pg_name (i := 11) sc_law.nd rfl (Or.inl rfl)) (fun _ _ _ _ _ => pts_nil) (fun _ _ _ _ _ => (pe_callTy (k_list (K := K) rfl) (by rfl) T.n_list (by decide +kernel) (pa_cons (pv 11) pa_nil))))
  (pss_cons (ps_set (i := 7) sc_law.nd rfl (Or.inl rfl) (pe_call (ok_l_refused T) (hr.mono (by decide)) rfl T.g_l_refused T.k_l_refused T.b_l_refused .nil pass0 (pa_cons (pv 5) (pa_cons (pv 4) pa_nil))))
  (pss_cons (ps_if (PW.pt (pw_or (pt_cmpR op_ne (pe_ix (k_ixT (K := K) rfl) (pv 7) pe_int (fun _ _ => rfl)) pe_str (nomark _)) (pw_or (pt_cmpR (k_neD (K := K) rfl hr.units) (pe_ix (k_ixT (K := K) rfl) (pv 7) pe_int (fun _ _ => rfl)) (pv 4) (nomark _)) (pw_or1 (pt_cmpR op_ne (pe_callB (k_isi (K := K) rfl) (by rfl) T.n_isinstance (by decide +kernel) (pa_cons (pe_ix (k_ixT (K := K) rfl) (pv 7) pe_int (fun _ _ => rfl)) (pa_cons (pe_bltn (v := .ty "bool") (by rfl) T.n_bool (by decide +kernel) rfl) pa_nil))) (pe_callB (k_isi (K := K) rfl) (by rfl) T.n_isinstance (by decide +kernel) (pa_cons (pv 4) (pa_cons (pe_bltn (v := .ty "bool") (by rfl) T.n_bool (by decide +kernel) rfl) pa_nil))) (nomark _))))))
  (pss_one (ps_ret pe_bl))
  pss_nil)
  (pss_cons (ps_setLc (i := 8) (own := [("_law_pair", 12)]) (g := (gName 12)) (tt := tYes) rfl sc_law.nd rfl rfl (sw_true rfl rfl rfl (by decide +kernel)) (k_pil (K := K) rfl (pe_ix (k_ixL (K := K) rfl) (pv 6) pe_int (fun _ _ => rfl))) (blkOk_by (own := [("_law_pair", 12)]) (N := N_law) (sc := defScope s_law) (by decide +kernel)) (fun _ _ _ _ _ => pg_name (i := 12) sc_law.nd rfl (Or.inl rfl)) (fun _ _ _ _ _ => pts_nil) (fun _ _ _ _ _ => (pe_ix (k_ixT (K := K) rfl) (pv 12) pe_int (fun _ _ => rfl))))
  (pss_cons (ps_for PassesOwn.never rfl (pi_range1 (by rfl) T.n_range (pa_cons (pv 2) pa_nil)) (pg_name (i := 9) sc_law.nd rfl (Or.inl rfl))
  (pss_one (ps_set (i := 8) sc_law.nd rfl (Or.inl rfl) (pe_op op_cat (pv 8) (pe_lc (own := [("_law_pair", 12)]) (g := (gName 12)) (tt := tYes) rfl sc_law.nd (k_pil (K := K) rfl (pe_ix (k_ixL (K := K) rfl) (pv 6) pe_int (fun _ _ => rfl))) (blkOk_by (own := [("_law_pair", 12)]) (N := N_law) (sc := defScope s_law) (by decide +kernel)) (fun _ _ _ _ _ => pg_name (i := 12) sc_law.nd rfl (Or.inl rfl)) (fun _ _ _ _ _ => pts_nil) (fun _ _ _ _ _ => (pe_ix (k_ixT (K := K) rfl) (pv 12) pe_int (fun _ _ => rfl))))))))
  (pss_cons (ps_set (i := 8) sc_law.nd rfl (Or.inl rfl) (pe_op op_cat (pv 8) (pe_lc (own := [("_law_pair", 12)]) (g := (gName 12)) (tt := tYes) rfl sc_law.nd (k_pil (K := K) rfl (pe_ix (k_ixL (K := K) rfl) (pv 6) pe_int (fun _ _ => rfl))) (blkOk_by (own := [("_law_pair", 12)]) (N := N_law) (sc := defScope s_law) (by decide +kernel)) (fun _ _ _ _ _ => pg_name (i := 12) sc_law.nd rfl (Or.inl rfl)) (fun _ _ _ _ _ => pts_nil) (fun _ _ _ _ _ => (pe_ix (k_ixT (K := K) rfl) (pv 12) pe_int (fun _ _ => rfl))))))
  (pss_cons (ps_set (i := 7) sc_law.nd rfl (Or.inl rfl) (pe_call (ok_turned T) (hr.mono (by decide)) rfl T.g_turned T.k_turned T.b_turned .nil passL (pa_cons (pe_ix (k_ixL (K := K) rfl) (pv 5) pe_int (fun _ _ => rfl)) (pa_cons (pe_ix (k_ixL (K := K) rfl) (pv 5) pe_int (fun _ _ => rfl)) (pa_cons (pe_ix (k_ixL (K := K) rfl) (pv 5) pe_int (fun _ _ => rfl)) (pa_cons (pv 2) pa_nil))))))
  (pss_cons (ps_if (PW.pt (pw_or (pt_not (pt_val (pe_callB (k_isi (K := K) rfl) (by rfl) T.n_isinstance (by decide +kernel) (pa_cons (pv 7) (pa_cons (pe_bltn (v := .ty "list") (by rfl) T.n_list (by decide +kernel) rfl) pa_nil))))) (pw_or1 (pt_cmpR (k_neD (K := K) rfl hr.units) (pv 7) (pv 8) (nomark _)))))
  (pss_one (ps_ret pe_bl))
  pss_nil)
  (pss_cons (ps_expr (pe_bm PySem.F.plainAttrs_list PySem.F.slot_list_append PySem.F.type_list_append mt_append (pv 7) (pa_cons (pe_tup (pa_cons pe_int (pa_cons pe_int pa_nil))) pa_nil)))
  (pss_one (ps_ret (pe_and (pe_cmpR (k_eqD (K := K) rfl hr.units) (pe_call (ok_turned T) (hr.mono (by decide)) rfl T.g_turned T.k_turned T.b_turned .nil passL (pa_cons (pe_ix (k_ixL (K := K) rfl) (pv 5) pe_int (fun _ _ => rfl)) (pa_cons (pe_ix (k_ixL (K := K) rfl) (pv 5) pe_int (fun _ _ => rfl)) (pa_cons (pe_ix (k_ixL (K := K) rfl) (pv 5) pe_int (fun _ _ => rfl)) (pa_cons (pv 2) pa_nil))))) (pv 8) (nomark _)) (pe_one (pe_cmpR (k_eqD (K := K) rfl hr.units) (pv 5) (pv 6) (nomark _)))))))))))))))))))), ?_⟩
    walk_at "rdd"
    refine rd_box (k := 0) hS fun p x hp => ?_
    walk_at "rdc"
    refine rd_cut (fun σ H1 => ∃ (p : Addr) (x : Bx) (n : Int), σ = [some (.ref a), some (.ref p), some (.int n), none, none, none, none, none, none, none, none, none, none] ∧ 0 ≤ n ∧ n ≤ 100 ∧ H1 p = some (.lst (bxL x)) ∧ H p = none ∧ Evl.Ex H H1) ?_ ?_
    · walk_at "rdc"
      refine rd_pick upd_same (by decide) (by decide) fun m1 x1 a1 b1 => ?_
      walk_at "rdc"
      refine rd_pick upd_same (by decide) (by decide) fun m2 x2 a2 b2 => ?_
      walk_at "rdc"
      refine ⟨szle (by simp), fun l hl => ?_⟩
      walk_at "rdc"
      refine rd_pick (get_new upd_same hl) (by decide) (by decide) fun m3 x3 a3 b3 => ?_
      obtain ⟨v, hv, hm⟩ := atI_in (xs := [V.int m1, V.int m2, V.int 0, V.int 100]) a3 b3
      have npl : p ≠ l := ne_of_none upd_same hl
      refine rd_ixL (SqL.of (get_ne npl.symm upd_same)) hv ?_
      have hz : ∃ n, v = V.int n ∧ 0 ≤ n ∧ n ≤ 100 := by
        simp only [List.mem_cons, List.not_mem_nil, or_false] at hm
        rcases hm with rfl | rfl | rfl | rfl
        · exact ⟨_, rfl, by omega, by omega⟩
        · exact ⟨_, rfl, by omega, by omega⟩
        · exact ⟨_, rfl, by omega, by omega⟩
        · exact ⟨_, rfl, by omega, by omega⟩
      obtain ⟨n, rfl, n0, n1⟩ := hz
      walk_at "rdc"
      exact ⟨p, x3, n, rfl, n0, n1, upd_same, hp, by walk_at "ex"⟩
    clear hp
    rintro σ H1 ⟨p, x, n, rfl, n0, n1, hp1, hp, e1⟩
    walk_at "rdc"
    refine rd_pick hp1 (by decide) (by decide) fun far x1 f0 f1 => ?_
    walk_at "rdc"
    refine rd_cut (fun σ H2 => ∃ (v : V) (d : PyData), σ = [some (.ref a), some (.ref p), some (.int n), some (.int far), some v, none, none, none, none, none, none, none, none] ∧ BadV K H2 v ∧ Dt K H2 v d ∧ Sh 1 d ∧ Evl.Ex H H2) ?_ ?_
    · walk_at "rdc"
      refine ⟨szle (by simp), fun t0 ht0 => ?_⟩
      walk_at "rdc"
      refine ⟨szle (by simp), fun l hl => ?_⟩
      walk_at "rdc"
      refine rd_pick (by walk_at "hp") (by decide) (by decide) fun m3 x3 a3 b3 => ?_
      have npl : p ≠ l := ne_of_none (get_new upd_same ht0) hl
      obtain ⟨v, hv, hm⟩ := atI_in (xs := [V.bl true, V.bl false, V.int (-1), V.int 101, V.int (-2 - far), V.int (102 + far), V.non, V.str "2", V.ref t0]) a3 b3
      refine rd_ixL (SqL.of (get_ne npl.symm upd_same)) hv ?_
      have ht : (upd (upd (upd (upd H1 p (.lst (bxL x1))) t0 (.tup [.int 1])) l (.lst [V.bl true, V.bl false, V.int (-1), V.int 101, V.int (-2 - far), V.int (102 + far), V.non, V.str "2", V.ref t0])) p (.lst (bxL x3))) t0 = some (.tup [.int 1]) :=
        get_ne (fun z => by rw [z, upd_same] at ht0; cases ht0) (get_new upd_same hl)
      have hz : ∃ d, BadV K (upd (upd (upd (upd H1 p (.lst (bxL x1))) t0 (.tup [.int 1])) l (.lst [V.bl true, V.bl false, V.int (-1), V.int 101, V.int (-2 - far), V.int (102 + far), V.non, V.str "2", V.ref t0])) p (.lst (bxL x3))) v ∧ Dt K (upd (upd (upd (upd H1 p (.lst (bxL x1))) t0 (.tup [.int 1])) l (.lst [V.bl true, V.bl false, V.int (-1), V.int 101, V.int (-2 - far), V.int (102 + far), V.non, V.str "2", V.ref t0])) p (.lst (bxL x3))) v d ∧ Sh 1 d := by
        simp only [List.mem_cons, List.not_mem_nil, or_false] at hm
        rcases hm with rfl | rfl | rfl | rfl | rfl | rfl | rfl | rfl | rfl
        · exact ⟨_, ⟨.type "bool", true, true, .base (.bl _), kit_ty (by decide +kernel), kit_ty (by decide +kernel), fun z => nomatch z⟩, .bl _, (Sh.bl _).mono (by decide)⟩
        · exact ⟨_, ⟨.type "bool", true, true, .base (.bl _), kit_ty (by decide +kernel), kit_ty (by decide +kernel), fun z => nomatch z⟩, .bl _, (Sh.bl _).mono (by decide)⟩
        · exact ⟨_, ⟨.type "int", true, false, .base (.int _), kit_ty (by decide +kernel), kit_ty (by decide +kernel), fun _ => ⟨_, rfl, by omega⟩⟩, .int _, (Sh.int _).mono (by decide)⟩
        · exact ⟨_, ⟨.type "int", true, false, .base (.int _), kit_ty (by decide +kernel), kit_ty (by decide +kernel), fun _ => ⟨_, rfl, by omega⟩⟩, .int _, (Sh.int _).mono (by decide)⟩
        · exact ⟨_, ⟨.type "int", true, false, .base (.int _), kit_ty (by decide +kernel), kit_ty (by decide +kernel), fun _ => ⟨_, rfl, by omega⟩⟩, .int _, (Sh.int _).mono (by decide)⟩
        · exact ⟨_, ⟨.type "int", true, false, .base (.int _), kit_ty (by decide +kernel), kit_ty (by decide +kernel), fun _ => ⟨_, rfl, by omega⟩⟩, .int _, (Sh.int _).mono (by decide)⟩
        · exact ⟨_, ⟨.type "NoneType", false, false, .base .non, kit_ty (by decide +kernel), kit_ty (by decide +kernel), fun z => nomatch z⟩, .non, Sh.non.mono (by decide)⟩
        · exact ⟨_, ⟨.type "str", false, false, .base (.str _), kit_ty (by decide +kernel), kit_ty (by decide +kernel), fun z => nomatch z⟩, .str _, (Sh.str (by decide +kernel)).mono (by decide)⟩
        · exact ⟨_, ⟨.type "tuple", false, false, .base (.tup ht), kit_ty (by decide +kernel), kit_ty (by decide +kernel), fun z => nomatch z⟩, .tup (SqT.of ht) (.cons (.int 1) .nil), Sh.tup (.cons (.int 1) .nil)⟩
      obtain ⟨d, hb, hd, hsd⟩ := hz
      walk_at "rdc"
      exact ⟨v, d, rfl, hb, hd, hsd, by walk_at "ex"⟩
    rintro σ H2 ⟨v, d, rfl, hv, hd, hsd, e2⟩
    refine rd_cut (fun σ H3 => ∃ (r ra rb rc : Addr) (xs ys zs : List V) (ds es fs : List (PyData × PyData)), σ = [some (.ref a), some (.ref p), some (.int n), some (.int far), some v, some (.ref r), none, none, none, none, none, none, none] ∧ Rd3 K H3 r ra rb rc xs ys zs ds es fs ∧ Evl.Ex H2 H3) ?_ ?_
    · walk_at "rdc"
      refine rd_lcR2 (lo := 1) (hi := 4) (fun D i acc H' => ∃ L, Made K H2 D H' acc L) (fun R q => rd_cons (rd_c (rd_cons (rd_c (rd_nil q))))) (by omega) (by decide) (fun _ => rfl) (fun D hD => ⟨[], .nil⟩) ?_ ?_
      · intro D i acc H' R hD e hi hacc hl ⟨L, hL⟩ kk
        walk_at "rdc"
        refine rd_box' (Evl.ex_l (e2.trans e) hS) (by omega) fun p0 x0 hp0 => ?_
        walk_at "rdc"
        refine ⟨p0, x0, rfl, upd_same, fun q H'' xs hq hF hqx hlx hR => ?_⟩
        have np0 : H2 p0 = none := Evl.fresh_back e hp0
        have eF : Evl.Ex H2 H'' := fun b o z => hF b o (ne_of_none z np0) (get_new (e b o z) hp0)
        have nq : H2 q = none := Evl.fresh_back (e.trans (.new hp0)) hq
        have hD'' : H'' D = some (.lst acc) := hF D _ (ne_of_none hacc hp0) (get_new hacc hp0)
        have nqD : q ≠ D := fun z => by
          rw [z, get_new hacc hp0] at hq
          cases hq
        have xt : ExT H' (upd H'' D (.lst (acc ++ [.ref q]))) := by
          refine ExT.trans (fun b ys z => ?_) (ext_lst hD'')
          have nb : b ≠ p0 := fun y => by
            subst y
            exact noT_none hp0 ys z
          rcases z with z | ⟨o, z⟩
          · exact .inl (hF b _ nb (get_new z hp0))
          · exact .inr ⟨o, hF b _ nb (get_new z hp0)⟩
        refine kk (.ref q) H'' eF hD'' ⟨L ++ [xs], ?_⟩
        refine Paired.snoc (L2.Paired.mapP hL ?_) ⟨q, rfl, get_ne nqD hqx, nq, nqD, hlx, hR.ex (ext_lst hD'')⟩
        rintro v' xs' ⟨q', rfl, h1, h2, h3, h4, h5⟩
        exact ⟨q', rfl, get_ne h3 (hF _ _ (ne_of_none h1 hp0) (get_new h1 hp0)), h2, h3, h4, h5.ex xt⟩
      · intro D acc H' hD e hacc hl ⟨L, hL⟩
        walk_at "rdc"
        have hl3 : acc.length = 3 := hl
        match acc, L, hL, hl3 with
        | [_, _, _], [xs, ys, zs], .cons ⟨q1, rfl, h1, _, _, l1, ds, d1, s1⟩ (.cons ⟨q2, rfl, h2, _, _, l2, es, d2, s2⟩ (.cons ⟨q3, rfl, h3, _, _, l3, fs, d3, s3⟩ .nil)), _ =>
          exact ⟨D, q1, q2, q3, xs, ys, zs, ds, es, fs, rfl, ⟨hacc, h1, h2, h3, d1, d2, d3, s1, s2, s3, l1, l2, l3⟩, e⟩
    rintro σ H3 ⟨r, ra, rb, rc, xs, ys, zs, ds, es, fs, rfl, hR, e3⟩
    refine rd_cut (fun σ H4 => ∃ (kp ka kb kc : Addr), σ = [some (.ref a), some (.ref p), some (.int n), some (.int far), some v, some (.ref r), some (.ref kp), none, none, none, none, none, none] ∧ Rd3 K H4 kp ka kb kc xs ys zs ds es fs ∧ Evl.Ex H3 H4) ?_ ?_
    · walk_at "rdc"
      refine rd_lcL (xs := [.ref ra, .ref rb, .ref rc]) (fun D i acc H' => Paired (fun y x => ∃ q q0 zs, y = .ref q ∧ x = .ref q0 ∧ H3 q0 = some (.lst zs) ∧ H' q = some (.lst zs) ∧ q ≠ D) acc ([V.ref ra, V.ref rb, V.ref rc].take i)) (fun R q => rd_var rfl q) (SqL.of hR.r) (by simp) (fun _ => rfl) (fun D hD => .nil) ?_ ?_
      · intro D i x acc H' R hD e hi hacc hl hJ kk
        have hx : ∃ q0 ws, x = .ref q0 ∧ H3 q0 = some (.lst ws) := by
          have hm := List.mem_of_getElem? hi
          simp only [List.mem_cons, List.not_mem_nil, or_false] at hm
          rcases hm with rfl | rfl | rfl
          · exact ⟨_, _, rfl, hR.a⟩
          · exact ⟨_, _, rfl, hR.b⟩
          · exact ⟨_, _, rfl, hR.c⟩
        obtain ⟨q0, ws, rfl, hq0⟩ := hx
        walk_at "rdc"
        refine rd_listQ (SqL.of (e _ _ hq0)) fun q hq => ?_
        have nqD : q ≠ D := fun z => by
          rw [z, hacc] at hq
          cases hq
        refine kk (.ref q) _ (e.trans (.new hq)) (get_new hacc hq) ?_
        rw [take_more hi]
        refine Paired.snoc (L2.Paired.mapP hJ ?_) ⟨q, q0, ws, rfl, rfl, hq0, get_ne nqD upd_same, nqD⟩
        rintro y' x' ⟨q', q0', zs', rfl, rfl, h1, h2, h3⟩
        exact ⟨q', q0', zs', rfl, rfl, h1, get_ne h3 (get_new h2 hq), h3⟩
      · intro D acc H' hD e hacc hl hJ
        walk_at "rdc"
        have hJ' : Paired (fun y x => ∃ q q0 zs, y = V.ref q ∧ x = V.ref q0 ∧ H3 q0 = some (.lst zs) ∧ H' q = some (.lst zs) ∧ q ≠ D) acc [V.ref ra, V.ref rb, V.ref rc] := hJ
        match acc, hJ' with
        | [_, _, _], .cons ⟨q1, _, z1, rfl, y1, h1, g1, _⟩ (.cons ⟨q2, _, z2, rfl, y2, h2, g2, _⟩ (.cons ⟨q3, _, z3, rfl, y3, h3, g3, _⟩ .nil)) =>
          cases y1
          cases y2
          cases y3
          have w1 := h1.symm.trans hR.a
          have w2 := h2.symm.trans hR.b
          have w3 := h3.symm.trans hR.c
          cases w1
          cases w2
          cases w3
          have hR' := hR.ex e
          exact ⟨D, q1, q2, q3, rfl, ⟨hacc, g1, g2, g3, hR'.da, hR'.db, hR'.dc, hR.sa, hR.sb, hR.sc, hR.la, hR.lb, hR.lc⟩, e⟩
    rintro σ H4 ⟨kp, ka, kb, kc, rfl, hK, e4⟩
    walk_at "rdc"
    obtain ⟨sx, sy, sz, hRs, gx, gy, gz⟩ := (hR.ex e4).rds
    obtain ⟨t, bi, bb, ty, k1, k2, hbad⟩ := hv
    have e24 := e3.trans e4
    refine ⟨r, ra, rb, rc, xs, ys, zs, sx, sy, sz, v, rfl, hRs, ⟨t, bi, bb, tyX_ex e24 ty, k1, k2, hbad⟩, fun pt H5 npt e5 hpt => ?_⟩
    walk_at "rdc"
    refine rd_ixT (SqT.of hpt) rfl ?_
    walk_at "rdc"
    refine if_f rfl ?_
    walk_at "rdc"
    refine rd_ixT (SqT.of hpt) rfl ?_
    walk_at "rdc"
    have hd5 := hd.mono (.of (e24.trans e5))
    refine ⟨d, d, hd5.dp, hd5.dp, hsd.shaped (by decide), hsd.shaped (by decide), ?_⟩
    rw [hsd.refl]
    walk_at "rdc"
    refine if_f rfl ?_
    walk_at "rdc"
    refine rd_ixT (SqT.of hpt) rfl ?_
    walk_at "rdc"
    refine rd_isi (.ty _) (tyX_ex (e24.trans e5) ty) k2 ?_
    walk_at "rdc"
    refine rd_isi (.ty _) (tyX_ex (e24.trans e5) ty) k2 ?_
    walk_at "rdc"
    refine if_nd (fun z => absurd rfl z) (fun _ => ?_)
    walk_at "rdc"
    have hK5 := hK.ex e5
    have hRs5 := hRs.ex e5
    have hR5 := (hR.ex e4).ex e5
    refine rd_firsts (fun R q => rd_op (rd_var rfl (rd_c (rd_ixL (SqL.of hK5.r) rfl q)))) (SqL.of hK5.a) hRs5.fa (by have := hR.la; omega) (fun _ => rfl) (fun _ => rfl) fun D6 H6 n6 e6 d6 => ?_
    walk_at "rdc"
    have lx := Paired.lenL hRs.fa
    have ly := Paired.lenL hRs.fb
    have lz := Paired.lenL hRs.fc
    have la := hR.la
    have lb := hR.lb
    have lc := hR.lc
    have hrep : ∀ i : Nat, i ≤ n.toNat → (List.replicate i sy).flatten.length ≤ 1000 := fun i hi => by
      rw [rep_len]
      exact Nat.le_trans (Nat.mul_le_mul (by omega : i ≤ 100) (by omega : sy.length ≤ 10)) (by decide)
    refine ⟨n, rfl, by omega, by omega, for_range (lo := 0) (n := n.toNat) (fun i σ H' => ∃ (q : Addr) (u : Option V), σ = [some (.ref a), some (.ref p), some (.int n), some (.int far), some v, some (.ref r), some (.ref kp), some (.ref pt), some (.ref q), u, none, none, none] ∧ H' q = some (.lst (sx ++ (List.replicate i sy).flatten)) ∧ Evl.Ex H6 H')
      ⟨D6, none, rfl, by simpa using d6, .refl _⟩ ?_ ?_⟩
    · rintro i σ H' hi ⟨q, u, rfl, hq, e⟩
      walk_at "rdc"
      have e6' := e6.trans e
      have hK7 := hK5.ex e6'
      refine rd_firsts (fun R q => rd_op (rd_var rfl (rd_c (rd_ixL (SqL.of hK7.r) rfl q)))) (SqL.of hK7.b) (hRs5.fb.ex (.of e6')) (by omega) (fun _ => rfl) (fun _ => rfl) fun D7 H7 n7 e7 d7 => ?_
      refine rd_cat (e7 _ _ hq) d7 ?_ fun q2 hq2 => ?_
      · rw [List.length_append]
        have := hrep i (by omega)
        exact szle (by omega)
      walk_at "rdc"
      refine ⟨q2, _, rfl, ?_, (e.trans e7).trans (.new hq2)⟩
      rw [upd_same, List.replicate_succ', List.flatten_append, List.append_assoc]
      simp
    rintro σ H7 ⟨q, u, rfl, hq, e7⟩
    walk_at "rdc"
    have e57 := e6.trans e7
    have hK7 := hK5.ex e57
    refine rd_firsts (fun R q => rd_op (rd_var rfl (rd_c (rd_ixL (SqL.of hK7.r) rfl q)))) (SqL.of hK7.c) (hRs5.fc.ex (.of e57)) (by omega) (fun _ => rfl) (fun _ => rfl) fun D8 H8 n8 e8 d8 => ?_
    refine rd_cat (e8 _ _ hq) d8 ?_ fun q3 hq3 => ?_
    · rw [List.length_append]
      have := hrep n.toNat (Nat.le_refl _)
      exact szle (by omega)
    have hdat : ∃ D, DtAll K H4 (sx ++ (List.replicate n.toNat sy).flatten ++ sz) D ∧ ShA 1 D := by
      refine ⟨_, (gx.append (DtAll.rep gy n.toNat)).append gz, .of fun e he => ?_⟩
      rcases List.mem_append.mp he with he | he
      · rcases List.mem_append.mp he with he | he
        · obtain ⟨c, hc, rfl⟩ := List.mem_map.mp he
          exact (hR.sa c hc).1
        · obtain ⟨l, hl, he⟩ := List.mem_flatten.mp he
          rw [(List.mem_replicate.mp hl).2] at he
          obtain ⟨c, hc, rfl⟩ := List.mem_map.mp he
          exact (hR.sb c hc).1
      · obtain ⟨c, hc, rfl⟩ := List.mem_map.mp he
        exact (hR.sc c hc).1
    obtain ⟨W, hW, hWs⟩ := hdat
    have e9 : Evl.Ex H5 (upd H8 q3 (.lst (sx ++ (List.replicate n.toNat sy).flatten ++ sz))) := (e57.trans e8).trans (.new hq3)
    have hRs9 := hRs5.ex e9
    have hr9 := hRs9.r
    have hR9 := hR5.ex e9
    have hK9 := hK5.ex e9
    have hW9 := hW.mono (.of (e5.trans e9))
    have hq9 : (upd H8 q3 (.lst (sx ++ (List.replicate n.toNat sy).flatten ++ sz))) q3 = some (.lst (sx ++ (List.replicate n.toNat sy).flatten ++ sz)) := upd_same
    generalize upd H8 q3 (.lst (sx ++ (List.replicate n.toNat sy).flatten ++ sz)) = H9 at *
    walk_at "rdc"
    refine rd_turned hRs9 n0 n1 fun p1 H10 np1 e10 hp1' => ?_
    walk_at "rdc"
    refine rd_isi (.ty _) (.base (.lst hp1')) (kit_ty (r := true) (by decide +kernel)) ?_
    walk_at "rdc"
    refine if_f rfl ?_
    walk_at "rdc"
    have hW10 := hW9.mono (.of e10)
    refine ⟨.list W, .list W, .lst (SqL.of hp1') hW10.dp, .lst (SqL.of (e10 _ _ hq9)) hW10.dp, (Sh.lst hWs).shaped (by decide), (Sh.lst hWs).shaped (by decide), ?_⟩
    rw [(Sh.lst hWs).refl]
    walk_at "rdc"
    refine if_f rfl ?_
    walk_at "rdc"
    refine ⟨szle (by simp), fun t2 ht2 => ?_⟩
    walk_at "rdc"
    refine rd_append (get_new hp1' ht2) ?_ ?_
    · rw [List.length_append, List.length_append]
      have := hrep n.toNat (Nat.le_refl _)
      exact szl (by omega)
    have e11 : Evl.Ex H9 (upd (upd H10 t2 (.tup [.int 0, .int 0])) p1 (.lst (sx ++ (List.replicate n.toNat sy).flatten ++ sz ++ [.ref t2]))) := (e10.trans (.new ht2)).mut np1
    generalize upd (upd H10 t2 (.tup [.int 0, .int 0])) p1 (.lst (sx ++ (List.replicate n.toNat sy).flatten ++ sz ++ [.ref t2])) = H11 at *
    have hRs11 := hRs9.ex e11
    have hr11 := hRs11.r
    walk_at "rdc"
    refine rd_turned hRs11 n0 n1 fun p2 H12 np2 e12 hp2 => ?_
    walk_at "rdc"
    have e9' := e11.trans e12
    have hW12 := hW9.mono (.of e9')
    refine ⟨.list W, .list W, .lst (SqL.of hp2) hW12.dp, .lst (SqL.of (e9' _ _ hq9)) hW12.dp, (Sh.lst hWs).shaped (by decide), (Sh.lst hWs).shaped (by decide), ?_⟩
    rw [(Sh.lst hWs).refl]
    walk_at "rdc"
    refine if_t rfl ?_
    walk_at "rdc"
    have hRf := hR9.ex e9'
    have hKf := hK9.ex e9'
    refine ⟨_, _, hRf.dp, hKf.dp, hRf.sh.shaped (by decide), hRf.sh.shaped (by decide), ?_⟩
    rw [hRf.sh.refl]
    exact k _
end
theorem all_mk {w : World} {K : PySem.W.Frag} {h : Heap} {mg : Str → Option Value} {fa : Addr} (X : K.In h) (G : h.Ns mainGlobals mg) (hfa : mg "law" = some (.ref fa))
    {t_MOST_TIMES : Tok}
    {C_TakeError : Addr}
    {C_NoMeasure : Addr}
    {C_BadTimes : Addr}
    {nm_BadTimes qq_BadTimes : Str} {N_BadTimes : Addr} {bs_BadTimes bm_BadTimes : List Value} {sn_BadTimes : List Str} {sub_BadTimes : List Value} {ab_BadTimes : Bool} {col_BadTimes : Option Bool} {dd_BadTimes : Option Addr} {m0_BadTimes m1_BadTimes m2_BadTimes m3_BadTimes m5_BadTimes : Option Value}
    {fI_BadTimes cc_BadTimes cda_BadTimes : Addr} {oc_BadTimes doc_BadTimes pm_BadTimes ct_BadTimes cl_BadTimes ccl_BadTimes : Value} {od_BadTimes an_BadTimes cld_BadTimes cdd_BadTimes : Option Addr} {osl_BadTimes csl_BadTimes ccs_BadTimes : Array (Option Value)} {vs_BadTimes : Array Value} {fi_BadTimes : Str} {tf_BadTimes : Tok}
    {a_is_integer : Addr} {od_is_integer an_is_integer : Option Addr} {sl_is_integer : Array (Option Value)} {oc_is_integer kV_is_integer dc_is_integer pm_is_integer cd_is_integer ct_is_integer : Value}
    {a_turned : Addr} {od_turned an_turned : Option Addr} {sl_turned : Array (Option Value)} {oc_turned kV_turned dc_turned pm_turned cd_turned ct_turned : Value}
    {a_l_box : Addr} {od_l_box an_l_box : Option Addr} {sl_l_box : Array (Option Value)} {oc_l_box kV_l_box dc_l_box pm_l_box cd_l_box ct_l_box : Value}
    {a_l_pick : Addr} {od_l_pick an_l_pick : Option Addr} {sl_l_pick : Array (Option Value)} {oc_l_pick kV_l_pick dc_l_pick pm_l_pick cd_l_pick ct_l_pick : Value}
    {a_l_marked : Addr} {od_l_marked an_l_marked : Option Addr} {sl_l_marked : Array (Option Value)} {oc_l_marked kV_l_marked dc_l_marked pm_l_marked cd_l_marked ct_l_marked : Value}
    {a_l_refused : Addr} {od_l_refused an_l_refused : Option Addr} {sl_l_refused : Array (Option Value)} {oc_l_refused kV_l_refused dc_l_refused pm_l_refused cd_l_refused ct_l_refused : Value}
    {a_law : Addr} {od_law an_law : Option Addr} {sl_law : Array (Option Value)} {oc_law kV_law dc_law pm_law cd_law ct_law : Value}
    (z_bool : PySem.W.nsIn K mainGlobals "bool" = some none)
    (z_int : PySem.W.nsIn K mainGlobals "int" = some none)
    (z_isinstance : PySem.W.nsIn K mainGlobals "isinstance" = some none)
    (z_len : PySem.W.nsIn K mainGlobals "len" = some none)
    (z_list : PySem.W.nsIn K mainGlobals "list" = some none)
    (z_range : PySem.W.nsIn K mainGlobals "range" = some none)
    (z_ValueError : PySem.W.nsIn K mainGlobals "ValueError" = some none)
    (c_MOST_TIMES : PySem.W.nsIn K mainGlobals "MOST_TIMES" = some (some (.int 100 t_MOST_TIMES)))
    (g_TakeError : PySem.W.nsIn K mainGlobals "TakeError" = some (some (.ref C_TakeError)))
    (g_NoMeasure : PySem.W.nsIn K mainGlobals "NoMeasure" = some (some (.ref C_NoMeasure)))
    (g_BadTimes : PySem.W.nsIn K mainGlobals "BadTimes" = some (some (.ref C_BadTimes)))
    (xL_BadTimes : K.lookup C_BadTimes = some (excClassObj nm_BadTimes qq_BadTimes C_BadTimes N_BadTimes bs_BadTimes bm_BadTimes true sn_BadTimes sub_BadTimes ab_BadTimes col_BadTimes dd_BadTimes m0_BadTimes m1_BadTimes m2_BadTimes m3_BadTimes m5_BadTimes "ValueError.__new__"))
    (ve_BadTimes : PySem.HandSPX.refsVE bm_BadTimes = true)
    (sa_BadTimes : PySem.W.findIn K (.ref C_BadTimes) "__setattr__" = some (some (.builtin "object.__setattr__")))
    (ga_BadTimes : PySem.W.findIn K (.ref C_BadTimes) "__getattribute__" = some (some (.builtin "BaseException.__getattribute__")))
    (gg_BadTimes : PySem.W.findIn K (.ref C_BadTimes) "__getattr__" = some none)
    (kC_BadTimes : PySem.W.keepIn K (.ref C_BadTimes) = true)
    (eC_BadTimes : PySem.W.subIn K (.ref C_BadTimes) (.type "BaseException") = some true)
    (vC_BadTimes : PySem.W.subIn K (.ref C_BadTimes) (.type "ValueError") = some true)
    (tC_BadTimes : PySem.W.typeIn K (.ref C_BadTimes) = some (.type "type"))
    (hC_BadTimes : PySem.W.hasDictIn K C_BadTimes = true)
    (iS_BadTimes : PySem.W.isClsIn K C_BadTimes = true)
    (mr_BadTimes : PySem.W.mroIn K C_BadTimes (.ref C_BadTimes) = some true)
    (mo_BadTimes : PySem.W.mroIn K C_BadTimes (.type "object") = some true)
    (ha_BadTimes : PySem.W.findIn K (.ref C_BadTimes) "__class__" = some (some (.builtin "object.__class__")))
    (iC_BadTimes : PySem.W.findIn K (.ref C_BadTimes) "__init__" = some (some (.ref fI_BadTimes)))
    (tI_BadTimes : PySem.W.typeIn K (.ref fI_BadTimes) = some (.type "function"))
    (l1_BadTimes : K.lookup fI_BadTimes = some ⟨oc_BadTimes, od_BadTimes, .func (PySem.W.ksFn "__init__" "BadTimes.__init__" (defArgs (inClass (top 3) 0)) (defBody (inClass (top 3) 0)) (defScope (inClass (top 3) 0)) .none .none doc_BadTimes pm_BadTimes an_BadTimes (.ref cda_BadTimes) ct_BadTimes cc_BadTimes), osl_BadTimes⟩)
    (c1_BadTimes : PySem.W.codeIn K (.ref cda_BadTimes) "BadTimes.__init__" = true)
    (su_BadTimes : PySem.W.ks_superIn K C_BadTimes C_BadTimes "__init__" = some (some (.builtin "ValueError.__init__")))
    (ce_BadTimes : K.lookup cc_BadTimes = some ⟨cl_BadTimes, cld_BadTimes, .cell (some (.ref C_BadTimes)), csl_BadTimes⟩)
    (co_BadTimes : K.lookup cda_BadTimes = some ⟨ccl_BadTimes, cdd_BadTimes, .fields vs_BadTimes, ccs_BadTimes⟩)
    (v2_BadTimes : vs_BadTimes[2]? = some (.str fi_BadTimes tf_BadTimes))
    (fe_BadTimes : ((PR.main.file : Str) == fi_BadTimes) = true)
    (no_times_BadTimes : PySem.W.findIn K (.ref C_BadTimes) "times" = some none)
    (opq : PySem.W.nsIn K cStatics "thirdparty.any" = some none)
    (z_super : PySem.W.nsIn K mainGlobals "super" = some none)
    (cget : PySem.W.specialIn K (.builtin "object.__class__") "__get__" = some (some (.builtin "getset_descriptor.__get__")))
    (ctk : PySem.W.takesIn K (.builtin "object.__class__") = some true)
    (q_BadTimes_TakeError : PySem.W.kitOne K (.ref C_BadTimes) (.ref C_TakeError) = some true)
    (q_BadTimes_ValueError : PySem.W.kitOne K (.ref C_BadTimes) (.type "ValueError") = some true)
    (q_BadTimes_NoMeasure : PySem.W.kitOne K (.ref C_BadTimes) (.ref C_NoMeasure) = some false)
    (m_BadTimes_BadTimes : PySem.W.exmOne K (.ref C_BadTimes) (.ref C_BadTimes) = some true)
    (g_is_integer : PySem.W.nsIn K mainGlobals "is_integer" = some (some (.ref a_is_integer)))
    (l_is_integer : K.lookup a_is_integer = some ⟨oc_is_integer, od_is_integer, .func (PySem.W.fnOf "is_integer" "is_integer" (defArgs s_is_integer) (defBody s_is_integer) (defScope s_is_integer) .none kV_is_integer dc_is_integer pm_is_integer an_is_integer cd_is_integer ct_is_integer), sl_is_integer⟩)
    (c_is_integer : PySem.W.codeIn K cd_is_integer "is_integer" = true)
    (k_is_integer : PySem.W.keepIn K (.ref a_is_integer) = true)
    (g_turned : PySem.W.nsIn K mainGlobals "turned" = some (some (.ref a_turned)))
    (l_turned : K.lookup a_turned = some ⟨oc_turned, od_turned, .func (PySem.W.fnOf "turned" "turned" (defArgs s_turned) (defBody s_turned) (defScope s_turned) .none kV_turned dc_turned pm_turned an_turned cd_turned ct_turned), sl_turned⟩)
    (c_turned : PySem.W.codeIn K cd_turned "turned" = true)
    (k_turned : PySem.W.keepIn K (.ref a_turned) = true)
    (g_l_box : PySem.W.nsIn K mainGlobals "_law_box" = some (some (.ref a_l_box)))
    (l_l_box : K.lookup a_l_box = some ⟨oc_l_box, od_l_box, .func (PySem.W.fnOf "_law_box" "_law_box" (defArgs s_l_box) (defBody s_l_box) (defScope s_l_box) .none kV_l_box dc_l_box pm_l_box an_l_box cd_l_box ct_l_box), sl_l_box⟩)
    (c_l_box : PySem.W.codeIn K cd_l_box "_law_box" = true)
    (k_l_box : PySem.W.keepIn K (.ref a_l_box) = true)
    (g_l_pick : PySem.W.nsIn K mainGlobals "_law_pick" = some (some (.ref a_l_pick)))
    (l_l_pick : K.lookup a_l_pick = some ⟨oc_l_pick, od_l_pick, .func (PySem.W.fnOf "_law_pick" "_law_pick" (defArgs s_l_pick) (defBody s_l_pick) (defScope s_l_pick) .none kV_l_pick dc_l_pick pm_l_pick an_l_pick cd_l_pick ct_l_pick), sl_l_pick⟩)
    (c_l_pick : PySem.W.codeIn K cd_l_pick "_law_pick" = true)
    (k_l_pick : PySem.W.keepIn K (.ref a_l_pick) = true)
    (g_l_marked : PySem.W.nsIn K mainGlobals "_law_marked" = some (some (.ref a_l_marked)))
    (l_l_marked : K.lookup a_l_marked = some ⟨oc_l_marked, od_l_marked, .func (PySem.W.fnOf "_law_marked" "_law_marked" (defArgs s_l_marked) (defBody s_l_marked) (defScope s_l_marked) .none kV_l_marked dc_l_marked pm_l_marked an_l_marked cd_l_marked ct_l_marked), sl_l_marked⟩)
    (c_l_marked : PySem.W.codeIn K cd_l_marked "_law_marked" = true)
    (k_l_marked : PySem.W.keepIn K (.ref a_l_marked) = true)
    (g_l_refused : PySem.W.nsIn K mainGlobals "_law_refused" = some (some (.ref a_l_refused)))
    (l_l_refused : K.lookup a_l_refused = some ⟨oc_l_refused, od_l_refused, .func (PySem.W.fnOf "_law_refused" "_law_refused" (defArgs s_l_refused) (defBody s_l_refused) (defScope s_l_refused) .none kV_l_refused dc_l_refused pm_l_refused an_l_refused cd_l_refused ct_l_refused), sl_l_refused⟩)
    (c_l_refused : PySem.W.codeIn K cd_l_refused "_law_refused" = true)
    (k_l_refused : PySem.W.keepIn K (.ref a_l_refused) = true)
    (g_law : PySem.W.nsIn K mainGlobals "law" = some (some (.ref a_law)))
    (l_law : K.lookup a_law = some ⟨oc_law, od_law, .func (PySem.W.fnOf "law" "law" (defArgs s_law) (defBody s_law) (defScope s_law) .none kV_law dc_law pm_law an_law cd_law ct_law), sl_law⟩)
    (c_law : PySem.W.codeIn K cd_law "law" = true)
    (k_law : PySem.W.keepIn K (.ref a_law) = true)
    : ∃ fd : FuncData, (∀ (s : Shared) (v : Value), BindsTo s fd ⟨[v], []⟩ [("_law_script", v)]) ∧ ∀ base : Heap, K.In base → base.Ns mainGlobals mg → FnOk PR w K mg base CX0 10 fa fd ["_law_script"] (sp_law K) := by
  have e := hfa.symm.trans (PySem.W.mg_of X G g_law)
  cases e
  exact ⟨PySem.W.fnOf "law" "law" (defArgs s_law) (defBody s_law) (defScope s_law) .none kV_law dc_law pm_law an_law cd_law ct_law, fun s v => .of_eq rfl, fun base _ _ => (ok_law (w := w) (base := base) ({
    n_bool := PySem.W.mg_none_of X G z_bool,
    n_int := PySem.W.mg_none_of X G z_int,
    n_isinstance := PySem.W.mg_none_of X G z_isinstance,
    n_len := PySem.W.mg_none_of X G z_len,
    n_list := PySem.W.mg_none_of X G z_list,
    n_range := PySem.W.mg_none_of X G z_range,
    n_ValueError := PySem.W.mg_none_of X G z_ValueError,
    t_MOST_TIMES := t_MOST_TIMES,
    c_MOST_TIMES := PySem.W.mg_of X G c_MOST_TIMES,
    C_TakeError := C_TakeError,
    g_TakeError := PySem.W.mg_of X G g_TakeError,
    C_NoMeasure := C_NoMeasure,
    g_NoMeasure := PySem.W.mg_of X G g_NoMeasure,
    C_BadTimes := C_BadTimes,
    g_BadTimes := PySem.W.mg_of X G g_BadTimes,
    fI_BadTimes := fI_BadTimes,
    cc_BadTimes := cc_BadTimes,
    cda_BadTimes := cda_BadTimes,
    e_BadTimes := { gC := PySem.W.mg_of X G g_BadTimes, cls := ⟨_, _, _, _, _, _, _, _, _, _, _, _, _, _, _, xL_BadTimes, ve_BadTimes⟩, sa := sa_BadTimes, ga := ga_BadTimes, gg := gg_BadTimes, iC := iC_BadTimes, tI := tI_BadTimes, kC := kC_BadTimes, exC := eC_BadTimes, veC := vC_BadTimes, tyC := tC_BadTimes, hdC := hC_BadTimes, mro := mr_BadTimes, sup := su_BadTimes, opq := opq, noS := PySem.W.mg_none_of X G z_super, cell := ⟨_, _, _, ce_BadTimes⟩, code := ⟨_, _, _, _, _, _, co_BadTimes, v2_BadTimes, fe_BadTimes⟩, top := by decide +kernel, no1 := no_times_BadTimes, ok1 := by decide +kernel, fn := ⟨_, _, _, _, _, _, _, _, _, _, _, _, _, _, _, _, _, _, _, _, _, l1_BadTimes, c1_BadTimes, fun _ _ => rfl, ⟨_, fun _ => ⟨rfl, rfl⟩⟩⟩ },
    i_BadTimes := ⟨ga_BadTimes, gg_BadTimes, eC_BadTimes, iS_BadTimes, ha_BadTimes, cget, ctk, mo_BadTimes⟩,
    x_BadTimes := ⟨ga_BadTimes, gg_BadTimes, eC_BadTimes, hC_BadTimes⟩,
    q_BadTimes_TakeError := q_BadTimes_TakeError,
    q_BadTimes_ValueError := q_BadTimes_ValueError,
    q_BadTimes_NoMeasure := q_BadTimes_NoMeasure,
    m_BadTimes_BadTimes := m_BadTimes_BadTimes,
    a_is_integer := a_is_integer,
    fd_is_integer := _,
    F_is_integer := fun_mk (st := s_is_integer) l_is_integer c_is_integer k_is_integer,
    g_is_integer := PySem.W.mg_of X G g_is_integer,
    k_is_integer := k_is_integer,
    b_is_integer := (fun_mk (st := s_is_integer) l_is_integer c_is_integer k_is_integer).binds (ps := ["value"]) fun _ _ _ _ _ _ us hl => match us, hl with | [_], _ => rfl,
    a_turned := a_turned,
    fd_turned := _,
    F_turned := fun_mk (st := s_turned) l_turned c_turned k_turned,
    g_turned := PySem.W.mg_of X G g_turned,
    k_turned := k_turned,
    b_turned := (fun_mk (st := s_turned) l_turned c_turned k_turned).binds (ps := ["before", "around", "after", "times"]) fun _ _ _ _ _ _ us hl => match us, hl with | [_, _, _, _], _ => rfl,
    a_l_box := a_l_box,
    fd_l_box := _,
    F_l_box := fun_mk (st := s_l_box) l_l_box c_l_box k_l_box,
    g_l_box := PySem.W.mg_of X G g_l_box,
    k_l_box := k_l_box,
    b_l_box := (fun_mk (st := s_l_box) l_l_box c_l_box k_l_box).binds (ps := ["_law_script", "_law_k"]) fun _ _ _ _ _ _ us hl => match us, hl with | [_, _], _ => rfl,
    a_l_pick := a_l_pick,
    fd_l_pick := _,
    F_l_pick := fun_mk (st := s_l_pick) l_l_pick c_l_pick k_l_pick,
    g_l_pick := PySem.W.mg_of X G g_l_pick,
    k_l_pick := k_l_pick,
    b_l_pick := (fun_mk (st := s_l_pick) l_l_pick c_l_pick k_l_pick).binds (ps := ["_law_box_here", "_law_size"]) fun _ _ _ _ _ _ us hl => match us, hl with | [_, _], _ => rfl,
    a_l_marked := a_l_marked,
    fd_l_marked := _,
    F_l_marked := fun_mk (st := s_l_marked) l_l_marked c_l_marked k_l_marked,
    g_l_marked := PySem.W.mg_of X G g_l_marked,
    k_l_marked := k_l_marked,
    b_l_marked := (fun_mk (st := s_l_marked) l_l_marked c_l_marked k_l_marked).binds (ps := ["_law_box_here"]) fun _ _ _ _ _ _ us hl => match us, hl with | [_], _ => rfl,
    a_l_refused := a_l_refused,
    fd_l_refused := _,
    F_l_refused := fun_mk (st := s_l_refused) l_l_refused c_l_refused k_l_refused,
    g_l_refused := PySem.W.mg_of X G g_l_refused,
    k_l_refused := k_l_refused,
    b_l_refused := (fun_mk (st := s_l_refused) l_l_refused c_l_refused k_l_refused).binds (ps := ["_law_roads", "_law_times"]) fun _ _ _ _ _ _ us hl => match us, hl with | [_, _], _ => rfl,
    a_law := _,
    fd_law := _,
    F_law := fun_mk (st := s_law) l_law c_law k_law,
    g_law := PySem.W.mg_of X G g_law,
    k_law := k_law,
    b_law := (fun_mk (st := s_law) l_law c_law k_law).binds (ps := ["_law_script"]) fun _ _ _ _ _ _ us hl => match us, hl with | [_], _ => rfl } : Tx w K mg) : FnOk PR w K mg base CX0 10 _ _ ["_law_script"] (sp_law K))⟩
theorem walk {l : PySem.W.OpenLaw} (hl : l.prog = PR) {q : Program} {loose : List Str} {XP : (Str → Option Value) → Heap → Prop} {YP : World → Heap → Prop} {d : DefRec} {K : Params → PySem.W.Frag} (hn : l.most = some 63) (hdf : d.params.defaults = [])
    (hY : ∀ (w : World) (h : Heap), YP w h → (K w.params).In h)
    (F : ∀ (w : World) (mg : Str → Option Value) (fa : Addr) (h : Heap), (K w.params).In h → h.Ns mainGlobals mg → mg d.name = some (.ref fa) →
      ∃ fd : FuncData, (∀ (s : Shared) (u : Value), BindsTo s fd ⟨[u], []⟩ [("_law_script", u)]) ∧ ∀ base : Heap, (K w.params).In base → base.Ns mainGlobals mg → FnOk PR w (K w.params) mg base CX0 10 fa fd ["_law_script"] (sp_law (K w.params))) :
    PySem.W.WalkO q loose XP YP l.row.toRowW d [] (fun f vs => PySem.call f vs) :=
  L2.walk_of (n := 63) (k := 10) (x := "_law_script") (CX := fun _ => CX0) (sp := fun w => sp_law (K w.params)) hn (by decide) hdf ⟨rfl, by decide, by decide⟩ hY (by rw [hl]; exact F) (fun _ _ a ns hl _ hS => ⟨a, ns, rfl, hS, hl, fun _ => rfl⟩) fun _ _ _ _ _ z => z
end TK
open PySem PySem.W PyProof.Rows in
set_option maxRecDepth 100000 in
set_option maxHeartbeats 0 in
theorem PySem.Challenge.cw_takenahead_k58_turned_lists_holds : PySem.Challenge.rw_takenahead_k58_turned_lists.Holds := by
  w_on; o_law; k_head; (case hw => w_witness2)
  k_fill
  refine TK.walk (l := PySem.Challenge.rw_takenahead_k58_turned_lists) rfl rfl rfl (fun w h Y => PySem.W.kIn_of Y) ?F
  case F =>
    intro w mg fa h KX G hmg
    refine' TK.all_mk KX G hmg ?z_bool ?z_int ?z_isinstance ?z_len ?z_list ?z_range ?z_ValueError ?c_MOST_TIMES ?g_TakeError ?g_NoMeasure ?g_BadTimes ?xL_BadTimes ?ve_BadTimes ?sa_BadTimes ?ga_BadTimes ?gg_BadTimes ?kC_BadTimes ?eC_BadTimes ?vC_BadTimes ?tC_BadTimes ?hC_BadTimes ?iS_BadTimes ?mr_BadTimes ?mo_BadTimes ?ha_BadTimes ?iC_BadTimes ?tI_BadTimes ?l1_BadTimes ?c1_BadTimes ?su_BadTimes ?ce_BadTimes ?co_BadTimes ?v2_BadTimes ?fe_BadTimes ?no_times_BadTimes ?opq ?z_super ?cget ?ctk ?q_BadTimes_TakeError ?q_BadTimes_ValueError ?q_BadTimes_NoMeasure ?m_BadTimes_BadTimes ?g_is_integer ?l_is_integer ?c_is_integer ?k_is_integer ?g_turned ?l_turned ?c_turned ?k_turned ?g_l_box ?l_l_box ?c_l_box ?k_l_box ?g_l_pick ?l_l_pick ?c_l_pick ?k_l_pick ?g_l_marked ?l_l_marked ?c_l_marked ?k_l_marked ?g_l_refused ?l_l_refused ?c_l_refused ?k_l_refused ?g_law ?l_law ?c_law ?k_law
    (case z_bool => k_is)
    (case z_int => k_is)
    (case z_isinstance => k_is)
    (case z_len => k_is)
    (case z_list => k_is)
    (case z_range => k_is)
    (case z_ValueError => k_is)
    (case c_MOST_TIMES => k_is)
    (case g_TakeError => k_is)
    (case g_NoMeasure => k_is)
    (case g_BadTimes => k_is)
    (case xL_BadTimes => k_is)
    (case ve_BadTimes => first | rfl | decide +kernel | k_is)
    (case sa_BadTimes => k_is)
    (case ga_BadTimes => k_is)
    (case gg_BadTimes => k_is)
    (case kC_BadTimes => k_is)
    (case eC_BadTimes => k_is)
    (case vC_BadTimes => k_is)
    (case tC_BadTimes => k_is)
    (case hC_BadTimes => k_is)
    (case iS_BadTimes => k_is)
    (case mr_BadTimes => k_is)
    (case mo_BadTimes => k_is)
    (case ha_BadTimes => k_is)
    (case iC_BadTimes => k_is)
    (case tI_BadTimes => k_is)
    (case l1_BadTimes => k_is)
    (case c1_BadTimes => k_is)
    (case su_BadTimes => ks_is)
    (case ce_BadTimes => k_is)
    (case co_BadTimes => k_is)
    (case v2_BadTimes => first | rfl | decide +kernel | k_is)
    (case fe_BadTimes => first | rfl | decide +kernel | k_is)
    (case no_times_BadTimes => k_is)
    (case opq => k_is)
    (case z_super => k_is)
    (case cget => k_is)
    (case ctk => k_is)
    (case q_BadTimes_TakeError => kit_is)
    (case q_BadTimes_ValueError => kit_is)
    (case q_BadTimes_NoMeasure => kit_is)
    (case m_BadTimes_BadTimes => kts_exm)
    (case g_is_integer => k_is)
    (case l_is_integer => k_is)
    (case c_is_integer => k_is)
    (case k_is_integer => k_is)
    (case g_turned => k_is)
    (case l_turned => k_is)
    (case c_turned => k_is)
    (case k_turned => k_is)
    (case g_l_box => k_is)
    (case l_l_box => k_is)
    (case c_l_box => k_is)
    (case k_l_box => k_is)
    (case g_l_pick => k_is)
    (case l_l_pick => k_is)
    (case c_l_pick => k_is)
    (case k_l_pick => k_is)
    (case g_l_marked => k_is)
    (case l_l_marked => k_is)
    (case c_l_marked => k_is)
    (case k_l_marked => k_is)
    (case g_l_refused => k_is)
    (case l_l_refused => k_is)
    (case c_l_refused => k_is)
    (case k_l_refused => k_is)
    (case g_law => k_is)
    (case l_law => k_is)
    (case c_law => k_is)
    (case k_law => k_is)
