import PyProof.Rows.All
import Wide.All
import OpenK.AllK
import Wide.FinOn
import HandS.ForMost
import HandS.ForExc
import HandS.Wide
import HandS.Evl
import HandS.Conv
import HandS.IsInst
import KE.KExcSuper
import HandS.ExcSuper
import HandS.ExcInit
import KE.KExcIs
import HandS.ExcField
import HandS.Text
import HandS.Walk
import HandS.More
import HandS.Dict
import HandS.FStr
import PyProof.StrBlock2
import KE.RegKIsAll
import KE.RegKTryMore
import PySem.Challenge.RW_takenahead_k77_whole_schedules_are_read
set_option Elab.async false
set_option linter.all false
set_option maxRecDepth 100000
set_option maxHeartbeats 4000000
namespace TK
open PySem L2
section
variable {K : PySem.W.Frag} {σ : L2.St} {H H' : Hp} {ta tb te to tv : TE} {t u : TT} {x y z v : V} {r : R2} {D : Ends} {tu tw : TS} {Q : VK} {E : XK}
theorem rd_seq (h : tu { D with nx := tw D } σ H) : tSeq tu tw D σ H := h
theorem rd_nx (h : D.nx σ H) : tNext D σ H := h
theorem rd_brk (h : D.bk σ H) : tBreak D σ H := h
theorem rd_ct (h : D.ct σ H) : tCont D σ H := h
theorem rd_var {i : Nat} (h : σ[i]? = some (some v)) (q : Q v H) : tVar i σ H Q := ⟨v, h, q⟩
theorem rd_c (q : Q v H) : tC v σ H Q := q
theorem rd_op (h : ta σ H fun x H1 => tb σ H1 fun y H2 => r x y H2 Q) : tOp r ta tb σ H Q := h
theorem rd_un {r : V → Hp → VK → Prop} (h : ta σ H fun x H1 => r x H1 Q) : tUn r ta σ H Q := h
theorem rd_I0 {g : Int → Int → V} {i j : Int} (q : Q (g i j) H) : rI0 g (.int i) (.int j) H Q := ⟨i, j, rfl, rfl, q⟩
theorem rd_I {C : Int → Int → Prop} {g : Int → Int → V} {i j : Int} (c : C i j) (q : Q (g i j) H) : rI C g (.int i) (.int j) H Q := ⟨i, j, rfl, rfl, c, q⟩
theorem rd_U {g : Int → V} {i : Int} (q : Q (g i) H) : rU g (.int i) H Q := ⟨i, rfl, q⟩
theorem rd_eq (s : scal x y = true) (q : Q (.bl (decide (x = y))) H) : rEq x y H Q := ⟨s, q⟩
theorem rd_ne (s : scal x y = true) (q : Q (.bl (!decide (x = y))) H) : rNe x y H Q := ⟨s, q⟩
theorem rd_asg {g : TG} (h : te σ H fun x H1 => g x σ H1 D.nx) : tAsg te g D σ H := h
theorem rd_name {i : Nat} {k : L2.St → Hp → Prop} (q : k (σ.set i (some v)) H) : gName i v σ H k := q
theorem rd_ret (h : te σ H D.rt) : tRet te D σ H := h
theorem rd_drop (h : te σ H fun _ H1 => D.nx σ H1) : tDrop te D σ H := h
theorem rd_ifS (h : t σ H fun b H1 => if b = true then tu D σ H1 else tw D σ H1) : tIfS t tu tw D σ H := h
theorem rd_test {Q : Bool → Hp → Prop} (h : te σ H fun x H1 => ∃ k, x = .bl k ∧ Q k H1) : tTest te σ H Q := h
theorem rd_B {Q : Bool → Hp → Prop} (h : te σ H fun x H1 => ∃ k, x = .bl k ∧ Q k H1) : tB te σ H Q := h
theorem rd_bl {b : Bool} {Q : Bool → Prop} (h : Q b) : ∃ k, V.bl b = .bl k ∧ Q k := ⟨b, rfl, h⟩
theorem rd_not {Q : Bool → Hp → Prop} (h : t σ H fun c H1 => Q (!c) H1) : tNot t σ H Q := h
theorem rd_and {Q : Bool → Hp → Prop} (h : t σ H fun c H1 => if c = true then u σ H1 Q else Q false H1) : tAnd t u σ H Q := h
theorem rd_or {Q : Bool → Hp → Prop} (h : t σ H fun c H1 => if c = true then Q true H1 else u σ H1 Q) : tOr t u σ H Q := h
theorem rd_andV (h : ta σ H fun x H1 => ∃ c, x = .bl c ∧ if c = true then tb σ H1 Q else Q (.bl false) H1) : tAndV ta tb σ H Q := h
theorem rd_orV (h : ta σ H fun x H1 => ∃ c, x = .bl c ∧ if c = true then Q (.bl true) H1 else tb σ H1 Q) : tOrV ta tb σ H Q := h
theorem rd_notV (h : ta σ H fun x H1 => ∃ c, x = .bl c ∧ Q (.bl (!c)) H1) : tNotV ta σ H Q := h
theorem rd_if (h : t σ H fun c H1 => if c = true then ta σ H1 Q else tb σ H1 Q) : tIf t ta tb σ H Q := h
theorem rd_nil {Q : List V → Hp → Prop} (q : Q [] H) : tNil σ H Q := q
theorem rd_cons {tr : TA} {Q : List V → Hp → Prop} (h : ta σ H fun x H1 => tr σ H1 fun xs H2 => Q (x :: xs) H2) : tCons ta tr σ H Q := h
theorem rd_tup {tr : TA} (h : tr σ H fun xs H1 => xs.length ≤ sizeLine ∧ ∀ p, H1 p = none → Q (.ref p) (upd H1 p (.tup xs))) : tTup tr σ H Q := h
theorem rd_lst {tr : TA} (h : tr σ H fun xs H1 => xs.length ≤ sizeLine ∧ ∀ p, H1 p = none → Q (.ref p) (upd H1 p (.lst xs))) : tLst tr σ H Q := h
theorem rd_cb {r : List V → Hp → VK → Prop} {tr : TA} (h : tr σ H fun vs H1 => r vs H1 Q) : tCB r tr σ H Q := h
theorem rd_call {sp : Sp} {dvs : List V} {tr : TA} (h : tr σ H fun vs H1 => sp (vs ++ dvs) H1 Q E) : tCall sp dvs E tr σ H Q := h
theorem rd_bm {T : String} {r : V → List V → Hp → VK → Prop} {tr : TA} (h : to σ H fun x H1 => tyV K T x H1 ∧ tr σ H1 fun xs H2 => r x xs H2 Q) : tBM K T r to tr σ H Q := h
theorem rd_bm0 {T : String} {r : V → List V → Hp → VK → Prop} (h : to σ H fun x H1 => tyV K T x H1 ∧ r x [] H1 Q) : tBM0 K T r to σ H Q := h
theorem rd_sub {tset : TSet} {k : L2.St → Hp → Prop} (h : to σ H fun o H1 => te σ H1 fun i H2 => tset o i v H2 fun H3 => k σ H3) : gSub to te tset v σ H k := h
theorem rd_aug {i : Nat} {ti : TIp} (h : σ[i]? = some (some x)) (q : te σ H fun y H1 => ti x y H1 fun z H2 => D.nx (σ.set i (some z)) H2) : tAug i te ti D σ H := ⟨x, h, q⟩
theorem rd_ipI {f : Int → Int → Int} {i j : Int} (q : Q (.int (f i j)) H) : ipI f (.int i) (.int j) H Q := ⟨i, j, rfl, rfl, q⟩
theorem rd_gtup {n : Nat} {ts : TGs} {a : Addr} {xs : List V} {k : L2.St → Hp → Prop} (h : SqT K H a xs) (hl : xs.length = n) (q : ts xs σ H k) : gTup K n ts (.ref a) σ H k := ⟨a, xs, rfl, h, hl, q⟩
theorem rd_gcons {g : TG} {ts : TGs} {xs : List V} {k : L2.St → Hp → Prop} (q : g v σ H fun σ' H' => ts xs σ' H' k) : gCons g ts (v :: xs) σ H k := ⟨v, xs, rfl, q⟩
theorem rd_gnil {k : L2.St → Hp → Prop} (q : k σ H) : gNil [] σ H k := ⟨rfl, q⟩
theorem rd_ixL {p : Addr} {xs : List V} {i : Int} (h : SqL K H p xs) (ha : atI xs i = some v) (q : Q v H) : rIxL K (.ref p) (.int i) H Q := ⟨p, xs, i, v, rfl, rfl, h, ha, q⟩
theorem rd_ixT {p : Addr} {xs : List V} {i : Int} (h : SqT K H p xs) (ha : atI xs i = some v) (q : Q v H) : rIxT K (.ref p) (.int i) H Q := ⟨p, xs, i, v, rfl, rfl, h, ha, q⟩
theorem rd_setL {p : Addr} {xs : List V} {i : Int} {j : Nat} {Q : Hp → Prop} (h : H p = some (.lst xs)) (hj : ixN xs.length i = some j) (q : Q (upd H p (.lst (xs.set j v)))) : rSetL (.ref p) (.int i) v H Q := ⟨p, xs, i, j, rfl, rfl, h, hj, q⟩
theorem rd_append {l : Addr} {xs : List V} (h : H l = some (.lst xs)) (hz : xs.length < sizeLine) (q : Q .non (upd H l (.lst (xs ++ [y])))) : rAppend (.ref l) [y] H Q := ⟨l, xs, y, rfl, rfl, h, hz, q⟩
theorem rd_cat {l b : Addr} {xs zs : List V} (h : H l = some (.lst xs)) (h2 : H b = some (.lst zs)) (hz : xs.length + zs.length ≤ sizeLine) (q : ∀ p, H p = none → Q (.ref p) (upd H p (.lst (xs ++ zs)))) : rCat (.ref l) (.ref b) H Q := ⟨l, b, xs, zs, rfl, rfl, h, h2, hz, q⟩
theorem ty_list {p : Addr} {xs : List V} (h : SqL K H p xs) : tyV K "list" (.ref p) H := .inl ⟨rfl, _, h⟩
theorem rd_int {i : Int} {Q : Int → Prop} {R : Prop} (h : Q i) : (∃ i', [V.int i] = [V.int i'] ∧ Q i') ∨ R := .inl ⟨i, rfl, h⟩
theorem rd_int1 {b : Bool} {R : Prop} {Q : Bool → Prop} (h : Q b) : R ∨ ∃ k, [V.bl b] = [V.bl k] ∧ Q k := .inr ⟨b, rfl, h⟩
theorem rd_len {p : Addr} {ys : List V} {R : List V → Prop} (h : SqL K H p ys) (q : R ys) : ∃ p' ys', [V.ref p] = [V.ref p'] ∧ (SqL K H p' ys' ∨ SqT K H p' ys') ∧ R ys' := ⟨p, ys, rfl, .inl h, q⟩
theorem rd_lenT {p : Addr} {ys : List V} {R : List V → Prop} (h : SqT K H p ys) (q : R ys) : ∃ p' ys', [V.ref p] = [V.ref p'] ∧ (SqL K H p' ys' ∨ SqT K H p' ys') ∧ R ys' := ⟨p, ys, rfl, .inr h, q⟩
theorem rd_isi {x c : V} {t u : Value} {b : Bool} (k : ClsV c u) (ty : TyX K H x t) (e : PySem.W.kitOne K t u = some b) (q : Q (.bl b) H) : rIsi K [x, c] H Q := ⟨x, c, t, u, b, rfl, k, ty, e, q⟩
theorem if_t {c : Bool} {A B : Prop} (hc : c = true) (h : A) : if c = true then A else B := by rw [if_pos hc]; exact h
theorem if_f {c : Bool} {A B : Prop} (hc : c = false) (h : B) : if c = true then A else B := by rw [hc, if_neg Bool.false_ne_true]; exact h
theorem if_d {P A B : Prop} {_ : Decidable P} (h1 : P → A) (h2 : ¬ P → B) : if decide P = true then A else B := by
  by_cases p : P
  · exact if_t (decide_eq_true p) (h1 p)
  · exact if_f (decide_eq_false p) (h2 p)
theorem if_nd {P A B : Prop} {_ : Decidable P} (h1 : ¬ P → A) (h2 : P → B) : if (!decide P) = true then A else B := by
  by_cases p : P
  · exact if_f (by rw [decide_eq_true p]; rfl) (h2 p)
  · exact if_t (by rw [decide_eq_false p]; rfl) (h1 p)
theorem if_b {b : Bool} {A B : Prop} (h1 : b = true → A) (h2 : b = false → B) : if b = true then A else B := by
  cases b
  · exact if_f rfl (h2 rfl)
  · exact if_t rfl (h1 rfl)
def ForW (g : TG) (tb : TS) (D : Ends) (σ : L2.St) (J : It) (H1 : Hp) : Prop := ∃ W : Nat → Nat → L2.St → Hp → Prop, (∃ m, W 0 m σ H1) ∧ ∀ i m σ H, W i m σ H →
  (J.stop i H ∧ D.nx σ H) ∨ (J.go i H ∧ ∃ Nx : L2.St → Hp → Prop, (∀ σ' H', Nx σ' H' → ∃ m', m' < m ∧ W (i + 1) m' σ' H') ∧ ∀ x H', J.yld i H x H' → g x σ H' fun σ2 H2 => tb { D with nx := Nx, ct := Nx, bk := D.nx } σ2 H2)
theorem rd_forR1 {ta : TA} {g : TG} (h : ta σ H fun vs H1 => ∃ j : Int, vs = [.int j] ∧ -(2 ^ 62) ≤ j ∧ j < 2 ^ 62 ∧ ForW g tu D σ (Itr 0 j.toNat) H1) : tFor (iRng1 ta) g tu D σ H := h
theorem rd_forR2 {ta : TA} {g : TG} (h : ta σ H fun vs H1 => ∃ i j : Int, vs = [.int i, .int j] ∧ (-(2 ^ 62) ≤ i ∧ i < 2 ^ 62 ∧ -(2 ^ 62) ≤ j ∧ j < 2 ^ 62) ∧ ForW g tu D σ (Itr i (j - i).toNat) H1) : tFor (iRng2 ta) g tu D σ H := h
theorem rd_forL {tl : TE} {g : TG} (h : tl σ H fun x H1 => ∃ a, x = .ref a ∧ (∃ xs, SqL K H1 a xs) ∧ ForW g tu D σ (Itl K a) H1) : tFor (iList K tl) g tu D σ H := h
theorem rd_forT {tl : TE} {g : TG} (h : tl σ H fun x H1 => ∃ a, x = .ref a ∧ (∃ xs, SqT K H1 a xs) ∧ ForW g tu D σ (Itt K a) H1) : tFor (iTup K tl) g tu D σ H := h
theorem get_new {a q : Addr} {oa o : HO} (hl : H a = some oa) (hq : H q = none) : upd H q o a = some oa := (upd_ne (ne_of_none hl hq)).trans hl
theorem get_ne {a q : Addr} {oa o : HO} (h : a ≠ q) (hl : H a = some oa) : upd H q o a = some oa := (upd_ne h).trans hl
theorem get_old {a q : Addr} {oa oq o : HO} (hl : H a = some oa) (hq : H q = some oq) (d : oa ≠ oq) : upd H q o a = some oa := (upd_ne (ne_of hl hq d)).trans hl
theorem sl_new {a q : Addr} {xs : List V} {o : HO} (h : SqL K H a xs) (hq : H q = none) : SqL K (upd H q o) a xs := Evl.ex_l (Evl.Ex.new hq) h
theorem st_new {a q : Addr} {xs : List V} {o : HO} (h : SqT K H a xs) (hq : H q = none) : SqT K (upd H q o) a xs := Evl.ex_t (Evl.Ex.new hq) h
end
theorem cxK0 {CX : CXT} {P : Program} {w : World} {K : PySem.W.Frag} {mg : Str → Option Value} {base : Heap} {N : List Str} {qual : Str} {scope : Scope} {f : Addr} {cd : Value} {A : Around} {outer : List Env} {s : Shared} {H : Hp} {E : XK} : (cxOf CX P w K mg base N qual scope f cd A outer s H E).nox.K = K := rfl
theorem cxK1 {CX : CXT} {P : Program} {w : World} {K : PySem.W.Frag} {mg : Str → Option Value} {base : Heap} {N : List Str} {qual : Str} {scope : Scope} {f : Addr} {cd : Value} {A : Around} {outer : List Env} {s : Shared} {H : Hp} {E : XK} : (cxOf CX P w K mg base N qual scope f cd A outer s H E).K = K := rfl
theorem cxW1 {CX : CXT} {P : Program} {w : World} {K : PySem.W.Frag} {mg : Str → Option Value} {base : Heap} {N : List Str} {qual : Str} {scope : Scope} {f : Addr} {cd : Value} {A : Around} {outer : List Env} {s : Shared} {H : Hp} {E : XK} : (cxOf CX P w K mg base N qual scope f cd A outer s H E).w = w := rfl
end TK
set_option maxRecDepth 100000
set_option maxHeartbeats 4000000
namespace TK
open PySem L2
def ExT (H H' : Hp) : Prop := ∀ a xs, Rd H a (.tup xs) → Rd H' a (.tup xs)
theorem ExT.refl (H : Hp) : ExT H H := fun _ _ h => h
theorem ExT.trans {H H1 H2 : Hp} (a : ExT H H1) (b : ExT H1 H2) : ExT H H2 := fun x xs h => b x xs (a x xs h)
theorem ExT.of {H H' : Hp} (e : Evl.Ex H H') : ExT H H' := fun _ _ h => Evl.ex_rd e h
theorem ExT.upd {H : Hp} {p : Addr} {o : HO} (h : ∀ xs, ¬ Rd H p (.tup xs)) : ExT H (upd H p o) := fun a xs r => by
  have ne : a ≠ p := fun z => h xs (z ▸ r)
  rcases r with r | ⟨u, r⟩
  · exact .inl ((upd_ne ne).trans r)
  · exact .inr ⟨u, (upd_ne ne).trans r⟩
theorem noT_none {H : Hp} {p : Addr} (h : H p = none) (xs : List V) : ¬ Rd H p (.tup xs) := fun r => by
  rcases r with r | ⟨u, r⟩ <;> (rw [h] at r; cases r)
theorem noT_lst {H : Hp} {p : Addr} {ys : List V} (h : H p = some (.lst ys)) (xs : List V) : ¬ Rd H p (.tup xs) := fun r => by
  rcases r with r | ⟨u, r⟩ <;> (rw [h] at r; cases r)
theorem noT_ins {H : Hp} {p C dx : Addr} {fs : List (Str × V)} (h : H p = some (.ins C dx fs)) (xs : List V) : ¬ Rd H p (.tup xs) := fun r => by
  rcases r with r | ⟨u, r⟩ <;> (rw [h] at r; cases r)
theorem noT_dK {H : Hp} {p : Addr} {kvs : List (Key × V)} (h : H p = some (.dK kvs)) (xs : List V) : ¬ Rd H p (.tup xs) := fun r => by
  rcases r with r | ⟨u, r⟩ <;> (rw [h] at r; cases r)
theorem noT_dT {H : Hp} {p : Addr} {kvs : List (List Key × V)} (h : H p = some (.dT kvs)) (xs : List V) : ¬ Rd H p (.tup xs) := fun r => by
  rcases r with r | ⟨u, r⟩ <;> (rw [h] at r; cases r)
theorem ext_new {H : Hp} {p : Addr} {o : HO} (h : H p = none) : ExT H (upd H p o) := .upd (noT_none h)
theorem ext_lst {H : Hp} {p : Addr} {o : HO} {ys : List V} (h : H p = some (.lst ys)) : ExT H (upd H p o) := .upd (noT_lst h)
theorem ext_t {K : PySem.W.Frag} {H H' : Hp} {a : Addr} {xs : List V} (e : ExT H H') (h : SqT K H a xs) : SqT K H' a xs := by
  rcases h with h | h
  · exact .inl (e a xs h)
  · exact .inr h
mutual
inductive Dt (K : PySem.W.Frag) (H : Hp) : V → PyData → Prop
  | non : Dt K H .non .none
  | bl (b : Bool) : Dt K H (.bl b) (.bool b)
  | int (i : Int) : Dt K H (.int i) (.int i)
  | str (x : Str) : Dt K H (.str x) (.str x)
  | tup {a : Addr} {xs : List V} {ds : List PyData} : SqT K H a xs → DtAll K H xs ds → Dt K H (.ref a) (.tuple ds)
inductive DtAll (K : PySem.W.Frag) (H : Hp) : List V → List PyData → Prop
  | nil : DtAll K H [] []
  | cons {v : V} {vs : List V} {d : PyData} {ds : List PyData} : Dt K H v d → DtAll K H vs ds → DtAll K H (v :: vs) (d :: ds)
end
section
variable {K : PySem.W.Frag} {H H' : Hp}
mutual
theorem Dt.mono (e : ExT H H') : ∀ {v : V} {d : PyData}, Dt K H v d → Dt K H' v d
  | _, _, .non => .non
  | _, _, .bl b => .bl b
  | _, _, .int i => .int i
  | _, _, .str x => .str x
  | _, _, .tup h a => .tup (ext_t e h) (DtAll.mono e a)
theorem DtAll.mono (e : ExT H H') : ∀ {vs : List V} {ds : List PyData}, DtAll K H vs ds → DtAll K H' vs ds
  | _, _, .nil => .nil
  | _, _, .cons h t => .cons (Dt.mono e h) (DtAll.mono e t)
end
mutual
theorem Dt.dp : ∀ {v : V} {d : PyData}, Dt K H v d → Dp K H v d
  | _, _, .non => .non
  | _, _, .bl b => .bl b
  | _, _, .int i => .int i
  | _, _, .str x => .str x
  | _, _, .tup h a => .tup h (DtAll.dp a)
theorem DtAll.dp : ∀ {vs : List V} {ds : List PyData}, DtAll K H vs ds → DpAll K H vs ds
  | _, _, .nil => .nil
  | _, _, .cons h t => .cons (Dt.dp h) (DtAll.dp t)
end
theorem DtAll.length : ∀ {vs : List V} {ds : List PyData}, DtAll K H vs ds → vs.length = ds.length
  | _, _, .nil => rfl
  | _, _, .cons _ t => congrArg (· + 1) (DtAll.length t)
theorem DtAll.append : ∀ {vs us : List V} {ds es : List PyData}, DtAll K H vs ds → DtAll K H us es → DtAll K H (vs ++ us) (ds ++ es)
  | _, _, _, _, .nil, h => h
  | _, _, _, _, .cons h t, q => .cons h (DtAll.append t q)
theorem DtAll.snoc {vs : List V} {ds : List PyData} {v : V} {d : PyData} (h : DtAll K H vs ds) (q : Dt K H v d) : DtAll K H (vs ++ [v]) (ds ++ [d]) := h.append (.cons q .nil)
theorem DtAll.get : ∀ {vs : List V} {ds : List PyData} {i : Nat} {v : V}, DtAll K H vs ds → vs[i]? = some v → ∃ d, ds[i]? = some d ∧ Dt K H v d
  | _, _, _, _, .nil, e => by simp at e
  | _, _, 0, _, .cons h _, e => by simp at e; subst e; exact ⟨_, rfl, h⟩
  | _, _, i + 1, v, .cons _ t, e => by
    obtain ⟨d, h1, h2⟩ := DtAll.get (i := i) t (by simpa using e)
    exact ⟨d, by simpa using h1, h2⟩
theorem DtAll.getD : ∀ {vs : List V} {ds : List PyData} {i : Nat} {d : PyData}, DtAll K H vs ds → ds[i]? = some d → ∃ v, vs[i]? = some v ∧ Dt K H v d
  | _, _, _, _, .nil, e => by simp at e
  | _, _, 0, _, .cons h _, e => by simp at e; subst e; exact ⟨_, rfl, h⟩
  | _, _, i + 1, v, .cons _ t, e => by
    obtain ⟨d, h1, h2⟩ := DtAll.getD (i := i) t (by simpa using e)
    exact ⟨d, by simpa using h1, h2⟩
theorem dt_new {p : Addr} {vs : List V} {ds : List PyData} (h : H p = none) (a : DtAll K H vs ds) : Dt K (upd H p (.tup vs)) (.ref p) (.tuple ds) :=
  .tup (SqT.of upd_same) (a.mono (ext_new h))
theorem Dt.tup_inv {v : V} {ds : List PyData} (h : Dt K H v (.tuple ds)) : ∃ a xs, v = .ref a ∧ SqT K H a xs ∧ DtAll K H xs ds := by
  cases h with
  | tup h a => exact ⟨_, _, rfl, h, a⟩
end
def Sh (k : Nat) (d : PyData) : Prop := d.canLay0 = true ∧ d.depth ≤ k
def ShA (k : Nat) (ds : List PyData) : Prop := PyData.canLayAll0 ds = true ∧ PyData.depthAll ds ≤ k
theorem ShA.nil {k : Nat} : ShA k [] := ⟨by simp [PyData.canLayAll0], Nat.zero_le _⟩
theorem ShA.cons {k : Nat} {d : PyData} {ds : List PyData} (h : Sh k d) (t : ShA k ds) : ShA k (d :: ds) := by
  refine ⟨by simp [PyData.canLayAll0, h.1, t.1], ?_⟩
  rw [PyData.depthAll]
  exact Nat.max_le.mpr ⟨h.2, t.2⟩
theorem ShA.of {k : Nat} : ∀ {ds : List PyData}, (∀ d ∈ ds, Sh k d) → ShA k ds
  | [], _ => .nil
  | d :: ds, h => .cons (h d (List.mem_cons_self ..)) (ShA.of fun e he => h e (List.mem_cons_of_mem _ he))
theorem Sh.tup {k : Nat} {ds : List PyData} (h : ShA k ds) : Sh (k + 1) (.tuple ds) := by
  refine ⟨?_, ?_⟩
  · rw [PyData.canLay0]; exact h.1
  · rw [PyData.depth]; exact Nat.succ_le_succ h.2
theorem Sh.lst {k : Nat} {ds : List PyData} (h : ShA k ds) : Sh (k + 1) (.list ds) := by
  refine ⟨?_, ?_⟩
  · rw [PyData.canLay0]; exact h.1
  · rw [PyData.depth]; exact Nat.succ_le_succ h.2
theorem Sh.mono {k m : Nat} {d : PyData} (h : Sh k d) (l : k ≤ m) : Sh m d := ⟨h.1, Nat.le_trans h.2 l⟩
theorem Sh.shaped {k : Nat} {d : PyData} (h : Sh k d) (l : k ≤ 64) : SeqAt.shaped d = true := by
  unfold SeqAt.shaped
  rw [h.1, decide_eq_true (Nat.le_trans h.2 l)]
  rfl
theorem Sh.refl {k : Nat} {d : PyData} (h : Sh k d) : PyData.eqv d d = true := SeqAt.eqv_refl d h.1
theorem Sh.int (i : Int) : Sh 0 (.int i) := ⟨by simp [PyData.canLay0], by simp [PyData.depth]⟩
theorem Sh.non : Sh 0 .none := ⟨by simp [PyData.canLay0], by simp [PyData.depth]⟩
theorem Sh.bl (b : Bool) : Sh 0 (.bool b) := ⟨by simp [PyData.canLay0], by simp [PyData.depth]⟩
theorem Sh.str {x : Str} (h : PyData.strOk x = true) : Sh 0 (.str x) := ⟨by rw [PyData.canLay0]; exact h, by simp [PyData.depth]⟩
section
variable {K : PySem.W.Frag} {H : Hp} {σ : L2.St} {te tl : TE} {ta : TA} {Q : VK} {vs : List Nat} {j : Nat}
theorem rd_yes {A B : Hp → Prop} (h : A H) : tYes σ H fun b H3 => if b = true then A H3 else B H3 := by
  show if true = true then A H else B H
  rw [if_pos rfl]
  exact h
theorem szl {n : Nat} (h : n < 100000) : n < sizeLine := Nat.lt_of_lt_of_le h (by decide)
theorem szle {n : Nat} (h : n ≤ 100000) : n ≤ sizeLine := Nat.le_trans h (by decide)
theorem rd_lcL {a : Addr} {xs : List V} (J : Addr → Nat → List V → Hp → Prop) (htl : ∀ R : VK, R (.ref a) H → tl σ H R) (hS : SqL K H a xs) (hn : xs.length ≤ 50000)
    (hw : ∀ x, wipe ((wipe σ vs).set j (some x)) vs = wipe σ vs) (j0 : ∀ D, H D = none → J D 0 [] (upd H D (.lst [])))
    (turn : ∀ D i x acc H' (R : VK), H D = none → Evl.Ex H H' → xs[i]? = some x → H' D = some (.lst acc) → acc.length = i → J D i acc H' →
      (∀ y H4, Evl.Ex H H4 → H4 D = some (.lst acc) → J D (i + 1) (acc ++ [y]) (upd H4 D (.lst (acc ++ [y]))) → R y H4) → te ((wipe σ vs).set j (some x)) H' R)
    (fin : ∀ D acc H', H D = none → Evl.Ex H H' → H' D = some (.lst acc) → acc.length = xs.length → J D xs.length acc H' → Q (.ref D) H') :
    tLc (iList K tl) (gName j) tYes te vs σ H Q := by
  refine htl _ ⟨a, rfl, ⟨xs, hS⟩, fun D hD => lc_list (K := K) (a := a) (xs := xs) (fun i H' => ∃ acc, Evl.Ex H H' ∧ H' D = some (.lst acc) ∧ acc.length = i ∧ J D i acc H') ⟨[], Evl.Ex.new hD, upd_same, rfl, j0 D hD⟩ (fun i H' _ ⟨_, e, _⟩ => Evl.ex_l e hS) ?_ ?_⟩
  · rintro i x H' hi ⟨acc, e, hd, hl, hj⟩
    refine ⟨hw x, ?_⟩
    refine rd_yes ?_
    have hlt : i < xs.length := (List.getElem?_eq_some_iff.mp hi).1
    refine turn D i x acc H' _ hD e hi hd hl hj fun y H4 e4 h4 j4 => ⟨acc, h4, szl (by omega), acc ++ [y], e4.mut hD, upd_same, by simp [hl], j4⟩
  · rintro H' ⟨acc, e, hd, hl, hj⟩
    exact fin D acc H' hD e hd hl hj
theorem rd_lcR2 {lo hi : Int} (J : Addr → Nat → List V → Hp → Prop) (htl : ∀ R : List V → Hp → Prop, R [.int lo, .int hi] H → ta σ H R) (hb : -100000 ≤ lo ∧ lo ≤ 100000 ∧ -100000 ≤ hi ∧ hi ≤ 100000) (hn : (hi - lo).toNat ≤ 50000)
    (hw : ∀ x, wipe ((wipe σ vs).set j (some x)) vs = wipe σ vs) (j0 : ∀ D, H D = none → J D 0 [] (upd H D (.lst [])))
    (turn : ∀ D (i : Nat) acc H' (R : VK), H D = none → Evl.Ex H H' → i < (hi - lo).toNat → H' D = some (.lst acc) → acc.length = i → J D i acc H' →
      (∀ y H4, Evl.Ex H H4 → H4 D = some (.lst acc) → J D (i + 1) (acc ++ [y]) (upd H4 D (.lst (acc ++ [y]))) → R y H4) → te ((wipe σ vs).set j (some (.int (lo + i)))) H' R)
    (fin : ∀ D acc H', H D = none → Evl.Ex H H' → H' D = some (.lst acc) → acc.length = (hi - lo).toNat → J D (hi - lo).toNat acc H' → Q (.ref D) H') :
    tLc (iRng2 ta) (gName j) tYes te vs σ H Q := by
  refine htl _ ⟨lo, hi, rfl, ⟨by omega, by omega, by omega, by omega⟩, fun D hD => lc_range (lo := lo) (n := (hi - lo).toNat) (fun i H' => ∃ acc, Evl.Ex H H' ∧ H' D = some (.lst acc) ∧ acc.length = i ∧ J D i acc H') ⟨[], Evl.Ex.new hD, upd_same, rfl, j0 D hD⟩ ?_ ?_⟩
  · rintro i H' hi' ⟨acc, e, hd, hl, hj⟩
    refine ⟨hw _, ?_⟩
    refine rd_yes ?_
    refine turn D i acc H' _ hD e hi' hd hl hj fun y H4 e4 h4 j4 => ⟨acc, h4, szl (by omega), acc ++ [y], e4.mut hD, upd_same, by simp [hl], j4⟩
  · rintro H' ⟨acc, e, hd, hl, hj⟩
    exact fin D acc H' hD e hd hl hj
theorem rd_lcR1 {hi : Int} (J : Addr → Nat → List V → Hp → Prop) (htl : ∀ R : List V → Hp → Prop, R [.int hi] H → ta σ H R) (hb : 0 ≤ hi ∧ hi ≤ 50000)
    (hw : ∀ x, wipe ((wipe σ vs).set j (some x)) vs = wipe σ vs) (j0 : ∀ D, H D = none → J D 0 [] (upd H D (.lst [])))
    (turn : ∀ D (i : Nat) acc H' (R : VK), H D = none → Evl.Ex H H' → i < hi.toNat → H' D = some (.lst acc) → acc.length = i → J D i acc H' →
      (∀ y H4, Evl.Ex H H4 → H4 D = some (.lst acc) → J D (i + 1) (acc ++ [y]) (upd H4 D (.lst (acc ++ [y]))) → R y H4) → te ((wipe σ vs).set j (some (.int (0 + i)))) H' R)
    (fin : ∀ D acc H', H D = none → Evl.Ex H H' → H' D = some (.lst acc) → acc.length = hi.toNat → J D hi.toNat acc H' → Q (.ref D) H') :
    tLc (iRng1 ta) (gName j) tYes te vs σ H Q := by
  refine htl _ ⟨hi, rfl, by omega, by omega, fun D hD => lc_range (lo := 0) (n := hi.toNat) (fun i H' => ∃ acc, Evl.Ex H H' ∧ H' D = some (.lst acc) ∧ acc.length = i ∧ J D i acc H') ⟨[], Evl.Ex.new hD, upd_same, rfl, j0 D hD⟩ ?_ ?_⟩
  · rintro i H' hi' ⟨acc, e, hd, hl, hj⟩
    refine ⟨hw _, ?_⟩
    refine rd_yes ?_
    refine turn D i acc H' _ hD e hi' hd hl hj fun y H4 e4 h4 j4 => ⟨acc, h4, szl (by omega), acc ++ [y], e4.mut hD, upd_same, by simp [hl], j4⟩
  · rintro H' ⟨acc, e, hd, hl, hj⟩
    exact fin D acc H' hD e hd hl hj
end
theorem atI_in {α : Type} {xs : List α} {i : Int} (h0 : 0 ≤ i) (h1 : i < xs.length) : ∃ v, atI xs i = some v ∧ v ∈ xs := by
  obtain ⟨n, rfl⟩ := Int.eq_ofNat_of_zero_le h0
  have hn : n < xs.length := by omega
  exact ⟨xs[n], atI_nat (List.getElem?_eq_getElem hn), List.getElem_mem hn⟩
def Fs (K : PySem.W.Frag) (H : Hp) : List V → List V → Prop := Paired fun x y => ∃ a o, x = .ref a ∧ SqT K H a [y, o]
theorem Paired.getL {α β : Type} {F : α → β → Prop} : ∀ {l : List α} {m : List β} {i : Nat} {x : α}, Paired F l m → l[i]? = some x → ∃ y, m[i]? = some y ∧ F x y
  | _, _, _, _, .nil, e => by simp at e
  | _, _, 0, _, .cons h _, e => by simp at e; subst e; exact ⟨_, rfl, h⟩
  | _, _, i + 1, x, .cons _ t, e => by
    obtain ⟨y, h1, h2⟩ := Paired.getL (i := i) t (by simpa using e)
    exact ⟨y, by simpa using h1, h2⟩
theorem Paired.lenL {α β : Type} {F : α → β → Prop} : ∀ {l : List α} {m : List β}, Paired F l m → l.length = m.length
  | _, _, .nil => rfl
  | _, _, .cons _ t => congrArg (· + 1) (Paired.lenL t)
theorem rep_len {α : Type} (l : List α) : ∀ n : Nat, (List.replicate n l).flatten.length = n * l.length
  | 0 => by simp
  | n + 1 => by rw [List.replicate_succ, List.flatten_cons, List.length_append, rep_len l n, Nat.succ_mul]; omega
theorem take_more {α : Type} : ∀ {l : List α} {i : Nat} {x : α}, l[i]? = some x → l.take (i + 1) = l.take i ++ [x]
  | [], i, x, h => by simp at h
  | a :: l, 0, x, h => by
    have e : a = x := Option.some.inj h
    subst e
    rfl
  | a :: l, i + 1, x, h => by
    have ih := take_more (l := l) (i := i) (x := x) h
    show a :: l.take (i + 1) = a :: l.take i ++ [x]
    rw [ih]
    rfl
section
variable {K : PySem.W.Frag} {H : Hp} {σ : L2.St} {tl : TE} {Q : VK} {vs : List Nat} {j : Nat}
theorem Fs.ex {H H' : Hp} {xs ys : List V} (e : ExT H H') (h : Fs K H xs ys) : Fs K H' xs ys := L2.Paired.mapP h fun _ _ ⟨a, o, q, t⟩ => ⟨a, o, q, ext_t e t⟩
theorem rd_firsts {a : Addr} {xs sx : List V} (htl : ∀ R : VK, R (.ref a) H → tl σ H R) (hS : SqL K H a xs) (hF : Fs K H xs sx) (hn : xs.length ≤ 50000)
    (hw : ∀ x, wipe ((wipe σ vs).set j (some x)) vs = wipe σ vs) (hj : ∀ x, ((wipe σ vs).set j (some x))[j]? = some (some x))
    (fin : ∀ D H', H D = none → Evl.Ex H H' → H' D = some (.lst sx) → Q (.ref D) H') :
    tLc (iList K tl) (gName j) tYes (tOp (rIxT K) (tVar j) (tC (.int 0))) vs σ H Q := by
  refine rd_lcL (fun _ i acc _ => acc = sx.take i) htl hS hn hw (fun _ _ => rfl) ?_ ?_
  · intro D i x acc H' R hD e hi hd hl hJ k
    obtain ⟨y, hy, b, o, rfl, ht⟩ := Paired.getL hF hi
    refine rd_op (rd_var (hj _) (rd_c (rd_ixT (Evl.ex_t e ht) rfl ?_)))
    refine k y H' e hd ?_
    show acc ++ [y] = sx.take (i + 1)
    rw [take_more hy, ← hJ]
  · intro D acc H' hD e hd hl hJ
    have z : acc = sx.take xs.length := hJ
    rw [Paired.lenL hF, List.take_length] at z
    exact fin D H' hD e (z ▸ hd)
end
theorem xt_new {H H1 : Hp} {p : Addr} {o : HO} (h : H1 p = none) (e : ExT H H1) : ExT H (upd H1 p o) := e.trans (ext_new h)
theorem xt_lst {H H1 : Hp} {p : Addr} {o : HO} {ys : List V} (h : H1 p = some (.lst ys)) (e : ExT H H1) : ExT H (upd H1 p o) := e.trans (ext_lst h)
def Fr1 (p : Addr) (H H' : Hp) : Prop := ∀ a o, a ≠ p → H a = some o → H' a = some o
theorem Fr1.refl {p : Addr} (H : Hp) : Fr1 p H H := fun _ _ _ h => h
theorem Fr1.new {p t : Addr} {H H' : Hp} {o : HO} (h : H' t = none) (f : Fr1 p H H') : Fr1 p H (upd H' t o) := fun a u n e => get_new (f a u n e) h
theorem Fr1.at {p : Addr} {H H' : Hp} {o : HO} (f : Fr1 p H H') : Fr1 p H (upd H' p o) := fun a u n e => get_ne n (f a u n e)
theorem Fr1.own {p t : Addr} {H H' : Hp} {o : HO} (h : H t = none) (f : Fr1 p H H') : Fr1 p H (upd H' t o) := fun a u n e => get_ne (ne_of_none e h) (f a u n e)
theorem Fr1.ex {p : Addr} {H H' H'' : Hp} (e : Evl.Ex H H') (f : Fr1 p H' H'') (h : H p = none) : Evl.Ex H H'' := fun a o q => f a o (ne_of_none q h) (e a o q)
theorem lg {n : Nat} (h : n < 2 ^ 300) : n.log2 < 9000 := by
  by_cases z : n = 0
  · rw [z]; decide
  · exact Nat.lt_of_lt_of_le ((Nat.log2_lt z).mpr h) (by decide)
theorem ex_new {H H1 : Hp} {p : Addr} {o : HO} (h : H1 p = none) (e : Evl.Ex H H1) : Evl.Ex H (upd H1 p o) := e.trans (.new h)
theorem ex_mut {H H1 : Hp} {p : Addr} {o : HO} (h : H p = none) (e : Evl.Ex H H1) : Evl.Ex H (upd H1 p o) := e.mut h
end TK
set_option maxRecDepth 100000
set_option maxHeartbeats 4000000
namespace TK
open PySem L2
section
variable {X : Cx} {K : PySem.W.Frag}
def rLenQ (K : PySem.W.Frag) : List V → Hp → VK → Prop := fun xs H Q => ∃ p ys, xs = [.ref p] ∧ (SqL K H p ys ∨ SqT K H p ys) ∧ Q (.int ys.length) H
def rListQ (K : PySem.W.Frag) : List V → Hp → VK → Prop := fun xs H Q => ∃ p ys, xs = [.ref p] ∧ (SqL K H p ys ∨ SqT K H p ys) ∧ ∀ l, H l = none → Q (.ref l) (upd H l (.lst ys))
def rTupQ (K : PySem.W.Frag) : List V → Hp → VK → Prop := fun xs H Q => ∃ p ys, xs = [.ref p] ∧ ((SqL K H p ys ∧ ∀ l, H l = none → Q (.ref l) (upd H l (.tup ys))) ∨ (SqT K H p ys ∧ Q (.ref p) H))
def rIntQ : List V → Hp → VK → Prop := fun xs H Q => (∃ i, xs = [.int i] ∧ Q (.int i) H) ∨ ∃ k, xs = [.bl k] ∧ Q (.int (if k then 1 else 0)) H
def rCatSQ : R2 := fun x y H Q => ∃ i j, x = .str i ∧ y = .str j ∧ i.length + j.length ≤ sizeLine ∧ Q (.str (i ++ j)) H
def rLenSQ : List V → Hp → VK → Prop := fun xs H Q => ∃ z, xs = [.str z] ∧ z.length ≤ sizeLine ∧ Q (.int z.length) H
def rMaxQ : List V → Hp → VK → Prop := fun xs H Q => ∃ i j, xs = [.int i, .int j] ∧ Q (.int (if j > i then j else i)) H
def rMinQ : List V → Hp → VK → Prop := fun xs H Q => ∃ i j, xs = [.int i, .int j] ∧ Q (.int (if j < i then j else i)) H
def rStrQ : List V → Hp → VK → Prop := fun xs H Q => ∃ i, xs = [.int i] ∧ i.natAbs.log2 < 1920 ∧ Q (.str (toString i)) H
def rIsNQ : R2 := fun x y H Q => y = .non ∧ Q (.bl (decide (x = .non))) H
def rNotNQ : R2 := fun x y H Q => y = .non ∧ Q (.bl (!decide (x = .non))) H
theorem k_ixL (h : X.K = K) : IxR X (rIxL K) := h ▸ ix_list
theorem k_ixT (h : X.K = K) : IxR X (rIxT K) := h ▸ ix_tup
theorem k_len (h : X.K = K) : CallR X (.builtin "len") (rLenQ K) := h ▸ call_len_seq
theorem k_list (h : X.K = K) : CallR X (.type "list") (rListQ K) := h ▸ call_list_of
theorem k_tuple (h : X.K = K) : CallR X (.type "tuple") (rTupQ K) := h ▸ call_tuple_of
theorem k_int : CallR X (.type "int") rIntQ := call_int1
theorem k_catS : OpR X (binaryOp .Add) rCatSQ := op_add_str
theorem k_lenS : CallR X (.builtin "len") rLenSQ := call_len_str
theorem k_max (hc : X.calm = true) : CallR X (.builtin "max") rMaxQ := call_max2 hc
theorem k_min (hc : X.calm = true) : CallR X (.builtin "min") rMinQ := call_min2 hc
theorem k_str : CallR X (.type "str") rStrQ := call_str_int
theorem k_isN : OpR X (compareOp .Is) rIsNQ := op_isN
theorem k_notN : OpR X (compareOp .IsNot) rNotNQ := op_notN
theorem k_isi (h : X.K = K) : CallR X (.builtin "isinstance") (rIsi K) := h ▸ call_isi
theorem k_in (h : X.K = K) : OpR X (compareOp .In) (rIn K false) := h ▸ op_in_seq
theorem k_notin (h : X.K = K) : OpR X (compareOp .NotIn) (rIn K true) := h ▸ op_notIn_seq
theorem k_eqD (h : X.K = K) (hu : X.A.units + 64 < cLine) : OpR X (compareOp .Eq) (rEqD K) := h ▸ op_eqD hu
theorem k_neD (h : X.K = K) (hu : X.A.units + 64 < cLine) : OpR X (compareOp .NotEq) (rNeD K) := h ▸ op_neD hu
theorem k_slL (h : X.K = K) : SlR X (rSlL K) := h ▸ sl_list
theorem k_slT (h : X.K = K) : SlR X (rSlT K) := h ▸ sl_tup
theorem k_catT (h : X.K = K) : OpR X (binaryOp .Add) (rCatT K) := h ▸ op_catT
theorem k_any (h : X.K = K) (hc : X.calm = true) : CallR X (.builtin "any") (rAny K) := h ▸ cr_any hc
theorem k_all (h : X.K = K) (hc : X.calm = true) : CallR X (.builtin "all") (rAll K) := h ▸ cr_all hc
theorem k_fld {e : Expr} {ta : TE} {f : Str} {pos : Pos} (h : X.K = K) (he : PE X e ta) (hb : attributeBase e f X.env (eval e X.env) = eval e X.env) : PE X (.Attribute e f pos) (tFld K ta f) := h ▸ pe_fld he hb
theorem k_sfld {o e : Expr} {ta tv : TE} {f : Str} {pos pos' : Pos} (h : X.K = K) (ho : PE X o ta) (he : PE X e tv) (hs : swapsWith e (some (.Attribute o f pos')) pos.line X.env = pure false := by rfl) : PS X (.Assign [.Attribute o f pos'] e pos) (sFld K ta tv f) := h ▸ ps_fld ho he hs
theorem k_pil {tg l : Expr} {tl : TE} (h : X.K = K) (hl : PE X l tl) : PI X tg l (iList K tl) := h ▸ pi_list hl
theorem k_pit {tg l : Expr} {tl : TE} (h : X.K = K) (hl : PE X l tl) : PI X tg l (iTup K tl) := h ▸ pi_tup hl
theorem k_gtup {es : List Expr} {k : Nat} {t : TGs} {n : Nat} {pos : Pos} (h : X.K = K) (hc : X.calm = true) (hh : PGs X es t) (hn : (assignEach es X.env).length = n := by rfl) (hst : (assignEach es X.env).findIdx? (·.1) = none := by rfl) : PG X (.Tuple es k pos) (gTup K n t) := h ▸ pg_tup hc hh hn hst
end
section
variable {K : PySem.W.Frag} {H : Hp} {Q : VK} {v : V}
theorem rd_lenQ {p : Addr} {ys : List V} (h : SqL K H p ys) (q : Q (.int ys.length) H) : rLenQ K [.ref p] H Q := ⟨p, ys, rfl, .inl h, q⟩
theorem rd_lenTQ {p : Addr} {ys : List V} (h : SqT K H p ys) (q : Q (.int ys.length) H) : rLenQ K [.ref p] H Q := ⟨p, ys, rfl, .inr h, q⟩
theorem rd_listQ {p : Addr} {ys : List V} (h : SqL K H p ys) (q : ∀ l, H l = none → Q (.ref l) (upd H l (.lst ys))) : rListQ K [.ref p] H Q := ⟨p, ys, rfl, .inl h, q⟩
theorem rd_tupQ {p : Addr} {ys : List V} (h : SqL K H p ys) (q : ∀ l, H l = none → Q (.ref l) (upd H l (.tup ys))) : rTupQ K [.ref p] H Q := ⟨p, ys, rfl, .inl ⟨h, q⟩⟩
theorem rd_intQ {i : Int} (q : Q (.int i) H) : rIntQ [.int i] H Q := .inl ⟨i, rfl, q⟩
theorem rd_intB {b : Bool} (q : Q (.int (if b then 1 else 0)) H) : rIntQ [.bl b] H Q := .inr ⟨b, rfl, q⟩
theorem rd_catS {a b : Str} (h : a.length + b.length ≤ sizeLine) (q : Q (.str (a ++ b)) H) : rCatSQ (.str a) (.str b) H Q := ⟨a, b, rfl, rfl, h, q⟩
theorem rd_lenS {a : Str} (h : a.length ≤ sizeLine) (q : Q (.int a.length) H) : rLenSQ [.str a] H Q := ⟨a, rfl, h, q⟩
theorem rd_max {i j : Int} (q : Q (.int (if j > i then j else i)) H) : rMaxQ [.int i, .int j] H Q := ⟨i, j, rfl, q⟩
theorem rd_min {i j : Int} (q : Q (.int (if j < i then j else i)) H) : rMinQ [.int i, .int j] H Q := ⟨i, j, rfl, q⟩
theorem rd_str {i : Int} (h : i.natAbs.log2 < 1920) (q : Q (.str (toString i)) H) : rStrQ [.int i] H Q := ⟨i, rfl, h, q⟩
theorem rd_isN (q : Q (.bl (decide (v = .non))) H) : rIsNQ v .non H Q := ⟨rfl, q⟩
theorem rd_notN (q : Q (.bl (!decide (v = .non))) H) : rNotNQ v .non H Q := ⟨rfl, q⟩
theorem rd_rep {l : Addr} {k : Int} {xs : List V} (h : H l = some (.lst xs)) (h0 : 0 ≤ k) (h1 : k ≤ 100000) (hz : xs.length * k.toNat ≤ sizeLine) (q : ∀ p, H p = none → Q (.ref p) (upd H p (.lst (List.replicate k.toNat xs).flatten))) : rRep (.ref l) (.int k) H Q := ⟨l, k, xs, rfl, rfl, h, by omega, by omega, hz, q⟩
theorem rd_fld {ta : TE} {f : Str} {σ : L2.St} (h : ta σ H fun x H1 => ∃ a C dx fs v, x = .ref a ∧ H1 a = some (.ins C dx fs) ∧ Cls K C ∧ NoAttr K C f ∧ fs.lookup f = some v ∧ Q v H1) : tFld K ta f σ H Q := h
end
def tCut (t u : TS) : TS := fun D σ H => ∃ Mid : L2.St → Hp → Prop, t { D with nx := Mid } σ H ∧ ∀ σ' H', Mid σ' H' → u D σ' H'
theorem pss_cut {X : Cx} {st : Stmt} {rest : List Stmt} {t u : TS} (h1 : PS X st t) (h2 : PSs X rest u) : PSs X (st :: rest) (tCut t u) := by
  refine ⟨fun pins s σ H D I h => ?_⟩
  obtain ⟨Mid, hm, hu⟩ := h
  refine wpAny_execs_cons (thn (h1.run pins s σ H { D with nx := Mid } I hm) fun f s1 q => ?_)
  cases f with
  | next =>
    obtain ⟨σ', H', I', q⟩ := q
    exact h2.run pins s1 σ' H' D I' (hu σ' H' q)
  | ret v => exact q
  | brk => exact q
  | cont => exact q
theorem rd_cut {t u : TS} {D : Ends} {σ : L2.St} {H : Hp} (Mid : L2.St → Hp → Prop) (h : t { D with nx := Mid } σ H) (k : ∀ σ' H', Mid σ' H' → u D σ' H') : tCut t u D σ H := ⟨Mid, h, k⟩
end TK
set_option maxRecDepth 100000
set_option maxHeartbeats 4000000
namespace TK
open PySem PySem.W PySem.Calls PyProof.Rows PySem.HandSPX
def supS (msg : Str) (n : Nat) (p1 p2 p3 p4 p5 : Pos) : Stmt := .Expr (.Call (.Attribute (.Call (.Name "super" p1) [] [] p2) "__init__" p3) [.Constant (.str msg) n p4] [] p5) p5
def supE (msg : Str) (n : Nat) (p1 p2 p3 p4 p5 : Pos) : Expr := .Call (.Attribute (.Call (.Name "super" p1) [] [] p2) "__init__" p3) [.Constant (.str msg) n p4] [] p5
def SupEv (msg : Str) (n : Nat) (p1 p2 p3 p4 p5 : Pos) (qual : Str) (scope : Scope) (fI cda cc : Addr) : Prop := ∃ pl : Sem Bool, ∀ L : Addr,
  eval (supE msg n p1 p2 p3 p4 p5) (ksEnv qual scope L fI (.ref cda) cc) = (do
      let ov ← attributeBase (.Call (.Name "super" p1) [] [] p2) "__init__" (ksEnv qual scope L fI (.ref cda) cc) (eval (.Call (.Name "super" p1) [] [] p2) (ksEnv qual scope L fI (.ref cda) cc))
      standAt p3.atName
      let (f, first) ← holding [ov] (getMethod ov "__init__" pl)
      callWith p5 f first (backTo p5 (starEach [.Constant (.str msg) n p4] (ksEnv qual scope L fI (.ref cda) cc))) []) ∧
  swapsWith (supE msg n p1 p2 p3 p4 p5) none p5.line (ksEnv qual scope L fI (.ref cda) cc) = pure false
def fldS (f : Str) (p1 p2 p3 p4 : Pos) : Stmt := .Assign [.Attribute (.Name "self" p1) f p2] (.Name f p3) p4
structure SupTxt (prog : Program) (K : Frag) (mg : Str → Option Value) (x : Str) (C fI cc cda : Addr) : Prop where
  gC : mg x = some (.ref C)
  cls : ∃ nm q N bs bm sn sub ab col dd k0 k1 k2 k3 k5, K.lookup C = some (excClassObj nm q C N bs bm true sn sub ab col dd k0 k1 k2 k3 k5 "ValueError.__new__") ∧ refsVE bm = true
  sa : findIn K (.ref C) "__setattr__" = some (some (.builtin "object.__setattr__"))
  ga : findIn K (.ref C) "__getattribute__" = some (some (.builtin "BaseException.__getattribute__"))
  gg : findIn K (.ref C) "__getattr__" = some none
  iC : findIn K (.ref C) "__init__" = some (some (.ref fI))
  tI : typeIn K (.ref fI) = some (.type "function")
  kC : keepIn K (.ref C) = true
  exC : subIn K (.ref C) (.type "BaseException") = some true
  veC : subIn K (.ref C) (.type "ValueError") = some true
  tyC : typeIn K (.ref C) = some (.type "type")
  hdC : hasDictIn K C = true
  mro : mroIn K C (.ref C) = some true
  sup : ks_superIn K C C "__init__" = some (some (.builtin "ValueError.__init__"))
  opq : nsIn K cStatics "thirdparty.any" = some none
  noS : mg "super" = none
  cell : ∃ cl cld csl, K.lookup cc = some ⟨cl, cld, .cell (some (.ref C)), csl⟩
  code : ∃ ccl cdd vs ccs file tf, K.lookup cda = some ⟨ccl, cdd, .fields vs, ccs⟩ ∧ vs[2]? = some (.str file tf) ∧ ((prog.main.file : Str) == file) = true
  top : (prog.main.scope.names.lookup ("super" : Str)).isSome = false
section
variable {prog : Program} {w : World} {A : Around} {E : Value → Shared → Prop} {h : Heap} {g : Array GenState} {d : Drawn} {t : Nat} {os : OsState}
variable {nm q : Str} {C N : Addr} {bs bm : List Value} {hdct : Bool} {sn : List Str} {sub : List Value} {ab : Bool} {col : Option Bool} {dd : Option Addr} {k0 k1 k2 k3 k5 : Option Value}
theorem call_mw {u e t0 : Addr} {rest : List Value} {Q : Value → Shared → Prop}
    (hC : h.get? C = some (excClassObj nm q C N bs bm hdct sn sub ab col dd k0 k1 k2 k3 k5 "ValueError.__new__")) (he : h.get? e = some (excO C t0)) (hu : h.get? u = some (kxs_mw "ValueError.__init__" e)) (hrest : rest.length ≤ sizeLine)
    (hq : ∀ h' t1, (∀ b o, b ≠ e → h.get? b = some o → h'.get? b = some o) → h'.get? e = some (excO C t1) → Q .none ⟨h', g, d, t, os⟩) :
    wpAny (model prog w) A (call (.ref u) rest) Q E ⟨h, g, d, t, os⟩ := by
  refine wpAny_call (codeAny_of_tree ?_)
  show wpAny _ A.in1 (callAny (.ref u) ⟨rest, []⟩) _ _ _
  simp only [callAny]
  refine wpAny_bind (wpAny_load hu ?_)
  simp only [kxs_mw, show (Value.type "method-wrapper" == Value.type "method" || Value.type "method-wrapper" == Value.type "builtin_function_or_method" || Value.type "method-wrapper" == Value.type "method-wrapper") = true by decide, if_true]
  refine KFB.if_so (by decide) ?_
  refine wpAny_bind (check_bound_init F.excBase_ValueError.toExcCallFacts hC he rfl ?_)
  refine wpAny_bind (wpAny_pure (wpAny_pure ?_))
  refine ⟨plainId_quiet F.excBase_ValueError.init.plain _, codeAny_builtin F.excBase_ValueError.initEntry ?_⟩
  exact exc_init_tree (cls := .ref C) (t0 := t0) (dv := none) (c2 := .none) (c3 := .none) (b4 := .bool false) he hrest fun h' k e' _ => hq h' _ k e'
end
section
variable {prog : Program} {w : World} {A : Around} {E : Value → Shared → Prop} {s : Shared} {K : Frag} {mg : Str → Option Value} {base : Heap} {x : Str} {C fI cc cda : Addr}
theorem sup_stmt (T : SupTxt prog K mg x C fI cc cda) (Mo : L2.Mod K mg base) (kb : ∀ b o, base.get? b = some o → s.heap.get? b = some o)
    {body rest : List Stmt} {qual : Str} {scope : Scope} {L e t0 : Addr} {m : Str → Option Value} {msg : Str} {n : Nat} {p1 p2 p3 p4 p5 : Pos} {fd : FuncData} {ar : Arg} {oc : Value} {od : Option Addr} {osl : Array (Option Value)} {Q : Flow → Shared → Prop}
    (hf : K.lookup fI = some ⟨oc, od, .func fd, osl⟩) (hp : (fd.params.posonlyargs ++ fd.params.args).head? = some ar) (har : ar.arg = "self")
    (hns : s.heap.Ns L m) (hself : m "self" = some (.ref e)) (he : s.heap.get? e = some (excO C t0))
    (hk : scope.kind = .function) (hks : scope.names.lookup ("super" : Str) = some .globalImplicit) (hkc : scope.names.lookup ("__class__" : Str) = some .free) (hka : scope.names.lookup ("self" : Str) = some .local) (hev : SupEv msg n p1 p2 p3 p4 p5 qual scope fI cda cc)
    (h : ∀ h' t1 tk, (∀ b o, b ≠ e → s.heap.get? b = some o → h'.get? b = some o) → h'.get? e = some (excO C t1) →
      wpAny (model prog w) A (execs rest (ksEnv qual scope L fI (.ref cda) cc)) Q E { s with heap := h', toks := tk }) :
    _root_.PySem.wpAt (model prog w) A (.func body (ksEnv qual scope L fI (.ref cda) cc)) (execs (supS msg n p1 p2 p3 p4 p5 :: rest) (ksEnv qual scope L fI (.ref cda) cc)) Q E s := by
  obtain ⟨nm, qq, N, bs, bm, sn, sub, ab, col, dd, k0, k1, k2, k3, k5, hC, hbm⟩ := T.cls
  obtain ⟨cl, cld, csl, hcell⟩ := T.cell
  obtain ⟨ccl, cdd, vs, ccs, file, tf, hcode, hvs, hfile⟩ := T.code
  obtain ⟨mb, b1, b2⟩ := Mo.blt
  have X : K.In s.heap := Mo.kin.keeps kb
  have hcl : clsIn K C = some { name := nm, bases := bs, mro := .ref C :: bm, ns := N, qualname := qq, hasDict := true, slotNames := sn, subclasses := sub, abstract := ab, collection := col, hasDel := false } := by unfold clsIn; rw [hC] <;> rfl
  have hsup := T.sup
  unfold ks_superIn at hsup
  rw [hcl] at hsup
  obtain ⟨hh, g, d, t, os⟩ := s
  unfold supS
  obtain ⟨pl, hev⟩ := hev
  refine ks_wpAt_execs_cons (ks_wpAt_Expr_any (ks_wpAt_MethodCall ?_ (hev L).1) (by simp [interactive, hk]) (hev L).2)
  refine ks_wpAt_super_base (env := ksEnv qual scope L fI (.ref cda) cc) hks hkc (by decide) rfl (X _ _ hf) rfl hp rfl (X _ _ hcode) rfl hvs hfile T.top ?_
  refine ks_loadName_global hk hks (loadGlobal_builtin (env := ksEnv qual scope L fI (.ref cda) cc) (Mo.glob.keeps kb) T.noS (b1.keeps kb) ((b2 "super" (by decide)).trans (by decide +kernel)) ⟨rfl, ?_⟩)
  refine wpAny_loadName_free hk hkc rfl ⟨_, X _ _ hcell, rfl⟩ ?_
  rw [har]
  refine wpAny_loadName_local hk hka hns hself ?_
  refine ks_wpAny_isType_cls (X _ _ hC) rfl ⟨rfl, ?_⟩
  have I : InstAt hh e (excO C t0) C none := ⟨he, rfl, rfl, trivial⟩
  have hne : e ≠ C := ks_ne X I hcl
  refine ks_wpAny_call_super (X _ _ hC) rfl he rfl (fun c z => by cases z) (looks_mroIn X T.mro) (fun h1 e1 kk1 => ?_)
  have X1 : K.In h1 := X.keeps kk1
  have he1 := kk1 _ _ he
  have I1 : InstAt h1 e (excO C t0) C none := ⟨he1, rfl, rfl, trivial⟩
  refine kxs_getMethod kxs_ValueError e1 (looks_opaque X1 T.opq) (l₀ := .ref C :: bm) ?_ rfl X1 hsup (I1.type.andThen (looks_subIn X1 T.veC)) hne (by decide) ?_
  · exact fun A Q E s k q => wpAny_bind ((looks_clsIn X1 hcl) A _ E s k (wpAny_pure q))
  have kk2 : ∀ b o, h1.get? b = some o → (h1.push (kxs_mw "ValueError.__init__" e)).get? b = some o := fun b o z => Heap.get?_push_of_some _ z
  have hu : (h1.push (kxs_mw "ValueError.__init__" e)).get? h1.objs.size = some (kxs_mw "ValueError.__init__" e) := Heap.get?_push_at rfl rfl
  refine kxs_callWith (i := "ValueError.__init__") (x := e) rfl (evalArgs_plain (spliced_cons (Constant_str (x := msg) (k := n) (pos := p4) (spliced_nil ⟨hu, ?_⟩))))
  refine call_mw (X1.keeps kk2 _ _ hC) (kk2 _ _ he1) hu (by rw [sizeLine_eq]; exact (by decide : 1 ≤ 16777216)) fun h' t1 k3 e3 => ?_
  exact wpAt_of_wpAny (h h' t1 _ (fun b o hb z => k3 b o hb (kk2 _ _ (kk1 _ _ z))) e3)
end
def iA1 (f : Str) (p1 p2 : Pos) : Arguments := { posonlyargs := [], args := [{ arg := "self", annotation := none, pos := p1 }, { arg := f, annotation := none, pos := p2 }], vararg := none, kwonlyargs := [], kw_defaults := [], kwarg := none, defaults := [] }
def iS1 (f : Str) : Scope := { kind := .function, names := [(PySem.Str.ofString "self", .local), (f, .local), (PySem.Str.ofString "__class__", .free), (PySem.Str.ofString "super", .globalImplicit)], isGenerator := false, isCoroutine := false, more := [] }
def iA2 (f f2 : Str) (p1 p2 p3 : Pos) : Arguments := { posonlyargs := [], args := [{ arg := "self", annotation := none, pos := p1 }, { arg := f, annotation := none, pos := p2 }, { arg := f2, annotation := none, pos := p3 }], vararg := none, kwonlyargs := [], kw_defaults := [], kwarg := none, defaults := [] }
def iS2 (f f2 : Str) : Scope := { kind := .function, names := [(PySem.Str.ofString "self", .local), (f, .local), (f2, .local), (PySem.Str.ofString "__class__", .free), (PySem.Str.ofString "super", .globalImplicit)], isGenerator := false, isCoroutine := false, more := [] }
def okF (f : Str) : Bool := f != "self" && f != "__class__" && f != "super" && f != "__debug__"
structure Sup1 (prog : Program) (K : Frag) (mg : Str → Option Value) (x f : Str) (C fI cc cda : Addr) : Prop extends SupTxt prog K mg x C fI cc cda where
  no1 : findIn K (.ref C) f = some none
  ok1 : okF f = true
  fn : ∃ (qual : Str) (oc : Value) (od : Option Addr) (doc pm : Value) (an : Option Addr) (ct : Value) (osl : Array (Option Value)) (msg : Str) (n : Nat) (p1 p2 q1 q2 q3 q4 q5 r1 r2 r3 r4 : Pos),
    K.lookup fI = some ⟨oc, od, .func (ksFn "__init__" qual (iA1 f p1 p2) [supS msg n q1 q2 q3 q4 q5, fldS f r1 r2 r3 r4] (iS1 f) .none .none doc pm an (.ref cda) ct cc), osl⟩ ∧ codeIn K (.ref cda) qual = true ∧
    (∀ u v : Value, bindArgs (ksFn "__init__" qual (iA1 f p1 p2) [supS msg n q1 q2 q3 q4 q5, fldS f r1 r2 r3 r4] (iS1 f) .none .none doc pm an (.ref cda) ct cc) ⟨[u, v], []⟩ = pure [(("self" : Str), u), (f, v)]) ∧ SupEv msg n q1 q2 q3 q4 q5 qual (iS1 f) fI cda cc
structure Sup2 (prog : Program) (K : Frag) (mg : Str → Option Value) (x f f2 : Str) (C fI cc cda : Addr) : Prop extends SupTxt prog K mg x C fI cc cda where
  no1 : findIn K (.ref C) f = some none
  no2 : findIn K (.ref C) f2 = some none
  ok1 : okF f = true
  ok2 : okF f2 = true
  ne12 : f ≠ f2
  fn : ∃ (qual : Str) (oc : Value) (od : Option Addr) (doc pm : Value) (an : Option Addr) (ct : Value) (osl : Array (Option Value)) (msg : Str) (n : Nat) (p1 p2 p3 q1 q2 q3 q4 q5 r1 r2 r3 r4 u1 u2 u3 u4 : Pos),
    K.lookup fI = some ⟨oc, od, .func (ksFn "__init__" qual (iA2 f f2 p1 p2 p3) [supS msg n q1 q2 q3 q4 q5, fldS f r1 r2 r3 r4, fldS f2 u1 u2 u3 u4] (iS2 f f2) .none .none doc pm an (.ref cda) ct cc), osl⟩ ∧ codeIn K (.ref cda) qual = true ∧
    (∀ u v v2 : Value, bindArgs (ksFn "__init__" qual (iA2 f f2 p1 p2 p3) [supS msg n q1 q2 q3 q4 q5, fldS f r1 r2 r3 r4, fldS f2 u1 u2 u3 u4] (iS2 f f2) .none .none doc pm an (.ref cda) ct cc) ⟨[u, v, v2], []⟩ = pure [(("self" : Str), u), (f, v), (f2, v2)]) ∧ SupEv msg n q1 q2 q3 q4 q5 qual (iS2 f f2) fI cda cc
structure InitEnd (h h' : Heap) (x C dx : Addr) (m : Str → Option Value) : Prop where
  keep : ∀ b o, b ≠ x → h.get? b = some o → h'.get? b = some o
  obj : ∃ t1 : Addr, h'.get? x = some { cls := .ref C, dict := some dx, data := .fields #[.ref t1, .none, .none, .none, .bool false, .none] }
  dbig : h.objs.size ≤ dx
  dne : dx ≠ x
  ns : h'.Ns1 dx m
structure OwnMade (h h' : Heap) (e C d : Addr) (m : Str → Option Value) : Prop where
  keep : ∀ b o, h.get? b = some o → h'.get? b = some o
  new : h.objs.size ≤ e
  obj : ∃ oe vs, h'.get? e = some oe ∧ oe.cls = .ref C ∧ oe.dict = some d ∧ oe.data = .fields vs ∧ vs[1]? = some .none
  dbig : h.objs.size ≤ d
  dne : d ≠ e
  ns : h'.Ns1 d m
theorem one_size (v : Value) : [v].length ≤ sizeLine := by
  rw [sizeLine_eq]
  exact (by decide : 1 ≤ 16777216)
theorem two_size (v u : Value) : [v, u].length ≤ sizeLine := by
  rw [sizeLine_eq]
  exact (by decide : 2 ≤ 16777216)
theorem ldK {M : Model} {s : Shared} {name : Str} {scope : Scope} {L a : Addr} {cd : Value} {cc : Addr} {m : Str → Option Value} {x : Str} {pos : Pos} {v : Value} {Q : Value → Shared → Prop} {A : Around} {E : Value → Shared → Prop} (hn : s.heap.Ns L m) (hv : m x = some v) (h : Q v s)
    (hk : scope.kind = .function) (hl : scope.names.lookup x = some .local) (hd : (x == ("__debug__" : Str)) = false) :
    wpAny M A (eval (.Name x pos) (ksEnv name scope L a cd cc)) Q E s := wpAny_Name (wpAny_loadName_local hk hl hn hv h) hd
theorem okF_iff {f : Str} (h : okF f = true) : (f == ("self" : Str)) = false ∧ (f == ("__class__" : Str)) = false ∧ (f == ("super" : Str)) = false ∧ (f == ("__debug__" : Str)) = false := by
  unfold okF at h
  simp only [Bool.and_eq_true, bne, Bool.not_eq_true'] at h
  exact ⟨h.1.1.1, h.1.1.2, h.1.2, h.2⟩
theorem sym_f {a b : Str} (h : (a == b) = false) : (b == a) = false := by
  rw [beq_eq_false_iff_ne] at h ⊢
  exact fun z => h z.symm
section
variable {prog : Program} {w : World} {A : Around} {E : Value → Shared → Prop} {R : Result → Shared → Prop} {s : Shared} {K : Frag} {mg : Str → Option Value} {base : Heap} {x f f2 : Str} {C fI cc cda : Addr}
theorem init1 (T : Sup1 prog K mg x f C fI cc cda) (Mo : L2.Mod K mg base) (kb : ∀ b o, base.get? b = some o → s.heap.get? b = some o) {e t0 : Addr} {v : Value} (he : s.heap.get? e = some (excO C t0)) (hbe : base.get? e = none) (hroom : A.depth < recursionLimit)
    (hq : ∀ h' tk dx, InitEnd s.heap h' e C dx (fun y => if y = f then some v else none) → R (.ok (.ret .none)) { s with heap := h', toks := tk }) :
    codeAny (model prog w) A (.call (.ref fI) ⟨[.ref e, v], []⟩) R s := by
  obtain ⟨qual, oc, od, doc, pm, an, ct, osl, msg, n, p1, p2, q1, q2, q3, q4, q5, r1, r2, r3, r4, hfn, hcd, hbd, hev⟩ := T.fn
  obtain ⟨nm, qq, N, bs, bm, sn, sub, ab, col, dd, k0, k1, k2, k3, k5, hC, hbm⟩ := T.cls
  obtain ⟨f1, f3, f4, f5⟩ := okF_iff T.ok1
  have X : K.In s.heap := Mo.kin.keeps kb
  have hcl : clsIn K C = some { name := nm, bases := bs, mro := .ref C :: bm, ns := N, qualname := qq, hasDict := true, slotNames := sn, subclasses := sub, abstract := ab, collection := col, hasDel := false } := by unfold clsIn; rw [hC] <;> rfl
  have g0 : (iS1 f).names.lookup ("self" : Str) = some .local := by simp [iS1, List.lookup]
  have g1 : (iS1 f).names.lookup f = some .local := by
    have z : (f == PySem.Str.ofString "self") = false := f1
    simp [iS1, List.lookup, z]
  have g2 : (iS1 f).names.lookup ("__class__" : Str) = some .free := by
    have z : (PySem.Str.ofString "__class__" == f) = false := sym_f f3
    have z1 : (PySem.Str.ofString "__class__" == PySem.Str.ofString "self") = false := by decide
    simp [iS1, List.lookup, z, z1]
  have g3 : (iS1 f).names.lookup ("super" : Str) = some .globalImplicit := by
    have z : (PySem.Str.ofString "super" == f) = false := sym_f f4
    have z1 : (PySem.Str.ofString "super" == PySem.Str.ofString "self") = false := by decide
    have z2 : (PySem.Str.ofString "super" == PySem.Str.ofString "__class__") = false := by decide
    simp [iS1, List.lookup, z, z1, z2]
  refine ks_codeAny_call_defAt (fd := ksFn "__init__" qual (iA1 f p1 p2) [supS msg n q1 q2 q3 q4 q5, fldS f r1 r2 r3 r4] (iS1 f) .none .none doc pm an (.ref cda) ct cc) (body := _) (binds := [("self", .ref e), (f, v)]) hroom (X _ _ hfn) rfl (Mo.nolimit.keeps kb) (codeRec_of X hcd) rfl (BindsTo.of_eq (hbd _ _)) ?_ ?_ (fun h₀ hns hk₀ => ?_)
  · intro y hy
    simp only [iS1, List.mem_cons, List.not_mem_nil, or_false] at hy
    rcases hy with rfl | rfl | rfl | rfl <;> intro z <;> cases z
  · intro y hy
    rcases List.mem_cons.mp hy with rfl | hy
    · exact g0
    · rcases List.mem_cons.mp hy with rfl | hy
      · exact g1
      · cases hy
  have L0 : s.heap.objs.size ≠ e := Nat.ne_of_gt (Heap.lt_size he)
  have l0 : (fun y => ([(("self" : Str), Value.ref e), (f, v)] : List (Str × Value)).reverse.lookup y) "self" = some (.ref e) := by
    have z : (PySem.Str.ofString "self" == f) = false := sym_f f1
    show ([(f, v), (("self" : Str), Value.ref e)] : List (Str × Value)).lookup ("self" : Str) = _
    simp [List.lookup, z]
  have l1 : (fun y => ([(("self" : Str), Value.ref e), (f, v)] : List (Str × Value)).reverse.lookup y) f = some v := by
    show ([(f, v), (("self" : Str), Value.ref e)] : List (Str × Value)).lookup f = _
    simp [List.lookup]
  refine sup_stmt (s := { s with heap := h₀, toks := s.toks + 2 }) T.toSupTxt Mo (fun b o z => hk₀ b o (kb b o z)) hfn rfl rfl hns l0 (hk₀ _ _ he) rfl g3 g2 g0 hev (fun h1 t1 tk1 kk1 e1 => ?_)
  have hns1 : h1.Ns s.heap.objs.size _ := hns.at fun o z => kk1 _ o L0 z
  unfold fldS
  refine wpAny_execs_cons (plainObj_wpAny_Assign_Attribute ?_)
  refine ldK (v := v) hns1 l1 (ldK (v := .ref e) hns1 l0 ?_ rfl g0 (by decide)) rfl g1 f5
  have X1 : K.In h1 := Mo.kin.keeps fun b o z => kk1 b o (fun y => by rw [y, hbe] at z; cases z) (hk₀ b o (kb b o z))
  refine set_plain X1 (ox := excO C t1) (od := none) ⟨e1, rfl, rfl, trivial⟩ T.sa ?_
  refine exc_osa X1 e1 hcl (show refsVE (.ref C :: bm) = true from hbm) rfl T.no1 (fun h3 tk3 dx kk3 dn dne hx3 hn3 => ?_)
  have z1 : s.heap.objs.size < h1.objs.size := hns1.lt
  refine wpAny_execs_nil (hq h3 tk3 dx ⟨fun b o hb z => kk3 b o hb (kk1 b o hb (hk₀ b o z)), ⟨t1, hx3⟩, Nat.le_of_lt (Nat.lt_of_lt_of_le z1 dn), dne, hn3⟩)
theorem made1 (T : Sup1 prog K mg x f C fI cc cda) (Mo : L2.Mod K mg base) (kb : ∀ b o, base.get? b = some o → s.heap.get? b = some o) {v : Value} (hroom : A.depth + 1 < recursionLimit)
    (hq : ∀ h' tk e d, OwnMade s.heap h' e C d (fun y => if y = f then some v else none) → R (.ok (.ret (.ref e))) { s with heap := h', toks := tk }) :
    codeAny (model prog w) A (.call (.ref C) ⟨[v], []⟩) R s := by
  obtain ⟨nm, q, N, bs, bm, sn, sub, ab, col, dd, k0, k1, k2, k3, k5, hC, hbm⟩ := T.cls
  have X : K.In s.heap := Mo.kin.keeps kb
  obtain ⟨hp, g, dr, tk, os⟩ := s
  have k : ∀ b o, hp.get? b = some o → ((hp.push (kdv_tup [v])).push (excO C hp.objs.size)).get? b = some o := fun b o e => Heap.get?_push_of_some _ (Heap.get?_push_of_some _ e)
  have hget : ((hp.push (kdv_tup [v])).push (excO C hp.objs.size)).get? (hp.objs.size + 1) = some (excO C hp.objs.size) := by heap_get
  have hnx : base.get? (hp.objs.size + 1) = none := by
    cases e : base.get? (hp.objs.size + 1) with
    | none => rfl
    | some o =>
      have z : hp.get? (hp.objs.size + 1) = some o := kb _ _ e
      exact absurd (Nat.lt_of_succ_lt (Heap.lt_size z)) (Nat.lt_irrefl _)
  refine call_own F.excBase_ValueError (fun X => refsVE_contains X bm hbm) (X _ _ hC) (looks_findIn X T.iC) (fun self => bind_fn X self T.tI) (one_size v) ?_
  refine init1 (s := ⟨(hp.push (kdv_tup [v])).push (excO C hp.objs.size), g, dr, tk, os⟩) T Mo (fun b o z => k b o (kb b o z)) hget hnx ?_ fun h' tk' dx ⟨k', ⟨t1, hx⟩, dn, dne, hns⟩ => ?_
  · show A.depth + 1 < recursionLimit
    exact hroom
  · have old : ∀ b o, hp.get? b = some o → h'.get? b = some o := fun b o e => k' b o (Nat.ne_of_lt (Nat.lt_succ_of_lt (Heap.lt_size e))) (k b o e)
    have z : hp.objs.size + 1 + 1 ≤ dx := by
      first
        | (simpa only [Heap.size_push] using dn)
        | exact dn
        | (have q := dn; rw [Heap.size_push, Heap.size_push] at q; exact q)
    exact ⟨rfl, hq h' tk' (hp.objs.size + 1) dx ⟨old, Nat.le_succ _, ⟨_, _, hx, rfl, rfl, rfl, rfl⟩, Nat.le_trans (Nat.le_trans (Nat.le_succ _) (Nat.le_succ _)) z, dne, hns⟩⟩
end
end TK
set_option maxRecDepth 100000
set_option maxHeartbeats 4000000
namespace TK
open PySem PySem.W PySem.Calls PyProof.Rows PySem.HandSPX
section
variable {prog : Program} {w : World} {A : Around} {E : Value → Shared → Prop} {R : Result → Shared → Prop} {s : Shared} {K : Frag} {mg : Str → Option Value} {base : Heap} {x f f2 : Str} {C fI cc cda : Addr}
theorem within1 {f : Str} {v : Value} : Within (fun y => if y = f then some v else none) [f] := fun y hy => by
  by_cases e : y = f
  · rw [e]; exact List.mem_cons_self ..
  · exact absurd (if_neg e) hy
theorem init2 (T : Sup2 prog K mg x f f2 C fI cc cda) (Mo : L2.Mod K mg base) (kb : ∀ b o, base.get? b = some o → s.heap.get? b = some o) {e t0 : Addr} {v v2 : Value} (he : s.heap.get? e = some (excO C t0)) (hbe : base.get? e = none) (hroom : A.depth < recursionLimit)
    (hq : ∀ h' tk dx, InitEnd s.heap h' e C dx (fun y => if y = f2 then some v2 else if y = f then some v else none) → R (.ok (.ret .none)) { s with heap := h', toks := tk }) :
    codeAny (model prog w) A (.call (.ref fI) ⟨[.ref e, v, v2], []⟩) R s := by
  obtain ⟨qual, oc, od, doc, pm, an, ct, osl, msg, n, p1, p2, p3, q1, q2, q3, q4, q5, r1, r2, r3, r4, u1, u2, u3, u4, hfn, hcd, hbd, hev⟩ := T.fn
  obtain ⟨nm, qq, N, bs, bm, sn, sub, ab, col, dd, k0, k1, k2, k3, k5, hC, hbm⟩ := T.cls
  obtain ⟨f1, f3, f4, f5⟩ := okF_iff T.ok1
  obtain ⟨f1', f3', f4', f5'⟩ := okF_iff T.ok2
  have n12 : (f == f2) = false := beq_eq_false_iff_ne.mpr T.ne12
  have n21 : (f2 == f) = false := sym_f n12
  have X : K.In s.heap := Mo.kin.keeps kb
  have hcl : clsIn K C = some { name := nm, bases := bs, mro := .ref C :: bm, ns := N, qualname := qq, hasDict := true, slotNames := sn, subclasses := sub, abstract := ab, collection := col, hasDel := false } := by unfold clsIn; rw [hC] <;> rfl
  have g0 : (iS2 f f2).names.lookup ("self" : Str) = some .local := by simp [iS2, List.lookup]
  have g1 : (iS2 f f2).names.lookup f = some .local := by
    have z : (f == PySem.Str.ofString "self") = false := f1
    simp [iS2, List.lookup, z]
  have g1' : (iS2 f f2).names.lookup f2 = some .local := by
    have z : (f2 == PySem.Str.ofString "self") = false := f1'
    simp [iS2, List.lookup, z, n21]
  have g2 : (iS2 f f2).names.lookup ("__class__" : Str) = some .free := by
    have z : (PySem.Str.ofString "__class__" == f) = false := sym_f f3
    have z' : (PySem.Str.ofString "__class__" == f2) = false := sym_f f3'
    have z1 : (PySem.Str.ofString "__class__" == PySem.Str.ofString "self") = false := by decide
    simp [iS2, List.lookup, z, z', z1]
  have g3 : (iS2 f f2).names.lookup ("super" : Str) = some .globalImplicit := by
    have z : (PySem.Str.ofString "super" == f) = false := sym_f f4
    have z' : (PySem.Str.ofString "super" == f2) = false := sym_f f4'
    have z1 : (PySem.Str.ofString "super" == PySem.Str.ofString "self") = false := by decide
    have z2 : (PySem.Str.ofString "super" == PySem.Str.ofString "__class__") = false := by decide
    simp [iS2, List.lookup, z, z', z1, z2]
  refine ks_codeAny_call_defAt (fd := ksFn "__init__" qual (iA2 f f2 p1 p2 p3) [supS msg n q1 q2 q3 q4 q5, fldS f r1 r2 r3 r4, fldS f2 u1 u2 u3 u4] (iS2 f f2) .none .none doc pm an (.ref cda) ct cc) (body := _) (binds := [("self", .ref e), (f, v), (f2, v2)]) hroom (X _ _ hfn) rfl (Mo.nolimit.keeps kb) (codeRec_of X hcd) rfl (BindsTo.of_eq (hbd _ _ _)) ?_ ?_ (fun h₀ hns hk₀ => ?_)
  · intro y hy
    simp only [iS2, List.mem_cons, List.not_mem_nil, or_false] at hy
    rcases hy with rfl | rfl | rfl | rfl | rfl <;> intro z <;> cases z
  · intro y hy
    rcases List.mem_cons.mp hy with rfl | hy
    · exact g0
    · rcases List.mem_cons.mp hy with rfl | hy
      · exact g1
      · rcases List.mem_cons.mp hy with rfl | hy
        · exact g1'
        · cases hy
  have L0 : s.heap.objs.size ≠ e := Nat.ne_of_gt (Heap.lt_size he)
  have l0 : (fun y => ([(("self" : Str), Value.ref e), (f, v), (f2, v2)] : List (Str × Value)).reverse.lookup y) "self" = some (.ref e) := by
    have z : (PySem.Str.ofString "self" == f) = false := sym_f f1
    have z' : (PySem.Str.ofString "self" == f2) = false := sym_f f1'
    show ([(f2, v2), (f, v), (("self" : Str), Value.ref e)] : List (Str × Value)).lookup ("self" : Str) = _
    simp [List.lookup, z, z']
  have l1 : (fun y => ([(("self" : Str), Value.ref e), (f, v), (f2, v2)] : List (Str × Value)).reverse.lookup y) f = some v := by
    show ([(f2, v2), (f, v), (("self" : Str), Value.ref e)] : List (Str × Value)).lookup f = _
    simp [List.lookup, n12]
  have l2 : (fun y => ([(("self" : Str), Value.ref e), (f, v), (f2, v2)] : List (Str × Value)).reverse.lookup y) f2 = some v2 := by
    show ([(f2, v2), (f, v), (("self" : Str), Value.ref e)] : List (Str × Value)).lookup f2 = _
    simp [List.lookup]
  refine sup_stmt (s := { s with heap := h₀, toks := s.toks + 3 }) T.toSupTxt Mo (fun b o z => hk₀ b o (kb b o z)) hfn rfl rfl hns l0 (hk₀ _ _ he) rfl g3 g2 g0 hev (fun h1 t1 tk1 kk1 e1 => ?_)
  have hns1 : h1.Ns s.heap.objs.size _ := hns.at fun o z => kk1 _ o L0 z
  unfold fldS
  refine wpAny_execs_cons (plainObj_wpAny_Assign_Attribute ?_)
  refine ldK (v := v) hns1 l1 (ldK (v := .ref e) hns1 l0 ?_ rfl g0 (by decide)) rfl g1 f5
  have kb1 : ∀ b o, base.get? b = some o → h1.get? b = some o := fun b o z => kk1 b o (fun y => by rw [y, hbe] at z; cases z) (hk₀ b o (kb b o z))
  have X1 : K.In h1 := Mo.kin.keeps kb1
  refine set_plain X1 (ox := excO C t1) (od := none) ⟨e1, rfl, rfl, trivial⟩ T.sa ?_
  refine exc_osa X1 e1 hcl (show refsVE (.ref C :: bm) = true from hbm) rfl T.no1 (fun h3 tk3 dx kk3 dn dne hx3 hn3 => ?_)
  have z1 : s.heap.objs.size < h1.objs.size := hns1.lt
  have hns3 : h3.Ns s.heap.objs.size _ := hns1.at fun o z => kk3 _ o L0 z
  have kb3 : ∀ b o, base.get? b = some o → h3.get? b = some o := fun b o z => kk3 b o (fun y => by rw [y, hbe] at z; cases z) (kb1 b o z)
  have X3 : K.In h3 := Mo.kin.keeps kb3
  refine wpAny_execs_cons (plainObj_wpAny_Assign_Attribute ?_)
  refine ldK (v := v2) hns3 l2 (ldK (v := .ref e) hns3 l0 ?_ rfl g0 (by decide)) rfl g1' f5'
  obtain ⟨oD, _, _, hoD, _, _⟩ := hn3.count within1
  refine set_plain X3 (ox := { cls := .ref C, dict := some dx, data := .fields #[.ref t1, .none, .none, .none, .bool false, .none] }) (od := some oD) ⟨hx3, rfl, rfl, hoD⟩ T.sa ?_
  refine PySem.OEX.osa_old X3 hx3 hn3 within1 (by simp) hcl (show refsVE (.ref C :: bm) = true from hbm) rfl T.no2 (fun h4 tk4 kk4 hn4 => ?_)
  have dnew : s.heap.objs.size ≤ dx := Nat.le_of_lt (Nat.lt_of_lt_of_le z1 dn)
  refine wpAny_execs_nil (hq h4 tk4 dx ⟨fun b o hb z => kk4 b o (Nat.ne_of_lt (Nat.lt_of_lt_of_le (Heap.lt_size z) dnew)) (kk3 b o hb (kk1 b o hb (hk₀ b o z))), ⟨t1, kk4 _ _ (Ne.symm dne) hx3⟩, dnew, dne, hn4⟩)
theorem made2 (T : Sup2 prog K mg x f f2 C fI cc cda) (Mo : L2.Mod K mg base) (kb : ∀ b o, base.get? b = some o → s.heap.get? b = some o) {v v2 : Value} (hroom : A.depth + 1 < recursionLimit)
    (hq : ∀ h' tk e d, OwnMade s.heap h' e C d (fun y => if y = f2 then some v2 else if y = f then some v else none) → R (.ok (.ret (.ref e))) { s with heap := h', toks := tk }) :
    codeAny (model prog w) A (.call (.ref C) ⟨[v, v2], []⟩) R s := by
  obtain ⟨nm, q, N, bs, bm, sn, sub, ab, col, dd, k0, k1, k2, k3, k5, hC, hbm⟩ := T.cls
  have X : K.In s.heap := Mo.kin.keeps kb
  obtain ⟨hp, g, dr, tk, os⟩ := s
  have k : ∀ b o, hp.get? b = some o → ((hp.push (kdv_tup [v, v2])).push (excO C hp.objs.size)).get? b = some o := fun b o e => Heap.get?_push_of_some _ (Heap.get?_push_of_some _ e)
  have hget : ((hp.push (kdv_tup [v, v2])).push (excO C hp.objs.size)).get? (hp.objs.size + 1) = some (excO C hp.objs.size) := by heap_get
  have hnx : base.get? (hp.objs.size + 1) = none := by
    cases e : base.get? (hp.objs.size + 1) with
    | none => rfl
    | some o =>
      have z : hp.get? (hp.objs.size + 1) = some o := kb _ _ e
      exact absurd (Nat.lt_of_succ_lt (Heap.lt_size z)) (Nat.lt_irrefl _)
  refine call_own F.excBase_ValueError (fun X => refsVE_contains X bm hbm) (X _ _ hC) (looks_findIn X T.iC) (fun self => bind_fn X self T.tI) (two_size v v2) ?_
  refine init2 (s := ⟨(hp.push (kdv_tup [v, v2])).push (excO C hp.objs.size), g, dr, tk, os⟩) T Mo (fun b o z => k b o (kb b o z)) hget hnx ?_ fun h' tk' dx ⟨k', ⟨t1, hx⟩, dn, dne, hns⟩ => ?_
  · show A.depth + 1 < recursionLimit
    exact hroom
  · have old : ∀ b o, hp.get? b = some o → h'.get? b = some o := fun b o e => k' b o (Nat.ne_of_lt (Nat.lt_succ_of_lt (Heap.lt_size e))) (k b o e)
    have z : hp.objs.size + 1 + 1 ≤ dx := by
      first
        | (simpa only [Heap.size_push] using dn)
        | exact dn
        | (have q := dn; rw [Heap.size_push, Heap.size_push] at q; exact q)
    exact ⟨rfl, hq h' tk' (hp.objs.size + 1) dx ⟨old, Nat.le_succ _, ⟨_, _, hx, rfl, rfl, rfl, rfl⟩, Nat.le_trans (Nat.le_trans (Nat.le_succ _) (Nat.le_succ _)) z, dne, hns⟩⟩
end
end TK
namespace TK
open PySem PySem.Spec PyProof.Rows L2
section
variable {X : Cx} {C fI cc cda : Addr} {x f f2 : Str}
theorem mk_sup {pins : List (Addr × Obj)} {σ : L2.St} {H1 : Hp} {Q : XK} {hp h' : Heap} {g : Array GenState} {dr : Drawn} {tk tk' : Nat} {os : OsState} {e d : Addr} {m : Str → Option Value} {fs : List (Str × V)}
    (I1 : Inv X pins σ H1 ⟨hp, g, dr, tk, os⟩) (T : Raises X (.ref C)) (M : OwnMade hp h' e C d m) (rel : ∀ y, RelO (fs.lookup y) (m y)) (q1 : ∀ d, H1 d = none → Q (.ref C) (some d) (upd H1 d (.xd fs))) : MkP X pins σ Q (.ref e) ⟨h', g, dr, tk', os⟩ := by
  obtain ⟨oe, fv, hoe, hc, hd, hdat, h1⟩ := M.obj
  have hns := M.ns
  obtain ⟨G', g1, g2⟩ := restrict h' fun b => decide (b ≠ e)
  have gk : ∀ b, b ≠ e → G'.get? b = h'.get? b := fun b hb => g1 b (decide_eq_true hb)
  have ge : G'.get? e = none := g2 e (by simp)
  have old : ∀ b o, hp.get? b = some o → G'.get? b = some o := fun b o q => (gk b (Nat.ne_of_lt (Nat.lt_of_lt_of_le (Heap.lt_size q) M.new))).trans (M.keep b o q)
  have ob : ObjOk X.prog X.w (upd H1 d (.xd fs)) G' d (.xd fs) := ⟨_, hns.at (fun o q => (gk d M.dne).trans q), rel⟩
  have J : Inv X pins σ (upd H1 d (.xd fs)) ⟨G', g, dr, tk', os⟩ := I1.laid (t' := tk') old M.dbig ob
  refine ⟨e, oe, fv, ⟨G', g, dr, tk', os⟩, _, .ref C, some d, rfl, J, fun b o q => ?_, ge, hoe, ⟨hc, hd⟩, hdat, h1, ?_, rfl, I1.bare, T, q1 d (I1.hok.fresh M.dbig)⟩
  · by_cases hb : b = e
    · have q' : G'.get? b = some o := q
      rw [hb, ge] at q'; cases q'
    · exact (gk b hb).symm.trans q
  · rw [upd_ne (Ne.symm M.dne)]
    exact I1.hok.fresh M.new
def tMk1 (C : Addr) (f : Str) (ta : TA) : L2.St → Hp → XK → Prop := fun σ H Q => ta σ H fun vs H1 => ∃ v, vs = [v] ∧ ∀ d, H1 d = none → Q (.ref C) (some d) (upd H1 d (.xd [(f, v)]))
def tMk2 (C : Addr) (f f2 : Str) (ta : TA) : L2.St → Hp → XK → Prop := fun σ H Q => ta σ H fun vs H1 => ∃ v v2, vs = [v, v2] ∧ ∀ d, H1 d = none → Q (.ref C) (some d) (upd H1 d (.xd [(f2, v2), (f, v)]))
theorem pmk_sup1 {a : Expr} {ta : TA} {p pos : Pos} {k : Nat} (T : Sup1 X.prog X.K X.mg x f C fI cc cda) (hr : Room k X.A) (ha : PA X [a] ta) (hg : Gl X x)
    (he : starEach (a :: []) X.env = (false, eval a X.env) :: starEach [] X.env := by rfl) (hpl : (backTo pos (starEach [] X.env)).any (·.1) = false := by rfl) (hdb : (x == ("__debug__" : Str)) = false := by decide) :
    PMk X (.Call (.Name x p) [a] [] pos) (tMk1 C f ta) := by
  intro pins s σ H Q I h
  refine wpAny_Call_Name_kw (ld_glob I hg T.gC ?_ hdb)
  refine PySem.W.callWith_K (h₀ := X.base) I.ok.mod.kin T.kC (thn (ha.run pos pins s σ H _ I h) fun us s1 hh => ?_) he hpl
  obtain ⟨vs, H1, I1, r1, v, ev, q1⟩ := hh
  subst ev
  refine ⟨I1.kIn, ?_⟩
  cases r1 with
  | cons rv rn =>
    rename_i v' us'
    cases rn
    show wpAny _ _ (call (.ref C) [v']) _ _ _
    have bk := I1.bk
    obtain ⟨hp, g, dr, tk, os⟩ := s1
    refine wpAny_call (made1 T I1.ok.mod bk (by have := hr.dp; omega) fun h' tk' e d M => ?_)
    exact mk_sup I1 (raises_own T.exC T.tyC) M (fun y => relO_put (fs := []) (mA := fun _ => none) rv (fun _ => True.intro) y) q1
theorem pmk_sup2 {a b : Expr} {ta : TA} {p pos : Pos} {k : Nat} (T : Sup2 X.prog X.K X.mg x f f2 C fI cc cda) (hr : Room k X.A) (ha : PA X [a, b] ta) (hg : Gl X x)
    (he : starEach (a :: [b]) X.env = (false, eval a X.env) :: starEach [b] X.env := by rfl) (hpl : (backTo pos (starEach [b] X.env)).any (·.1) = false := by rfl) (hdb : (x == ("__debug__" : Str)) = false := by decide) :
    PMk X (.Call (.Name x p) [a, b] [] pos) (tMk2 C f f2 ta) := by
  intro pins s σ H Q I h
  refine wpAny_Call_Name_kw (ld_glob I hg T.gC ?_ hdb)
  refine PySem.W.callWith_K (h₀ := X.base) I.ok.mod.kin T.kC (thn (ha.run pos pins s σ H _ I h) fun us s1 hh => ?_) he hpl
  obtain ⟨vs, H1, I1, r1, v, v2, ev, q1⟩ := hh
  subst ev
  refine ⟨I1.kIn, ?_⟩
  cases r1 with
  | cons rv rn =>
    rename_i v' us'
    cases rn with
    | cons rv2 rn =>
      rename_i v2' us2'
      cases rn
      show wpAny _ _ (call (.ref C) [v', v2']) _ _ _
      have bk := I1.bk
      obtain ⟨hp, g, dr, tk, os⟩ := s1
      refine wpAny_call (made2 T I1.ok.mod bk (by have := hr.dp; omega) fun h' tk' e d M => ?_)
      exact mk_sup I1 (raises_own T.exC T.tyC) M (fun y => relO_put (fs := [(f, v)]) rv2 (fun z => relO_put (fs := []) (mA := fun _ => none) rv (fun _ => True.intro) z) y) q1
structure IsC (K : PySem.W.Frag) (D : Addr) : Prop where
  hg : PySem.W.findIn K (.ref D) "__getattribute__" = some (some (.builtin "BaseException.__getattribute__"))
  hk : PySem.W.findIn K (.ref D) "__getattr__" = some none
  hs : PySem.W.subIn K (.ref D) (.type "BaseException") = some true
  hc : (PySem.W.clsIn K D).isSome = true
  ha : PySem.W.findIn K (.ref D) "__class__" = some (some (.builtin "object.__class__"))
  hn : PySem.W.specialIn K (.builtin "object.__class__") "__get__" = some (some (.builtin "getset_descriptor.__get__"))
  ht : PySem.W.takesIn K (.builtin "object.__class__") = some true
  hm : PySem.W.mroIn K D (.type "object") = some true
theorem rd_mk1 {σ : L2.St} {H : Hp} {Q : XK} {ta : TA} (h : ta σ H fun vs H1 => ∃ v, vs = [v] ∧ ∀ d, H1 d = none → Q (.ref C) (some d) (upd H1 d (.xd [(f, v)]))) : tMk1 C f ta σ H Q := h
theorem rd_mk2 {σ : L2.St} {H : Hp} {Q : XK} {ta : TA} (h : ta σ H fun vs H1 => ∃ v v2, vs = [v, v2] ∧ ∀ d, H1 d = none → Q (.ref C) (some d) (upd H1 d (.xd [(f2, v2), (f, v)]))) : tMk2 C f f2 ta σ H Q := h
def rIsX (K : PySem.W.Frag) (a : Addr) (cls : Value) (d : Option Addr) : List V → Hp → VK → Prop := fun xs H Q => ∃ (D : Addr) (c : V) (cv : Value) (b : Bool) (dd : Addr) (fs : List (Str × V)), xs = [.ref a, c] ∧ cls = .ref D ∧ IsC K D ∧ ClsV c cv ∧ PySem.W.kitOne K (.ref D) cv = some b ∧ d = some dd ∧ H dd = some (.xd fs) ∧ Q (.bl b) H
theorem rd_isX {K : PySem.W.Frag} {a D : Addr} {dd : Addr} {c : V} {cv : Value} {b : Bool} {fs : List (Str × V)} {H : Hp} {Q : VK} (i : IsC K D) (k : ClsV c cv) (e : PySem.W.kitOne K (.ref D) cv = some b) (hd : H dd = some (.xd fs)) (q : Q (.bl b) H) : rIsX K a (.ref D) (some dd) [.ref a, c] H Q :=
  ⟨D, c, cv, b, dd, fs, rfl, rfl, i, k, e, rfl, hd, q⟩
theorem rd_xf {a C dd : Addr} {f : Str} {te : TE} {fs : List (Str × V)} {v : V} {σ : L2.St} {H : Hp} {Q : VK} (he : ∀ R : VK, R (.ref a) H → te σ H R) (hd : H dd = some (.xd fs)) (hl : fs.lookup f = some v) (q : Q v H) : tXf a (.ref C) (some dd) C f te σ H Q :=
  he _ ⟨rfl, rfl, dd, fs, v, rfl, hd, hl, q⟩
theorem call_isX {a : Addr} {cls : Value} {d : Option Addr} {oe : Obj} {pn : List (Addr × Obj)} (hz : Zc cls d oe) (hf : ∃ vs, oe.data = .fields vs) : CallR (X.suite a ((a, oe) :: pn)) (.builtin "isinstance") (rIsX X.K a cls d) := by
  intro pins s σ H xs us Q I r h
  obtain ⟨D, c, cv, b, dd, fs, rfl, rfl, C, kc, e, rfl, hdd, q⟩ := h
  obtain ⟨u1, u2, rfl, r1, r2⟩ := vals2 r
  obtain rfl : u1 = Value.ref a := r1
  have e2 := kc.eq r2
  subst e2
  obtain ⟨hget, _⟩ := I.pin (a, oe) (List.mem_append.mpr (.inl List.mem_cons_self))
  obtain ⟨vs, hv⟩ := hf
  have hx : ObjOk X.prog X.w H s.heap dd (.xd fs) := I.hok dd _ hdd
  obtain ⟨mA, hns, hr⟩ := hx
  obtain ⟨od, ho, hl⟩ := lookIn_ns hns
  have J : PySem.W.InstAt s.heap a oe D (some od) := ⟨hget, hz.1, by unfold PySem.W.notCls; rw [hv] <;> rfl, by rw [hz.2]; exact ho⟩
  exact PySem.W.kia_one (PySem.W.kitx_exc C.hc C.hg C.hk C.hs C.ha C.hn C.ht C.hm) I.kIn J e (fun z => nomatch z) fun tk => ⟨.bl b, H, I.tok tk, rfl, q⟩
theorem tyOf_ex {K : PySem.W.Frag} {H H' : Hp} {v : V} {t : Value} (e : Evl.Ex H H') (h : TyOf K H v t) : TyOf K H' v t := by
  cases h with
  | non => exact .non
  | bl y => exact .bl y
  | int i => exact .int i
  | str y => exact .str y
  | flt y => exact .flt y
  | lst ea => exact .lst (e _ _ ea)
  | frz ea => exact .frz (e _ _ ea)
  | tup ea => exact .tup (e _ _ ea)
  | dK ea => exact .dK (e _ _ ea)
  | dT ea => exact .dT (e _ _ ea)
  | ins ea cl ha hn htk hm => exact .ins (e _ _ ea) cl ha hn htk hm
theorem tyX_ex {K : PySem.W.Frag} {H H' : Hp} {v : V} {t : Value} (e : Evl.Ex H H') (h : TyX K H v t) : TyX K H' v t := by
  cases h with
  | base h => exact .base (tyOf_ex e h)
  | byt b => exact .byt b
  | set ea => exact .set (e _ _ ea)
  | kList a b => exact .kList a b
  | kTuple a b => exact .kTuple a b
  | kDict a b => exact .kDict a b
  | fTuple ea => exact .fTuple (e _ _ ea)
  | fDict ea => exact .fDict (e _ _ ea)
theorem rd_callS {sp : Sp} {E : L2.St → XK} {ta : TA} {σ : L2.St} {H : Hp} {Q : VK} (h : ta σ H fun vs H1 => sp vs H1 Q (E σ)) : tCallS sp E ta σ H Q := h
end
end TK
set_option maxRecDepth 100000
set_option maxHeartbeats 4000000
namespace TK
open PySem L2
section
variable {X : Cx} {K : PySem.W.Frag} {w : World} {o e : Expr} {to te : TE}
def rNotKd (K : PySem.W.Frag) (d : Addr) : R2 := fun x y H Q => ∃ (z : Str) (r : Option Value), x = .str z ∧ y = .ref d ∧ PySem.W.nsIn K d z = some r ∧ Q (.bl (!r.isSome)) H
def rInKd (K : PySem.W.Frag) (d : Addr) : R2 := fun x y H Q => ∃ (z : Str) (r : Option Value), x = .str z ∧ y = .ref d ∧ PySem.W.nsIn K d z = some r ∧ Q (.bl r.isSome) H
theorem k_notKd {d : Addr} {es : Array DictEntry} {n : Nat} (h : X.K = K) (hw : X.w = w) (D : KDict K w d es n) : OpR X (compareOp .NotIn) (rNotKd K d) := by
  subst h hw
  exact op_notIn_kd D
theorem k_inKd {d : Addr} {es : Array DictEntry} {n : Nat} (h : X.K = K) (hw : X.w = w) (D : KDict K w d es n) : OpR X (compareOp .In) (rInKd K d) := by
  subst h hw
  exact op_in_kd D
theorem k_ixKd (h : X.K = K) (hw : X.w = w) : IxR X (rIxD K w) := by
  subst h hw
  exact ix_kdict
def rSplitQ : V → List V → Hp → VK → Prop := fun x xs H Q => ∃ a b, x = .str a ∧ xs = [.str b] ∧ (b.length == 0) = false ∧ a.length + 2 ≤ sizeLine ∧ rNewStrs (Txt.split a b) H Q
def rJoinQ (K : PySem.W.Frag) : V → List V → Hp → VK → Prop := fun x xs H Q => ∃ a p, ∃ ys : List Str, x = .str a ∧ xs = [.ref p] ∧ (SqL K H p (ys.map V.str) ∨ SqT K H p (ys.map V.str)) ∧ (ys.map (·.length)).sum + ys.length * a.length ≤ 16777216 ∧ Q (.str (Txt.join a ys)) H
theorem k_split {apos pos : Pos} (ho : PE X o to) (he : PE X e te) (hs : starEach [e] X.env = [(false, eval e X.env)] := by rfl) (hbase : attributeBase o "split" X.env (eval o X.env) = eval o X.env := by rfl) (hline : (apos.endLine == pos.line) = true := by rfl) :
    PE X (.Call (.Attribute o "split" apos) [e] [] pos) (tM1 rSplitQ to te) := pe_split ho he hs hbase hline
theorem k_join {apos pos : Pos} (h : X.K = K) (ho : PE X o to) (he : PE X e te) (hs : starEach [e] X.env = [(false, eval e X.env)] := by rfl) (hbase : attributeBase o "join" X.env (eval o X.env) = eval o X.env := by rfl) (hline : (apos.endLine == pos.line) = true := by rfl) :
    PE X (.Call (.Attribute o "join" apos) [e] [] pos) (tM1 (rJoinQ K) to te) := by
  subst h
  exact pe_join ho he hs hbase hline
theorem k_enum {ta : TA} {p pos tpos : Pos} {elts : List Expr} {kk : Nat} (h : X.K = K) (hg : Gl X "enumerate") (hm : X.mg "enumerate" = none) (ha : PA X [e] ta) (hs : starEach [e] X.env = [(false, eval e X.env)] := by rfl) :
    PI X (.Tuple elts kk tpos) (.Call (.Name "enumerate" p) [e] [] pos) (iEnum K ta) := by
  subst h
  exact pi_enum hg hm ha hs
end
section
variable {K : PySem.W.Frag} {w : World} {σ : L2.St} {H : Hp} {to te : TE} {Q : VK} {D : Ends} {tu : TS}
theorem rd_m1 {r : V → List V → Hp → VK → Prop} (h : to σ H fun x H1 => (∃ a, x = .str a) ∧ te σ H1 fun y H2 => r x [y] H2 Q) : tM1 r to te σ H Q := h
theorem rd_isS {z : Str} {R : Prop} (h : R) : (∃ a, V.str z = .str a) ∧ R := ⟨⟨z, rfl⟩, h⟩
theorem rd_split {a b : Str} (hb : (b.length == 0) = false) (hl : a.length + 2 ≤ sizeLine) (q : ∀ p, H p = none → Q (.ref p) (upd H p (.lst ((Txt.split a b).map V.str)))) : rSplitQ (.str a) [.str b] H Q := ⟨a, b, rfl, rfl, hb, hl, q⟩
theorem rd_join {a : Str} {p : Addr} {ys : List Str} (h : SqL K H p (ys.map V.str)) (hl : (ys.map (·.length)).sum + ys.length * a.length ≤ 16777216) (q : Q (.str (Txt.join a ys)) H) : rJoinQ K (.str a) [.ref p] H Q := ⟨a, p, ys, rfl, rfl, .inl h, hl, q⟩
theorem rd_notKd {d : Addr} {z : Str} {r : Option Value} (e : PySem.W.nsIn K d z = some r) (q : Q (.bl (!r.isSome)) H) : rNotKd K d (.str z) (.ref d) H Q := ⟨z, r, rfl, rfl, e, q⟩
theorem rd_ixKd {d : Addr} {z : Str} {v : V} {u : Value} {es : Array DictEntry} {n : Nat} (D : KDict K w d es n) (e : PySem.W.nsIn K d z = some (some u)) (r : RelV v u) (q : Q v H) : rIxD K w (.ref d) (.str z) H Q := ⟨d, z, v, rfl, rfl, ⟨es, n, u, D.at_, D.lit, e, r⟩, q⟩
theorem rd_forE {ta : TA} {g : TG} (h : ta σ H fun vs H1 => ∃ a xs, vs = [.ref a] ∧ SqL K H1 a xs ∧ ForW g tu D σ (Ite K a) H1) : tFor (iEnum K ta) g tu D σ H := h
end
theorem rd_sl {r : V → Option Int → Option Int → Hp → VK → Prop} {te : TE} {tl th : TO} {σ : L2.St} {H : Hp} {Q : VK} (h : te σ H fun x H1 => tl σ H1 fun l H2 => th σ H2 fun u H3 => r x l u H3 Q) : tSl r te tl th σ H Q := h
theorem rd_np {σ : L2.St} {H : Hp} {Q : Option Int → Hp → Prop} (h : Q none H) : tNoPart σ H Q := h
theorem rd_part {te : TE} {σ : L2.St} {H : Hp} {Q : Option Int → Hp → Prop} (h : te σ H fun x H1 => ∃ i, x = .int i ∧ Q (some i) H1) : tPart te σ H Q := h
def jn (ps : List Str) : Str := Txt.join " " ps
theorem tl_sp : TL.tl (" " : Str) = [32] := by decide +kernel
theorem tl_jn (ps : List Str) : TL.tl (jn ps) = TL.joinL [32] (ps.map TL.tl) := by
  unfold jn
  rw [TL.join_eq, TL.tl_join, tl_sp]
theorem joinL_snoc (S q : List Nat) : ∀ ps : List (List Nat), ps ≠ [] → TL.joinL S (ps ++ [q]) = TL.joinL S ps ++ (S ++ q)
  | [], h => absurd rfl h
  | [p], _ => rfl
  | p :: r :: t, _ => by
    show p ++ (S ++ TL.joinL S ((r :: t) ++ [q])) = (p ++ (S ++ TL.joinL S (r :: t))) ++ (S ++ q)
    rw [joinL_snoc S q (r :: t) (by simp)]
    simp
theorem joinL_len (S : List Nat) : ∀ ps : List (List Nat), (TL.joinL S ps).length ≤ (ps.map (·.length)).sum + ps.length * S.length
  | [] => Nat.zero_le _
  | [p] => by
    show p.length ≤ _
    simp
  | p :: r :: t => by
    have ih := joinL_len S (r :: t)
    show (p ++ (S ++ TL.joinL S (r :: t))).length ≤ _
    rw [List.length_append, List.length_append, List.map_cons, List.sum_cons, List.length_cons, Nat.succ_mul]
    omega
theorem jn_nil : jn [] = "" := rfl
theorem jn_cons {ps : List Str} (h : ps ≠ []) : " " ++ jn ps = jn ("" :: ps) := by
  refine TL.ext_tl ?_
  rw [TL.tl_append, tl_jn, tl_jn, tl_sp]
  cases ps with
  | nil => exact absurd rfl h
  | cons p t => rfl
theorem jn_snoc {ps : List Str} (h : ps ≠ []) : jn ps ++ " " = jn (ps ++ [("" : Str)]) := by
  refine TL.ext_tl ?_
  rw [TL.tl_append, tl_jn, tl_jn, tl_sp, List.map_append]
  show _ = TL.joinL [32] (ps.map TL.tl ++ [[]])
  rw [joinL_snoc _ _ _ (by simpa using h)]
  simp
theorem jn_end {ps : List Str} {q x : Str} : jn (ps ++ [q]) ++ x = jn (ps ++ [q ++ x]) := by
  refine TL.ext_tl ?_
  rw [TL.tl_append, tl_jn, tl_jn, List.map_append, List.map_append]
  show TL.joinL [32] (ps.map TL.tl ++ [TL.tl q]) ++ _ = TL.joinL [32] (ps.map TL.tl ++ [TL.tl (q ++ x)])
  rw [TL.tl_append]
  cases ps with
  | nil => rfl
  | cons p t =>
    rw [joinL_snoc _ _ _ (by simp), joinL_snoc _ _ _ (by simp)]
    simp
theorem jn_ne {ps : List Str} (h : 1 < ps.length ∨ ∃ p, ps = [p] ∧ p ≠ "") : jn ps ≠ "" := by
  rcases h with h | ⟨p, rfl, h⟩
  · match ps, h with
    | p :: q :: t, _ =>
      intro z
      have y := congrArg (fun s => (TL.tl s).length) z
      rw [tl_jn] at y
      have e : TL.joinL [32] ((p :: q :: t).map TL.tl) = TL.tl p ++ ([32] ++ TL.joinL [32] ((q :: t).map TL.tl)) := rfl
      rw [e, List.length_append, List.length_append] at y
      have y0 : (TL.tl ("" : Str)).length = 0 := rfl
      rw [y0] at y
      simp at y
  · exact h
theorem jn_len (ps : List Str) : (jn ps).length ≤ (ps.map (·.length)).sum + ps.length := by
  rw [TL.len_tl, tl_jn]
  have h := joinL_len [32] (ps.map TL.tl)
  have e : (ps.map TL.tl).map (·.length) = ps.map (·.length) := by
    rw [List.map_map]
    refine List.map_congr_left fun p _ => ?_
    exact (TL.len_tl p).symm
  rw [e, List.length_map] at h
  simpa using h
theorem sum_le {k : Nat} : ∀ {ps : List Str}, (∀ p ∈ ps, p.length ≤ k) → (ps.map (·.length)).sum ≤ ps.length * k
  | [], _ => Nat.zero_le _
  | p :: t, h => by
    rw [List.map_cons, List.sum_cons, List.length_cons, Nat.succ_mul]
    have h1 := h p (List.mem_cons_self ..)
    have h2 := sum_le fun q hq => h q (List.mem_cons_of_mem _ hq)
    omega
theorem jn_split {ps : List Str} (h : ps ≠ []) (hp : ∀ p ∈ ps, 32 ∉ TL.tl p) : Txt.split (jn ps) " " = ps := TL.split_join tl_sp (by decide +kernel) h hp
def TupK (K : PySem.W.Frag) (a : Addr) (xs : List V) : Prop := ∃ (o : Obj) (its : Array Value) (n : Nat), K.lookup a = some o ∧ o.cls = .type "tuple" ∧ o.data = .seq its n ∧ its.size ≤ sizeLine ∧ Vals xs its.toList
theorem TupK.t {K : PySem.W.Frag} {a : Addr} {xs : List V} {H : Hp} (h : TupK K a xs) : SqT K H a xs := .inr h
def swT : List (Str × List V) := [("0", [.int 0, .int 0]), ("1", [.int 1, .int 0]), ("2", [.int 2, .int 0]), ("0n", [.int 0, .int 1]), ("1n", [.int 1, .int 1]), ("2n", [.int 2, .int 1]), ("crash", [.str "crash"])]
structure SW (w : World) (K : PySem.W.Frag) (a : Addr) : Prop where
  kd : ∃ es n, KDict K w a es n
  yes : ∀ e ∈ swT, ∃ b, PySem.W.nsIn K a e.1 = some (some (.ref b)) ∧ TupK K b e.2
  no : ∀ z, (∀ e ∈ swT, e.1 ≠ z) → PySem.W.nsIn K a z = some none
theorem tupK2 {K : PySem.W.Frag} {b : Addr} {oc : Option Addr} {n : Nat} {sl : Array (Option Value)} {i j : Int} {s t : Tok} (h : K.lookup b = some ⟨.type "tuple", oc, .seq #[.int i s, .int j t] n, sl⟩) : TupK K b [.int i, .int j] :=
  ⟨_, _, n, h, rfl, rfl, szle (by simp), .cons ⟨s, rfl⟩ (.cons ⟨t, rfl⟩ .nil)⟩
theorem tupK1s {K : PySem.W.Frag} {b : Addr} {oc : Option Addr} {n : Nat} {sl : Array (Option Value)} {i : Str} {s : Tok} (h : K.lookup b = some ⟨.type "tuple", oc, .seq #[.str i s] n, sl⟩) : TupK K b [.str i] :=
  ⟨_, _, n, h, rfl, rfl, szle (by simp), .cons ⟨s, rfl⟩ .nil⟩
theorem sw_mk {w : World} {K : PySem.W.Frag} {a : Addr} {h0 h1 h2 h3 h4 h5 h6 : Int} {t0 t1 t2 t3 t4 t5 t6 : Tok} {b0 b1 b2 b3 b4 b5 b6 : Addr} {n : Nat}
    (at_ : K.lookup a = some ⟨.type "dict", none, .dict #[⟨h0, .str "0" t0, .ref b0⟩, ⟨h1, .str "1" t1, .ref b1⟩, ⟨h2, .str "2" t2, .ref b2⟩, ⟨h3, .str "0n" t3, .ref b3⟩, ⟨h4, .str "1n" t4, .ref b4⟩, ⟨h5, .str "2n" t5, .ref b5⟩, ⟨h6, .str "crash" t6, .ref b6⟩] n, #[]⟩)
    (hh : h0 = PyData.keyHash w.params "0" ∧ h1 = PyData.keyHash w.params "1" ∧ h2 = PyData.keyHash w.params "2" ∧ h3 = PyData.keyHash w.params "0n" ∧ h4 = PyData.keyHash w.params "1n" ∧ h5 = PyData.keyHash w.params "2n" ∧ h6 = PyData.keyHash w.params "crash")
    (lo : (a == sysModules) = false) (u0 : TupK K b0 [.int 0, .int 0]) (u1 : TupK K b1 [.int 1, .int 0]) (u2 : TupK K b2 [.int 2, .int 0]) (u3 : TupK K b3 [.int 0, .int 1]) (u4 : TupK K b4 [.int 1, .int 1]) (u5 : TupK K b5 [.int 2, .int 1]) (u6 : TupK K b6 [.str "crash"]) : SW w K a := by
  obtain ⟨e0, e1, e2, e3, e4, e5, e6⟩ := hh
  refine ⟨⟨_, n, at_, ⟨⟨_, _, rfl, e0⟩, ⟨_, _, rfl, e1⟩, ⟨_, _, rfl, e2⟩, ⟨_, _, rfl, e3⟩, ⟨_, _, rfl, e4⟩, ⟨_, _, rfl, e5⟩, ⟨_, _, rfl, e6⟩, trivial⟩, lo⟩, ?_, ?_⟩
  · intro e he
    simp only [swT, List.mem_cons, List.not_mem_nil, or_false] at he
    rcases he with rfl | rfl | rfl | rfl | rfl | rfl | rfl
    · exact ⟨b0, by unfold PySem.W.nsIn; rw [at_]; rfl, u0⟩
    · exact ⟨b1, by unfold PySem.W.nsIn; rw [at_]; rfl, u1⟩
    · exact ⟨b2, by unfold PySem.W.nsIn; rw [at_]; rfl, u2⟩
    · exact ⟨b3, by unfold PySem.W.nsIn; rw [at_]; rfl, u3⟩
    · exact ⟨b4, by unfold PySem.W.nsIn; rw [at_]; rfl, u4⟩
    · exact ⟨b5, by unfold PySem.W.nsIn; rw [at_]; rfl, u5⟩
    · exact ⟨b6, by unfold PySem.W.nsIn; rw [at_]; rfl, u6⟩
  · intro z hz
    have k : ∀ e ∈ swT, ∀ t, (Value.str e.1 t).isStr z = false := fun e he t => by
      show (e.1 == z) = false
      exact beq_eq_false_iff_ne.mpr (hz e he)
    unfold PySem.W.nsIn
    rw [at_]
    dsimp only
    have k0 := k ("0", [.int 0, .int 0]) (by simp [swT]) t0
    have k1 := k ("1", [.int 1, .int 0]) (by simp [swT]) t1
    have k2 := k ("2", [.int 2, .int 0]) (by simp [swT]) t2
    have k3 := k ("0n", [.int 0, .int 1]) (by simp [swT]) t3
    have k4 := k ("1n", [.int 1, .int 1]) (by simp [swT]) t4
    have k5 := k ("2n", [.int 2, .int 1]) (by simp [swT]) t5
    have k6 := k ("crash", [.str "crash"]) (by simp [swT]) t6
    dsimp only at k0 k1 k2 k3 k4 k5 k6
    rw [List.find?_cons, k0]
    dsimp only
    rw [List.find?_cons, k1]
    dsimp only
    rw [List.find?_cons, k2]
    dsimp only
    rw [List.find?_cons, k3]
    dsimp only
    rw [List.find?_cons, k4]
    dsimp only
    rw [List.find?_cons, k5]
    dsimp only
    rw [List.find?_cons, k6]
    dsimp only
    rw [List.find?_nil]
    rfl
end TK
set_option maxRecDepth 100000
set_option maxHeartbeats 4000000
namespace TK
open PySem L2
section
variable {X : Cx} {K : PySem.W.Frag}
def tFS (ts : List TE) : TE := fun σ H Q => tJs ts Str.empty σ H fun out H1 => Q (.str out) H1
theorem k_fs {v1 v2 : Expr} {rest : List Expr} {ts : List TE} {pos : Pos} (h : PJ X (v1 :: v2 :: rest) ts) : PE X (.JoinedStr (v1 :: v2 :: rest) pos) (tFS ts) := pe_joined h
def rMulS : R2 := fun x y H Q => ∃ z n, x = .str z ∧ y = .int n ∧ MulOk z n ∧ Q (.str (Txt.mul z n)) H
theorem k_mulS : OpR X (binaryOp .Mult) rMulS := by
  intro pins s σ H x y v u Q I rx ry h
  obtain ⟨z, n, rfl, rfl, hz, q⟩ := h
  obtain ⟨t, rfl⟩ := rx
  obtain ⟨t', rfl⟩ := ry
  exact SB.mul hz fun t' k => ⟨.str (Txt.mul z n), H, I.tok _, ⟨_, rfl⟩, q⟩
end
section
variable {K : PySem.W.Frag} {H : Hp} {σ : L2.St} {te tl : TE} {Q : VK} {vs : List Nat} {j : Nat}
theorem rd_fs {ts : List TE} (h : tJs ts Str.empty σ H fun out H1 => Q (.str out) H1) : tFS ts σ H Q := h
theorem rd_js0 {acc : Str} {Q : Str → Hp → Prop} (h : Q acc H) : tJs [] acc σ H Q := h
theorem rd_jsc {t : TE} {ts : List TE} {acc : Str} {Q : Str → Hp → Prop} (h : t σ H fun x H1 => ∃ y : Str, x = .str y ∧ (acc ++ y).length ≤ sizeLine ∧ tJs ts (acc ++ y) σ H1 Q) : tJs (t :: ts) acc σ H Q := h
theorem rd_fmt (h : te σ H fun x H1 => (∃ y : Str, x = .str y ∧ y.length ≤ sizeLine ∧ Q (.str y) H1) ∨ ∃ i : Int, x = .int i ∧ i.natAbs.log2 < 1920 ∧ Q (.str (toString i)) H1) : tFmt te σ H Q := h
theorem rd_lcT {a : Addr} {xs : List V} (J : Addr → Nat → List V → Hp → Prop) (htl : ∀ R : VK, R (.ref a) H → tl σ H R) (hS : SqT K H a xs) (hn : xs.length ≤ 50000)
    (hw : ∀ x, wipe ((wipe σ vs).set j (some x)) vs = wipe σ vs) (j0 : ∀ D, H D = none → J D 0 [] (upd H D (.lst [])))
    (turn : ∀ D i x acc H' (R : VK), H D = none → Evl.Ex H H' → xs[i]? = some x → H' D = some (.lst acc) → acc.length = i → J D i acc H' →
      (∀ y H4, Evl.Ex H H4 → H4 D = some (.lst acc) → J D (i + 1) (acc ++ [y]) (upd H4 D (.lst (acc ++ [y]))) → R y H4) → te ((wipe σ vs).set j (some x)) H' R)
    (fin : ∀ D acc H', H D = none → Evl.Ex H H' → H' D = some (.lst acc) → acc.length = xs.length → J D xs.length acc H' → Q (.ref D) H') :
    tLc (iTup K tl) (gName j) tYes te vs σ H Q := by
  refine htl _ ⟨a, rfl, ⟨xs, hS⟩, fun D hD => lc_it (walk_tup (K := K) (a := a) (xs := xs)) (fun i H' => ∃ acc, Evl.Ex H H' ∧ H' D = some (.lst acc) ∧ acc.length = i ∧ J D i acc H') ⟨[], Evl.Ex.new hD, upd_same, rfl, j0 D hD⟩ (fun i H' _ ⟨_, e, _⟩ => Evl.ex_t e hS) ?_ ?_⟩
  · rintro i x H' H'' hlt ⟨acc, e, hd, hl, hj⟩ ⟨rfl, hi⟩
    refine ⟨hw x, ?_⟩
    refine rd_yes ?_
    refine turn D i x acc H'' _ hD e hi hd hl hj fun y H4 e4 h4 j4 => ⟨acc, h4, szl (by omega), acc ++ [y], e4.mut hD, upd_same, by simp [hl], j4⟩
  · rintro H' ⟨acc, e, hd, hl, hj⟩
    exact fin D acc H' hD e hd hl hj
theorem tyX_t {a : Addr} {xs : List V} (h : SqT K H a xs) : TyX K H (.ref a) (.type "tuple") := by
  rcases h with (h | ⟨o, h⟩) | ⟨o, its, n, h, c, _⟩
  · exact .base (.tup h)
  · exact .fTuple h
  · exact .kTuple h c
end
end TK
set_option maxRecDepth 100000
set_option maxHeartbeats 4000000
namespace TK
open PySem L2
def top (i : Nat) : Stmt := PySem.Challenge.pw_takenahead_k77_whole_schedules_are_read.main.body.getD i (.Pass ⟨0, 0, 0, 0⟩)
abbrev s_step_word : Stmt := top 5
abbrev N_step_word : List Str := ["step"]
theorem sc_step_word : FnScope N_step_word ["step"] (defScope s_step_word) := ⟨rfl, rfl, rfl, by decide +kernel, rfl, by decide +kernel, by decide +kernel⟩
abbrev s_write_schedule : Stmt := top 6
abbrev N_write_schedule : List Str := ["schedule", "step"]
theorem sc_write_schedule : FnScope N_write_schedule ["schedule"] (defScope s_write_schedule) := ⟨rfl, rfl, rfl, by decide +kernel, rfl, by decide +kernel, by decide +kernel⟩
abbrev s_read_schedule : Stmt := top 7
abbrev N_read_schedule : List Str := ["text", "schedule", "index", "word"]
theorem sc_read_schedule : FnScope N_read_schedule ["text"] (defScope s_read_schedule) := ⟨rfl, rfl, rfl, by decide +kernel, rfl, by decide +kernel, by decide +kernel⟩
abbrev s_l_box : Stmt := top 9
abbrev N_l_box : List Str := ["_law_script", "_law_k", "_law_cell"]
theorem sc_l_box : FnScope N_l_box ["_law_script", "_law_k"] (defScope s_l_box) := ⟨rfl, rfl, rfl, by decide +kernel, rfl, by decide +kernel, by decide +kernel⟩
abbrev s_l_pick : Stmt := top 10
abbrev N_l_pick : List Str := ["_law_box_here", "_law_size", "_law_digit", "_law_number"]
theorem sc_l_pick : FnScope N_l_pick ["_law_box_here", "_law_size"] (defScope s_l_pick) := ⟨rfl, rfl, rfl, by decide +kernel, rfl, by decide +kernel, by decide +kernel⟩
abbrev s_l_steps_of : Stmt := top 11
abbrev N_l_steps_of : List Str := ["_law_script", "_law_first", "_law_rows", "_law_top", "_law_k", "_law_box_here", "_law_digit"]
theorem sc_l_steps_of : FnScope N_l_steps_of ["_law_script", "_law_first"] (defScope s_l_steps_of) := ⟨rfl, rfl, rfl, by decide +kernel, rfl, by decide +kernel, by decide +kernel⟩
abbrev s_l_text : Stmt := top 12
abbrev N_l_text : List Str := ["_law_moves", "_law_words", "_law_step"]
theorem sc_l_text : FnScope N_l_text ["_law_moves"] (defScope s_l_text) := ⟨rfl, rfl, rfl, by decide +kernel, rfl, by decide +kernel, by decide +kernel⟩
abbrev s_l_same : Stmt := top 13
abbrev N_l_same : List Str := ["_law_told", "_law_moves", "_law_step", "_law_part"]
theorem sc_l_same : FnScope N_l_same ["_law_told", "_law_moves"] (defScope s_l_same) := ⟨rfl, rfl, rfl, by decide +kernel, rfl, by decide +kernel, by decide +kernel⟩
abbrev s_law : Stmt := top 14
abbrev N_law : List Str := ["_law_script", "_law_one", "_law_two", "_law_moves", "_law_kept", "_law_text_here", "_law_told"]
theorem sc_law : FnScope N_law ["_law_script"] (defScope s_law) := ⟨rfl, rfl, rfl, by decide +kernel, rfl, by decide +kernel, by decide +kernel⟩
abbrev PR : Program := PySem.Challenge.pw_takenahead_k77_whole_schedules_are_read
structure Tx (w : World) (K : PySem.W.Frag) (mg : Str → Option Value) where
  n_any : mg "any" = none
  n_bool : mg "bool" = none
  n_enumerate : mg "enumerate" = none
  n_int : mg "int" = none
  n_isinstance : mg "isinstance" = none
  n_len : mg "len" = none
  n_list : mg "list" = none
  n_max : mg "max" = none
  n_min : mg "min" = none
  n_range : mg "range" = none
  n_str : mg "str" = none
  n_tuple : mg "tuple" = none
  a_STEP_WORDS : Addr
  c_STEP_WORDS : mg "STEP_WORDS" = some (.ref a_STEP_WORDS)
  C_TakeError : Addr
  g_TakeError : mg "TakeError" = some (.ref C_TakeError)
  C_BadText : Addr
  g_BadText : mg "BadText" = some (.ref C_BadText)
  fI_BadText : Addr
  cc_BadText : Addr
  cda_BadText : Addr
  e_BadText : Sup1 PR K mg "BadText" "line" C_BadText fI_BadText cc_BadText cda_BadText
  i_BadText : IsC K C_BadText
  x_BadText : XfC K C_BadText
  a_step_word : Addr
  fd_step_word : FuncData
  F_step_word : Fun K "step_word" "step_word" s_step_word a_step_word fd_step_word
  g_step_word : mg "step_word" = some (.ref a_step_word)
  k_step_word : PySem.W.keepIn K (.ref a_step_word) = true
  b_step_word : Binds K fd_step_word ["step"] []
  a_write_schedule : Addr
  fd_write_schedule : FuncData
  F_write_schedule : Fun K "write_schedule" "write_schedule" s_write_schedule a_write_schedule fd_write_schedule
  g_write_schedule : mg "write_schedule" = some (.ref a_write_schedule)
  k_write_schedule : PySem.W.keepIn K (.ref a_write_schedule) = true
  b_write_schedule : Binds K fd_write_schedule ["schedule"] []
  a_read_schedule : Addr
  fd_read_schedule : FuncData
  F_read_schedule : Fun K "read_schedule" "read_schedule" s_read_schedule a_read_schedule fd_read_schedule
  g_read_schedule : mg "read_schedule" = some (.ref a_read_schedule)
  k_read_schedule : PySem.W.keepIn K (.ref a_read_schedule) = true
  b_read_schedule : Binds K fd_read_schedule ["text"] []
  a_l_box : Addr
  fd_l_box : FuncData
  F_l_box : Fun K "_law_box" "_law_box" s_l_box a_l_box fd_l_box
  g_l_box : mg "_law_box" = some (.ref a_l_box)
  k_l_box : PySem.W.keepIn K (.ref a_l_box) = true
  b_l_box : Binds K fd_l_box ["_law_script", "_law_k"] []
  a_l_pick : Addr
  fd_l_pick : FuncData
  F_l_pick : Fun K "_law_pick" "_law_pick" s_l_pick a_l_pick fd_l_pick
  g_l_pick : mg "_law_pick" = some (.ref a_l_pick)
  k_l_pick : PySem.W.keepIn K (.ref a_l_pick) = true
  b_l_pick : Binds K fd_l_pick ["_law_box_here", "_law_size"] []
  a_l_steps_of : Addr
  fd_l_steps_of : FuncData
  F_l_steps_of : Fun K "_law_steps_of" "_law_steps_of" s_l_steps_of a_l_steps_of fd_l_steps_of
  g_l_steps_of : mg "_law_steps_of" = some (.ref a_l_steps_of)
  k_l_steps_of : PySem.W.keepIn K (.ref a_l_steps_of) = true
  b_l_steps_of : Binds K fd_l_steps_of ["_law_script", "_law_first"] []
  a_l_text : Addr
  fd_l_text : FuncData
  F_l_text : Fun K "_law_text" "_law_text" s_l_text a_l_text fd_l_text
  g_l_text : mg "_law_text" = some (.ref a_l_text)
  k_l_text : PySem.W.keepIn K (.ref a_l_text) = true
  b_l_text : Binds K fd_l_text ["_law_moves"] []
  a_l_same : Addr
  fd_l_same : FuncData
  F_l_same : Fun K "_law_same" "_law_same" s_l_same a_l_same fd_l_same
  g_l_same : mg "_law_same" = some (.ref a_l_same)
  k_l_same : PySem.W.keepIn K (.ref a_l_same) = true
  b_l_same : Binds K fd_l_same ["_law_told", "_law_moves"] []
  a_law : Addr
  fd_law : FuncData
  F_law : Fun K "law" "law" s_law a_law fd_law
  g_law : mg "law" = some (.ref a_law)
  k_law : PySem.W.keepIn K (.ref a_law) = true
  b_law : Binds K fd_law ["_law_script"] []
  sw : SW w K a_STEP_WORDS
local macro_rules | `(tactic| walk_at "rd1") => `(tactic| first
  | with_reducible refine rd_seq ?_ | with_reducible refine rd_asg ?_ | with_reducible refine rd_name ?_ | ((with_reducible apply rd_var); rfl) | with_reducible refine rd_c ?_ | with_reducible refine rd_op ?_ | with_reducible refine rd_un ?_
  | with_reducible refine rd_I0 ?_ | with_reducible refine rd_U ?_ | ((with_reducible apply rd_eq); rfl) | ((with_reducible apply rd_ne); rfl) | with_reducible refine rd_ret ?_ | with_reducible refine rd_drop ?_ | with_reducible refine rd_ifS ?_ | with_reducible refine rd_test ?_ | with_reducible refine rd_B ?_
  | with_reducible refine rd_bl ?_ | with_reducible refine rd_not ?_ | with_reducible refine rd_and ?_ | with_reducible refine rd_or ?_ | with_reducible refine rd_andV ?_ | with_reducible refine rd_orV ?_ | with_reducible refine rd_notV ?_ | with_reducible refine rd_if ?_
  | with_reducible refine rd_nil ?_ | with_reducible refine rd_cons ?_ | with_reducible refine rd_tup ?_ | with_reducible refine rd_lst ?_ | with_reducible refine rd_cb ?_ | with_reducible refine rd_call ?_ | with_reducible refine rd_bm ?_ | with_reducible refine rd_bm0 ?_ | with_reducible refine rd_sub ?_
  | ((with_reducible apply rd_aug); rfl) | with_reducible refine rd_ipI ?_ | with_reducible refine rd_gcons ?_ | with_reducible refine rd_gnil ?_ | with_reducible refine rd_forR1 ?_ | with_reducible refine rd_forR2 ?_ | with_reducible refine rd_forL ?_ | with_reducible refine rd_forT ?_ | with_reducible refine rd_nx ?_ | with_reducible refine rd_forE ?_ | with_reducible refine rd_fs ?_ | with_reducible refine rd_jsc ?_ | with_reducible refine rd_js0 ?_ | with_reducible refine rd_fmt ?_ | with_reducible refine rd_sl ?_ | with_reducible refine rd_np ?_ | with_reducible refine rd_part ?_ | with_reducible refine rd_m1 ?_ | with_reducible refine rd_isS ?_ | with_reducible refine rd_brk ?_ | with_reducible refine rd_ct ?_)
local macro_rules | `(tactic| walk_at "sc") => `(tactic| first
  | decide | (refine Or.inl ⟨?_, ?_⟩ <;> (first | decide | omega)) | (refine Or.inr ⟨?_, ?_⟩ <;> (first | decide | omega)) | (refine And.intro ?_ ?_ <;> (first | decide | omega)) | (refine And.intro ?_ (And.intro ?_ ?_) <;> (first | decide | omega)) | omega | assumption)
local macro_rules | `(tactic| walk_at "rd2") => `(tactic| first
  | walk_at "rd1" | ((with_reducible apply rd_I); (focus walk_at "sc")) | ((with_reducible apply rd_ixL); (focus walk_at "sl"); (focus first | rfl | assumption)) | with_reducible refine rd_int ?_ | with_reducible refine rd_int1 ?_ | ((with_reducible apply rd_len); (focus walk_at "sl"))
  | ((with_reducible apply rd_lenQ); (focus walk_at "sl")) | with_reducible refine rd_intQ ?_ | with_reducible refine rd_intB ?_ | with_reducible refine rd_max ?_ | with_reducible refine rd_min ?_ | with_reducible refine rd_isN ?_ | with_reducible refine rd_notN ?_
  | ((with_reducible apply rd_setL); (focus walk_at "hp"); (focus rfl)) | (((with_reducible apply And.intro); apply ty_list); (focus walk_at "sl")))
local macro_rules | `(tactic| walk_at "rdd") => `(tactic| ((try dsimp only [cxK0, cxK1, cxW1]); repeat walk_at "rd2"))
local macro_rules | `(tactic| walk_at "rdc") => `(tactic| repeat walk_at "rd2")
local macro_rules | `(tactic| walk_at "rd") => `(tactic| repeat walk_at "rd1")
local macro_rules | `(tactic| walk_at "hp") => `(tactic| first
  | assumption | exact upd_same | (apply get_new <;> walk_at "hp") | (apply get_ne; (focus first | assumption | (apply Ne.symm; assumption)); walk_at "hp"))
local macro_rules | `(tactic| walk_at "sl") => `(tactic| first
  | assumption | (apply SqL.of; walk_at "hp") | (apply sl_new; (focus walk_at "sl"); assumption))
local macro_rules | `(tactic| walk_at "xt") => `(tactic| first
  | exact ExT.refl _ | assumption | (apply xt_new; (focus walk_at "hp"); walk_at "xt") | (apply xt_lst; (focus walk_at "hp"); walk_at "xt"))
local macro_rules | `(tactic| walk_at "fr") => `(tactic| first
  | exact Fr1.refl _ | assumption | (apply Fr1.at; walk_at "fr") | (apply Fr1.new; (focus assumption); walk_at "fr") | (apply Fr1.own; (focus assumption); walk_at "fr"))
local macro_rules | `(tactic| walk_at "ex") => `(tactic| first
  | exact Evl.Ex.refl _ | assumption | (apply ex_mut; (focus assumption); walk_at "ex") | (apply ex_new; (focus assumption); walk_at "ex"))
structure Bx where
  a : Int
  b : Int
  c : Int
def bxL (x : Bx) : List V := [.int x.a, .int x.b, .int x.c]
def mkBx (c k : Int) : Bx := if 10 ^ 18 ≤ c then ⟨c - 10 ^ 18, c % 2147483629 + k, 0⟩ else ⟨0, c % 2147483629 + 104729 * k, 0⟩
def cellI (ns : List Int) (k : Nat) : Int := ns.getD k 0
def rnd (b c : Int) : Int :=
  let n0 := (b + 7919 * c + 1) * 48271 % 2147483647
  let n1 := n0 * (n0 / 1009 + 69621) % 2147483647
  let n2 := n1 * (n1 / 2003 + 40692) % 2147483399
  n2 / 16
def pkV (x : Bx) (n : Int) : Int := if 0 < x.a then x.a % n else rnd x.b (x.c + 1) % n
def pkB (x : Bx) (n : Int) : Bx := if 0 < x.a then { x with a := x.a / n } else { x with c := x.c + 1 }
theorem pkV_lo {x : Bx} {n : Int} (h : 0 < n) : 0 ≤ pkV x n := by
  unfold pkV
  split <;> exact Int.emod_nonneg _ (by omega)
theorem pkV_hi {x : Bx} {n : Int} (h : 0 < n) : pkV x n < n := by
  unfold pkV
  split <;> exact Int.emod_lt_of_pos _ h
def sp_box (K : PySem.W.Frag) : Sp := fun vs H Q _ => ∃ (a : Addr) (ns : List Int) (k : Nat), vs = [.ref a, .int (k : Nat)] ∧ SqL K H a (ns.map V.int) ∧
  ∀ p, H p = none → Q (.ref p) (upd H p (.lst (bxL (mkBx (cellI ns k) k))))
def sp_pick : Sp := fun vs H Q _ => ∃ (p : Addr) (x : Bx) (n : Int), vs = [.ref p, .int n] ∧ H p = some (.lst (bxL x)) ∧ 0 < n ∧ n.natAbs.log2 < 9000 ∧
  Q (.int (pkV x n)) (upd H p (.lst (bxL (pkB x n))))
section
variable {w : World} {K : PySem.W.Frag} {mg : Str → Option Value} {base : Heap}
theorem atI_cell {ns : List Int} {k : Nat} (h : k < ns.length) : atI (ns.map V.int) (k : Int) = some (V.int (cellI ns k)) := by
  refine atI_nat ?_
  rw [List.getElem?_map, List.getElem?_eq_getElem h]
  simp [cellI, h]
theorem cell_out {ns : List Int} {k : Nat} (h : ¬ k < ns.length) : cellI ns k = 0 := by
  unfold cellI
  rw [List.getD_eq_getElem?_getD, List.getElem?_eq_none (by omega)]
  rfl
theorem bx_hi {c k : Int} (h : 10 ^ 18 ≤ c) : bxL (mkBx c k) = [.int (c - 10 ^ 18), .int (c % 2147483629 + k), .int 0] := by
  unfold mkBx
  rw [if_pos h]
  rfl
theorem bx_lo {c k : Int} (h : ¬ 10 ^ 18 ≤ c) : bxL (mkBx c k) = [.int 0, .int (c % 2147483629 + 104729 * k), .int 0] := by
  unfold mkBx
  rw [if_neg h]
  rfl
theorem rd_pick {p : Addr} {x : Bx} {n : Int} {H : Hp} {Q : VK} {E : XK} (hp : H p = some (.lst (bxL x))) (hn : 0 < n) (h2 : n.natAbs < 2 ^ 300) (q : ∀ r x', 0 ≤ r → r < n → Q (.int r) (upd H p (.lst (bxL x')))) : sp_pick ([.ref p, .int n] ++ []) H Q E :=
  ⟨p, x, n, rfl, hp, hn, lg h2, q _ _ (pkV_lo hn) (pkV_hi hn)⟩
theorem rd_box {K : PySem.W.Frag} {a : Addr} {ns : List Int} {k : Nat} {H : Hp} {Q : VK} {E : XK} (hS : SqL K H a (ns.map V.int)) (q : ∀ p x, H p = none → Q (.ref p) (upd H p (.lst (bxL x)))) : sp_box K ([.ref a, .int (k : Nat)] ++ []) H Q E :=
  ⟨a, ns, k, rfl, hS, fun p h => q p _ h⟩
theorem ok_l_box (T : Tx w K mg) : FnOk PR w K mg base CX0 1 T.a_l_box T.fd_l_box ["_law_script", "_law_k"] (sp_box K) := by
  refine T.F_l_box.ok sc_l_box (fun vs H Q E h => ?_) (fun cdv A outer s H vs Q E hr h => ?_)
  · obtain ⟨a, ns, k, rfl, _⟩ := h
    rfl
  · obtain ⟨a, ns, k, rfl, hS, q⟩ := h
    refine ⟨_, (pss_cons (ps_set (i := 2) sc_l_box.nd rfl (Or.inl rfl) pe_int)
  (pss_cons (ps_if (pt_cmpR op_lt (pv 1) (pe_callB (k_len (K := K) rfl) (by rfl) T.n_len PySem.boot_len (pa_cons (pv 0) pa_nil)) (nomark _))
  (pss_one (ps_set (i := 2) sc_l_box.nd rfl (Or.inl rfl) (pe_callTy k_int (by rfl) T.n_int (by decide +kernel) (pa_cons (pe_ix (k_ixL (K := K) rfl) (pv 0) (pv 1) (fun _ _ => rfl)) pa_nil))))
  pss_nil)
  (pss_cons (ps_if (pt_cmpR op_ge (pv 2) (pe_op op_pow pe_int pe_int) (nomark _))
  (pss_one (ps_ret (pe_lst (pa_cons (pe_op op_sub (pv 2) (pe_op op_pow pe_int pe_int)) (pa_cons (pe_op op_add (pe_op op_mod (pe_callTy k_int (by rfl) T.n_int (by decide +kernel) (pa_cons (pv 2) pa_nil)) pe_int) (pv 1)) (pa_cons pe_int pa_nil))))))
  pss_nil)
  (pss_one (ps_ret (pe_lst (pa_cons pe_int (pa_cons (pe_op op_add (pe_op op_mod (pe_callTy k_int (by rfl) T.n_int (by decide +kernel) (pa_cons (pv 2) pa_nil)) pe_int) (pe_op op_mul pe_int (pv 1))) (pa_cons pe_int pa_nil))))))))), ?_⟩
    walk_at "rdd"
    rw [List.length_map]
    refine if_d (fun c => ?_) (fun c => ?_)
    · have hk : k < ns.length := by omega
      walk_at "rdc"
      refine rd_ixL hS (atI_cell hk) ?_
      walk_at "rdc"
      refine if_d (fun d => ?_) (fun d => ?_)
      · walk_at "rdc"
        refine ⟨by show 3 ≤ sizeLine; decide, fun p hp => ?_⟩
        have q' := q p hp
        rw [bx_hi d] at q'
        exact q'
      · walk_at "rdc"
        refine ⟨by show 3 ≤ sizeLine; decide, fun p hp => ?_⟩
        have q' := q p hp
        rw [bx_lo d] at q'
        exact q'
    · walk_at "rdc"
      refine if_d (fun d => absurd d (by decide)) (fun d => ?_)
      walk_at "rdc"
      refine ⟨by show 3 ≤ sizeLine; decide, fun p hp => ?_⟩
      have q' := q p hp
      rw [cell_out (by omega : ¬ k < ns.length), bx_lo (by decide)] at q'
      exact q'
theorem ok_l_pick (T : Tx w K mg) : FnOk PR w K mg base CX0 1 T.a_l_pick T.fd_l_pick ["_law_box_here", "_law_size"] sp_pick := by
  refine T.F_l_pick.ok sc_l_pick (fun vs H Q E h => ?_) (fun cdv A outer s H vs Q E hr h => ?_)
  · obtain ⟨p, x, n, rfl, _⟩ := h
    rfl
  · obtain ⟨p, x, n, rfl, hp, hn, hn2, q⟩ := h
    refine ⟨_, (pss_cons (ps_if (pt_cmpR op_gt (pe_ix (k_ixL (K := K) rfl) (pv 0) pe_int (fun _ _ => rfl)) pe_int (nomark _))
  (pss_cons (ps_set (i := 2) sc_l_pick.nd rfl (Or.inl rfl) (pe_op op_mod (pe_callTy k_int (by rfl) T.n_int (by decide +kernel) (pa_cons (pe_ix (k_ixL (K := K) rfl) (pv 0) pe_int (fun _ _ => rfl)) pa_nil)) (pv 1)))
  (pss_cons (ps_asg (pe_op op_fdivW (pe_ix (k_ixL (K := K) rfl) (pv 0) pe_int (fun _ _ => rfl)) (pv 1)) (pg_sub (pv 0) pe_int set_list))
  (pss_one (ps_ret (pv 2)))))
  pss_nil)
  (pss_cons (ps_asg (pe_op op_add (pe_ix (k_ixL (K := K) rfl) (pv 0) pe_int (fun _ _ => rfl)) pe_int) (pg_sub (pv 0) pe_int set_list))
  (pss_cons (ps_set (i := 3) sc_l_pick.nd rfl (Or.inl rfl) (pe_op op_mod (pe_callTy k_int (by rfl) T.n_int (by decide +kernel) (pa_cons (pe_op op_mul (pe_op op_add (pe_op op_add (pe_ix (k_ixL (K := K) rfl) (pv 0) pe_int (fun _ _ => rfl)) (pe_op op_mul pe_int (pe_ix (k_ixL (K := K) rfl) (pv 0) pe_int (fun _ _ => rfl)))) pe_int) pe_int) pa_nil)) pe_int))
  (pss_cons (ps_set (i := 3) sc_l_pick.nd rfl (Or.inl rfl) (pe_op op_mod (pe_callTy k_int (by rfl) T.n_int (by decide +kernel) (pa_cons (pe_op op_mul (pv 3) (pe_op op_add (pe_op op_fdiv (pv 3) pe_int) pe_int)) pa_nil)) pe_int))
  (pss_cons (ps_set (i := 3) sc_l_pick.nd rfl (Or.inl rfl) (pe_op op_mod (pe_callTy k_int (by rfl) T.n_int (by decide +kernel) (pa_cons (pe_op op_mul (pv 3) (pe_op op_add (pe_op op_fdiv (pv 3) pe_int) pe_int)) pa_nil)) pe_int))
  (pss_one (ps_ret (pe_op op_mod (pe_callTy k_int (by rfl) T.n_int (by decide +kernel) (pa_cons (pe_op op_fdiv (pv 3) pe_int) pa_nil)) (pv 1))))))))), ?_⟩
    walk_at "rdd"
    refine if_d (fun c => ?_) (fun c => ?_)
    · walk_at "rdc"
      unfold pkV pkB at q
      rw [if_pos c, if_pos c] at q
      exact q
    · walk_at "rdc"
      unfold pkV pkB at q
      rw [if_neg c, if_neg c] at q
      exact q
def BadX (C : Addr) (E : XK) (H : Hp) (v : V) : Prop := ∀ H' d, Evl.Ex H H' → H' d = none → E (.ref C) (some d) (upd H' d (.xd [("line", v)]))
def Kn (z : Str) : Prop := ∃ e ∈ swT, e.1 = z
def Stp (K : PySem.W.Frag) : List V → List Str → Prop := Paired fun x z => ∃ b e, x = .ref b ∧ e ∈ swT ∧ e.1 = z ∧ TupK K b e.2
def sp_read (K : PySem.W.Frag) (C : Addr) : Sp := fun vs H Q E => ∃ v, vs = [v] ∧
  ((∃ t, TyX K H v t ∧ PySem.W.kitOne K t (.type "str") = some false ∧ BadX C E H (.int (-1))) ∨
   (v = .str "" ∧ ∀ p, H p = none → Q (.ref p) (upd H p (.lst []))) ∨
   (∃ ps : List Str, v = .str (jn ps) ∧ ps ≠ [] ∧ (∀ p ∈ ps, 32 ∉ TL.tl p) ∧ jn ps ≠ "" ∧ (jn ps).length + 2 ≤ 100000 ∧ ps.length ≤ 50000 ∧
    (∀ i z, ps[i]? = some z → ¬ Kn z → (∀ j, j < i → ∀ z', ps[j]? = some z' → Kn z') → BadX C E H (.int (i : Nat))) ∧
    ((∀ z ∈ ps, Kn z) → ∀ p H' xs, H p = none → Evl.Ex H H' → H' p = some (.lst xs) → Stp K xs ps → Q (.ref p) H')))
theorem ok_read_schedule (T : Tx w K mg) : FnOk PR w K mg base (L2.CX PR w) 3 T.a_read_schedule T.fd_read_schedule ["text"] (sp_read K T.C_BadText) := by
  refine T.F_read_schedule.okX sc_read_schedule (fun vs H Q E h => ?_) (fun cdv A outer s H vs Q E hr h => ?_)
  · obtain ⟨v, rfl, _⟩ := h
    rfl
  · obtain ⟨v, rfl, h⟩ := h
    obtain ⟨es, n, KD⟩ := T.sw.kd
    refine ⟨_, (pss_cons (ps_if (pt_not (pt_val (pe_callB (k_isi (K := K) rfl) (by rfl) T.n_isinstance (by decide +kernel) (pa_cons (pv 0) (pa_cons (pe_bltn (v := .ty "str") (by rfl) T.n_str (by decide +kernel) rfl) pa_nil)))))
  (pss_one (ps_raise rfl (takes_of rfl rfl rfl rfl) (pmk_sup1 T.e_BadText hr (pa_cons (pe_un un_neg pe_int) pa_nil) rfl)))
  pss_nil)
  (pss_cons (ps_if (pt_cmpR op_eq (pv 0) pe_str (nomark _))
  (pss_one (ps_ret (pe_lst pa_nil)))
  pss_nil)
  (pss_cons (ps_set (i := 1) sc_read_schedule.nd rfl (Or.inl rfl) (pe_lst pa_nil))
  (pss_cons (ps_for (passes_of rfl) rfl (k_enum (K := K) rfl (by rfl) T.n_enumerate (pa_cons (k_split (pv 0) pe_str) pa_nil)) (k_gtup (K := K) rfl rfl (pgs_cons (pg_name (i := 2) sc_read_schedule.nd rfl (Or.inl rfl)) (pgs_cons (pg_name (i := 3) sc_read_schedule.nd rfl (Or.inl rfl)) pgs_nil)))
  (pss_cons (ps_if (pt_cmpR (k_notKd (K := K) (w := w) rfl rfl KD) (pv 3) (pe_glob (v := .ref T.a_STEP_WORDS) (by rfl) T.c_STEP_WORDS rfl) (by rfl))
  (pss_one (ps_raise rfl (takes_of rfl rfl rfl rfl) (pmk_sup1 T.e_BadText hr (pa_cons (pv 2) pa_nil) rfl)))
  pss_nil)
  (pss_one (ps_expr (pe_bm PySem.F.plainAttrs_list PySem.F.slot_list_append PySem.F.type_list_append mt_append (pv 1) (pa_cons (pe_ix (k_ixKd (K := K) (w := w) rfl rfl) (pe_glob (v := .ref T.a_STEP_WORDS) (by rfl) T.c_STEP_WORDS rfl) (pv 3) (fun _ _ => rfl)) pa_nil))))))
  (pss_one (ps_ret (pv 1))))))), ?_⟩
    walk_at "rdd"
    rcases h with ⟨t, ty, kt, hb⟩ | ⟨rfl, q⟩ | ⟨ps, rfl, hne, hsp, hj, hl, hl2, hb, hg⟩
    · refine rd_isi (.ty _) ty kt ?_
      walk_at "rdc"
      refine if_t rfl ?_
      refine rd_mk1 ?_
      walk_at "rdc"
      exact ⟨_, rfl, fun d hd => hb H d (Evl.Ex.refl H) hd⟩
    · refine rd_isi (b := true) (.ty _) (.base (.str _)) (kit_ty (by decide +kernel)) ?_
      walk_at "rdc"
      refine if_f rfl ?_
      walk_at "rdc"
      refine if_t rfl ?_
      walk_at "rdc"
      exact ⟨szle (by simp), fun p hp => q p hp⟩
    · refine rd_isi (b := true) (.ty _) (.base (.str _)) (kit_ty (by decide +kernel)) ?_
      walk_at "rdc"
      refine if_f rfl ?_
      walk_at "rdc"
      refine if_f (decide_eq_false fun z => hj (by injection z)) ?_
      walk_at "rdc"
      refine ⟨szle (by simp), fun r hr0 => ?_⟩
      walk_at "rdc"
      refine rd_split (by decide +kernel) (szle hl) fun l hl0 => ?_
      have hs := jn_split hne hsp
      rw [hs]
      have nrl : r ≠ l := ne_of_none upd_same hl0
      walk_at "rdc"
      refine ⟨l, _, rfl, SqL.of upd_same, for_it (walk_enum (K := K) (a := l) (xs := ps.map V.str)) (fun i σ H' => ∃ (xs : List V) (u1 u2 : Option V), σ = [some (.str (jn ps)), some (.ref r), u1, u2] ∧ H' l = some (.lst (ps.map V.str)) ∧ H' r = some (.lst xs) ∧ Stp K xs (ps.take i) ∧ (∀ j, j < i → ∀ z', ps[j]? = some z' → Kn z') ∧ Evl.Ex H H')
        ⟨[], none, none, rfl, upd_same, get_ne nrl upd_same, .nil, fun j hj => by omega, (Evl.Ex.new hr0).trans (.new hl0)⟩ ?_ ?_ ?_⟩
      · rintro i σ H' hi ⟨xs, u1, u2, rfl, h1, h2, h3, h4, h5⟩
        exact SqL.of h1
      · rintro i x σ H' H'' hi ⟨xs, u1, u2, rfl, h1, h2, h3, h4, h5⟩ ⟨t, x1, x2, rfl, ht, rfl, e1, e2⟩
        have hx1 : x1 = .int (i : Nat) := (Option.some.inj e1).symm
        subst hx1
        have hx2 : ∃ z, ps[i]? = some z ∧ x2 = .str z := by
          replace e2 : (ps.map V.str)[i]? = some x2 := e2
          rw [List.getElem?_map] at e2
          cases q : ps[i]? with
          | none => rw [q] at e2; cases e2
          | some z =>
            rw [q] at e2
            exact ⟨z, rfl, (Option.some.inj e2).symm⟩
        obtain ⟨z, hz, rfl⟩ := hx2
        refine rd_gtup (SqT.of upd_same) rfl ?_
        walk_at "rdc"
        by_cases kn : Kn z
        · obtain ⟨e, he, rfl⟩ := kn
          obtain ⟨b, nb, tb⟩ := T.sw.yes e he
          refine rd_notKd nb ?_
          walk_at "rdc"
          refine if_f rfl ?_
          walk_at "rdc"
          refine rd_ixKd KD nb (v := .ref b) rfl ?_
          walk_at "rdc"
          have hlen : xs.length = (ps.take i).length := Paired.lenL h3
          have hlt : i < ps.length := (List.getElem?_eq_some_iff.mp hz).1
          rw [List.length_take] at hlen
          have nrl2 : l ≠ r := nrl.symm
          refine rd_append (xs := xs) (get_new h2 ht) (szl (by omega)) ?_
          refine ⟨xs ++ [.ref b], _, _, rfl, get_ne nrl2 (get_new h1 ht), upd_same, ?_, ?_, ?_⟩
          · rw [take_more hz]
            exact Paired.snoc h3 ⟨b, e, rfl, he, rfl, tb⟩
          · intro j hj z' hz'
            by_cases q : j < i
            · exact h4 j q z' hz'
            · have : j = i := by omega
              subst this
              rw [hz] at hz'
              cases hz'
              exact ⟨e, he, rfl⟩
          · exact ex_mut hr0 (ex_new ht h5)
        · have nb := T.sw.no z (fun e he q => kn ⟨e, he, q⟩)
          refine rd_notKd nb ?_
          walk_at "rdc"
          refine if_t rfl ?_
          refine rd_mk1 ?_
          walk_at "rdc"
          refine ⟨_, rfl, fun d hd => hb i z hz kn h4 _ d (ex_new ht h5) hd⟩
      · rintro σ H' ⟨xs, u1, u2, rfl, h1, h2, h3, h4, h5⟩
        walk_at "rdc"
        rw [List.length_map] at h3 h4
        rw [List.take_length] at h3
        refine hg (fun z hz => ?_) r H' xs hr0 h5 h2 h3
        obtain ⟨j, hj⟩ := List.getElem?_of_mem hz
        exact h4 j (List.getElem?_eq_some_iff.mp hj).1 z hj
theorem sw_cases {e : Str × List V} (h : e ∈ swT) : e = (("crash", [V.str "crash"]) : Str × List V) ∨ ∃ i j : Int, e = ((toString i : String) ++ (if j = 1 then ("n" : Str) else ""), [.int i, .int j]) ∧ 0 ≤ i ∧ i ≤ 2 ∧ 0 ≤ j ∧ j ≤ 1 := by
  simp only [swT, List.mem_cons, List.not_mem_nil, or_false] at h
  rcases h with rfl | rfl | rfl | rfl | rfl | rfl | rfl
  · exact .inr ⟨0, 0, by decide +kernel, by decide, by decide, by decide, by decide⟩
  · exact .inr ⟨1, 0, by decide +kernel, by decide, by decide, by decide, by decide⟩
  · exact .inr ⟨2, 0, by decide +kernel, by decide, by decide, by decide, by decide⟩
  · exact .inr ⟨0, 1, by decide +kernel, by decide, by decide, by decide, by decide⟩
  · exact .inr ⟨1, 1, by decide +kernel, by decide, by decide, by decide, by decide⟩
  · exact .inr ⟨2, 1, by decide +kernel, by decide, by decide, by decide, by decide⟩
  · exact .inl rfl
def vD : V → PyData
  | .int i => .int i
  | .str s => .str s
  | _ => .none
def eD (e : Str × List V) : PyData := .tuple (e.2.map vD)
theorem e_dat {H : Hp} {e : Str × List V} (h : e ∈ swT) : DtAll K H e.2 (e.2.map vD) := by
  rcases sw_cases h with rfl | ⟨i, j, rfl, _⟩
  · exact .cons (.str _) .nil
  · exact .cons (.int _) (.cons (.int _) .nil)
theorem e_sh {e : Str × List V} (h : e ∈ swT) : Sh 1 (eD e) := by
  rcases sw_cases h with rfl | ⟨i, j, rfl, _⟩
  · exact Sh.tup (.cons (.str (by decide +kernel)) .nil)
  · exact Sh.tup (.cons (.int _) (.cons (.int _) .nil))
def Stq (K : PySem.W.Frag) (H : Hp) : List V → List Str → Prop := Paired fun x z => ∃ b e, x = .ref b ∧ e ∈ swT ∧ e.1 = z ∧ SqT K H b e.2
theorem Stp.q {H : Hp} {xs : List V} {ps : List Str} (h : Stp K xs ps) : Stq K H xs ps := L2.Paired.mapP h fun _ _ ⟨b, e, h1, h2, h3, h4⟩ => ⟨b, e, h1, h2, h3, h4.t⟩
theorem Stq.ex {H H' : Hp} {xs : List V} {ps : List Str} (x : ExT H H') (h : Stq K H xs ps) : Stq K H' xs ps := L2.Paired.mapP h fun _ _ ⟨b, e, h1, h2, h3, h4⟩ => ⟨b, e, h1, h2, h3, ext_t x h4⟩
theorem Stq.append : ∀ {H : Hp} {xs ys : List V} {ps qs : List Str}, Stq K H xs ps → Stq K H ys qs → Stq K H (xs ++ ys) (ps ++ qs)
  | _, _, _, _, _, .nil, h => h
  | _, _, _, _, _, .cons h t, q => .cons h (Stq.append t q)
theorem kn_mem {z : Str} (h : Kn z) : z ∈ (["0", "1", "2", "0n", "1n", "2n", "crash"] : List Str) := by
  obtain ⟨e, he, rfl⟩ := h
  exact List.mem_map_of_mem (f := (·.1)) he
theorem kn_all {P : Str → Prop} (h : ∀ z ∈ (["0", "1", "2", "0n", "1n", "2n", "crash"] : List Str), P z) {z : Str} (k : Kn z) : P z := h z (kn_mem k)
theorem kn_sp {z : Str} (k : Kn z) : 32 ∉ TL.tl z := kn_all (P := fun z => 32 ∉ TL.tl z) (by decide +kernel) k
theorem kn_len {z : Str} (k : Kn z) : z.length ≤ 5 := kn_all (P := fun z => z.length ≤ 5) (by decide +kernel) k
theorem kn_ne {z : Str} (k : Kn z) : z ≠ "" := kn_all (P := fun z => z ≠ "") (by decide +kernel) k
theorem Stq.kn : ∀ {H : Hp} {xs : List V} {ps : List Str}, Stq K H xs ps → ∀ z ∈ ps, Kn z
  | _, _, _, .nil, z, hz => by simp at hz
  | _, _, _, .cons ⟨b, e, h1, h2, h3, h4⟩ t, z, hz => by
    rcases List.mem_cons.mp hz with rfl | hz
    · exact ⟨e, h2, h3⟩
    · exact Stq.kn t z hz
def zD (z : Str) : PyData := eD ((swT.find? fun e => e.1 == z).getD ("", []))
theorem zD_of {e : Str × List V} (h : e ∈ swT) : zD e.1 = eD e := by
  simp only [swT, List.mem_cons, List.not_mem_nil, or_false] at h
  rcases h with rfl | rfl | rfl | rfl | rfl | rfl | rfl <;> rfl
theorem Stq.dat : ∀ {H : Hp} {xs : List V} {ps : List Str}, Stq K H xs ps → DtAll K H xs (ps.map zD) ∧ ShA 1 (ps.map zD)
  | _, _, _, .nil => ⟨.nil, .nil⟩
  | _, _, _, .cons ⟨b, e, h1, h2, h3, h4⟩ t => by
    obtain ⟨a, s⟩ := Stq.dat t
    subst h1 h3
    rw [List.map_cons, zD_of h2]
    exact ⟨.cons (.tup h4 (e_dat h2)) a, .cons (e_sh h2) s⟩
theorem lg2 {n : Nat} (h : n < 2 ^ 300) : n.log2 < 1920 := by
  by_cases z : n = 0
  · rw [z]; decide
  · exact Nat.lt_of_lt_of_le ((Nat.log2_lt z).mpr h) (by decide)
theorem num_short {i : Int} (h0 : 0 ≤ i) (h1 : i ≤ 2) : (Str.ofString (toString i)).length ≤ 1 := by
  have e : i = 0 ∨ i = 1 ∨ i = 2 := by omega
  rcases e with rfl | rfl | rfl <;> decide +kernel
theorem small_log {i : Int} (h0 : 0 ≤ i) (h1 : i ≤ 2) : i.natAbs.log2 < 1920 := lg2 (Nat.lt_of_le_of_lt (by omega : i.natAbs ≤ 2) (by decide))
def sp_word (K : PySem.W.Frag) : Sp := fun vs H Q _ => ∃ b e, vs = [.ref b] ∧ e ∈ swT ∧ SqT K H b e.2 ∧ ∀ H', Evl.Ex H H' → Q (.str e.1) H'
theorem ok_step_word (T : Tx w K mg) : FnOk PR w K mg base CX0 1 T.a_step_word T.fd_step_word ["step"] (sp_word K) := by
  refine T.F_step_word.ok sc_step_word (fun vs H Q E h => ?_) (fun cdv A outer s H vs Q E hr h => ?_)
  · obtain ⟨b, e, rfl, _⟩ := h
    rfl
  · obtain ⟨b, e, rfl, he, hS, k⟩ := h
    refine ⟨_, (pss_cons (ps_if (pt_cmpR (k_eqD (K := K) rfl hr.units) (pv 0) (pe_tup (pa_cons pe_str pa_nil)) (nomark _))
  (pss_one (ps_ret pe_str))
  pss_nil)
  (pss_cons (ps_if (pt_cmpR op_eq (pe_ix (k_ixT (K := K) rfl) (pv 0) pe_int (fun _ _ => rfl)) pe_int (nomark _))
  (pss_one (ps_ret (k_fs (.cons (pe_fmt (pe_ix (k_ixT (K := K) rfl) (pv 0) pe_int (fun _ _ => rfl))) (.cons pe_str .nil)))))
  pss_nil)
  (pss_one (ps_ret (pe_callTy k_str (by rfl) T.n_str (by decide +kernel) (pa_cons (pe_ix (k_ixT (K := K) rfl) (pv 0) pe_int (fun _ _ => rfl)) pa_nil)))))), ?_⟩
    walk_at "rdd"
    refine ⟨szle (by simp), fun t ht => ?_⟩
    have e1 : Evl.Ex H (upd H t (.tup [.str "crash"])) := .new ht
    have hS1 := Evl.ex_t e1 hS
    have hc : (("crash", [V.str "crash"]) : Str × List V) ∈ swT := by simp [swT]
    refine ⟨_, _, .tup hS1 (e_dat he).dp, .tup (SqT.of upd_same) (e_dat hc).dp, (e_sh he).shaped (by decide), (e_sh hc).shaped (by decide), ?_⟩
    rcases sw_cases he with rfl | ⟨i, j, rfl, i0, i1, j0, j1⟩
    · walk_at "rdc"
      refine if_t (e_sh hc).refl ?_
      walk_at "rdc"
      exact k _ e1
    · walk_at "rdc"
      refine if_f rfl ?_
      walk_at "rdc"
      refine rd_ixT hS1 rfl ?_
      walk_at "rdc"
      refine if_d (fun c => ?_) (fun c => ?_)
      · have cj : j = 1 := by injection c
        subst cj
        walk_at "rdc"
        refine rd_ixT hS1 rfl ?_
        have l1 := num_short i0 i1
        have lg := small_log i0 i1
        refine .inr ⟨i, rfl, lg, ?_⟩
        have e0 : Str.empty ++ Str.ofString (toString i) = Str.ofString (toString i) := TL.ext_tl (by rw [TL.tl_append]; rfl)
        refine ⟨_, rfl, szle (by rw [e0]; omega), ?_⟩
        rw [e0]
        walk_at "rdc"
        refine ⟨_, rfl, szle ?_, ?_⟩
        · rw [TL.len_tl, TL.tl_append, List.length_append, ← TL.len_tl]
          have : (TL.tl (Str.ofString "n")).length = 1 := by decide +kernel
          omega
        walk_at "rdc"
        exact k _ e1
      · have cj : j = 0 := by
          by_cases q : j = 1
          · exact absurd (by rw [q]) c
          · omega
        subst cj
        walk_at "rdc"
        refine rd_ixT hS1 rfl ?_
        walk_at "rdc"
        refine rd_str (small_log i0 i1) ?_
        have e0 : Str.ofString (toString i) ++ (if (0 : Int) = 1 then ("n" : Str) else "") = Str.ofString (toString i) := TL.ext_tl (by rw [TL.tl_append]; show _ ++ [] = _; rw [List.append_nil])
        have k' := k _ e1
        rw [e0] at k'
        exact k'
def sp_write (K : PySem.W.Frag) : Sp := fun vs H Q _ => ∃ l xs ps, vs = [.ref l] ∧ SqL K H l xs ∧ Stq K H xs ps ∧ ps.length ≤ 200 ∧ ∀ H', Evl.Ex H H' → Q (.str (jn ps)) H'
theorem jn_room {ps : List Str} (h : ∀ p ∈ ps, p.length ≤ 5) (l : ps.length ≤ 200) : (ps.map (·.length)).sum + ps.length * (" " : Str).length ≤ 16777216 := by
  have b := sum_le h
  have c : ps.length * 5 ≤ 200 * 5 := Nat.mul_le_mul_right 5 l
  have e : (" " : Str).length = 1 := by decide +kernel
  rw [e]
  omega
theorem ok_write_schedule (T : Tx w K mg) : FnOk PR w K mg base CX0 3 T.a_write_schedule T.fd_write_schedule ["schedule"] (sp_write K) := by
  refine T.F_write_schedule.ok sc_write_schedule (fun vs H Q E h => ?_) (fun cdv A outer s H vs Q E hr h => ?_)
  · obtain ⟨l, xs, ps, rfl, _⟩ := h
    rfl
  · obtain ⟨l, xs, ps, rfl, hL, hP, hlen, k⟩ := h
    refine ⟨_, (pss_one (ps_ret (k_join (K := K) rfl pe_str (pe_lc (own := [("step", 1)]) (g := (gName 1)) (tt := tYes) rfl sc_write_schedule.nd (k_pil (K := K) rfl (pv 0)) (blkOk_by (own := [("step", 1)]) (N := N_write_schedule) (sc := defScope s_write_schedule) (by decide +kernel)) (fun _ _ _ _ _ => pg_name (i := 1) sc_write_schedule.nd rfl (Or.inl rfl)) (fun _ _ _ _ _ => pts_nil) (fun _ _ _ _ _ => (pe_call (ok_step_word T) (hr.mono (by decide)) rfl T.g_step_word T.k_step_word T.b_step_word .nil pass0 (pa_cons (pv 1) pa_nil))))))), ?_⟩
    walk_at "rdd"
    have hle := Paired.lenL hP
    refine rd_lcL (fun _ i acc _ => acc = (ps.take i).map V.str) (fun R q => rd_var rfl q) hL (by omega) (fun _ => rfl) (fun _ _ => rfl) ?_ ?_
    · intro D i x acc H' R hD e hi hd hl hJ kk
      obtain ⟨z, hz, b, ee, rfl, he, rfl, hb⟩ := Paired.getL hP hi
      walk_at "rdc"
      refine ⟨b, ee, rfl, he, Evl.ex_t e hb, fun H4 e4 => kk _ H4 (e.trans e4) (e4 _ _ hd) ?_⟩
      show acc ++ [V.str ee.1] = (ps.take (i + 1)).map V.str
      rw [take_more hz, List.map_append, ← hJ]
      rfl
    · intro D acc H' hD e hd hl hJ
      have z : acc = (ps.take xs.length).map V.str := hJ
      rw [hle, List.take_length] at z
      subst z
      refine rd_join (SqL.of hd) (jn_room (fun p hp => kn_len (hP.kn p hp)) hlen) ?_
      exact k _ e
end
end TK
set_option maxRecDepth 100000
set_option maxHeartbeats 4000000
namespace TK
open PySem L2
local macro_rules | `(tactic| walk_at "rd1") => `(tactic| first
  | with_reducible refine rd_seq ?_ | with_reducible refine rd_asg ?_ | with_reducible refine rd_name ?_ | ((with_reducible apply rd_var); rfl) | with_reducible refine rd_c ?_ | with_reducible refine rd_op ?_ | with_reducible refine rd_un ?_
  | with_reducible refine rd_I0 ?_ | with_reducible refine rd_U ?_ | ((with_reducible apply rd_eq); rfl) | ((with_reducible apply rd_ne); rfl) | with_reducible refine rd_ret ?_ | with_reducible refine rd_drop ?_ | with_reducible refine rd_ifS ?_ | with_reducible refine rd_test ?_ | with_reducible refine rd_B ?_
  | with_reducible refine rd_bl ?_ | with_reducible refine rd_not ?_ | with_reducible refine rd_and ?_ | with_reducible refine rd_or ?_ | with_reducible refine rd_andV ?_ | with_reducible refine rd_orV ?_ | with_reducible refine rd_notV ?_ | with_reducible refine rd_if ?_
  | with_reducible refine rd_nil ?_ | with_reducible refine rd_cons ?_ | with_reducible refine rd_tup ?_ | with_reducible refine rd_lst ?_ | with_reducible refine rd_cb ?_ | with_reducible refine rd_call ?_ | with_reducible refine rd_bm ?_ | with_reducible refine rd_bm0 ?_ | with_reducible refine rd_sub ?_
  | ((with_reducible apply rd_aug); rfl) | with_reducible refine rd_ipI ?_ | with_reducible refine rd_gcons ?_ | with_reducible refine rd_gnil ?_ | with_reducible refine rd_forR1 ?_ | with_reducible refine rd_forR2 ?_ | with_reducible refine rd_forL ?_ | with_reducible refine rd_forT ?_ | with_reducible refine rd_nx ?_ | with_reducible refine rd_forE ?_ | with_reducible refine rd_fs ?_ | with_reducible refine rd_jsc ?_ | with_reducible refine rd_js0 ?_ | with_reducible refine rd_fmt ?_ | with_reducible refine rd_sl ?_ | with_reducible refine rd_np ?_ | with_reducible refine rd_part ?_ | with_reducible refine rd_m1 ?_ | with_reducible refine rd_isS ?_ | with_reducible refine rd_brk ?_ | with_reducible refine rd_ct ?_)
local macro_rules | `(tactic| walk_at "sc") => `(tactic| first
  | decide | (refine Or.inl ⟨?_, ?_⟩ <;> (first | decide | omega)) | (refine Or.inr ⟨?_, ?_⟩ <;> (first | decide | omega)) | (refine And.intro ?_ ?_ <;> (first | decide | omega)) | (refine And.intro ?_ (And.intro ?_ ?_) <;> (first | decide | omega)) | omega | assumption)
local macro_rules | `(tactic| walk_at "rd2") => `(tactic| first
  | walk_at "rd1" | ((with_reducible apply rd_I); (focus walk_at "sc")) | ((with_reducible apply rd_ixL); (focus walk_at "sl"); (focus first | rfl | assumption)) | with_reducible refine rd_int ?_ | with_reducible refine rd_int1 ?_ | ((with_reducible apply rd_len); (focus walk_at "sl"))
  | ((with_reducible apply rd_lenQ); (focus walk_at "sl")) | with_reducible refine rd_intQ ?_ | with_reducible refine rd_intB ?_ | with_reducible refine rd_max ?_ | with_reducible refine rd_min ?_ | with_reducible refine rd_isN ?_ | with_reducible refine rd_notN ?_
  | ((with_reducible apply rd_setL); (focus walk_at "hp"); (focus rfl)) | (((with_reducible apply And.intro); apply ty_list); (focus walk_at "sl")))
local macro_rules | `(tactic| walk_at "rdd") => `(tactic| ((try dsimp only [cxK0, cxK1, cxW1]); repeat walk_at "rd2"))
local macro_rules | `(tactic| walk_at "rdc") => `(tactic| repeat walk_at "rd2")
local macro_rules | `(tactic| walk_at "rd") => `(tactic| repeat walk_at "rd1")
local macro_rules | `(tactic| walk_at "hp") => `(tactic| first
  | assumption | exact upd_same | (apply get_new <;> walk_at "hp") | (apply get_ne; (focus first | assumption | (apply Ne.symm; assumption)); walk_at "hp"))
local macro_rules | `(tactic| walk_at "sl") => `(tactic| first
  | assumption | (apply SqL.of; walk_at "hp") | (apply sl_new; (focus walk_at "sl"); assumption))
local macro_rules | `(tactic| walk_at "xt") => `(tactic| first
  | exact ExT.refl _ | assumption | (apply xt_new; (focus walk_at "hp"); walk_at "xt") | (apply xt_lst; (focus walk_at "hp"); walk_at "xt"))
local macro_rules | `(tactic| walk_at "fr") => `(tactic| first
  | exact Fr1.refl _ | assumption | (apply Fr1.at; walk_at "fr") | (apply Fr1.new; (focus assumption); walk_at "fr") | (apply Fr1.own; (focus assumption); walk_at "fr"))
local macro_rules | `(tactic| walk_at "ex") => `(tactic| first
  | exact Evl.Ex.refl _ | assumption | (apply ex_mut; (focus assumption); walk_at "ex") | (apply ex_new; (focus assumption); walk_at "ex"))
section
variable {w : World} {K : PySem.W.Frag} {mg : Str → Option Value} {base : Heap}
theorem rd_box' {K : PySem.W.Frag} {a : Addr} {ns : List Int} {j : Int} {H : Hp} {Q : VK} {E : XK} (hS : SqL K H a (ns.map V.int)) (h0 : 0 ≤ j) (q : ∀ p x, H p = none → Q (.ref p) (upd H p (.lst (bxL x)))) : sp_box K ([.ref a, .int j] ++ []) H Q E := by
  obtain ⟨n, rfl⟩ := Int.eq_ofNat_of_zero_le h0
  exact rd_box hS q
def sp_steps (K : PySem.W.Frag) : Sp := fun vs H Q _ => ∃ (a : Addr) (ns : List Int) (f : Int), vs = [.ref a, .int f] ∧ SqL K H a (ns.map V.int) ∧ 0 ≤ f ∧ f ≤ 10 ∧ ns.length ≤ 63 ∧
  ∀ q H' xs ps, H q = none → Evl.Ex H H' → H' q = some (.lst xs) → Stq K H' xs ps → ps.length ≤ 60 → Q (.ref q) H'
theorem digit_step {H : Hp} {d : Int} {t : Addr} (h0 : 0 ≤ d) (h1 : d < 6) (ht : H t = some (.tup [.int (d / 2), .int (d % 2)])) : ∃ z, ∃ b e, V.ref t = .ref b ∧ e ∈ swT ∧ e.1 = z ∧ SqT K H b e.2 := by
  have e : d = 0 ∨ d = 1 ∨ d = 2 ∨ d = 3 ∨ d = 4 ∨ d = 5 := by omega
  rcases e with rfl | rfl | rfl | rfl | rfl | rfl
  · exact ⟨_, t, ("0", [.int 0, .int 0]), rfl, by simp [swT], rfl, SqT.of ht⟩
  · exact ⟨_, t, ("0n", [.int 0, .int 1]), rfl, by simp [swT], rfl, SqT.of ht⟩
  · exact ⟨_, t, ("1", [.int 1, .int 0]), rfl, by simp [swT], rfl, SqT.of ht⟩
  · exact ⟨_, t, ("1n", [.int 1, .int 1]), rfl, by simp [swT], rfl, SqT.of ht⟩
  · exact ⟨_, t, ("2", [.int 2, .int 0]), rfl, by simp [swT], rfl, SqT.of ht⟩
  · exact ⟨_, t, ("2n", [.int 2, .int 1]), rfl, by simp [swT], rfl, SqT.of ht⟩
theorem ok_l_steps_of (T : Tx w K mg) : FnOk PR w K mg base CX0 3 T.a_l_steps_of T.fd_l_steps_of ["_law_script", "_law_first"] (sp_steps K) := by
  refine T.F_l_steps_of.ok sc_l_steps_of (fun vs H Q E h => ?_) (fun cdv A outer s H vs Q E hr h => ?_)
  · obtain ⟨a, ns, f, rfl, _⟩ := h
    rfl
  · obtain ⟨a, ns, f, rfl, hS, f0, f1, hlen, k⟩ := h
    refine ⟨_, (pss_cons (ps_set (i := 2) sc_l_steps_of.nd rfl (Or.inl rfl) (pe_lst pa_nil))
  (pss_cons (ps_set (i := 3) sc_l_steps_of.nd rfl (Or.inl rfl) (pe_callB (k_min rfl) (by rfl) T.n_min (by decide +kernel) (pa_cons pe_int (pa_cons (pe_op op_add (pe_op op_mul (pe_callB (k_max rfl) (by rfl) T.n_max (by decide +kernel) (pa_cons pe_int (pa_cons (pe_op op_sub (pe_callB (k_len (K := K) rfl) (by rfl) T.n_len PySem.boot_len (pa_cons (pv 0) pa_nil)) (pv 1)) pa_nil))) pe_int) (pe_call (ok_l_pick T) (hr.mono (by decide)) rfl T.g_l_pick T.k_l_pick T.b_l_pick .nil pass0 (pa_cons (pe_call (ok_l_box T) (hr.mono (by decide)) rfl T.g_l_box T.k_l_box T.b_l_box .nil pass0 (pa_cons (pv 0) (pa_cons (pv 1) pa_nil))) (pa_cons pe_int pa_nil)))) pa_nil))))
  (pss_cons (ps_for PassesOwn.never rfl (pi_range1 (by rfl) T.n_range (pa_cons (pv 3) pa_nil)) (pg_name (i := 4) sc_l_steps_of.nd rfl (Or.inl rfl))
  (pss_cut (ps_if (pt_cmpR op_eq (pe_op op_mod (pv 4) pe_int) pe_int (nomark _))
  (pss_one (ps_set (i := 5) sc_l_steps_of.nd rfl (Or.inl rfl) (pe_call (ok_l_box T) (hr.mono (by decide)) rfl T.g_l_box T.k_l_box T.b_l_box .nil pass0 (pa_cons (pv 0) (pa_cons (pe_op op_add (pv 1) (pe_op op_fdiv (pv 4) pe_int)) pa_nil)))))
  pss_nil)
  (pss_cons (ps_set (i := 6) sc_l_steps_of.nd rfl (Or.inl rfl) (pe_call (ok_l_pick T) (hr.mono (by decide)) rfl T.g_l_pick T.k_l_pick T.b_l_pick .nil pass0 (pa_cons (pv 5) (pa_cons pe_int pa_nil))))
  (pss_one (ps_if (pt_cmpR op_eq (pv 6) pe_int (nomark _))
  (pss_one (ps_expr (pe_bm PySem.F.plainAttrs_list PySem.F.slot_list_append PySem.F.type_list_append mt_append (pv 2) (pa_cons (pe_tup (pa_cons pe_str pa_nil)) pa_nil))))
  (pss_one (ps_expr (pe_bm PySem.F.plainAttrs_list PySem.F.slot_list_append PySem.F.type_list_append mt_append (pv 2) (pa_cons (pe_tup (pa_cons (pe_op op_fdiv (pv 6) pe_int) (pa_cons (pe_op op_mod (pv 6) pe_int) pa_nil))) pa_nil)))))))))
  (pss_one (ps_ret (pv 2)))))), ?_⟩
    walk_at "rdd"
    refine ⟨szle (by simp), fun r hr0 => ?_⟩
    walk_at "rdc"
    refine rd_box' (Evl.ex_l (.new hr0) hS) f0 fun p x hp => ?_
    have npr : r ≠ p := ne_of_none upd_same hp
    walk_at "rdc"
    refine rd_pick upd_same (by decide) (by decide) fun m x1 m0 m1 => ?_
    walk_at "rdc"
    have hp0 : H p = none := Evl.fresh_back (.new hr0) hp
    obtain ⟨top, htop⟩ : ∃ top : Int, top = (if (if (((ns.map V.int).length : Nat) : Int) - f > 0 then (((ns.map V.int).length : Nat) : Int) - f else 0) * 2 + m < 60 then (if (((ns.map V.int).length : Nat) : Int) - f > 0 then (((ns.map V.int).length : Nat) : Int) - f else 0) * 2 + m else 60) := ⟨_, rfl⟩
    rw [← htop]
    have htb : 0 ≤ top ∧ top ≤ 60 := by
      rw [htop]
      split
      · split <;> omega
      · omega
    clear htop
    refine ⟨top, rfl, by omega, by omega, for_range (lo := 0) (n := top.toNat) (fun i σ H' => ∃ (xs : List V) (ps : List Str) (u4 u5 u6 : Option V), σ = [some (.ref a), some (.int f), some (.ref r), some (.int top), u4, u5, u6] ∧ H' r = some (.lst xs) ∧ Stq K H' xs ps ∧ ps.length = i ∧
        (0 < i → ∃ pb x, u5 = some (.ref pb) ∧ H' pb = some (.lst (bxL x)) ∧ H pb = none ∧ pb ≠ r) ∧ Evl.Ex H H')
      ⟨[], [], none, none, none, rfl, get_ne npr (get_new upd_same hp), .nil, rfl, fun z => absurd z (by omega), ?_⟩ ?_ ?_⟩
    · exact ex_mut hp0 (ex_new hp (.new hr0))
    · rintro i σ H' hi ⟨xs, ps, u4, u5, u6, rfl, hx, hP, hl, hbx, e⟩
      refine rd_cut (fun σ H2 => ∃ (pb : Addr) (x : Bx) (u6 : Option V), σ = [some (.ref a), some (.int f), some (.ref r), some (.int top), some (.int (0 + (i : Nat))), some (.ref pb), u6] ∧ H2 pb = some (.lst (bxL x)) ∧ H pb = none ∧ pb ≠ r ∧ H2 r = some (.lst xs) ∧ Stq K H2 xs ps ∧ Evl.Ex H H2) ?_ ?_
      · walk_at "rdc"
        refine if_d (fun c => ?_) (fun c => ?_)
        · walk_at "rdc"
          refine rd_box' (Evl.ex_l e hS) (by omega) fun pb x hpb => ?_
          walk_at "rdc"
          exact ⟨pb, x, _, rfl, upd_same, Evl.fresh_back e hpb, (fun z => by rw [z, hx] at hpb; cases hpb), get_new hx hpb, hP.ex (ext_new hpb), ex_new hpb e⟩
        · walk_at "rdc"
          have i0 : 0 < i := by
            by_cases z : i = 0
            · subst z
              exact absurd rfl c
            · omega
          obtain ⟨pb, x, rfl, h1, h2, h3⟩ := hbx i0
          exact ⟨pb, x, _, rfl, h1, h2, h3, hx, hP, e⟩
      rintro σ H2 ⟨pb, x, u6, rfl, hb, hb0, hbr, hx2, hP2, e2⟩
      walk_at "rdc"
      refine rd_pick hb (by decide) (by decide) fun d x3 d0 d1 => ?_
      have hP3 : Stq K (upd H2 pb (.lst (bxL x3))) xs ps := hP2.ex (ext_lst hb)
      have hx3 : (upd H2 pb (.lst (bxL x3))) r = some (.lst xs) := get_ne hbr.symm hx2
      have hb3 : (upd H2 pb (.lst (bxL x3))) pb = some (.lst (bxL x3)) := upd_same
      have e3 : Evl.Ex H (upd H2 pb (.lst (bxL x3))) := ex_mut hb0 e2
      generalize upd H2 pb (.lst (bxL x3)) = H3 at *
      have hlx : xs.length = ps.length := Paired.lenL hP3
      have last : ∀ (t : Addr) (vs : List V) (z : Str), H3 t = none → (∃ b e, V.ref t = .ref b ∧ e ∈ swT ∧ e.1 = z ∧ SqT K (upd H3 t (.tup vs)) b e.2) →
          ∃ (xs1 : List V) (ps1 : List Str) (u4 u5 u6 : Option V), [some (V.ref a), some (.int f), some (.ref r), some (.int top), some (.int (0 + (i : Nat))), some (.ref pb), some (.int d)] = [some (V.ref a), some (.int f), some (.ref r), some (.int top), u4, u5, u6] ∧ (upd (upd H3 t (.tup vs)) r (.lst (xs ++ [.ref t]))) r = some (.lst xs1) ∧ Stq K (upd (upd H3 t (.tup vs)) r (.lst (xs ++ [.ref t]))) xs1 ps1 ∧ ps1.length = i + 1 ∧
            (0 < i + 1 → ∃ pb x, u5 = some (.ref pb) ∧ (upd (upd H3 t (.tup vs)) r (.lst (xs ++ [.ref t]))) pb = some (.lst (bxL x)) ∧ H pb = none ∧ pb ≠ r) ∧ Evl.Ex H (upd (upd H3 t (.tup vs)) r (.lst (xs ++ [.ref t]))) := by
        intro t vs z ht hz
        have hr3 := get_new (o := .tup vs) hx3 ht
        refine ⟨xs ++ [.ref t], ps ++ [z], _, _, _, rfl, upd_same, ?_, by simp [hl], fun _ => ⟨pb, x3, rfl, get_ne hbr (get_new hb3 ht), hb0, hbr⟩, ex_mut hr0 (ex_new ht e3)⟩
        refine Stq.append (hP3.ex (xt_lst hr3 (ext_new ht))) (.cons ?_ .nil)
        obtain ⟨b, ee, h1, h2, h3, h4⟩ := hz
        exact ⟨b, ee, h1, h2, h3, ext_t (ext_lst hr3) h4⟩
      walk_at "rdc"
      refine if_d (fun c => ?_) (fun c => ?_)
      · walk_at "rdc"
        refine ⟨szle (by simp), fun t ht => ?_⟩
        walk_at "rdc"
        refine rd_append (get_new hx3 ht) (szl (by omega)) ?_
        exact last t _ "crash" ht ⟨t, ("crash", [.str "crash"]), rfl, by simp [swT], rfl, SqT.of upd_same⟩
      · have hd : d < 6 := by
          by_cases z : d = 6
          · exact absurd (by rw [z]) c
          · omega
        walk_at "rdc"
        refine ⟨szle (by simp), fun t ht => ?_⟩
        walk_at "rdc"
        refine rd_append (get_new hx3 ht) (szl (by omega)) ?_
        obtain ⟨z, hz⟩ := digit_step (K := K) (H := upd H3 t (.tup [.int (d / 2), .int (d % 2)])) d0 hd upd_same
        exact last t _ z ht hz
    · rintro σ H' ⟨xs, ps, u4, u5, u6, rfl, hx, hP, hl, _, e⟩
      walk_at "rdc"
      exact k r H' xs ps hr0 e hx hP (by omega)
def sp_text (K : PySem.W.Frag) : Sp := fun vs H Q _ => ∃ l xs ps, vs = [.ref l] ∧ SqL K H l xs ∧ Stq K H xs ps ∧ ps.length ≤ 200 ∧ ∀ H', Evl.Ex H H' → Q (.str (jn ps)) H'
theorem ok_l_text (T : Tx w K mg) : FnOk PR w K mg base CX0 1 T.a_l_text T.fd_l_text ["_law_moves"] (sp_text K) := by
  refine T.F_l_text.ok sc_l_text (fun vs H Q E h => ?_) (fun cdv A outer s H vs Q E hr h => ?_)
  · obtain ⟨l, xs, ps, rfl, _⟩ := h
    rfl
  · obtain ⟨l, xs, ps, rfl, hL, hP, hlen, k⟩ := h
    have hlx : xs.length = ps.length := Paired.lenL hP
    refine ⟨_, (pss_cons (ps_set (i := 1) sc_l_text.nd rfl (Or.inl rfl) (pe_lst pa_nil))
  (pss_cons (ps_for PassesOwn.never rfl (k_pil (K := K) rfl (pv 0)) (pg_name (i := 2) sc_l_text.nd rfl (Or.inl rfl))
  (pss_one (ps_if (pt_cmpR op_eq (pe_callB (k_len (K := K) rfl) (by rfl) T.n_len PySem.boot_len (pa_cons (pv 2) pa_nil)) pe_int (nomark _))
  (pss_one (ps_expr (pe_bm PySem.F.plainAttrs_list PySem.F.slot_list_append PySem.F.type_list_append mt_append (pv 1) (pa_cons pe_str pa_nil))))
  (pss_one (ps_expr (pe_bm PySem.F.plainAttrs_list PySem.F.slot_list_append PySem.F.type_list_append mt_append (pv 1) (pa_cons (pe_op k_catS (pe_callTy k_str (by rfl) T.n_str (by decide +kernel) (pa_cons (pe_ix (k_ixT (K := K) rfl) (pv 2) pe_int (fun _ _ => rfl)) pa_nil)) (pe_op k_mulS pe_str (pe_ix (k_ixT (K := K) rfl) (pv 2) pe_int (fun _ _ => rfl)))) pa_nil)))))))
  (pss_one (ps_ret (k_join (K := K) rfl pe_str (pv 1)))))), ?_⟩
    walk_at "rdd"
    refine ⟨szle (by simp), fun r hr0 => ?_⟩
    walk_at "rdc"
    refine ⟨l, rfl, ⟨xs, Evl.ex_l (.new hr0) hL⟩, for_list (fun i σ H' => ∃ u, σ = [some (.ref l), some (.ref r), u] ∧ H' r = some (.lst ((ps.take i).map V.str)) ∧ Evl.Ex H H') ⟨none, rfl, upd_same, .new hr0⟩ (fun i σ H' _ ⟨u, _, _, e⟩ => Evl.ex_l e hL) ?_ ?_⟩
    · rintro i x σ H' hi ⟨u, rfl, hr1, e⟩
      obtain ⟨z, hz, b, ee, rfl, he, rfl, hb⟩ := Paired.getL hP hi
      have hb' := Evl.ex_t e hb
      have hti : ((ps.take i).map V.str).length < sizeLine := szl (by rw [List.length_map, List.length_take]; omega)
      have fin : ∀ y : Str, y = ee.1 → H' r = some (.lst ((ps.take i).map V.str)) → ∃ u : Option V, [some (V.ref l), some (.ref r), some (.ref b)] = [some (V.ref l), some (.ref r), u] ∧ (upd H' r (.lst ((ps.take i).map V.str ++ [V.str y]))) r = some (.lst ((ps.take (i + 1)).map V.str)) ∧ Evl.Ex H (upd H' r (.lst ((ps.take i).map V.str ++ [V.str y]))) := by
        rintro y rfl _
        refine ⟨_, rfl, ?_, ex_mut hr0 e⟩
        rw [upd_same, take_more hz, List.map_append]
        rfl
      walk_at "rdc"
      refine rd_lenTQ hb' ?_
      walk_at "rdc"
      rcases sw_cases he with rfl | ⟨m, j, rfl, i0, i1, j0, j1⟩
      · refine if_t rfl ?_
        walk_at "rdc"
        refine rd_append hr1 hti ?_
        exact fin _ rfl hr1
      · refine if_f rfl ?_
        walk_at "rdc"
        refine rd_ixT hb' rfl ?_
        walk_at "rdc"
        refine rd_str (small_log i0 i1) ?_
        walk_at "rdc"
        refine rd_ixT hb' rfl ?_
        have ej : j = 0 ∨ j = 1 := by omega
        have hm : MulOk ("n" : Str) j ∧ Txt.mul ("n" : Str) j = (if j = 1 then ("n" : Str) else "") := by
          rcases ej with rfl | rfl
          · exact ⟨⟨by decide, fun z => absurd (by decide) z, fun z => absurd (by decide) z⟩, by decide +kernel⟩
          · exact ⟨⟨by decide, fun _ z => absurd z (by decide), fun _ z => absurd z (by decide)⟩, by decide +kernel⟩
        refine ⟨_, _, rfl, rfl, hm.1, ?_⟩
        rw [hm.2]
        have l1 := num_short i0 i1
        refine rd_catS ?_ ?_
        · have : (if j = 1 then ("n" : Str) else "").length ≤ 1 := by
            rcases ej with rfl | rfl <;> decide +kernel
          exact szle (by omega)
        walk_at "rdc"
        refine rd_append hr1 hti ?_
        exact fin _ rfl hr1
    · rintro σ H' ⟨u, rfl, hr1, e⟩
      rw [hlx, List.take_length] at hr1
      walk_at "rdc"
      refine rd_join (SqL.of hr1) (jn_room (fun p hp => kn_len (hP.kn p hp)) hlen) ?_
      exact k _ e
def sp_same (K : PySem.W.Frag) : Sp := fun vs H Q _ => ∃ l m xs ys ps, vs = [.ref l, .ref m] ∧ H l = some (.lst xs) ∧ SqL K H m ys ∧ Stq K H xs ps ∧ Stq K H ys ps ∧ ps.length ≤ 200 ∧ ∀ H', Evl.Ex H H' → Q (.bl true) H'
theorem ok_l_same (T : Tx w K mg) : FnOk PR w K mg base CX0 1 T.a_l_same T.fd_l_same ["_law_told", "_law_moves"] (sp_same K) := by
  refine T.F_l_same.ok sc_l_same (fun vs H Q E h => ?_) (fun cdv A outer s H vs Q E hr h => ?_)
  · obtain ⟨l, m, xs, ys, ps, rfl, _⟩ := h
    rfl
  · obtain ⟨l, m, xs, ys, ps, rfl, hl, hm, hx, hy, hlen, k⟩ := h
    refine ⟨_, (pss_cons (ps_if (PW.pt (pw_or (pt_not (pt_val (pe_callB (k_isi (K := K) rfl) (by rfl) T.n_isinstance (by decide +kernel) (pa_cons (pv 0) (pa_cons (pe_bltn (v := .ty "list") (by rfl) T.n_list (by decide +kernel) rfl) pa_nil))))) (pw_or1 (pt_cmpR (k_neD (K := K) rfl hr.units) (pv 0) (pv 1) (nomark _)))))
  (pss_one (ps_ret pe_bl))
  pss_nil)
  (pss_cons (ps_for PassesOwn.never rfl (k_pil (K := K) rfl (pv 0)) (pg_name (i := 2) sc_l_same.nd rfl (Or.inl rfl))
  (pss_one (ps_if (PW.pt (pw_or (pt_not (pt_val (pe_callB (k_isi (K := K) rfl) (by rfl) T.n_isinstance (by decide +kernel) (pa_cons (pv 2) (pa_cons (pe_bltn (v := .ty "tuple") (by rfl) T.n_tuple (by decide +kernel) rfl) pa_nil))))) (pw_or1 (pt_val (pe_callB (k_any (K := K) rfl rfl) (by rfl) T.n_any (by decide +kernel) (pa_cons (pe_lc (own := [("_law_part", 3)]) (g := (gName 3)) (tt := tYes) rfl sc_l_same.nd (k_pit (K := K) rfl (pv 2)) (blkOk_by (own := [("_law_part", 3)]) (N := N_l_same) (sc := defScope s_l_same) (by decide +kernel)) (fun _ _ _ _ _ => pg_name (i := 3) sc_l_same.nd rfl (Or.inl rfl)) (fun _ _ _ _ _ => pts_nil) (fun _ _ _ _ _ => (pe_callB (k_isi (K := K) rfl) (by rfl) T.n_isinstance (by decide +kernel) (pa_cons (pv 3) (pa_cons (pe_bltn (v := .ty "bool") (by rfl) T.n_bool (by decide +kernel) rfl) pa_nil))))) pa_nil))))))
  (pss_one (ps_ret pe_bl))
  pss_nil)))
  (pss_one (ps_ret pe_bl)))), ?_⟩
    walk_at "rdd"
    refine rd_isi (b := true) (.ty _) (.base (.lst hl)) (kit_ty (by decide +kernel)) ?_
    walk_at "rdc"
    refine if_f rfl ?_
    walk_at "rdc"
    obtain ⟨dx, sx⟩ := hx.dat
    obtain ⟨dy, sy⟩ := hy.dat
    refine ⟨_, _, .lst (SqL.of hl) dx.dp, .lst hm dy.dp, (Sh.lst sx).shaped (by decide), (Sh.lst sx).shaped (by decide), ?_⟩
    rw [(Sh.lst sx).refl]
    walk_at "rdc"
    refine if_f rfl ?_
    walk_at "rdc"
    have hlx : xs.length = ps.length := Paired.lenL hx
    refine ⟨l, rfl, ⟨xs, SqL.of hl⟩, for_list (fun i σ H' => ∃ u v, σ = [some (.ref l), some (.ref m), u, v] ∧ Evl.Ex H H') ⟨none, none, rfl, .refl _⟩ (fun i σ H' _ ⟨u, v, _, e⟩ => Evl.ex_l e (SqL.of hl)) ?_ ?_⟩
    · rintro i x σ H' hi ⟨u, v, rfl, e⟩
      obtain ⟨z, hz, b, ee, rfl, he, rfl, hb⟩ := Paired.getL hx hi
      have hb' := Evl.ex_t e hb
      walk_at "rdc"
      refine rd_isi (b := true) (.ty _) (tyX_t hb') (kit_ty (by decide +kernel)) ?_
      walk_at "rdc"
      refine if_f rfl ?_
      walk_at "rdc"
      have hlee : ee.2.length ≤ 2 := by
        rcases sw_cases he with rfl | ⟨m, j, rfl, _⟩ <;> simp
      refine rd_lcT (fun _ i acc _ => acc = (List.replicate i false).map V.bl) (fun R q => rd_var rfl q) hb' (by omega) (fun _ => rfl) (fun _ _ => rfl) ?_ ?_
      · intro D i2 y acc H2 R hD e2 hi2 hd hl2 hJ kk
        walk_at "rdc"
        have hmem := List.mem_of_getElem? hi2
        have ty : ∃ t, TyX K H2 y t ∧ PySem.W.kitOne K t (.type "bool") = some false := by
          rcases sw_cases he with rfl | ⟨m, j, rfl, _⟩
          · simp only [List.mem_cons, List.not_mem_nil, or_false] at hmem
            subst hmem
            exact ⟨_, .base (.str _), kit_ty (by decide +kernel)⟩
          · simp only [List.mem_cons, List.not_mem_nil, or_false] at hmem
            rcases hmem with rfl | rfl
            · exact ⟨_, .base (.int _), kit_ty (by decide +kernel)⟩
            · exact ⟨_, .base (.int _), kit_ty (by decide +kernel)⟩
        obtain ⟨t, ty, kt⟩ := ty
        refine rd_isi (.ty _) ty kt ?_
        refine kk _ H2 e2 hd ?_
        show acc ++ [V.bl false] = (List.replicate (i2 + 1) false).map V.bl
        rw [List.replicate_succ', List.map_append, ← hJ]
        rfl
      · intro D acc H2 hD e2 hd hl2 hJ
        have z : acc = (List.replicate ee.2.length false).map V.bl := hJ
        subst z
        walk_at "rdc"
        refine ⟨D, _, rfl, SqL.of hd, ?_⟩
        have ea : (List.replicate ee.2.length false).any id = false := by simp
        rw [ea]
        walk_at "rdc"
        refine if_f rfl ?_
        walk_at "rdc"
        exact ⟨_, _, rfl, e.trans e2⟩
    · rintro σ H' ⟨u, v, rfl, e⟩
      walk_at "rdc"
      exact k _ e
theorem jn_app {ps qs : List Str} (h1 : ps ≠ []) (h2 : qs ≠ []) : jn (ps ++ qs) = jn ps ++ " " ++ jn qs := by
  refine TL.ext_tl ?_
  rw [TL.tl_append, TL.tl_append, tl_jn, tl_jn, tl_jn, tl_sp, List.map_append]
  have key : ∀ (a b : List (List Nat)), a ≠ [] → b ≠ [] → TL.joinL [32] (a ++ b) = TL.joinL [32] a ++ [32] ++ TL.joinL [32] b := by
    intro a
    induction a with
    | nil => intro b h; exact absurd rfl h
    | cons x t ih =>
      intro b _ hb
      cases t with
      | nil =>
        cases b with
        | nil => exact absurd rfl hb
        | cons y r => 
          show x ++ ([32] ++ TL.joinL [32] (y :: r)) = x ++ [32] ++ TL.joinL [32] (y :: r)
          simp
      | cons y r =>
        show x ++ ([32] ++ TL.joinL [32] ((y :: r) ++ b)) = x ++ ([32] ++ TL.joinL [32] (y :: r)) ++ [32] ++ TL.joinL [32] b
        rw [ih b (by simp) hb]
        simp
  exact key _ _ (by simpa using h1) (by simpa using h2)
theorem jn_short {ps : List Str} (h : ∀ p ∈ ps, p.length ≤ 5) (l : ps.length ≤ 200) : (jn ps).length ≤ 3000 := by
  have a := jn_len ps
  have b := sum_le h
  have c : ps.length * 5 ≤ 200 * 5 := Nat.mul_le_mul_right 5 l
  omega
theorem rd_readK {C : Addr} {H : Hp} {ps : List Str} {Q : VK} {E : XK} (h : ∀ z ∈ ps, Kn z) (l : ps.length ≤ 200) (q : ∀ p H' xs, H p = none → Evl.Ex H H' → H' p = some (.lst xs) → Stp K xs ps → Q (.ref p) H') : sp_read K C ([.str (jn ps)] ++ []) H Q E := by
  refine ⟨_, rfl, ?_⟩
  cases ps with
  | nil => exact .inr (.inl ⟨rfl, fun p hp => q p _ [] hp (.new hp) upd_same .nil⟩)
  | cons z t =>
    refine .inr (.inr ⟨z :: t, rfl, by simp, fun p hp => kn_sp (h p hp), jn_ne ?_, ?_, by omega, fun i y hy kn _ => absurd (h y (List.mem_of_getElem? hy)) kn, fun _ => q⟩)
    · cases t with
      | nil => exact .inr ⟨z, rfl, kn_ne (h z (by simp))⟩
      | cons y t => exact .inl (by simp)
    · have := jn_short (ps := z :: t) (fun p hp => kn_len (h p hp)) l
      omega
def sp_law (K : PySem.W.Frag) : Sp := fun vs H Q _ => ∃ (a : Addr) (ns : List Int), vs = [.ref a] ∧ SqL K H a (ns.map V.int) ∧ ns.length ≤ 63 ∧ ∀ H', Q (.bl true) H'
theorem ok_law (T : Tx w K mg) : FnOk PR w K mg base CX0 10 T.a_law T.fd_law ["_law_script"] (sp_law K) := by
  refine T.F_law.ok sc_law (fun vs H Q E h => ?_) (fun cdv A outer s H vs Q E hr h => ?_)
  · obtain ⟨a, ns, rfl, _⟩ := h
    rfl
  · obtain ⟨a, ns, rfl, hS, hlen, k⟩ := h
    refine ⟨_, (pss_cons (ps_set (i := 1) sc_law.nd rfl (Or.inl rfl) (pe_call (ok_l_steps_of T) (hr.mono (by decide)) rfl T.g_l_steps_of T.k_l_steps_of T.b_l_steps_of .nil pass0 (pa_cons (pv 0) (pa_cons pe_int pa_nil))))
  (pss_cons (ps_set (i := 2) sc_law.nd rfl (Or.inl rfl) (pe_call (ok_l_steps_of T) (hr.mono (by decide)) rfl T.g_l_steps_of T.k_l_steps_of T.b_l_steps_of .nil pass0 (pa_cons (pv 0) (pa_cons pe_int pa_nil))))
  (pss_cons (ps_for PassesOwn.never rfl (k_pil (K := K) rfl (pe_lst (pa_cons (pv 1) (pa_cons (pv 2) (pa_cons (pe_op op_cat (pv 1) (pv 2)) (pa_cons (pe_lst pa_nil) pa_nil)))))) (pg_name (i := 3) sc_law.nd rfl (Or.inl rfl))
  (pss_cons (ps_set (i := 4) sc_law.nd rfl (Or.inl rfl) (pe_callTy (k_list (K := K) rfl) (by rfl) T.n_list (by decide +kernel) (pa_cons (pv 3) pa_nil)))
  (pss_cons (ps_set (i := 5) sc_law.nd rfl (Or.inl rfl) (pe_call (ok_write_schedule T) (hr.mono (by decide)) rfl T.g_write_schedule T.k_write_schedule T.b_write_schedule .nil pass0 (pa_cons (pv 3) pa_nil)))
  (pss_cons (ps_if (PW.pt (pw_or (pt_not (pt_val (pe_callB (k_isi (K := K) rfl) (by rfl) T.n_isinstance (by decide +kernel) (pa_cons (pv 5) (pa_cons (pe_bltn (v := .ty "str") (by rfl) T.n_str (by decide +kernel) rfl) pa_nil))))) (pw_or (pt_cmpR op_ne (pv 5) (pe_call (ok_l_text T) (hr.mono (by decide)) rfl T.g_l_text T.k_l_text T.b_l_text .nil pass0 (pa_cons (pv 4) pa_nil)) (nomark _)) (pw_or1 (pt_cmpR (k_neD (K := K) rfl hr.units) (pv 3) (pv 4) (nomark _))))))
  (pss_one (ps_ret pe_bl))
  pss_nil)
  (pss_cons (ps_set (i := 6) sc_law.nd rfl (Or.inl rfl) (pe_call (ok_read_schedule T) (hr.mono (by decide)) rfl T.g_read_schedule T.k_read_schedule T.b_read_schedule .nil passL (pa_cons (pv 5) pa_nil)))
  (pss_cons (ps_if (pt_not (pt_val (pe_call (ok_l_same T) (hr.mono (by decide)) rfl T.g_l_same T.k_l_same T.b_l_same .nil pass0 (pa_cons (pv 6) (pa_cons (pv 4) pa_nil)))))
  (pss_one (ps_ret pe_bl))
  pss_nil)
  (pss_cons (ps_expr (pe_bm PySem.F.plainAttrs_list PySem.F.slot_list_append PySem.F.type_list_append mt_append (pv 6) (pa_cons (pe_tup (pa_cons pe_str pa_nil)) pa_nil)))
  (pss_one (ps_if (pt_not (pt_val (pe_call (ok_l_same T) (hr.mono (by decide)) rfl T.g_l_same T.k_l_same T.b_l_same .nil pass0 (pa_cons (pe_call (ok_read_schedule T) (hr.mono (by decide)) rfl T.g_read_schedule T.k_read_schedule T.b_read_schedule .nil passL (pa_cons (pv 5) pa_nil)) (pa_cons (pv 4) pa_nil)))))
  (pss_one (ps_ret pe_bl))
  pss_nil)))))))))
  (pss_cons (ps_if (PW.pt (pw_and (pt_cmpR op_gt (pe_callB (k_len (K := K) rfl) (by rfl) T.n_len PySem.boot_len (pa_cons (pv 1) pa_nil)) pe_int (nomark _)) (pw_and1 (pt_cmpR op_gt (pe_callB (k_len (K := K) rfl) (by rfl) T.n_len PySem.boot_len (pa_cons (pv 2) pa_nil)) pe_int (nomark _)))))
  (pss_one (ps_ret (pe_cmpR op_eq (pe_call (ok_write_schedule T) (hr.mono (by decide)) rfl T.g_write_schedule T.k_write_schedule T.b_write_schedule .nil pass0 (pa_cons (pe_op op_cat (pv 1) (pv 2)) pa_nil)) (pe_op k_catS (pe_op k_catS (pe_call (ok_write_schedule T) (hr.mono (by decide)) rfl T.g_write_schedule T.k_write_schedule T.b_write_schedule .nil pass0 (pa_cons (pv 1) pa_nil)) pe_str) (pe_call (ok_write_schedule T) (hr.mono (by decide)) rfl T.g_write_schedule T.k_write_schedule T.b_write_schedule .nil pass0 (pa_cons (pv 2) pa_nil))) (nomark _))))
  pss_nil)
  (pss_one (ps_ret (pe_cmpR op_eq (pe_call (ok_write_schedule T) (hr.mono (by decide)) rfl T.g_write_schedule T.k_write_schedule T.b_write_schedule .nil pass0 (pa_cons (pe_op op_cat (pv 1) (pv 2)) pa_nil)) (pe_op k_catS (pe_call (ok_write_schedule T) (hr.mono (by decide)) rfl T.g_write_schedule T.k_write_schedule T.b_write_schedule .nil pass0 (pa_cons (pv 1) pa_nil)) (pe_call (ok_write_schedule T) (hr.mono (by decide)) rfl T.g_write_schedule T.k_write_schedule T.b_write_schedule .nil pass0 (pa_cons (pv 2) pa_nil))) (nomark _)))))))), ?_⟩
    walk_at "rdd"
    refine ⟨a, ns, 0, rfl, hS, by decide, by decide, hlen, fun o1 H1 x1 p1 n1 e1 h1 s1 l1 => ?_⟩
    walk_at "rdc"
    refine ⟨a, ns, 1, rfl, Evl.ex_l e1 hS, by decide, by decide, hlen, fun o2 H2 x2 p2 n2 e2 h2 s2 l2 => ?_⟩
    walk_at "rdc"
    have h1' := e2 _ _ h1
    have s1' := s1.ex (.of e2)
    have lx1 : x1.length = p1.length := Paired.lenL s1
    have lx2 : x2.length = p2.length := Paired.lenL s2
    refine rd_cat h1' h2 (szle (by omega)) fun o3 n3 => ?_
    walk_at "rdc"
    refine ⟨szle (by simp), fun o4 n4 => ?_⟩
    walk_at "rdc"
    refine ⟨szle (by simp), fun o5 n5 => ?_⟩
    walk_at "rdc"
    have e5 : Evl.Ex H2 (upd (upd (upd H2 o3 (.lst (x1 ++ x2))) o4 (.lst [])) o5 (.lst [V.ref o1, V.ref o2, V.ref o3, V.ref o4])) := ((Evl.Ex.new n3).trans (.new n4)).trans (.new n5)
    have g3 : (upd (upd (upd H2 o3 (.lst (x1 ++ x2))) o4 (.lst [])) o5 (.lst [V.ref o1, V.ref o2, V.ref o3, V.ref o4])) o3 = some (.lst (x1 ++ x2)) := get_new (get_new upd_same n4) n5
    have g4 : (upd (upd (upd H2 o3 (.lst (x1 ++ x2))) o4 (.lst [])) o5 (.lst [V.ref o1, V.ref o2, V.ref o3, V.ref o4])) o4 = some (.lst []) := get_new upd_same n5
    have g5 : (upd (upd (upd H2 o3 (.lst (x1 ++ x2))) o4 (.lst [])) o5 (.lst [V.ref o1, V.ref o2, V.ref o3, V.ref o4])) o5 = some (.lst [V.ref o1, V.ref o2, V.ref o3, V.ref o4]) := upd_same
    clear n4 n5
    generalize upd (upd (upd H2 o3 (.lst (x1 ++ x2))) o4 (.lst [])) o5 (.lst [V.ref o1, V.ref o2, V.ref o3, V.ref o4]) = H5 at *
    have g1 := e5 _ _ h1'
    have g2 := e5 _ _ h2
    have t1 := s1'.ex (.of e5)
    have t2 := s2.ex (.of e5)
    have t3 := t1.append t2
    refine ⟨o5, rfl, ⟨_, SqL.of g5⟩, for_list (fun i σ H' => ∃ u3 u4 u5 u6, σ = [some (.ref a), some (.ref o1), some (.ref o2), u3, u4, u5, u6] ∧ Evl.Ex H5 H') ⟨none, none, none, none, rfl, .refl _⟩ (fun i σ H' _ ⟨u3, u4, u5, u6, _, e⟩ => Evl.ex_l e (SqL.of g5)) ?_ ?_⟩
    · rintro i x σ H' hi ⟨u3, u4, u5, u6, rfl, e⟩
      have hx : ∃ o xs ps, x = .ref o ∧ H5 o = some (.lst xs) ∧ Stq K H5 xs ps ∧ ps.length ≤ 120 := by
        have hm := List.mem_of_getElem? hi
        simp only [List.mem_cons, List.not_mem_nil, or_false] at hm
        rcases hm with rfl | rfl | rfl | rfl
        · exact ⟨_, _, _, rfl, g1, t1, by omega⟩
        · exact ⟨_, _, _, rfl, g2, t2, by omega⟩
        · exact ⟨_, _, _, rfl, g3, t3, by rw [List.length_append]; omega⟩
        · exact ⟨_, _, [], rfl, g4, .nil, by simp⟩
      obtain ⟨o, xs, ps, rfl, ho, hq, hl⟩ := hx
      have kn := hq.kn
      walk_at "rdc"
      refine rd_listQ (SqL.of (e _ _ ho)) fun c hc => ?_
      have e6 := e.trans (Evl.Ex.new hc (o := .lst xs))
      have hc6 : (upd H' c (.lst xs)) c = some (.lst xs) := upd_same
      have nc : H5 c = none := Evl.fresh_back e hc
      generalize upd H' c (.lst xs) = H6 at *
      walk_at "rdc"
      refine ⟨o, xs, ps, rfl, SqL.of (e6 _ _ ho), hq.ex (.of e6), by omega, fun H7 e7 => ?_⟩
      walk_at "rdc"
      refine rd_isi (b := true) (.ty _) (.base (.str _)) (kit_ty (by decide +kernel)) ?_
      walk_at "rdc"
      refine if_f rfl ?_
      walk_at "rdc"
      have e57 := e6.trans e7
      refine ⟨c, xs, ps, rfl, SqL.of (e7 _ _ hc6), hq.ex (.of e57), by omega, fun H8 e8 => ?_⟩
      walk_at "rdc"
      refine if_nd (fun z => absurd rfl z) (fun _ => ?_)
      walk_at "rdc"
      have e58 := e57.trans e8
      have hc8 := e8 _ _ (e7 _ _ hc6)
      have hq8 := hq.ex (.of e58)
      obtain ⟨dx, sx⟩ := hq8.dat
      refine ⟨_, _, .lst (SqL.of (e58 _ _ ho)) dx.dp, .lst (SqL.of hc8) dx.dp, (Sh.lst sx).shaped (by decide), (Sh.lst sx).shaped (by decide), ?_⟩
      rw [(Sh.lst sx).refl]
      walk_at "rdc"
      refine if_f rfl ?_
      walk_at "rdc"
      refine rd_readK kn (by omega) fun d H9 ys hd e9 hd9 hys => ?_
      walk_at "rdc"
      have e59 := e58.trans e9
      refine ⟨d, c, ys, xs, ps, rfl, hd9, SqL.of (e9 _ _ hc8), hys.q, hq.ex (.of e59), by omega, fun H10 e10 => ?_⟩
      walk_at "rdc"
      refine if_f rfl ?_
      have hd10 := e10 _ _ hd9
      walk_at "rdc"
      refine ⟨szle (by simp), fun t ht => ?_⟩
      walk_at "rdc"
      have ly : ys.length = ps.length := Paired.lenL hys
      refine rd_append (get_new (e10 _ _ hd9) ht) (szl (by omega)) ?_
      have nd : H5 d = none := Evl.fresh_back e58 hd
      have ncd : c ≠ d := fun z => by rw [z, hd] at hc8; cases hc8
      have e11 : Evl.Ex H5 (upd (upd H10 t (.tup [.str "crash"])) d (.lst (ys ++ [.ref t]))) := ex_mut nd (ex_new ht (e59.trans e10))
      have hc11 : (upd (upd H10 t (.tup [.str "crash"])) d (.lst (ys ++ [.ref t]))) c = some (.lst xs) := get_ne ncd (get_new (e10 _ _ (e9 _ _ hc8)) ht)
      generalize upd (upd H10 t (.tup [.str "crash"])) d (.lst (ys ++ [.ref t])) = H11 at *
      walk_at "rdc"
      refine rd_readK kn (by omega) fun d2 H12 ys2 hd2 e12 hd12 hys2 => ?_
      walk_at "rdc"
      have e5c := e11.trans e12
      refine ⟨d2, c, ys2, xs, ps, rfl, hd12, SqL.of (e12 _ _ hc11), hys2.q, hq.ex (.of e5c), by omega, fun H13 e13 => ?_⟩
      walk_at "rdc"
      refine if_f rfl ?_
      walk_at "rdc"
      exact ⟨_, _, _, _, rfl, e5c.trans e13⟩
    · rintro σ H' ⟨u3, u4, u5, u6, rfl, e⟩
      have g1' := e _ _ g1
      have g2' := e _ _ g2
      have r1 := t1.ex (.of e)
      have r2 := t2.ex (.of e)
      have k1 := jn_short (fun p hp => kn_len (t1.kn p hp)) (by omega : p1.length ≤ 200)
      have k2 := jn_short (fun p hp => kn_len (t2.kn p hp)) (by omega : p2.length ≤ 200)
      have z0 : p1 = [] ∨ p2 = [] → jn (p1 ++ p2) = jn p1 ++ jn p2 := by
        rintro (rfl | rfl)
        · refine TL.ext_tl ?_
          rw [TL.tl_append]
          rfl
        · refine TL.ext_tl ?_
          rw [TL.tl_append, List.append_nil]
          exact (List.append_nil _).symm
      walk_at "rdc"
      refine if_d (fun c1 => ?_) (fun c1 => ?_)
      · have hn1 : p1 ≠ [] := fun z => by rw [z] at lx1; simp at lx1; rw [lx1] at c1; simp at c1
        walk_at "rdc"
        refine if_d (fun c2 => ?_) (fun c2 => ?_)
        · have hn2 : p2 ≠ [] := fun z => by rw [z] at lx2; simp at lx2; rw [lx2] at c2; simp at c2
          walk_at "rdc"
          refine rd_cat g1' g2' (szle (by omega)) fun o6 n6 => ?_
          walk_at "rdc"
          have e6 : Evl.Ex H' (upd H' o6 (.lst (x1 ++ x2))) := .new n6
          refine ⟨o6, _, _, rfl, SqL.of upd_same, (r1.append r2).ex (.of e6), by rw [List.length_append]; omega, fun H7 e7 => ?_⟩
          walk_at "rdc"
          have e67 := e6.trans e7
          refine ⟨o1, _, _, rfl, SqL.of (e67 _ _ g1'), r1.ex (.of e67), by omega, fun H8 e8 => ?_⟩
          walk_at "rdc"
          have e68 := e67.trans e8
          refine rd_catS (szle (by show _ + 1 ≤ 100000; omega)) ?_
          walk_at "rdc"
          refine ⟨o2, _, _, rfl, SqL.of (e68 _ _ g2'), r2.ex (.of e68), by omega, fun H9 e9 => ?_⟩
          walk_at "rdc"
          refine rd_catS (szle (by rw [TL.len_tl, TL.tl_append, List.length_append, ← TL.len_tl, tl_sp]; show _ + 1 + _ ≤ 100000; omega)) ?_
          refine rd_eq rfl ?_
          rw [jn_app hn1 hn2, decide_eq_true rfl]
          exact k _
        · have hz : p1 = [] ∨ p2 = [] := .inr (List.eq_nil_of_length_eq_zero (by omega))
          walk_at "rdc"
          refine rd_cat g1' g2' (szle (by omega)) fun o6 n6 => ?_
          walk_at "rdc"
          have e6 : Evl.Ex H' (upd H' o6 (.lst (x1 ++ x2))) := .new n6
          refine ⟨o6, _, _, rfl, SqL.of upd_same, (r1.append r2).ex (.of e6), by rw [List.length_append]; omega, fun H7 e7 => ?_⟩
          walk_at "rdc"
          have e67 := e6.trans e7
          refine ⟨o1, _, _, rfl, SqL.of (e67 _ _ g1'), r1.ex (.of e67), by omega, fun H8 e8 => ?_⟩
          walk_at "rdc"
          have e68 := e67.trans e8
          refine ⟨o2, _, _, rfl, SqL.of (e68 _ _ g2'), r2.ex (.of e68), by omega, fun H9 e9 => ?_⟩
          refine rd_catS (szle (by omega)) ?_
          refine rd_eq rfl ?_
          rw [z0 hz, decide_eq_true rfl]
          exact k _
      · have hz : p1 = [] ∨ p2 = [] := .inl (List.eq_nil_of_length_eq_zero (by omega))
        refine if_f rfl ?_
        walk_at "rdc"
        refine rd_cat g1' g2' (szle (by omega)) fun o6 n6 => ?_
        walk_at "rdc"
        have e6 : Evl.Ex H' (upd H' o6 (.lst (x1 ++ x2))) := .new n6
        refine ⟨o6, _, _, rfl, SqL.of upd_same, (r1.append r2).ex (.of e6), by rw [List.length_append]; omega, fun H7 e7 => ?_⟩
        walk_at "rdc"
        have e67 := e6.trans e7
        refine ⟨o1, _, _, rfl, SqL.of (e67 _ _ g1'), r1.ex (.of e67), by omega, fun H8 e8 => ?_⟩
        walk_at "rdc"
        have e68 := e67.trans e8
        refine ⟨o2, _, _, rfl, SqL.of (e68 _ _ g2'), r2.ex (.of e68), by omega, fun H9 e9 => ?_⟩
        refine rd_catS (szle (by omega)) ?_
        refine rd_eq rfl ?_
        rw [z0 hz, decide_eq_true rfl]
        exact k _
end
theorem all_mk {w : World} {K : PySem.W.Frag} {h : Heap} {mg : Str → Option Value} {fa : Addr} (X : K.In h) (G : h.Ns mainGlobals mg) (hfa : mg "law" = some (.ref fa))
    {a_STEP_WORDS : Addr}
    {C_TakeError : Addr}
    {C_BadText : Addr}
    {nm_BadText qq_BadText : Str} {N_BadText : Addr} {bs_BadText bm_BadText : List Value} {sn_BadText : List Str} {sub_BadText : List Value} {ab_BadText : Bool} {col_BadText : Option Bool} {dd_BadText : Option Addr} {m0_BadText m1_BadText m2_BadText m3_BadText m5_BadText : Option Value}
    {fI_BadText cc_BadText cda_BadText : Addr} {oc_BadText doc_BadText pm_BadText ct_BadText cl_BadText ccl_BadText : Value} {od_BadText an_BadText cld_BadText cdd_BadText : Option Addr} {osl_BadText csl_BadText ccs_BadText : Array (Option Value)} {vs_BadText : Array Value} {fi_BadText : Str} {tf_BadText : Tok}
    {a_step_word : Addr} {od_step_word an_step_word : Option Addr} {sl_step_word : Array (Option Value)} {oc_step_word kV_step_word dc_step_word pm_step_word cd_step_word ct_step_word : Value}
    {a_write_schedule : Addr} {od_write_schedule an_write_schedule : Option Addr} {sl_write_schedule : Array (Option Value)} {oc_write_schedule kV_write_schedule dc_write_schedule pm_write_schedule cd_write_schedule ct_write_schedule : Value}
    {a_read_schedule : Addr} {od_read_schedule an_read_schedule : Option Addr} {sl_read_schedule : Array (Option Value)} {oc_read_schedule kV_read_schedule dc_read_schedule pm_read_schedule cd_read_schedule ct_read_schedule : Value}
    {a_l_box : Addr} {od_l_box an_l_box : Option Addr} {sl_l_box : Array (Option Value)} {oc_l_box kV_l_box dc_l_box pm_l_box cd_l_box ct_l_box : Value}
    {a_l_pick : Addr} {od_l_pick an_l_pick : Option Addr} {sl_l_pick : Array (Option Value)} {oc_l_pick kV_l_pick dc_l_pick pm_l_pick cd_l_pick ct_l_pick : Value}
    {a_l_steps_of : Addr} {od_l_steps_of an_l_steps_of : Option Addr} {sl_l_steps_of : Array (Option Value)} {oc_l_steps_of kV_l_steps_of dc_l_steps_of pm_l_steps_of cd_l_steps_of ct_l_steps_of : Value}
    {a_l_text : Addr} {od_l_text an_l_text : Option Addr} {sl_l_text : Array (Option Value)} {oc_l_text kV_l_text dc_l_text pm_l_text cd_l_text ct_l_text : Value}
    {a_l_same : Addr} {od_l_same an_l_same : Option Addr} {sl_l_same : Array (Option Value)} {oc_l_same kV_l_same dc_l_same pm_l_same cd_l_same ct_l_same : Value}
    {a_law : Addr} {od_law an_law : Option Addr} {sl_law : Array (Option Value)} {oc_law kV_law dc_law pm_law cd_law ct_law : Value}
    {sh0 sh1 sh2 sh3 sh4 sh5 sh6 : Int} {st0 st1 st2 st3 st4 st5 st6 : Tok} {sb0 sb1 sb2 sb3 sb4 sb5 sb6 : Addr} {swn : Nat}
    {swo0 swo1 swo2 swo3 swo4 swo5 swo6 : Option Addr} {swm0 swm1 swm2 swm3 swm4 swm5 swm6 : Nat} {swl0 swl1 swl2 swl3 swl4 swl5 swl6 : Array (Option Value)} {swx0 swx1 swx2 swx3 swx4 swx5 swx6 swy0 swy1 swy2 swy3 swy4 swy5 : Tok}
    (z_any : PySem.W.nsIn K mainGlobals "any" = some none)
    (z_bool : PySem.W.nsIn K mainGlobals "bool" = some none)
    (z_enumerate : PySem.W.nsIn K mainGlobals "enumerate" = some none)
    (z_int : PySem.W.nsIn K mainGlobals "int" = some none)
    (z_isinstance : PySem.W.nsIn K mainGlobals "isinstance" = some none)
    (z_len : PySem.W.nsIn K mainGlobals "len" = some none)
    (z_list : PySem.W.nsIn K mainGlobals "list" = some none)
    (z_max : PySem.W.nsIn K mainGlobals "max" = some none)
    (z_min : PySem.W.nsIn K mainGlobals "min" = some none)
    (z_range : PySem.W.nsIn K mainGlobals "range" = some none)
    (z_str : PySem.W.nsIn K mainGlobals "str" = some none)
    (z_tuple : PySem.W.nsIn K mainGlobals "tuple" = some none)
    (c_STEP_WORDS : PySem.W.nsIn K mainGlobals "STEP_WORDS" = some (some (.ref a_STEP_WORDS)))
    (g_TakeError : PySem.W.nsIn K mainGlobals "TakeError" = some (some (.ref C_TakeError)))
    (g_BadText : PySem.W.nsIn K mainGlobals "BadText" = some (some (.ref C_BadText)))
    (xL_BadText : K.lookup C_BadText = some (excClassObj nm_BadText qq_BadText C_BadText N_BadText bs_BadText bm_BadText true sn_BadText sub_BadText ab_BadText col_BadText dd_BadText m0_BadText m1_BadText m2_BadText m3_BadText m5_BadText "ValueError.__new__"))
    (ve_BadText : PySem.HandSPX.refsVE bm_BadText = true)
    (sa_BadText : PySem.W.findIn K (.ref C_BadText) "__setattr__" = some (some (.builtin "object.__setattr__")))
    (ga_BadText : PySem.W.findIn K (.ref C_BadText) "__getattribute__" = some (some (.builtin "BaseException.__getattribute__")))
    (gg_BadText : PySem.W.findIn K (.ref C_BadText) "__getattr__" = some none)
    (kC_BadText : PySem.W.keepIn K (.ref C_BadText) = true)
    (eC_BadText : PySem.W.subIn K (.ref C_BadText) (.type "BaseException") = some true)
    (vC_BadText : PySem.W.subIn K (.ref C_BadText) (.type "ValueError") = some true)
    (tC_BadText : PySem.W.typeIn K (.ref C_BadText) = some (.type "type"))
    (hC_BadText : PySem.W.hasDictIn K C_BadText = true)
    (iS_BadText : PySem.W.isClsIn K C_BadText = true)
    (mr_BadText : PySem.W.mroIn K C_BadText (.ref C_BadText) = some true)
    (mo_BadText : PySem.W.mroIn K C_BadText (.type "object") = some true)
    (ha_BadText : PySem.W.findIn K (.ref C_BadText) "__class__" = some (some (.builtin "object.__class__")))
    (iC_BadText : PySem.W.findIn K (.ref C_BadText) "__init__" = some (some (.ref fI_BadText)))
    (tI_BadText : PySem.W.typeIn K (.ref fI_BadText) = some (.type "function"))
    (l1_BadText : K.lookup fI_BadText = some ⟨oc_BadText, od_BadText, .func (PySem.W.ksFn "__init__" "BadText.__init__" (defArgs (inClass (top 2) 0)) (defBody (inClass (top 2) 0)) (defScope (inClass (top 2) 0)) .none .none doc_BadText pm_BadText an_BadText (.ref cda_BadText) ct_BadText cc_BadText), osl_BadText⟩)
    (c1_BadText : PySem.W.codeIn K (.ref cda_BadText) "BadText.__init__" = true)
    (su_BadText : PySem.W.ks_superIn K C_BadText C_BadText "__init__" = some (some (.builtin "ValueError.__init__")))
    (ce_BadText : K.lookup cc_BadText = some ⟨cl_BadText, cld_BadText, .cell (some (.ref C_BadText)), csl_BadText⟩)
    (co_BadText : K.lookup cda_BadText = some ⟨ccl_BadText, cdd_BadText, .fields vs_BadText, ccs_BadText⟩)
    (v2_BadText : vs_BadText[2]? = some (.str fi_BadText tf_BadText))
    (fe_BadText : ((PR.main.file : Str) == fi_BadText) = true)
    (no_line_BadText : PySem.W.findIn K (.ref C_BadText) "line" = some none)
    (opq : PySem.W.nsIn K cStatics "thirdparty.any" = some none)
    (z_super : PySem.W.nsIn K mainGlobals "super" = some none)
    (cget : PySem.W.specialIn K (.builtin "object.__class__") "__get__" = some (some (.builtin "getset_descriptor.__get__")))
    (ctk : PySem.W.takesIn K (.builtin "object.__class__") = some true)
    (g_step_word : PySem.W.nsIn K mainGlobals "step_word" = some (some (.ref a_step_word)))
    (l_step_word : K.lookup a_step_word = some ⟨oc_step_word, od_step_word, .func (PySem.W.fnOf "step_word" "step_word" (defArgs s_step_word) (defBody s_step_word) (defScope s_step_word) .none kV_step_word dc_step_word pm_step_word an_step_word cd_step_word ct_step_word), sl_step_word⟩)
    (c_step_word : PySem.W.codeIn K cd_step_word "step_word" = true)
    (k_step_word : PySem.W.keepIn K (.ref a_step_word) = true)
    (g_write_schedule : PySem.W.nsIn K mainGlobals "write_schedule" = some (some (.ref a_write_schedule)))
    (l_write_schedule : K.lookup a_write_schedule = some ⟨oc_write_schedule, od_write_schedule, .func (PySem.W.fnOf "write_schedule" "write_schedule" (defArgs s_write_schedule) (defBody s_write_schedule) (defScope s_write_schedule) .none kV_write_schedule dc_write_schedule pm_write_schedule an_write_schedule cd_write_schedule ct_write_schedule), sl_write_schedule⟩)
    (c_write_schedule : PySem.W.codeIn K cd_write_schedule "write_schedule" = true)
    (k_write_schedule : PySem.W.keepIn K (.ref a_write_schedule) = true)
    (g_read_schedule : PySem.W.nsIn K mainGlobals "read_schedule" = some (some (.ref a_read_schedule)))
    (l_read_schedule : K.lookup a_read_schedule = some ⟨oc_read_schedule, od_read_schedule, .func (PySem.W.fnOf "read_schedule" "read_schedule" (defArgs s_read_schedule) (defBody s_read_schedule) (defScope s_read_schedule) .none kV_read_schedule dc_read_schedule pm_read_schedule an_read_schedule cd_read_schedule ct_read_schedule), sl_read_schedule⟩)
    (c_read_schedule : PySem.W.codeIn K cd_read_schedule "read_schedule" = true)
    (k_read_schedule : PySem.W.keepIn K (.ref a_read_schedule) = true)
    (g_l_box : PySem.W.nsIn K mainGlobals "_law_box" = some (some (.ref a_l_box)))
    (l_l_box : K.lookup a_l_box = some ⟨oc_l_box, od_l_box, .func (PySem.W.fnOf "_law_box" "_law_box" (defArgs s_l_box) (defBody s_l_box) (defScope s_l_box) .none kV_l_box dc_l_box pm_l_box an_l_box cd_l_box ct_l_box), sl_l_box⟩)
    (c_l_box : PySem.W.codeIn K cd_l_box "_law_box" = true)
    (k_l_box : PySem.W.keepIn K (.ref a_l_box) = true)
    (g_l_pick : PySem.W.nsIn K mainGlobals "_law_pick" = some (some (.ref a_l_pick)))
    (l_l_pick : K.lookup a_l_pick = some ⟨oc_l_pick, od_l_pick, .func (PySem.W.fnOf "_law_pick" "_law_pick" (defArgs s_l_pick) (defBody s_l_pick) (defScope s_l_pick) .none kV_l_pick dc_l_pick pm_l_pick an_l_pick cd_l_pick ct_l_pick), sl_l_pick⟩)
    (c_l_pick : PySem.W.codeIn K cd_l_pick "_law_pick" = true)
    (k_l_pick : PySem.W.keepIn K (.ref a_l_pick) = true)
    (g_l_steps_of : PySem.W.nsIn K mainGlobals "_law_steps_of" = some (some (.ref a_l_steps_of)))
    (l_l_steps_of : K.lookup a_l_steps_of = some ⟨oc_l_steps_of, od_l_steps_of, .func (PySem.W.fnOf "_law_steps_of" "_law_steps_of" (defArgs s_l_steps_of) (defBody s_l_steps_of) (defScope s_l_steps_of) .none kV_l_steps_of dc_l_steps_of pm_l_steps_of an_l_steps_of cd_l_steps_of ct_l_steps_of), sl_l_steps_of⟩)
    (c_l_steps_of : PySem.W.codeIn K cd_l_steps_of "_law_steps_of" = true)
    (k_l_steps_of : PySem.W.keepIn K (.ref a_l_steps_of) = true)
    (g_l_text : PySem.W.nsIn K mainGlobals "_law_text" = some (some (.ref a_l_text)))
    (l_l_text : K.lookup a_l_text = some ⟨oc_l_text, od_l_text, .func (PySem.W.fnOf "_law_text" "_law_text" (defArgs s_l_text) (defBody s_l_text) (defScope s_l_text) .none kV_l_text dc_l_text pm_l_text an_l_text cd_l_text ct_l_text), sl_l_text⟩)
    (c_l_text : PySem.W.codeIn K cd_l_text "_law_text" = true)
    (k_l_text : PySem.W.keepIn K (.ref a_l_text) = true)
    (g_l_same : PySem.W.nsIn K mainGlobals "_law_same" = some (some (.ref a_l_same)))
    (l_l_same : K.lookup a_l_same = some ⟨oc_l_same, od_l_same, .func (PySem.W.fnOf "_law_same" "_law_same" (defArgs s_l_same) (defBody s_l_same) (defScope s_l_same) .none kV_l_same dc_l_same pm_l_same an_l_same cd_l_same ct_l_same), sl_l_same⟩)
    (c_l_same : PySem.W.codeIn K cd_l_same "_law_same" = true)
    (k_l_same : PySem.W.keepIn K (.ref a_l_same) = true)
    (g_law : PySem.W.nsIn K mainGlobals "law" = some (some (.ref a_law)))
    (l_law : K.lookup a_law = some ⟨oc_law, od_law, .func (PySem.W.fnOf "law" "law" (defArgs s_law) (defBody s_law) (defScope s_law) .none kV_law dc_law pm_law an_law cd_law ct_law), sl_law⟩)
    (c_law : PySem.W.codeIn K cd_law "law" = true)
    (k_law : PySem.W.keepIn K (.ref a_law) = true)
    (swat : K.lookup a_STEP_WORDS = some ⟨.type "dict", none, .dict #[⟨sh0, .str "0" st0, .ref sb0⟩, ⟨sh1, .str "1" st1, .ref sb1⟩, ⟨sh2, .str "2" st2, .ref sb2⟩, ⟨sh3, .str "0n" st3, .ref sb3⟩, ⟨sh4, .str "1n" st4, .ref sb4⟩, ⟨sh5, .str "2n" st5, .ref sb5⟩, ⟨sh6, .str "crash" st6, .ref sb6⟩] swn, #[]⟩)
    (swhh : sh0 = PyData.keyHash w.params "0" ∧ sh1 = PyData.keyHash w.params "1" ∧ sh2 = PyData.keyHash w.params "2" ∧ sh3 = PyData.keyHash w.params "0n" ∧ sh4 = PyData.keyHash w.params "1n" ∧ sh5 = PyData.keyHash w.params "2n" ∧ sh6 = PyData.keyHash w.params "crash")
    (swlo : (a_STEP_WORDS == sysModules) = false)
    (swt0 : K.lookup sb0 = some ⟨.type "tuple", swo0, .seq #[.int 0 swx0, .int 0 swy0] swm0, swl0⟩)
    (swt1 : K.lookup sb1 = some ⟨.type "tuple", swo1, .seq #[.int 1 swx1, .int 0 swy1] swm1, swl1⟩)
    (swt2 : K.lookup sb2 = some ⟨.type "tuple", swo2, .seq #[.int 2 swx2, .int 0 swy2] swm2, swl2⟩)
    (swt3 : K.lookup sb3 = some ⟨.type "tuple", swo3, .seq #[.int 0 swx3, .int 1 swy3] swm3, swl3⟩)
    (swt4 : K.lookup sb4 = some ⟨.type "tuple", swo4, .seq #[.int 1 swx4, .int 1 swy4] swm4, swl4⟩)
    (swt5 : K.lookup sb5 = some ⟨.type "tuple", swo5, .seq #[.int 2 swx5, .int 1 swy5] swm5, swl5⟩)
    (swt6 : K.lookup sb6 = some ⟨.type "tuple", swo6, .seq #[.str "crash" swx6] swm6, swl6⟩)
    : ∃ fd : FuncData, (∀ (s : Shared) (v : Value), BindsTo s fd ⟨[v], []⟩ [("_law_script", v)]) ∧ ∀ base : Heap, K.In base → base.Ns mainGlobals mg → FnOk PR w K mg base CX0 10 fa fd ["_law_script"] (sp_law K) := by
  have e := hfa.symm.trans (PySem.W.mg_of X G g_law)
  cases e
  exact ⟨PySem.W.fnOf "law" "law" (defArgs s_law) (defBody s_law) (defScope s_law) .none kV_law dc_law pm_law an_law cd_law ct_law, fun s v => .of_eq rfl, fun base _ _ => (ok_law (w := w) (base := base) ({
    n_any := PySem.W.mg_none_of X G z_any,
    n_bool := PySem.W.mg_none_of X G z_bool,
    n_enumerate := PySem.W.mg_none_of X G z_enumerate,
    n_int := PySem.W.mg_none_of X G z_int,
    n_isinstance := PySem.W.mg_none_of X G z_isinstance,
    n_len := PySem.W.mg_none_of X G z_len,
    n_list := PySem.W.mg_none_of X G z_list,
    n_max := PySem.W.mg_none_of X G z_max,
    n_min := PySem.W.mg_none_of X G z_min,
    n_range := PySem.W.mg_none_of X G z_range,
    n_str := PySem.W.mg_none_of X G z_str,
    n_tuple := PySem.W.mg_none_of X G z_tuple,
    a_STEP_WORDS := a_STEP_WORDS,
    c_STEP_WORDS := PySem.W.mg_of X G c_STEP_WORDS,
    C_TakeError := C_TakeError,
    g_TakeError := PySem.W.mg_of X G g_TakeError,
    C_BadText := C_BadText,
    g_BadText := PySem.W.mg_of X G g_BadText,
    fI_BadText := fI_BadText,
    cc_BadText := cc_BadText,
    cda_BadText := cda_BadText,
    e_BadText := { gC := PySem.W.mg_of X G g_BadText, cls := ⟨_, _, _, _, _, _, _, _, _, _, _, _, _, _, _, xL_BadText, ve_BadText⟩, sa := sa_BadText, ga := ga_BadText, gg := gg_BadText, iC := iC_BadText, tI := tI_BadText, kC := kC_BadText, exC := eC_BadText, veC := vC_BadText, tyC := tC_BadText, hdC := hC_BadText, mro := mr_BadText, sup := su_BadText, opq := opq, noS := PySem.W.mg_none_of X G z_super, cell := ⟨_, _, _, ce_BadText⟩, code := ⟨_, _, _, _, _, _, co_BadText, v2_BadText, fe_BadText⟩, top := by decide +kernel, no1 := no_line_BadText, ok1 := by decide +kernel, fn := ⟨_, _, _, _, _, _, _, _, _, _, _, _, _, _, _, _, _, _, _, _, _, l1_BadText, c1_BadText, fun _ _ => rfl, ⟨_, fun _ => ⟨rfl, rfl⟩⟩⟩ },
    i_BadText := ⟨ga_BadText, gg_BadText, eC_BadText, iS_BadText, ha_BadText, cget, ctk, mo_BadText⟩,
    x_BadText := ⟨ga_BadText, gg_BadText, eC_BadText, hC_BadText⟩,
    a_step_word := a_step_word,
    fd_step_word := _,
    F_step_word := fun_mk (st := s_step_word) l_step_word c_step_word k_step_word,
    g_step_word := PySem.W.mg_of X G g_step_word,
    k_step_word := k_step_word,
    b_step_word := (fun_mk (st := s_step_word) l_step_word c_step_word k_step_word).binds (ps := ["step"]) fun _ _ _ _ _ _ us hl => match us, hl with | [_], _ => rfl,
    a_write_schedule := a_write_schedule,
    fd_write_schedule := _,
    F_write_schedule := fun_mk (st := s_write_schedule) l_write_schedule c_write_schedule k_write_schedule,
    g_write_schedule := PySem.W.mg_of X G g_write_schedule,
    k_write_schedule := k_write_schedule,
    b_write_schedule := (fun_mk (st := s_write_schedule) l_write_schedule c_write_schedule k_write_schedule).binds (ps := ["schedule"]) fun _ _ _ _ _ _ us hl => match us, hl with | [_], _ => rfl,
    a_read_schedule := a_read_schedule,
    fd_read_schedule := _,
    F_read_schedule := fun_mk (st := s_read_schedule) l_read_schedule c_read_schedule k_read_schedule,
    g_read_schedule := PySem.W.mg_of X G g_read_schedule,
    k_read_schedule := k_read_schedule,
    b_read_schedule := (fun_mk (st := s_read_schedule) l_read_schedule c_read_schedule k_read_schedule).binds (ps := ["text"]) fun _ _ _ _ _ _ us hl => match us, hl with | [_], _ => rfl,
    a_l_box := a_l_box,
    fd_l_box := _,
    F_l_box := fun_mk (st := s_l_box) l_l_box c_l_box k_l_box,
    g_l_box := PySem.W.mg_of X G g_l_box,
    k_l_box := k_l_box,
    b_l_box := (fun_mk (st := s_l_box) l_l_box c_l_box k_l_box).binds (ps := ["_law_script", "_law_k"]) fun _ _ _ _ _ _ us hl => match us, hl with | [_, _], _ => rfl,
    a_l_pick := a_l_pick,
    fd_l_pick := _,
    F_l_pick := fun_mk (st := s_l_pick) l_l_pick c_l_pick k_l_pick,
    g_l_pick := PySem.W.mg_of X G g_l_pick,
    k_l_pick := k_l_pick,
    b_l_pick := (fun_mk (st := s_l_pick) l_l_pick c_l_pick k_l_pick).binds (ps := ["_law_box_here", "_law_size"]) fun _ _ _ _ _ _ us hl => match us, hl with | [_, _], _ => rfl,
    a_l_steps_of := a_l_steps_of,
    fd_l_steps_of := _,
    F_l_steps_of := fun_mk (st := s_l_steps_of) l_l_steps_of c_l_steps_of k_l_steps_of,
    g_l_steps_of := PySem.W.mg_of X G g_l_steps_of,
    k_l_steps_of := k_l_steps_of,
    b_l_steps_of := (fun_mk (st := s_l_steps_of) l_l_steps_of c_l_steps_of k_l_steps_of).binds (ps := ["_law_script", "_law_first"]) fun _ _ _ _ _ _ us hl => match us, hl with | [_, _], _ => rfl,
    a_l_text := a_l_text,
    fd_l_text := _,
    F_l_text := fun_mk (st := s_l_text) l_l_text c_l_text k_l_text,
    g_l_text := PySem.W.mg_of X G g_l_text,
    k_l_text := k_l_text,
    b_l_text := (fun_mk (st := s_l_text) l_l_text c_l_text k_l_text).binds (ps := ["_law_moves"]) fun _ _ _ _ _ _ us hl => match us, hl with | [_], _ => rfl,
    a_l_same := a_l_same,
    fd_l_same := _,
    F_l_same := fun_mk (st := s_l_same) l_l_same c_l_same k_l_same,
    g_l_same := PySem.W.mg_of X G g_l_same,
    k_l_same := k_l_same,
    b_l_same := (fun_mk (st := s_l_same) l_l_same c_l_same k_l_same).binds (ps := ["_law_told", "_law_moves"]) fun _ _ _ _ _ _ us hl => match us, hl with | [_, _], _ => rfl,
    a_law := _,
    fd_law := _,
    F_law := fun_mk (st := s_law) l_law c_law k_law,
    g_law := PySem.W.mg_of X G g_law,
    k_law := k_law,
    b_law := (fun_mk (st := s_law) l_law c_law k_law).binds (ps := ["_law_script"]) fun _ _ _ _ _ _ us hl => match us, hl with | [_], _ => rfl,
    sw := sw_mk swat swhh swlo (tupK2 swt0) (tupK2 swt1) (tupK2 swt2) (tupK2 swt3) (tupK2 swt4) (tupK2 swt5) (tupK1s swt6) } : Tx w K mg) : FnOk PR w K mg base CX0 10 _ _ ["_law_script"] (sp_law K))⟩
theorem walk {l : PySem.W.OpenLaw} (hl : l.prog = PR) {q : Program} {loose : List Str} {XP : (Str → Option Value) → Heap → Prop} {YP : World → Heap → Prop} {d : DefRec} {K : Params → PySem.W.Frag} (hn : l.most = some 63) (hdf : d.params.defaults = [])
    (hY : ∀ (w : World) (h : Heap), YP w h → (K w.params).In h)
    (F : ∀ (w : World) (mg : Str → Option Value) (fa : Addr) (h : Heap), (K w.params).In h → h.Ns mainGlobals mg → mg d.name = some (.ref fa) →
      ∃ fd : FuncData, (∀ (s : Shared) (u : Value), BindsTo s fd ⟨[u], []⟩ [("_law_script", u)]) ∧ ∀ base : Heap, (K w.params).In base → base.Ns mainGlobals mg → FnOk PR w (K w.params) mg base CX0 10 fa fd ["_law_script"] (sp_law (K w.params))) :
    PySem.W.WalkO q loose XP YP l.row.toRowW d [] (fun f vs => PySem.call f vs) :=
  L2.walk_of (n := 63) (k := 10) (x := "_law_script") (CX := fun _ => CX0) (sp := fun w => sp_law (K w.params)) hn (by decide) hdf ⟨rfl, by decide, by decide⟩ hY (by rw [hl]; exact F) (fun _ _ a ns hl _ hS => ⟨a, ns, rfl, hS, hl, fun _ => rfl⟩) fun _ _ _ _ _ z => z
end TK
open PySem PySem.W PyProof.Rows in
set_option maxRecDepth 100000 in
set_option maxHeartbeats 0 in
theorem PySem.Challenge.cw_takenahead_k77_whole_schedules_are_read_holds : PySem.Challenge.rw_takenahead_k77_whole_schedules_are_read.Holds := by
  w_on; o_law; k_head; (case hw => w_witness2)
  k_fill
  refine TK.walk (l := PySem.Challenge.rw_takenahead_k77_whole_schedules_are_read) rfl rfl rfl (fun w h Y => PySem.W.kIn_of Y) ?F
  case F =>
    intro w mg fa h KX G hmg
    refine' TK.all_mk KX G hmg ?z_any ?z_bool ?z_enumerate ?z_int ?z_isinstance ?z_len ?z_list ?z_max ?z_min ?z_range ?z_str ?z_tuple ?c_STEP_WORDS ?g_TakeError ?g_BadText ?xL_BadText ?ve_BadText ?sa_BadText ?ga_BadText ?gg_BadText ?kC_BadText ?eC_BadText ?vC_BadText ?tC_BadText ?hC_BadText ?iS_BadText ?mr_BadText ?mo_BadText ?ha_BadText ?iC_BadText ?tI_BadText ?l1_BadText ?c1_BadText ?su_BadText ?ce_BadText ?co_BadText ?v2_BadText ?fe_BadText ?no_line_BadText ?opq ?z_super ?cget ?ctk ?g_step_word ?l_step_word ?c_step_word ?k_step_word ?g_write_schedule ?l_write_schedule ?c_write_schedule ?k_write_schedule ?g_read_schedule ?l_read_schedule ?c_read_schedule ?k_read_schedule ?g_l_box ?l_l_box ?c_l_box ?k_l_box ?g_l_pick ?l_l_pick ?c_l_pick ?k_l_pick ?g_l_steps_of ?l_l_steps_of ?c_l_steps_of ?k_l_steps_of ?g_l_text ?l_l_text ?c_l_text ?k_l_text ?g_l_same ?l_l_same ?c_l_same ?k_l_same ?g_law ?l_law ?c_law ?k_law ?swat ?swhh ?swlo ?swt0 ?swt1 ?swt2 ?swt3 ?swt4 ?swt5 ?swt6
    (case z_any => k_is)
    (case z_bool => k_is)
    (case z_enumerate => k_is)
    (case z_int => k_is)
    (case z_isinstance => k_is)
    (case z_len => k_is)
    (case z_list => k_is)
    (case z_max => k_is)
    (case z_min => k_is)
    (case z_range => k_is)
    (case z_str => k_is)
    (case z_tuple => k_is)
    (case c_STEP_WORDS => k_is)
    (case g_TakeError => k_is)
    (case g_BadText => k_is)
    (case xL_BadText => k_is)
    (case ve_BadText => first | rfl | decide +kernel | k_is)
    (case sa_BadText => k_is)
    (case ga_BadText => k_is)
    (case gg_BadText => k_is)
    (case kC_BadText => k_is)
    (case eC_BadText => k_is)
    (case vC_BadText => k_is)
    (case tC_BadText => k_is)
    (case hC_BadText => k_is)
    (case iS_BadText => k_is)
    (case mr_BadText => k_is)
    (case mo_BadText => k_is)
    (case ha_BadText => k_is)
    (case iC_BadText => k_is)
    (case tI_BadText => k_is)
    (case l1_BadText => k_is)
    (case c1_BadText => k_is)
    (case su_BadText => ks_is)
    (case ce_BadText => k_is)
    (case co_BadText => k_is)
    (case v2_BadText => first | rfl | decide +kernel | k_is)
    (case fe_BadText => first | rfl | decide +kernel | k_is)
    (case no_line_BadText => k_is)
    (case opq => k_is)
    (case z_super => k_is)
    (case cget => k_is)
    (case ctk => k_is)
    (case g_step_word => k_is)
    (case l_step_word => k_is)
    (case c_step_word => k_is)
    (case k_step_word => k_is)
    (case g_write_schedule => k_is)
    (case l_write_schedule => k_is)
    (case c_write_schedule => k_is)
    (case k_write_schedule => k_is)
    (case g_read_schedule => k_is)
    (case l_read_schedule => k_is)
    (case c_read_schedule => k_is)
    (case k_read_schedule => k_is)
    (case g_l_box => k_is)
    (case l_l_box => k_is)
    (case c_l_box => k_is)
    (case k_l_box => k_is)
    (case g_l_pick => k_is)
    (case l_l_pick => k_is)
    (case c_l_pick => k_is)
    (case k_l_pick => k_is)
    (case g_l_steps_of => k_is)
    (case l_l_steps_of => k_is)
    (case c_l_steps_of => k_is)
    (case k_l_steps_of => k_is)
    (case g_l_text => k_is)
    (case l_l_text => k_is)
    (case c_l_text => k_is)
    (case k_l_text => k_is)
    (case g_l_same => k_is)
    (case l_l_same => k_is)
    (case c_l_same => k_is)
    (case k_l_same => k_is)
    (case g_law => k_is)
    (case l_law => k_is)
    (case c_law => k_is)
    (case k_law => k_is)
    (case swat => k_is)
    (case swhh => exact ⟨rfl, rfl, rfl, rfl, rfl, rfl, rfl⟩)
    (case swlo => first | rfl | decide +kernel)
    (case swt0 => k_is)
    (case swt1 => k_is)
    (case swt2 => k_is)
    (case swt3 => k_is)
    (case swt4 => k_is)
    (case swt5 => k_is)
    (case swt6 => k_is)
