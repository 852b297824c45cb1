import PyProof.Rows.All
import Wide.All
import OpenK.AllK
import Wide.FinOn
import HandS.ForMost
import HandS.IsInst
import HandS.DictComp
import HandS.Style
import HandS.Wide
import HandS.Deep
import HandS.More
import PySem.Challenge.RW_drawnwhole_k41_whole_rising_and_falling
set_option Elab.async false
set_option linter.all false
set_option maxRecDepth 100000
set_option maxHeartbeats 4000000
/-! what every proof of ours leans on: heaps kept but for a footprint -/
namespace Lb
open PySem PySem.Spec PyProof.Rows L2

def Keep (fp : List Addr) (H H' : Hp) : Prop := ∀ x o, H x = some o → x ∉ fp → H' x = some o
section
variable {f g : List Addr} {H H1 H2 : Hp} {x p : Addr} {o : HO} {K : PySem.W.Frag} {xs : List V}
theorem Keep.refl (f : List Addr) (H : Hp) : Keep f H H := fun _ _ h _ => h
theorem Keep.trans (a : Keep f H H1) (b : Keep f H1 H2) : Keep f H H2 := fun x o h n => b x o (a x o h n) n
theorem Keep.mono (a : Keep f H H1) (h : ∀ x, x ∈ f → x ∈ g) : Keep g H H1 := fun x o e n => a x o e fun z => n (h x z)
theorem Keep.new (h : H p = none) : Keep f H (upd H p o) := fun x u e _ => by rw [upd_ne (ne_of_none e h)]; exact e
theorem Keep.put (h : p ∈ f) : Keep f H (upd H p o) := fun x u e n => by rw [upd_ne (fun z => n (by rw [z]; exact h))]; exact e
theorem Keep.at (a : Keep f H H1) (e : H x = some o) (n : x ∉ f) : H1 x = some o := a x o e n
theorem Keep.rd (a : Keep f H H1) (e : Rd H x o) (n : x ∉ f) : Rd H1 x o := by
  rcases e with e | ⟨u, e⟩
  · exact .inl (a _ _ e n)
  · exact .inr ⟨u, a _ _ e n⟩
theorem Keep.seq (a : Keep f H H1) (e : SqL K H x xs) (n : x ∉ f) : SqL K H1 x xs := by
  rcases e with e | e
  · exact .inl (a.rd e n)
  · exact .inr e
theorem Keep.tup (a : Keep f H H1) (e : SqT K H x xs) (n : x ∉ f) : SqT K H1 x xs := by
  rcases e with e | e
  · exact .inl (a.rd e n)
  · exact .inr e
/-- free before: a new address was free, if it is none of the footprint -/
theorem Keep.free (a : Keep f H H1) (h : H1 p = none) (n : p ∉ f) : H p = none := by
  cases q : H p with
  | none => rfl
  | some u =>
    rw [a p u q n] at h
    cases h
theorem Keep.same (a : Keep [] H H1) : Same H H1 := fun x o e => a x o e (by simp)
theorem Keep.of_same (a : Same H H1) : Keep f H H1 := fun x o e _ => a x o e
/-- an object that was made since (free in H) may change -/
theorem Keep.mut (a : Keep f H H1) (h : H p = none) : Keep f H (upd H1 p o) := fun x u e n => by
  rw [upd_ne (ne_of_none e h)]
  exact a x u e n
end
theorem nin_cons {α : Type} {x a : α} {l : List α} (h : x ≠ a) (h' : x ∉ l) : x ∉ a :: l := fun z => by
  rcases List.mem_cons.mp z with z | z
  · exact h z
  · exact h' z
section
variable {f : List Addr} {H H1 : Hp} {x p a : Addr} {o u : HO} {K : PySem.W.Frag} {xs : List V}
theorem fact_new (h : H p = none) (e : H a = some u) : upd H p o a = some u := by rw [upd_ne (ne_of_none e h)]; exact e
theorem fact_ne (h : a ≠ p) (e : H a = some u) : upd H p o a = some u := by rw [upd_ne h]; exact e
theorem sq_new (h : H p = none) (e : SqL K H a xs) : SqL K (upd H p o) a xs := by
  rcases e with (e | ⟨v, e⟩) | e
  · exact .inl (.inl (fact_new h e))
  · exact .inl (.inr ⟨v, fact_new h e⟩)
  · exact .inr e
theorem sq_ne (h : a ≠ p) (e : SqL K H a xs) : SqL K (upd H p o) a xs := by
  rcases e with (e | ⟨v, e⟩) | e
  · exact .inl (.inl (fact_ne h e))
  · exact .inl (.inr ⟨v, fact_ne h e⟩)
  · exact .inr e
theorem sqt_new (h : H p = none) (e : SqT K H a xs) : SqT K (upd H p o) a xs := by
  rcases e with (e | ⟨v, e⟩) | e
  · exact .inl (.inl (fact_new h e))
  · exact .inl (.inr ⟨v, fact_new h e⟩)
  · exact .inr e
theorem sqt_ne (h : a ≠ p) (e : SqT K H a xs) : SqT K (upd H p o) a xs := by
  rcases e with (e | ⟨v, e⟩) | e
  · exact .inl (.inl (fact_ne h e))
  · exact .inl (.inr ⟨v, fact_ne h e⟩)
  · exact .inr e
theorem Keep.unew (a : Keep f H H1) (h : H1 p = none) : Keep f H (upd H1 p o) := a.trans (Keep.new h)
theorem Keep.uput (a : Keep f H H1) (h : p ∈ f) : Keep f H (upd H1 p o) := a.trans (Keep.put h)
theorem Keep.umut (a : Keep f H H1) (h : H p = none) : Keep f H (upd H1 p o) := a.mut h
end
/-- a point where the ways of a statement meet: N is what follows -/
theorem cut {t1 t2 : TS} {D : Ends} {σ : L2.St} {H : Hp} (M : L2.St → Hp → Prop) (h1 : ∀ N : L2.St → Hp → Prop, (∀ σ' H', M σ' H' → N σ' H') → t1 { D with nx := N } σ H) (h2 : ∀ σ' H', M σ' H' → t2 D σ' H') : tSeq t1 t2 D σ H := h1 _ h2
/-- one statement: N is what follows -/
theorem seq1 {t1 t2 : TS} {D : Ends} {σ : L2.St} {H : Hp} (h1 : ∀ N : L2.St → Hp → Prop, (∀ σ' H', t2 D σ' H' → N σ' H') → t1 { D with nx := N } σ H) : tSeq t1 t2 D σ H := h1 _ fun _ _ h => h
theorem ifb {b : Bool} {A B : Prop} (h1 : b = true → A) (h2 : b = false → B) : if b = true then A else B := by
  cases b with
  | true => rw [if_pos rfl]; exact h1 rfl
  | false => rw [if_neg Bool.false_ne_true]; exact h2 rfl
theorem ifbT {b : Bool} {A B : Prop} (h : b = true) (h1 : A) : if b = true then A else B := by rw [if_pos h]; exact h1
theorem ifbF {b : Bool} {A B : Prop} (h : b = false) (h1 : B) : if b = true then A else B := by rw [if_neg (by rw [h]; exact Bool.false_ne_true)]; exact h1
theorem ofF {p : Prop} [Decidable p] (h : decide p = false) : ¬ p := of_decide_eq_false h
theorem ne_free {H : Hp} {a b : Addr} {o : HO} (h : H a = some o) (h' : H b = none) : a ≠ b := ne_of_none h h'
theorem kV_flat (k : Key) : flatV (kV k) = true := by cases k <;> rfl
theorem kV_eq (a b : Key) : eqV (kV a) (kV b) = decide (a = b) := by
  cases a with
  | inl i =>
    cases b with
    | inl j =>
      show (i == j) = _
      by_cases h : i = j
      · subst h; simp
      · simp [h]
    | inr j => simp [kV, eqV]
  | inr i =>
    cases b with
    | inl j => simp [kV, eqV]
    | inr j =>
      show (i == j) = _
      by_cases h : i = j
      · subst h; simp
      · simp [h]
theorem kV_all (ks : List Key) : (ks.map kV).all flatV = true := by
  induction ks with
  | nil => rfl
  | cons a r ih => rw [List.map_cons, List.all_cons, ih, kV_flat]; rfl
/-- k stands in the list -/
def kIn (k : Key) (ks : List Key) : Bool := ks.any fun a => decide (a = k)
theorem kIn_iff {k : Key} {ks : List Key} : kIn k ks = true ↔ k ∈ ks := by
  unfold kIn
  rw [List.any_eq_true]
  constructor
  · rintro ⟨a, h, e⟩
    rw [← of_decide_eq_true e]
    exact h
  · intro h
    exact ⟨k, h, decide_eq_true rfl⟩
theorem kIn_no {k : Key} {ks : List Key} : kIn k ks = false ↔ k ∉ ks := by
  rw [← kIn_iff]
  cases kIn k ks <;> simp
theorem inV_keys (k : Key) (ks : List Key) : inV (kV k) (ks.map kV) = kIn k ks := by
  induction ks with
  | nil => rfl
  | cons a r ih =>
    have e : inV (kV k) ((a :: r).map kV) = (eqV (kV a) (kV k) || inV (kV k) (r.map kV)) := rfl
    rw [e, ih, kV_eq]
    rfl
theorem getk {ks : List Key} {i : Nat} {v : V} (h : (ks.map kV)[i]? = some v) : ∃ k, ks[i]? = some k ∧ v = kV k := by
  rw [List.getElem?_map] at h
  cases e : ks[i]? with
  | none => rw [e] at h; cases h
  | some k => rw [e] at h; exact ⟨k, rfl, (Option.some.inj h).symm⟩
/-! rules with their written part told by name -/
def qLen (K : PySem.W.Frag) : List V → Hp → VK → Prop := fun xs H Q => ∃ p ys, xs = [.ref p] ∧ (SqL K H p ys ∨ SqT K H p ys) ∧ Q (.int ys.length) H
def qListOf (K : PySem.W.Frag) : List V → Hp → VK → Prop := fun xs H Q => ∃ p ys, xs = [.ref p] ∧ (SqL K H p ys ∨ SqT K H p ys) ∧ ∀ l, H l = none → Q (.ref l) (upd H l (.lst ys))
def qInt1 : List V → Hp → VK → Prop := fun xs H Q => (∃ i, xs = [.int i] ∧ Q (.int i) H) ∨ ∃ k, xs = [.bl k] ∧ Q (.int (if k then 1 else 0)) H
theorem c_len {X : Cx} : CallR X (.builtin "len") (qLen X.K) := call_len_seq
theorem c_list {X : Cx} : CallR X (.type "list") (qListOf X.K) := call_list_of
theorem c_int {X : Cx} : CallR X (.type "int") qInt1 := call_int1
theorem isWk {a b : String} {r : Bool} (h : kitB a b = some r) {K : PySem.W.Frag} : PySem.W.kitOne K (.type a) (.type b) = some r := h
end Lb

/-! the readings step by step: one lemma a word -/
namespace Lb
open PySem PySem.Spec PyProof.Rows L2
section
variable {K : PySem.W.Frag} {σ : L2.St} {H : Hp} {Q : VK} {i : Nat} {v x y : V} {ta tb te : TE} {tr : TA} {b : Bool}
theorem g_var (h : σ[i]? = some (some v)) (k : Q v H) : tVar i σ H Q := ⟨v, h, k⟩
theorem g_c (k : Q v H) : tC v σ H Q := k
theorem g_op {r : R2} (k : ta σ H fun x H1 => tb σ H1 fun y H2 => r x y H2 Q) : tOp r ta tb σ H Q := k
theorem g_un {r : V → Hp → VK → Prop} (k : ta σ H fun x H1 => r x H1 Q) : tUn r ta σ H Q := k
theorem g_cb {r : List V → Hp → VK → Prop} (k : tr σ H fun vs H1 => r vs H1 Q) : tCB r tr σ H Q := k
theorem g_nil {R : List V → Hp → Prop} (k : R [] H) : tNil σ H R := k
theorem g_cons {R : List V → Hp → Prop} (k : ta σ H fun x H1 => tr σ H1 fun xs H2 => R (x :: xs) H2) : tCons ta tr σ H R := k
theorem g_rI0 {g : Int → Int → V} {i j : Int} (k : Q (g i j) H) : rI0 g (.int i) (.int j) H Q := ⟨i, j, rfl, rfl, k⟩
theorem g_rI {C : Int → Int → Prop} {g : Int → Int → V} {i j : Int} (c : C i j) (k : Q (g i j) H) : rI C g (.int i) (.int j) H Q := ⟨i, j, rfl, rfl, c, k⟩
theorem g_rU {g : Int → V} {i : Int} (k : Q (g i) H) : rU g (.int i) H Q := ⟨i, rfl, k⟩
theorem g_eq (h : scal x y = true) (k : Q (.bl (decide (x = y))) H) : rEq x y H Q := ⟨h, k⟩
theorem g_ne (h : scal x y = true) (k : Q (.bl (!decide (x = y))) H) : rNe x y H Q := ⟨h, k⟩
theorem g_ixL {p : Addr} {xs : List V} {i : Int} (h : SqL K H p xs) (ha : atI xs i = some v) (k : Q v H) : rIxL K (.ref p) (.int i) H Q := ⟨p, xs, i, v, rfl, rfl, h, ha, k⟩
theorem g_ixT {p : Addr} {xs : List V} {i : Int} (h : SqT K H p xs) (ha : atI xs i = some v) (k : Q v H) : rIxT K (.ref p) (.int i) H Q := ⟨p, xs, i, v, rfl, rfl, h, ha, k⟩
theorem g_len {p : Addr} {xs : List V} (h : SqL K H p xs) (k : Q (.int xs.length) H) : qLen K [.ref p] H Q := ⟨p, xs, rfl, .inl h, k⟩
theorem g_lenT {p : Addr} {xs : List V} (h : SqT K H p xs) (k : Q (.int xs.length) H) : qLen K [.ref p] H Q := ⟨p, xs, rfl, .inr h, k⟩
theorem g_int {i : Int} (k : Q (.int i) H) : qInt1 [.int i] H Q := .inl ⟨i, rfl, k⟩
theorem g_intB {b : Bool} (k : Q (.int (if b then 1 else 0)) H) : qInt1 [.bl b] H Q := .inr ⟨b, rfl, k⟩
theorem g_list {p : Addr} {xs : List V} (h : SqL K H p xs) (k : ∀ l, H l = none → Q (.ref l) (upd H l (.lst xs))) : qListOf K [.ref p] H Q := ⟨p, xs, rfl, .inl h, k⟩
theorem g_in {neg : Bool} {p : Addr} {xs : List V} (h : SqL K H p xs ∨ SqT K H p xs) (fx : flatV x = true) (fs : xs.all flatV = true) (k : Q (.bl (if neg then !inV x xs else inV x xs)) H) : rIn K neg x (.ref p) H Q := ⟨p, xs, rfl, h, fx, fs, k⟩
theorem g_isi {t : String} {c : String} (ty : TyX K H x (.type t)) (h : kitB t c = some b) (k : Q (.bl b) H) : rIsi K [x, .ty c] H Q := ⟨x, .ty c, .type t, .type c, b, rfl, .ty c, ty, kit_ty h, k⟩
theorem g_all {p : Addr} {bs : List Bool} (h : SqL K H p (bs.map V.bl)) (k : Q (.bl (bs.all id)) H) : rAll K [.ref p] H Q := ⟨p, bs, rfl, h, k⟩
theorem g_andV (k : ta σ H fun x H1 => ∃ c, x = .bl c ∧ if c = true then tb σ H1 Q else Q (.bl false) H1) : tAndV ta tb σ H Q := k
theorem g_orV (k : ta σ H fun x H1 => ∃ c, x = .bl c ∧ if c = true then Q (.bl true) H1 else tb σ H1 Q) : tOrV ta tb σ H Q := k
theorem g_notV (k : ta σ H fun x H1 => ∃ c, x = .bl c ∧ Q (.bl (!c)) H1) : tNotV ta σ H Q := k
theorem g_tif {t : TT} (k : t σ H fun c H1 => if c = true then ta σ H1 Q else tb σ H1 Q) : tIf t ta tb σ H Q := k
theorem g_tup (k : tr σ H fun xs H1 => xs.length ≤ sizeLine ∧ ∀ p, H1 p = none → Q (.ref p) (upd H1 p (.tup xs))) : tTup tr σ H Q := k
theorem g_lst (k : tr σ H fun xs H1 => xs.length ≤ sizeLine ∧ ∀ p, H1 p = none → Q (.ref p) (upd H1 p (.lst xs))) : tLst tr σ H Q := k
theorem g_revL (k : ta σ H fun x H1 => ∃ a xs, x = .ref a ∧ SqL K H1 a xs ∧ ∀ p, H1 p = none → Q (.ref p) (upd H1 p (.lst xs.reverse))) : tRevL K ta σ H Q := k
theorem g_sl {r : V → Option Int → Option Int → Hp → VK → Prop} {tl th : TO} (k : ta σ H fun x H1 => tl σ H1 fun l H2 => th σ H2 fun u H3 => r x l u H3 Q) : tSl r ta tl th σ H Q := k
theorem g_nopart {R : Option Int → Hp → Prop} (k : R none H) : tNoPart σ H R := k
theorem g_part {R : Option Int → Hp → Prop} (k : ta σ H fun x H1 => ∃ i, x = .int i ∧ R (some i) H1) : tPart ta σ H R := k
theorem g_i {i : Int} {R : Int → Prop} (k : R i) : ∃ j, V.int i = .int j ∧ R j := ⟨i, rfl, k⟩
theorem g_call {sp : Sp} {dvs : List V} {E : XK} (k : tr σ H fun vs H1 => sp (vs ++ dvs) H1 Q E) : tCall sp dvs E tr σ H Q := k
theorem g_bm0 {T : String} {r : V → List V → Hp → VK → Prop} (k : ta σ H fun x H1 => tyV K T x H1 ∧ r x [] H1 Q) : tBM0 K T r ta σ H Q := k
theorem g_bm {T : String} {r : V → List V → Hp → VK → Prop} (k : ta σ H fun x H1 => tyV K T x H1 ∧ tr σ H1 fun xs H2 => r x xs H2 Q) : tBM K T r ta tr σ H Q := k
theorem g_append {l : Addr} {xs : List V} (h : H l = some (.lst xs)) (hl : xs.length < sizeLine) (k : Q .non (upd H l (.lst (xs ++ [y])))) : rAppend (.ref l) [y] H Q := ⟨l, xs, y, rfl, rfl, h, hl, k⟩
theorem g_dget (k : ta σ H fun x H1 => tb σ H1 fun y H2 => ∃ a v, x = .ref a ∧ DGet H2 a y (some v) ∧ Q v H2) : tDGet ta tb σ H Q := k
theorem g_din (k : ta σ H fun y H1 => tb σ H1 fun x H2 => ∃ a o, x = .ref a ∧ DGet H2 a y o ∧ Q (.bl o.isSome) H2) : tDIn ta tb σ H Q := k
theorem g_dnotin (k : ta σ H fun y H1 => tb σ H1 fun x H2 => ∃ a o, x = .ref a ∧ DGet H2 a y o ∧ Q (.bl (!o.isSome)) H2) : tDNotIn ta tb σ H Q := k
/-- what a dict holds, read -/
theorem g_dg {a : Addr} {kvs : List (Key × V)} {k : Key} {R : V → Prop} (h : Rd H a (.dK kvs)) (e : valV kvs k = some v) (q : R v) : ∃ a' v', V.ref a = .ref a' ∧ DGet H a' (kV k) (some v') ∧ R v' := ⟨a, v, rfl, .inl ⟨kvs, k, h, rfl, e.symm⟩, q⟩
theorem g_di {a : Addr} {kvs : List (Key × V)} {k : Key} {R : Option V → Prop} (h : Rd H a (.dK kvs)) (q : R (valV kvs k)) : ∃ a' o, V.ref a = .ref a' ∧ DGet H a' (kV k) o ∧ R o := ⟨a, _, rfl, .inl ⟨kvs, k, h, rfl, rfl⟩, q⟩
end
section
variable {σ : L2.St} {H : Hp} {R : Bool → Hp → Prop} {te : TE} {t u : TT} {v : V}
theorem g_test (k : te σ H fun x H' => ∃ b, x = .bl b ∧ R b H') : tTest te σ H R := k
theorem g_tb (k : te σ H fun x H' => ∃ b, x = .bl b ∧ R b H') : tB te σ H R := k
theorem g_bl {b : Bool} {R : Bool → Prop} (k : R b) : ∃ c, V.bl b = .bl c ∧ R c := ⟨b, rfl, k⟩
theorem g_and (k : t σ H fun c H1 => if c = true then u σ H1 R else R false H1) : tAnd t u σ H R := k
theorem g_or (k : t σ H fun c H1 => if c = true then R true H1 else u σ H1 R) : tOr t u σ H R := k
theorem g_not (k : t σ H fun c H1 => R (!c) H1) : tNot t σ H R := k
theorem g_yes (k : R true H) : tYes σ H R := k
end
section
variable {D : Ends} {σ : L2.St} {H : Hp} {te : TE} {t1 t2 : TS} {g : TG} {c : TT} {x v : V} {S : L2.St → Hp → Prop}
theorem g_asg (k : te σ H fun x H1 => g x σ H1 D.nx) : tAsg te g D σ H := k
theorem g_name {i : Nat} (k : S (σ.set i (some x)) H) : gName i x σ H S := k
theorem g_sub {ta tb : TE} {t : TSet} (k : ta σ H fun o H1 => tb σ H1 fun i H2 => t o i x H2 fun H3 => S σ H3) : gSub ta tb t x σ H S := k
theorem g_setL {p : Addr} {xs : List V} {i : Int} {j : Nat} {R : Hp → Prop} (h : H p = some (.lst xs)) (hj : ixN xs.length i = some j) (k : R (upd H p (.lst (xs.set j v)))) : rSetL (.ref p) (.int i) v H R := ⟨p, xs, i, j, rfl, rfl, h, hj, k⟩
theorem g_ifS (k : c σ H fun b H1 => if b = true then t1 D σ H1 else t2 D σ H1) : tIfS c t1 t2 D σ H := k
theorem g_next (k : D.nx σ H) : tNext D σ H := k
theorem g_cont (k : D.ct σ H) : tCont D σ H := k
theorem g_brk (k : D.bk σ H) : tBreak D σ H := k
theorem g_drop (k : te σ H fun _ H1 => D.nx σ H1) : tDrop te D σ H := k
theorem g_ret (k : te σ H D.rt) : tRet te D σ H := k
theorem g_retN (k : D.rt .non H) : tRetN D σ H := k
theorem g_aug {i : Nat} {ti : TIp} (h : σ[i]? = some (some x)) (k : te σ H fun y H1 => ti x y H1 fun z H2 => D.nx (σ.set i (some z)) H2) : tAug i te ti D σ H := ⟨x, h, k⟩
theorem g_dput {td ty tv : TE} (k : tv σ H fun v H1 => td σ H1 fun x H2 => ty σ H2 fun y H3 => ∃ a H4, x = .ref a ∧ DPut H3 a y v H4 ∧ D.nx σ H4) : sDPut td ty tv D σ H := k
theorem g_dp {a : Addr} {kvs : List (Key × V)} {k : Key} {R : Hp → Prop} (h : H a = some (.dK kvs)) (hl : kvs.length < sizeLine) (q : R (upd H a (.dK (putK kvs k v)))) : ∃ a' H4, V.ref a = .ref a' ∧ DPut H a' (kV k) v H4 ∧ R H4 := ⟨a, _, rfl, .inl ⟨kvs, k, h, rfl, hl, rfl⟩, q⟩
end
theorem tyl {K : PySem.W.Frag} {H : Hp} {p : Addr} {xs : List V} (h : SqL K H p xs) : tyV K "list" (.ref p) H := .inl ⟨rfl, _, h⟩
end Lb

local macro_rules | `(tactic| wtm_at "ne") => `(tactic| first
  | with_reducible assumption
  | with_reducible exact Ne.symm (by assumption)
  | fail)
local macro_rules | `(tactic| wtm_at "nin") => `(tactic| first
  | exact List.not_mem_nil
  | ((with_reducible refine' Lb.nin_cons ?k1 ?k2); (case k1 => wtm_at "ne"); (case k2 => wtm_at "nin"))
  | fail)
local macro_rules | `(tactic| wtm_at "fact") => `(tactic| first
  | with_reducible assumption
  | with_reducible exact L2.upd_same
  | ((with_reducible refine' Lb.fact_new ?k1 ?k2); (case k1 => with_reducible assumption); (case k2 => wtm_at "fact"))
  | ((with_reducible refine' Lb.fact_ne ?k1 ?k2); (case k1 => wtm_at "ne"); (case k2 => wtm_at "fact"))
  | ((with_reducible refine' Lb.Keep.at ?k1 ?k2 ?k3); (case k1 => with_reducible assumption); (case k2 => wtm_at "fact"); (case k3 => wtm_at "nin"))
  | fail)
local macro_rules | `(tactic| wtm_at "sq") => `(tactic| first
  | with_reducible assumption
  | with_reducible exact L2.SqL.of L2.upd_same
  | with_reducible exact L2.SqL.of (by assumption)
  | ((with_reducible refine' Lb.sq_new ?k1 ?k2); (case k1 => with_reducible assumption); (case k2 => wtm_at "sq"))
  | ((with_reducible refine' Lb.sq_ne ?k1 ?k2); (case k1 => wtm_at "ne"); (case k2 => wtm_at "sq"))
  | ((with_reducible refine' Lb.Keep.seq ?k1 ?k2 ?k3); (case k1 => with_reducible assumption); (case k2 => wtm_at "sq"); (case k3 => wtm_at "nin"))
  | fail)
local macro_rules | `(tactic| wtm_at "sqt") => `(tactic| first
  | with_reducible assumption
  | with_reducible exact L2.SqT.of L2.upd_same
  | with_reducible exact L2.SqT.of (by assumption)
  | ((with_reducible refine' Lb.sqt_new ?k1 ?k2); (case k1 => with_reducible assumption); (case k2 => wtm_at "sqt"))
  | ((with_reducible refine' Lb.sqt_ne ?k1 ?k2); (case k1 => wtm_at "ne"); (case k2 => wtm_at "sqt"))
  | ((with_reducible refine' Lb.Keep.tup ?k1 ?k2 ?k3); (case k1 => with_reducible assumption); (case k2 => wtm_at "sqt"); (case k3 => wtm_at "nin"))
  | fail)
local macro_rules | `(tactic| wtm_at "keep") => `(tactic| first
  | with_reducible exact Lb.Keep.refl _ _
  | with_reducible assumption
  | ((with_reducible refine' Lb.Keep.unew ?k1 ?k2); (case k2 => with_reducible assumption); (case k1 => wtm_at "keep"))
  | ((with_reducible refine' Lb.Keep.uput ?k1 ?k2); (case k2 => simp only [List.mem_cons, true_or, or_true]; done); (case k1 => wtm_at "keep"))
  | ((with_reducible refine' Lb.Keep.umut ?k1 ?k2); (case k2 => with_reducible assumption); (case k1 => wtm_at "keep"))
  | fail)
local macro_rules | `(tactic| wtm_at "at") => `(tactic| first
  | assumption
  | exact L2.atI_nat (by assumption)
  | rfl
  | fail)
local macro_rules | `(tactic| wtm_at "cond") => `(tactic| first
  | assumption
  | (show (0 : Int) < _; omega)
  | exact ⟨by omega, by omega⟩
  | exact .inl ⟨by omega, by omega⟩
  | exact .inr ⟨by omega, by omega⟩
  | exact ⟨by decide, by decide, by decide⟩
  | fail)
local macro_rules | `(tactic| wtm_at "go1") => `(tactic| first
  | ((with_reducible refine' Lb.g_var ?k1 ?_); (case k1 => rfl))
  | with_reducible refine' Lb.g_c ?_
  | with_reducible refine' Lb.g_op ?_
  | with_reducible refine' Lb.g_nil ?_
  | with_reducible refine' Lb.g_cons ?_
  | with_reducible refine' Lb.g_cb ?_
  | with_reducible refine' Lb.g_bl ?_
  | with_reducible refine' Lb.g_asg ?_
  | with_reducible refine' Lb.g_name ?_
  | with_reducible refine' Lb.g_ifS ?_
  | with_reducible refine' Lb.g_test ?_
  | with_reducible refine' Lb.g_tb ?_
  | with_reducible refine' Lb.g_and ?_
  | with_reducible refine' Lb.g_or ?_
  | with_reducible refine' Lb.g_not ?_
  | with_reducible refine' Lb.g_un ?_
  | with_reducible refine' Lb.g_rI0 ?_
  | with_reducible refine' Lb.g_rU ?_
  | ((with_reducible refine' Lb.g_rI ?k1 ?_); (case k1 => wtm_at "cond"))
  | ((with_reducible refine' Lb.g_ixL ?k1 ?k2 ?_); (case k1 => wtm_at "sq"); (case k2 => wtm_at "at"))
  | ((with_reducible refine' Lb.g_ixT ?k1 ?k2 ?_); (case k1 => wtm_at "sqt"); (case k2 => wtm_at "at"))
  | ((with_reducible refine' Lb.g_eq ?k1 ?_); (case k1 => rfl))
  | ((with_reducible refine' Lb.g_ne ?k1 ?_); (case k1 => rfl))
  | ((with_reducible refine' Lb.g_len ?k1 ?_); (case k1 => wtm_at "sq"))
  | ((with_reducible refine' Lb.g_lenT ?k1 ?_); (case k1 => wtm_at "sqt"))
  | with_reducible refine' Lb.g_int ?_
  | with_reducible refine' Lb.g_sub ?_
  | ((with_reducible refine' Lb.g_setL ?k1 ?k2 ?_); (case k1 => wtm_at "fact"); (case k2 => rfl))
  | with_reducible refine' Lb.g_drop ?_
  | with_reducible refine' Lb.g_ret ?_
  | with_reducible refine' Lb.g_retN ?_
  | with_reducible refine' Lb.g_next ?_
  | with_reducible refine' Lb.g_cont ?_
  | with_reducible refine' Lb.g_brk ?_
  | ((with_reducible refine' Lb.g_aug ?k1 ?_); (case k1 => rfl))
  | with_reducible refine' Lb.g_tup ?_
  | with_reducible refine' Lb.g_lst ?_
  | with_reducible refine' Lb.g_call ?_
  | with_reducible refine' Lb.g_bm ?_
  | with_reducible refine' Lb.g_bm0 ?_
  | with_reducible refine' Lb.g_dget ?_
  | with_reducible refine' Lb.g_din ?_
  | with_reducible refine' Lb.g_dnotin ?_
  | with_reducible refine' Lb.g_dput ?_
  | with_reducible refine' Lb.g_tif ?_
  | with_reducible refine' Lb.g_andV ?_
  | with_reducible refine' Lb.g_orV ?_
  | with_reducible refine' Lb.g_notV ?_
  | with_reducible refine' Lb.g_revL ?_
  | with_reducible refine' Lb.g_sl ?_
  | with_reducible refine' Lb.g_nopart ?_
  | with_reducible refine' Lb.g_part ?_
  | with_reducible refine' Lb.g_i ?_
  | with_reducible refine' Lb.g_yes ?_
  | fail)
local macro_rules | `(tactic| wtm_at "go") => `(tactic| repeat wtm_at "go1")
local macro_rules | `(tactic| wtm_at "st") => `(tactic| (refine Lb.seq1 fun N hN => ?_; wtm_at "go"; refine hN _ _ ?_; clear hN N))
set_option hygiene false in
local macro_rules | `(tactic| wtm_at "if") => `(tactic| refine Lb.ifb (fun e => ?_) (fun e => ?_))
local macro_rules | `(tactic| wtm_at "T") => `(tactic| refine L2.iteT ?_)
local macro_rules | `(tactic| wtm_at "F") => `(tactic| refine L2.iteF ?_)

namespace Ki
open PySem PySem.Spec PyProof.Rows L2 Lb
theorem hu65 {A : Around} {k : Nat} (hr : Room k A) : A.units + 65 < cLine := by have := hr.un; omega
def topS (i : Nat) : Stmt := PySem.Challenge.pw_drawnwhole_k41_whole_rising_and_falling.main.body.getD i (.Pass ⟨0, 0, 0, 0⟩)
abbrev sIsValue : Stmt := topS 1
theorem scIsValue : FnScope ["thing"] ["thing"] (defScope sIsValue) := ⟨rfl, rfl, rfl, by decide +kernel, rfl, by decide +kernel, by decide +kernel⟩
abbrev sPlacesOf : Stmt := topS 2
theorem scPlacesOf : FnScope ["row", "at", "value"] ["row"] (defScope sPlacesOf) := ⟨rfl, rfl, rfl, by decide +kernel, rfl, by decide +kernel, by decide +kernel⟩
abbrev sPilesOf : Stmt := topS 3
theorem scPilesOf : FnScope ["old", "new", "places", "piles", "before", "value", "at"] ["old", "new"] (defScope sPilesOf) := ⟨rfl, rfl, rfl, by decide +kernel, rfl, by decide +kernel, by decide +kernel⟩
abbrev sRising : Stmt := topS 4
theorem scRising : FnScope ["old", "new", "piles", "before", "row"] ["old", "new"] (defScope sRising) := ⟨rfl, rfl, rfl, by decide +kernel, rfl, by decide +kernel, by decide +kernel⟩
abbrev sFalling : Stmt := topS 5
theorem scFalling : FnScope ["old", "new", "piles", "before"] ["old", "new"] (defScope sFalling) := ⟨rfl, rfl, rfl, by decide +kernel, rfl, by decide +kernel, by decide +kernel⟩
abbrev sInOrder : Stmt := topS 6
theorem scInOrder : FnScope ["places", "row", "sign", "one", "other"] ["places", "row", "sign"] (defScope sInOrder) := ⟨rfl, rfl, rfl, by decide +kernel, rfl, by decide +kernel, by decide +kernel⟩
abbrev sAreCommon : Stmt := topS 7
theorem scAreCommon : FnScope ["old", "new", "thing", "item"] ["old", "new", "thing"] (defScope sAreCommon) := ⟨rfl, rfl, rfl, by decide +kernel, rfl, by decide +kernel, by decide +kernel⟩
abbrev sIsRising : Stmt := topS 8
theorem scIsRising : FnScope ["old", "new", "thing"] ["old", "new", "thing"] (defScope sIsRising) := ⟨rfl, rfl, rfl, by decide +kernel, rfl, by decide +kernel, by decide +kernel⟩
abbrev sIsFalling : Stmt := topS 9
theorem scIsFalling : FnScope ["old", "new", "thing", "elder", "younger", "met", "row", "value"] ["old", "new", "thing"] (defScope sIsFalling) := ⟨rfl, rfl, rfl, by decide +kernel, rfl, by decide +kernel, by decide +kernel⟩
abbrev sLTake : Stmt := topS 11
theorem scLTake : FnScope ["_law_bag", "_law_many", "_law_cells", "_law_digit", "_law_cell", "_law_number"] ["_law_bag", "_law_many"] (defScope sLTake) := ⟨rfl, rfl, rfl, by decide +kernel, rfl, by decide +kernel, by decide +kernel⟩
abbrev sLValue : Stmt := topS 12
theorem scLValue : FnScope ["_law_bag", "_law_k", "_law_number"] ["_law_bag", "_law_k"] (defScope sLValue) := ⟨rfl, rfl, rfl, by decide +kernel, rfl, by decide +kernel, by decide +kernel⟩
abbrev sLPutIn : Stmt := topS 13
theorem scLPutIn : FnScope ["_law_bag", "_law_row", "_law_value_here", "_law_shape", "_law_at"] ["_law_bag", "_law_row", "_law_value_here", "_law_shape"] (defScope sLPutIn) := ⟨rfl, rfl, rfl, by decide +kernel, rfl, by decide +kernel, by decide +kernel⟩
abbrev sLRows : Stmt := topS 14
theorem scLRows : FnScope ["_law_bag", "_law_many", "_law_shape", "_law_twin", "_law_rows_here", "_law_k", "_law_value_here", "_law_where"] ["_law_bag"] (defScope sLRows) := ⟨rfl, rfl, rfl, by decide +kernel, rfl, by decide +kernel, by decide +kernel⟩
abbrev sLPlace : Stmt := topS 15
theorem scLPlace : FnScope ["_law_row", "_law_value_here", "_law_k"] ["_law_row", "_law_value_here"] (defScope sLPlace) := ⟨rfl, rfl, rfl, by decide +kernel, rfl, by decide +kernel, by decide +kernel⟩
abbrev sLIsValue : Stmt := topS 16
theorem scLIsValue : FnScope ["_law_value_here"] ["_law_value_here"] (defScope sLIsValue) := ⟨rfl, rfl, rfl, by decide +kernel, rfl, by decide +kernel, by decide +kernel⟩
abbrev sLPlaces : Stmt := topS 17
theorem scLPlaces : FnScope ["_law_old", "_law_new", "_law_row", "_law_found", "_law_value_here"] ["_law_old", "_law_new", "_law_row"] (defScope sLPlaces) := ⟨rfl, rfl, rfl, by decide +kernel, rfl, by decide +kernel, by decide +kernel⟩
abbrev sLGoes : Stmt := topS 18
theorem scLGoes : FnScope ["_law_places_here", "_law_sign", "_law_k"] ["_law_places_here", "_law_sign"] (defScope sLGoes) := ⟨rfl, rfl, rfl, by decide +kernel, rfl, by decide +kernel, by decide +kernel⟩
abbrev sLBoth : Stmt := topS 19
theorem scLBoth : FnScope ["_law_old", "_law_new", "_law_common", "_law_up", "_law_down", "_law_met", "_law_row", "_law_places_here", "_law_place_here"] ["_law_old", "_law_new", "_law_common", "_law_up", "_law_down"] (defScope sLBoth) := ⟨rfl, rfl, rfl, by decide +kernel, rfl, by decide +kernel, by decide +kernel⟩
abbrev sLaw : Stmt := topS 20
theorem scLaw : FnScope ["_law_script", "_law_bag", "_law_rows_here", "_law_old", "_law_new", "_law_passed", "_law_common", "_law_turn", "_law_up", "_law_down", "_law_row", "_law_value_here"] ["_law_script"] (defScope sLaw) := ⟨rfl, rfl, rfl, by decide +kernel, rfl, by decide +kernel, by decide +kernel⟩

theorem boot_all : bootBuiltins "all" = some (.builtin "all") := by decide +kernel
theorem boot_bool : bootBuiltins "bool" = some (.type "bool") := by decide +kernel
theorem boot_int : bootBuiltins "int" = some (.type "int") := by decide +kernel
theorem boot_isinstance : bootBuiltins "isinstance" = some (.builtin "isinstance") := by decide +kernel
theorem boot_len : bootBuiltins "len" = some (.builtin "len") := by decide +kernel
theorem boot_list : bootBuiltins "list" = some (.type "list") := by decide +kernel
theorem boot_str : bootBuiltins "str" = some (.type "str") := by decide +kernel
structure TX (K : PySem.W.Frag) (mg : Str → Option Value) : Type where
  n_all : mg "all" = none
  n_bool : mg "bool" = none
  n_enumerate : mg "enumerate" = none
  n_int : mg "int" = none
  n_isinstance : mg "isinstance" = none
  n_len : mg "len" = none
  n_list : mg "list" = none
  n_range : mg "range" = none
  n_str : mg "str" = none
  n_zip : mg "zip" = none
  fIsValue : Addr
  dIsValue : FuncData
  FIsValue : Fun K "is_value" "is_value" sIsValue fIsValue dIsValue
  gIsValue : mg "is_value" = some (.ref fIsValue)
  bIsValue : Binds K dIsValue ["thing"] []
  fPlacesOf : Addr
  dPlacesOf : FuncData
  FPlacesOf : Fun K "places_of" "places_of" sPlacesOf fPlacesOf dPlacesOf
  gPlacesOf : mg "places_of" = some (.ref fPlacesOf)
  bPlacesOf : Binds K dPlacesOf ["row"] []
  fPilesOf : Addr
  dPilesOf : FuncData
  FPilesOf : Fun K "piles_of" "piles_of" sPilesOf fPilesOf dPilesOf
  gPilesOf : mg "piles_of" = some (.ref fPilesOf)
  bPilesOf : Binds K dPilesOf ["old", "new"] []
  fRising : Addr
  dRising : FuncData
  FRising : Fun K "rising" "rising" sRising fRising dRising
  gRising : mg "rising" = some (.ref fRising)
  bRising : Binds K dRising ["old", "new"] []
  fFalling : Addr
  dFalling : FuncData
  FFalling : Fun K "falling" "falling" sFalling fFalling dFalling
  gFalling : mg "falling" = some (.ref fFalling)
  bFalling : Binds K dFalling ["old", "new"] []
  fInOrder : Addr
  dInOrder : FuncData
  FInOrder : Fun K "in_order" "in_order" sInOrder fInOrder dInOrder
  gInOrder : mg "in_order" = some (.ref fInOrder)
  bInOrder : Binds K dInOrder ["places", "row", "sign"] []
  fAreCommon : Addr
  dAreCommon : FuncData
  FAreCommon : Fun K "are_common" "are_common" sAreCommon fAreCommon dAreCommon
  gAreCommon : mg "are_common" = some (.ref fAreCommon)
  bAreCommon : Binds K dAreCommon ["old", "new", "thing"] []
  fIsRising : Addr
  dIsRising : FuncData
  FIsRising : Fun K "is_rising" "is_rising" sIsRising fIsRising dIsRising
  gIsRising : mg "is_rising" = some (.ref fIsRising)
  bIsRising : Binds K dIsRising ["old", "new", "thing"] []
  fIsFalling : Addr
  dIsFalling : FuncData
  FIsFalling : Fun K "is_falling" "is_falling" sIsFalling fIsFalling dIsFalling
  gIsFalling : mg "is_falling" = some (.ref fIsFalling)
  bIsFalling : Binds K dIsFalling ["old", "new", "thing"] []
  fLTake : Addr
  dLTake : FuncData
  FLTake : Fun K "_law_take" "_law_take" sLTake fLTake dLTake
  gLTake : mg "_law_take" = some (.ref fLTake)
  bLTake : Binds K dLTake ["_law_bag", "_law_many"] []
  fLValue : Addr
  dLValue : FuncData
  FLValue : Fun K "_law_value" "_law_value" sLValue fLValue dLValue
  gLValue : mg "_law_value" = some (.ref fLValue)
  bLValue : Binds K dLValue ["_law_bag", "_law_k"] []
  fLPutIn : Addr
  dLPutIn : FuncData
  FLPutIn : Fun K "_law_put_in" "_law_put_in" sLPutIn fLPutIn dLPutIn
  gLPutIn : mg "_law_put_in" = some (.ref fLPutIn)
  bLPutIn : Binds K dLPutIn ["_law_bag", "_law_row", "_law_value_here", "_law_shape"] []
  fLRows : Addr
  dLRows : FuncData
  FLRows : Fun K "_law_rows" "_law_rows" sLRows fLRows dLRows
  gLRows : mg "_law_rows" = some (.ref fLRows)
  bLRows : Binds K dLRows ["_law_bag"] []
  fLPlace : Addr
  dLPlace : FuncData
  FLPlace : Fun K "_law_place" "_law_place" sLPlace fLPlace dLPlace
  gLPlace : mg "_law_place" = some (.ref fLPlace)
  bLPlace : Binds K dLPlace ["_law_row", "_law_value_here"] []
  fLIsValue : Addr
  dLIsValue : FuncData
  FLIsValue : Fun K "_law_is_value" "_law_is_value" sLIsValue fLIsValue dLIsValue
  gLIsValue : mg "_law_is_value" = some (.ref fLIsValue)
  bLIsValue : Binds K dLIsValue ["_law_value_here"] []
  fLPlaces : Addr
  dLPlaces : FuncData
  FLPlaces : Fun K "_law_places" "_law_places" sLPlaces fLPlaces dLPlaces
  gLPlaces : mg "_law_places" = some (.ref fLPlaces)
  bLPlaces : Binds K dLPlaces ["_law_old", "_law_new", "_law_row"] []
  fLGoes : Addr
  dLGoes : FuncData
  FLGoes : Fun K "_law_goes" "_law_goes" sLGoes fLGoes dLGoes
  gLGoes : mg "_law_goes" = some (.ref fLGoes)
  bLGoes : Binds K dLGoes ["_law_places_here", "_law_sign"] []
  fLBoth : Addr
  dLBoth : FuncData
  FLBoth : Fun K "_law_both" "_law_both" sLBoth fLBoth dLBoth
  gLBoth : mg "_law_both" = some (.ref fLBoth)
  bLBoth : Binds K dLBoth ["_law_old", "_law_new", "_law_common", "_law_up", "_law_down"] []
  fLaw : Addr
  dLaw : FuncData
  FLaw : Fun K "law" "law" sLaw fLaw dLaw
  gLaw : mg "law" = some (.ref fLaw)
  bLaw : Binds K dLaw ["_law_script"] []
section
variable {P : Program} {w : World} {K : PySem.W.Frag} {mg : Str → Option Value} {base : Heap} {cdv : Value} {A : Around} {outer : List Env} {s : Shared} {H : Hp} {E : XK}
noncomputable def derIsValue (T : TX K mg) (hr : Room 0 (A.deeper (envOfC "is_value" (defScope sIsValue) s.heap.objs.size T.fIsValue cdv))) : {t : TS // PSs (cxOf CX0 P w K mg base ["thing"] "is_value" (defScope sIsValue) T.fIsValue cdv A outer s H E).nox (defBody sIsValue) t} :=
 ⟨_, (pss_one (ps_ret (pe_or (pe_callB (r := rIsi K) call_isi (by rfl) T.n_isinstance boot_isinstance (pa_cons (pv 0) (pa_cons (pe_bltn (v := .ty "str") (by rfl) T.n_str boot_str rfl) pa_nil))) (pe_one (pe_and (pe_callB (r := rIsi K) call_isi (by rfl) T.n_isinstance boot_isinstance (pa_cons (pv 0) (pa_cons (pe_bltn (v := .ty "int") (by rfl) T.n_int boot_int rfl) pa_nil))) (pe_one (pe_not (pe_callB (r := rIsi K) call_isi (by rfl) T.n_isinstance boot_isinstance (pa_cons (pv 0) (pa_cons (pe_bltn (v := .ty "bool") (by rfl) T.n_bool boot_bool rfl) pa_nil))))))))))⟩
noncomputable def derPlacesOf (T : TX K mg) (hr : Room 0 (A.deeper (envOfC "places_of" (defScope sPlacesOf) s.heap.objs.size T.fPlacesOf cdv))) : {t : TS // PSs (cxOf CX0 P w K mg base ["row", "at", "value"] "places_of" (defScope sPlacesOf) T.fPlacesOf cdv A outer s H E).nox (defBody sPlacesOf) t} :=
 ⟨_, (pss_one (ps_ret (pe_dc (own := [("at", 1), ("value", 2)]) (g := gTup K 2 (gCons (gName 1) (gCons (gName 2) gNil))) (tt := tYes) rfl scPlacesOf.nd (pi_enum (by rfl) T.n_enumerate (pa_cons (pv 0) pa_nil)) (blkOk_by (own := [("at", 1), ("value", 2)]) (N := ["row", "at", "value"]) (sc := defScope sPlacesOf) (by decide +kernel)) (fun _ _ _ _ _ => by exact (pg_tup rfl (pgs_cons (pg_name (i := 1) scPlacesOf.nd rfl (.inl rfl)) (pgs_cons (pg_name (i := 2) scPlacesOf.nd rfl (.inl rfl)) pgs_nil)))) (fun _ _ _ _ _ => pts_nil) (fun _ _ _ _ _ => (pv 2)) (fun _ _ _ _ _ => (pv 1)))))⟩
noncomputable def derPilesOf (T : TX K mg) {spPlacesOf : Sp} (GPlacesOf : FnOk P w K mg base CX0 1 T.fPlacesOf T.dPlacesOf ["row"] spPlacesOf) (hr : Room 1 (A.deeper (envOfC "piles_of" (defScope sPilesOf) s.heap.objs.size T.fPilesOf cdv))) : {t : TS // PSs (cxOf CX0 P w K mg base ["old", "new", "places", "piles", "before", "value", "at"] "piles_of" (defScope sPilesOf) T.fPilesOf cdv A outer s H E).nox (defBody sPilesOf) t} :=
 ⟨_, (pss_cons (ps_set (i := 2) scPilesOf.nd rfl (.inl rfl) (pe_call GPlacesOf (hr.mono (by decide)) (by rfl) T.gPlacesOf T.FPlacesOf.kp T.bPlacesOf .nil pass0 (pa_cons (pv 1) pa_nil)))
 (pss_cons (ps_set (i := 3) scPilesOf.nd rfl (.inl rfl) (pe_lst pa_nil))
 (pss_cons (ps_set (i := 4) scPilesOf.nd rfl (.inl rfl) pe_dnewK)
 (pss_cons (ps_for PassesOwn.never rfl (pi_list (pv 0)) (pg_name (i := 5) scPilesOf.nd rfl (.inl rfl))
 (pss_cons (ps_if (pt_cmp (pc_dnotin (hu_of hr) (pv 5) (pv 2)))
 (pss_one ps_continue)
 pss_nil)
 (pss_cons (ps_set (i := 6) scPilesOf.nd rfl (.inl rfl) pe_int)
 (pss_cons (ps_while PassesOwn.never (PW.pt (pw_and (pt_cmpR op_lt (pv 6) (pe_callB (r := qLen K) c_len (by rfl) T.n_len boot_len (pa_cons (pv 3) pa_nil)) (nomark _)) (pw_and1 (pt_cmpR op_lt (pe_dget (hu_of hr) (pv 2) (pe_ix (r := rIxL K) ix_list (pe_ix (r := rIxL K) ix_list (pv 3) (pv 6) (fun _ _ => rfl)) (pe_un un_neg pe_int) (fun _ _ => rfl)) (fun _ _ => rfl)) (pe_dget (hu_of hr) (pv 2) (pv 5) (fun _ _ => rfl)) (nomark _)))))
 (pss_one (ps_aug (i := 6) scPilesOf.nd rfl (.inl rfl) pe_int ip_add)))
 (pss_cons (ps_dput (hu_of hr) (pv 4) (pv 5) (pe_ifExp (pt_cmpR op_eq (pv 6) pe_int (nomark _)) pe_non (pe_ix (r := rIxL K) ix_list (pe_ix (r := rIxL K) ix_list (pv 3) (pe_op op_sub (pv 6) pe_int) (fun _ _ => rfl)) (pe_un un_neg pe_int) (fun _ _ => rfl))) rfl)
 (pss_one (ps_if (pt_cmpR op_eq (pv 6) (pe_callB (r := qLen K) c_len (by rfl) T.n_len boot_len (pa_cons (pv 3) pa_nil)) (nomark _))
 (pss_one (ps_expr (pe_bm PySem.F.plainAttrs_list PySem.F.slot_list_append PySem.F.type_list_append mt_append (pv 3) (pa_cons (pe_lst (pa_cons (pv 5) pa_nil)) pa_nil))))
 (pss_one (ps_expr (pe_bm PySem.F.plainAttrs_list PySem.F.slot_list_append PySem.F.type_list_append mt_append (pe_ix (r := rIxL K) ix_list (pv 3) (pv 6) (fun _ _ => rfl)) (pa_cons (pv 5) pa_nil)))))))))))
 (pss_one (ps_ret (pe_tup (pa_cons (pv 3) (pa_cons (pv 4) pa_nil)))))))))⟩
noncomputable def derRising (T : TX K mg) {spPilesOf : Sp} (GPilesOf : FnOk P w K mg base CX0 2 T.fPilesOf T.dPilesOf ["old", "new"] spPilesOf) (hr : Room 2 (A.deeper (envOfC "rising" (defScope sRising) s.heap.objs.size T.fRising cdv))) : {t : TS // PSs (cxOf CX0 P w K mg base ["old", "new", "piles", "before", "row"] "rising" (defScope sRising) T.fRising cdv A outer s H E).nox (defBody sRising) t} :=
 ⟨_, (pss_cons (ps_asg (pe_call GPilesOf (hr.mono (by decide)) (by rfl) T.gPilesOf T.FPilesOf.kp T.bPilesOf .nil pass0 (pa_cons (pv 0) (pa_cons (pv 1) pa_nil))) (pg_tup rfl (pgs_cons (pg_name (i := 2) scRising.nd rfl (.inl rfl)) (pgs_cons (pg_name (i := 3) scRising.nd rfl (.inl rfl)) pgs_nil))))
 (pss_cons (ps_if (pt_not (pt_truth (pv 2) (by intro _; rfl)))
 (pss_one (ps_ret (pe_lst pa_nil)))
 pss_nil)
 (pss_cons (ps_set (i := 4) scRising.nd rfl (.inl rfl) (pe_lst (pa_cons (pe_ix (r := rIxL K) ix_list (pe_ix (r := rIxL K) ix_list (pv 2) (pe_un un_neg pe_int) (fun _ _ => rfl)) (pe_un un_neg pe_int) (fun _ _ => rfl)) pa_nil)))
 (pss_cons (ps_while PassesOwn.never (pt_cmpR op_notN (pe_dget (hu_of hr) (pv 3) (pe_ix (r := rIxL K) ix_list (pv 4) (pe_un un_neg pe_int) (fun _ _ => rfl)) (fun _ _ => rfl)) pe_non (nomark _))
 (pss_one (ps_expr (pe_bm PySem.F.plainAttrs_list PySem.F.slot_list_append PySem.F.type_list_append mt_append (pv 4) (pa_cons (pe_dget (hu_of hr) (pv 3) (pe_ix (r := rIxL K) ix_list (pv 4) (pe_un un_neg pe_int) (fun _ _ => rfl)) (fun _ _ => rfl)) pa_nil)))))
 (pss_one (ps_ret (pe_revL (pv 4))))))))⟩
noncomputable def derFalling (T : TX K mg) {spPilesOf : Sp} (GPilesOf : FnOk P w K mg base CX0 2 T.fPilesOf T.dPilesOf ["old", "new"] spPilesOf) (hr : Room 2 (A.deeper (envOfC "falling" (defScope sFalling) s.heap.objs.size T.fFalling cdv))) : {t : TS // PSs (cxOf CX0 P w K mg base ["old", "new", "piles", "before"] "falling" (defScope sFalling) T.fFalling cdv A outer s H E).nox (defBody sFalling) t} :=
 ⟨_, (pss_cons (ps_asg (pe_call GPilesOf (hr.mono (by decide)) (by rfl) T.gPilesOf T.FPilesOf.kp T.bPilesOf .nil pass0 (pa_cons (pv 0) (pa_cons (pv 1) pa_nil))) (pg_tup rfl (pgs_cons (pg_name (i := 2) scFalling.nd rfl (.inl rfl)) (pgs_cons (pg_name (i := 3) scFalling.nd rfl (.inl rfl)) pgs_nil))))
 (pss_one (ps_ret (pv 2))))⟩
noncomputable def derInOrder (T : TX K mg) (hr : Room 0 (A.deeper (envOfC "in_order" (defScope sInOrder) s.heap.objs.size T.fInOrder cdv))) : {t : TS // PSs (cxOf CX0 P w K mg base ["places", "row", "sign", "one", "other"] "in_order" (defScope sInOrder) T.fInOrder cdv A outer s H E).nox (defBody sInOrder) t} :=
 ⟨_, (pss_cons (ps_for PassesOwn.never rfl (pi_zip (by rfl) T.n_zip (pa_cons (pv 1) (pa_cons (pe_slice sl_list (pv 1) (po_some pe_int) po_none) pa_nil))) (pg_tup rfl (pgs_cons (pg_name (i := 3) scInOrder.nd rfl (.inl rfl)) (pgs_cons (pg_name (i := 4) scInOrder.nd rfl (.inl rfl)) pgs_nil)))
 (pss_one (ps_if (pt_cmpR op_le (pe_op op_mul (pv 2) (pe_op op_sub (pe_dget (hu_of hr) (pv 0) (pv 4) (fun _ _ => rfl)) (pe_dget (hu_of hr) (pv 0) (pv 3) (fun _ _ => rfl)))) pe_int (nomark _))
 (pss_one (ps_ret pe_bl))
 pss_nil)))
 (pss_one (ps_ret pe_bl)))⟩
noncomputable def derAreCommon (T : TX K mg) {spIsValue : Sp} (GIsValue : FnOk P w K mg base CX0 1 T.fIsValue T.dIsValue ["thing"] spIsValue) (hr : Room 1 (A.deeper (envOfC "are_common" (defScope sAreCommon) s.heap.objs.size T.fAreCommon cdv))) : {t : TS // PSs (cxOf CX0 P w K mg base ["old", "new", "thing", "item"] "are_common" (defScope sAreCommon) T.fAreCommon cdv A outer s H E).nox (defBody sAreCommon) t} :=
 ⟨_, (pss_cons (ps_if (pt_not (pt_val (pe_callB (r := rIsi K) call_isi (by rfl) T.n_isinstance boot_isinstance (pa_cons (pv 2) (pa_cons (pe_bltn (v := .ty "list") (by rfl) T.n_list boot_list rfl) pa_nil)))))
 (pss_one (ps_ret pe_bl))
 pss_nil)
 (pss_one (ps_ret (pe_callB (r := rAll K) (cr_all rfl) (by rfl) T.n_all boot_all (pa_cons (pe_lc (own := [("item", 3)]) (g := gName 3) (tt := tYes) rfl scAreCommon.nd (pi_list (pv 2)) (blkOk_by (own := [("item", 3)]) (N := ["old", "new", "thing", "item"]) (sc := defScope sAreCommon) (by decide +kernel)) (fun _ _ _ _ _ => by exact (pg_name (i := 3) scAreCommon.nd rfl (.inl rfl))) (fun _ _ _ _ _ => pts_nil) (fun _ _ _ _ _ => (pe_and (pe_call GIsValue (hr.mono (by decide)) (by rfl) T.gIsValue T.FIsValue.kp T.bIsValue .nil pass0 (pa_cons (pv 3) pa_nil)) (pe_and (pe_cmpR (r := rIn K false) op_in_seq (pv 3) (pv 0) (by rfl)) (pe_one (pe_cmpR (r := rIn K false) op_in_seq (pv 3) (pv 1) (by rfl))))))) pa_nil)))))⟩
noncomputable def derIsRising (T : TX K mg) {spInOrder : Sp} (GInOrder : FnOk P w K mg base CX0 1 T.fInOrder T.dInOrder ["places", "row", "sign"] spInOrder) {spPlacesOf : Sp} (GPlacesOf : FnOk P w K mg base CX0 1 T.fPlacesOf T.dPlacesOf ["row"] spPlacesOf) {spAreCommon : Sp} (GAreCommon : FnOk P w K mg base CX0 2 T.fAreCommon T.dAreCommon ["old", "new", "thing"] spAreCommon) (hr : Room 2 (A.deeper (envOfC "is_rising" (defScope sIsRising) s.heap.objs.size T.fIsRising cdv))) : {t : TS // PSs (cxOf CX0 P w K mg base ["old", "new", "thing"] "is_rising" (defScope sIsRising) T.fIsRising cdv A outer s H E).nox (defBody sIsRising) t} :=
 ⟨_, (pss_cons (ps_if (pt_not (pt_val (pe_call GAreCommon (hr.mono (by decide)) (by rfl) T.gAreCommon T.FAreCommon.kp T.bAreCommon .nil pass0 (pa_cons (pv 0) (pa_cons (pv 1) (pa_cons (pv 2) pa_nil))))))
 (pss_one (ps_ret pe_bl))
 pss_nil)
 (pss_one (ps_ret (pe_and (pe_call GInOrder (hr.mono (by decide)) (by rfl) T.gInOrder T.FInOrder.kp T.bInOrder .nil pass0 (pa_cons (pe_call GPlacesOf (hr.mono (by decide)) (by rfl) T.gPlacesOf T.FPlacesOf.kp T.bPlacesOf .nil pass0 (pa_cons (pv 0) pa_nil)) (pa_cons (pv 2) (pa_cons pe_int pa_nil)))) (pe_one (pe_call GInOrder (hr.mono (by decide)) (by rfl) T.gInOrder T.FInOrder.kp T.bInOrder .nil pass0 (pa_cons (pe_call GPlacesOf (hr.mono (by decide)) (by rfl) T.gPlacesOf T.FPlacesOf.kp T.bPlacesOf .nil pass0 (pa_cons (pv 1) pa_nil)) (pa_cons (pv 2) (pa_cons pe_int pa_nil)))))))))⟩
noncomputable def derIsFalling (T : TX K mg) {spInOrder : Sp} (GInOrder : FnOk P w K mg base CX0 1 T.fInOrder T.dInOrder ["places", "row", "sign"] spInOrder) {spAreCommon : Sp} (GAreCommon : FnOk P w K mg base CX0 2 T.fAreCommon T.dAreCommon ["old", "new", "thing"] spAreCommon) {spPlacesOf : Sp} (GPlacesOf : FnOk P w K mg base CX0 1 T.fPlacesOf T.dPlacesOf ["row"] spPlacesOf) (hr : Room 2 (A.deeper (envOfC "is_falling" (defScope sIsFalling) s.heap.objs.size T.fIsFalling cdv))) : {t : TS // PSs (cxOf CX0 P w K mg base ["old", "new", "thing", "elder", "younger", "met", "row", "value"] "is_falling" (defScope sIsFalling) T.fIsFalling cdv A outer s H E).nox (defBody sIsFalling) t} :=
 ⟨_, (pss_cons (ps_if (pt_not (pt_val (pe_callB (r := rIsi K) call_isi (by rfl) T.n_isinstance boot_isinstance (pa_cons (pv 2) (pa_cons (pe_bltn (v := .ty "list") (by rfl) T.n_list boot_list rfl) pa_nil)))))
 (pss_one (ps_ret pe_bl))
 pss_nil)
 (pss_cons (ps_set (i := 3) scIsFalling.nd rfl (.inl rfl) (pe_call GPlacesOf (hr.mono (by decide)) (by rfl) T.gPlacesOf T.FPlacesOf.kp T.bPlacesOf .nil pass0 (pa_cons (pv 0) pa_nil)))
 (pss_cons (ps_set (i := 4) scIsFalling.nd rfl (.inr rfl) (pe_call GPlacesOf (hr.mono (by decide)) (by rfl) T.gPlacesOf T.FPlacesOf.kp T.bPlacesOf .nil pass0 (pa_cons (pv 1) pa_nil)))
 (pss_cons (ps_set (i := 5) scIsFalling.nd rfl (.inl rfl) pe_dnewK)
 (pss_cons (ps_for PassesOwn.never rfl (pi_list (pv 2)) (pg_name (i := 6) scIsFalling.nd rfl (.inl rfl))
 (pss_cons (ps_if (PW.pt (pw_or (pt_not (pt_val (pe_call GAreCommon (hr.mono (by decide)) (by rfl) T.gAreCommon T.FAreCommon.kp T.bAreCommon .nil pass0 (pa_cons (pv 0) (pa_cons (pv 1) (pa_cons (pv 6) pa_nil)))))) (pw_or1 (pt_cmpR op_eq (pe_callB (r := qLen K) c_len (by rfl) T.n_len boot_len (pa_cons (pv 6) pa_nil)) pe_int (nomark _)))))
 (pss_one (ps_ret pe_bl))
 pss_nil)
 (pss_cons (ps_if (PW.pt (pw_or (pt_not (pt_val (pe_call GInOrder (hr.mono (by decide)) (by rfl) T.gInOrder T.FInOrder.kp T.bInOrder .nil pass0 (pa_cons (pv 3) (pa_cons (pv 6) (pa_cons pe_int pa_nil)))))) (pw_or1 (pt_not (pt_val (pe_call GInOrder (hr.mono (by decide)) (by rfl) T.gInOrder T.FInOrder.kp T.bInOrder .nil pass0 (pa_cons (pv 4) (pa_cons (pv 6) (pa_cons (pe_un un_neg pe_int) pa_nil)))))))))
 (pss_one (ps_ret pe_bl))
 pss_nil)
 (pss_one (ps_for PassesOwn.never rfl (pi_list (pv 6)) (pg_name (i := 7) scIsFalling.nd rfl (.inl rfl))
 (pss_cons (ps_if (pt_cmp (pc_din (hu_of hr) (pv 7) (pv 5)))
 (pss_one (ps_ret pe_bl))
 pss_nil)
 (pss_one (ps_dput (hu_of hr) (pv 5) (pv 7) pe_bl rfl))))))))
 (pss_one (ps_ret (pe_cmpR op_eq (pe_callB call_lenD (by rfl) T.n_len boot_len (pa_cons (pv 5) pa_nil)) (pe_callB (r := qLen K) c_len (by rfl) T.n_len boot_len (pa_cons (pe_lc (own := [("value", 7)]) (g := gName 7) (tt := _) rfl scIsFalling.nd (pi_list (pv 0)) (blkOk_by (own := [("value", 7)]) (N := ["old", "new", "thing", "elder", "younger", "met", "row", "value"]) (sc := defScope sIsFalling) (by decide +kernel)) (fun _ _ _ _ _ => by exact (pg_name (i := 7) scIsFalling.nd rfl (.inl rfl))) (fun _ _ _ _ _ => (pts_one (pt_cmp (pc_din (hu_of hr) (pv 7) (pv 4))))) (fun _ _ _ _ _ => (pv 7))) pa_nil)) (nomark _)))))))))⟩
noncomputable def derLTake (T : TX K mg) (hr : Room 0 (A.deeper (envOfC "_law_take" (defScope sLTake) s.heap.objs.size T.fLTake cdv))) : {t : TS // PSs (cxOf CX0 P w K mg base ["_law_bag", "_law_many", "_law_cells", "_law_digit", "_law_cell", "_law_number"] "_law_take" (defScope sLTake) T.fLTake cdv A outer s H E).nox (defBody sLTake) t} :=
 ⟨_, (pss_cons (ps_set (i := 2) scLTake.nd rfl (.inl rfl) (pe_ix (r := rIxL K) ix_list (pv 0) pe_int (fun _ _ => rfl)))
 (pss_cons (ps_asg (pe_op op_add (pe_ix (r := rIxL K) ix_list (pv 0) pe_int (fun _ _ => rfl)) pe_int) (pg_sub (pv 0) pe_int set_list))
 (pss_cons (ps_if (PW.pt (pw_and (pt_cmpR op_eq (pe_ix (r := rIxL K) ix_list (pv 0) pe_int (fun _ _ => rfl)) pe_int (nomark _)) (pw_and (pt_cmpR op_lt (pe_ix (r := rIxL K) ix_list (pv 0) pe_int (fun _ _ => rfl)) (pe_callB (r := qLen K) c_len (by rfl) T.n_len boot_len (pa_cons (pv 2) pa_nil)) (nomark _)) (pw_and1 (pt_cmpR op_ge (pe_ix (r := rIxL K) ix_list (pv 2) (pe_ix (r := rIxL K) ix_list (pv 0) pe_int (fun _ _ => rfl)) (fun _ _ => rfl)) (pe_op op_pow pe_int pe_int) (nomark _))))))
 (pss_cons (ps_asg (pe_ix (r := rIxL K) ix_list (pv 2) (pe_ix (r := rIxL K) ix_list (pv 0) pe_int (fun _ _ => rfl)) (fun _ _ => rfl)) (pg_sub (pv 0) pe_int set_list))
 (pss_one (ps_asg (pe_op op_add (pe_ix (r := rIxL K) ix_list (pv 0) pe_int (fun _ _ => rfl)) pe_int) (pg_sub (pv 0) pe_int set_list))))
 pss_nil)
 (pss_cons (ps_if (pt_cmpR op_gt (pe_ix (r := rIxL K) ix_list (pv 0) pe_int (fun _ _ => rfl)) pe_int (nomark _))
 (pss_cons (ps_set (i := 3) scLTake.nd rfl (.inl rfl) (pe_op op_mod (pe_callTy (r := qInt1) c_int (by rfl) T.n_int boot_int (pa_cons (pe_ix (r := rIxL K) ix_list (pv 0) pe_int (fun _ _ => rfl)) pa_nil)) (pv 1)))
 (pss_cons (ps_asg (pe_op op_fdivW (pe_callTy (r := qInt1) c_int (by rfl) T.n_int boot_int (pa_cons (pe_ix (r := rIxL K) ix_list (pv 0) pe_int (fun _ _ => rfl)) pa_nil)) (pv 1)) (pg_sub (pv 0) pe_int set_list))
 (pss_one (ps_ret (pv 3)))))
 pss_nil)
 (pss_cons (ps_set (i := 4) scLTake.nd rfl (.inl rfl) pe_int)
 (pss_cons (ps_if (pt_cmpR op_gt (pe_callB (r := qLen K) c_len (by rfl) T.n_len boot_len (pa_cons (pv 2) pa_nil)) pe_int (nomark _))
 (pss_cons (ps_set (i := 4) scLTake.nd rfl (.inl rfl) (pe_callTy (r := qInt1) c_int (by rfl) T.n_int boot_int (pa_cons (pe_ix (r := rIxL K) ix_list (pv 2) (pe_op op_mod (pe_callTy (r := qInt1) c_int (by rfl) T.n_int boot_int (pa_cons (pe_ix (r := rIxL K) ix_list (pv 0) pe_int (fun _ _ => rfl)) pa_nil)) (pe_callB (r := qLen K) c_len (by rfl) T.n_len boot_len (pa_cons (pv 2) pa_nil))) (fun _ _ => rfl)) pa_nil)))
 (pss_one (ps_asg (pe_op op_add (pe_ix (r := rIxL K) ix_list (pv 0) pe_int (fun _ _ => rfl)) pe_int) (pg_sub (pv 0) pe_int set_list))))
 pss_nil)
 (pss_cons (ps_set (i := 5) scLTake.nd rfl (.inl rfl) (pe_op op_mod (pe_callTy (r := qInt1) c_int (by rfl) T.n_int boot_int (pa_cons (pe_op op_add (pe_op op_add (pe_op op_add (pv 4) (pe_op op_mul (pe_op op_mul pe_int (pe_ix (r := rIxL K) ix_list (pv 0) pe_int (fun _ _ => rfl))) (pe_ix (r := rIxL K) ix_list (pv 0) pe_int (fun _ _ => rfl)))) (pe_op op_mul pe_int (pe_ix (r := rIxL K) ix_list (pv 0) pe_int (fun _ _ => rfl)))) pe_int) pa_nil)) pe_int))
 (pss_cons (ps_set (i := 5) scLTake.nd rfl (.inl rfl) (pe_op op_mod (pe_callTy (r := qInt1) c_int (by rfl) T.n_int boot_int (pa_cons (pe_op op_mul (pv 5) (pe_op op_add (pe_op op_fdiv (pv 5) pe_int) pe_int)) pa_nil)) pe_int))
 (pss_cons (ps_set (i := 5) scLTake.nd rfl (.inl rfl) (pe_op op_mod (pe_callTy (r := qInt1) c_int (by rfl) T.n_int boot_int (pa_cons (pe_op op_mul (pv 5) (pe_op op_add (pe_op op_fdiv (pv 5) pe_int) pe_int)) pa_nil)) pe_int))
 (pss_one (ps_ret (pe_op op_mod (pe_callTy (r := qInt1) c_int (by rfl) T.n_int boot_int (pa_cons (pe_op op_fdiv (pv 5) pe_int) pa_nil)) (pv 1)))))))))))))⟩
noncomputable def derLValue (T : TX K mg) {spLTake : Sp} (GLTake : FnOk P w K mg base CX0 1 T.fLTake T.dLTake ["_law_bag", "_law_many"] spLTake) (hr : Room 1 (A.deeper (envOfC "_law_value" (defScope sLValue) s.heap.objs.size T.fLValue cdv))) : {t : TS // PSs (cxOf CX0 P w K mg base ["_law_bag", "_law_k", "_law_number"] "_law_value" (defScope sLValue) T.fLValue cdv A outer s H E).nox (defBody sLValue) t} :=
 ⟨_, (pss_cons (ps_set (i := 2) scLValue.nd rfl (.inl rfl) (pe_op op_add (pe_op op_mul (pe_call GLTake (hr.mono (by decide)) (by rfl) T.gLTake T.FLTake.kp T.bLTake .nil pass0 (pa_cons (pv 0) (pa_cons (pe_op op_pow pe_int pe_int) pa_nil))) pe_int) (pv 1)))
 (pss_cons (ps_if (pt_cmpR op_gt (pe_call GLTake (hr.mono (by decide)) (by rfl) T.gLTake T.FLTake.kp T.bLTake .nil pass0 (pa_cons (pv 0) (pa_cons pe_int pa_nil))) pe_int (nomark _))
 (pss_one (ps_set (i := 2) scLValue.nd rfl (.inl rfl) (pe_un un_neg (pv 2))))
 pss_nil)
 (pss_cons (ps_if (pt_cmpR op_eq (pe_call GLTake (hr.mono (by decide)) (by rfl) T.gLTake T.FLTake.kp T.bLTake .nil pass0 (pa_cons (pv 0) (pa_cons pe_int pa_nil))) pe_int (nomark _))
 (pss_one (ps_ret (pe_callTy call_str_int (by rfl) T.n_str boot_str (pa_cons (pv 2) pa_nil))))
 pss_nil)
 (pss_one (ps_ret (pv 2))))))⟩
noncomputable def derLPutIn (T : TX K mg) {spLTake : Sp} (GLTake : FnOk P w K mg base CX0 1 T.fLTake T.dLTake ["_law_bag", "_law_many"] spLTake) (hr : Room 1 (A.deeper (envOfC "_law_put_in" (defScope sLPutIn) s.heap.objs.size T.fLPutIn cdv))) : {t : TS // PSs (cxOf CX0 P w K mg base ["_law_bag", "_law_row", "_law_value_here", "_law_shape", "_law_at"] "_law_put_in" (defScope sLPutIn) T.fLPutIn cdv A outer s H E).nox (defBody sLPutIn) t} :=
 ⟨_, (pss_cons (ps_set (i := 4) scLPutIn.nd rfl (.inl rfl) (pe_call GLTake (hr.mono (by decide)) (by rfl) T.gLTake T.FLTake.kp T.bLTake .nil pass0 (pa_cons (pv 0) (pa_cons (pe_op op_add (pe_callB (r := qLen K) c_len (by rfl) T.n_len boot_len (pa_cons (pv 1) pa_nil)) pe_int) pa_nil))))
 (pss_cons (ps_if (pt_cmpR op_eq (pv 3) pe_int (nomark _))
 (pss_one (ps_set (i := 4) scLPutIn.nd rfl (.inl rfl) (pe_callB (r := qLen K) c_len (by rfl) T.n_len boot_len (pa_cons (pv 1) pa_nil))))
 pss_nil)
 (pss_cons (ps_if (pt_cmpR op_eq (pv 3) pe_int (nomark _))
 (pss_one (ps_set (i := 4) scLPutIn.nd rfl (.inl rfl) pe_int))
 pss_nil)
 (pss_one (ps_expr (pe_bm PySem.F.plainAttrs_list PySem.F.slot_list_insert PySem.F.type_list_insert mt_insert (pv 1) (pa_cons (pv 4) (pa_cons (pv 2) pa_nil))))))))⟩
noncomputable def derLRows (T : TX K mg) {spLPutIn : Sp} (GLPutIn : FnOk P w K mg base CX0 2 T.fLPutIn T.dLPutIn ["_law_bag", "_law_row", "_law_value_here", "_law_shape"] spLPutIn) {spLTake : Sp} (GLTake : FnOk P w K mg base CX0 1 T.fLTake T.dLTake ["_law_bag", "_law_many"] spLTake) {spLValue : Sp} (GLValue : FnOk P w K mg base CX0 2 T.fLValue T.dLValue ["_law_bag", "_law_k"] spLValue) (hr : Room 2 (A.deeper (envOfC "_law_rows" (defScope sLRows) s.heap.objs.size T.fLRows cdv))) : {t : TS // PSs (cxOf CX0 P w K mg base ["_law_bag", "_law_many", "_law_shape", "_law_twin", "_law_rows_here", "_law_k", "_law_value_here", "_law_where"] "_law_rows" (defScope sLRows) T.fLRows cdv A outer s H E).nox (defBody sLRows) t} :=
 ⟨_, (pss_cons (ps_set (i := 1) scLRows.nd rfl (.inl rfl) (pe_call GLTake (hr.mono (by decide)) (by rfl) T.gLTake T.FLTake.kp T.bLTake .nil pass0 (pa_cons (pv 0) (pa_cons pe_int pa_nil))))
 (pss_cons (ps_if (pt_cmpR op_eq (pe_call GLTake (hr.mono (by decide)) (by rfl) T.gLTake T.FLTake.kp T.bLTake .nil pass0 (pa_cons (pv 0) (pa_cons pe_int pa_nil))) pe_int (nomark _))
 (pss_one (ps_set (i := 1) scLRows.nd rfl (.inl rfl) (pe_op op_add (pv 1) pe_int)))
 pss_nil)
 (pss_cons (ps_set (i := 2) scLRows.nd rfl (.inl rfl) (pe_call GLTake (hr.mono (by decide)) (by rfl) T.gLTake T.FLTake.kp T.bLTake .nil pass0 (pa_cons (pv 0) (pa_cons pe_int pa_nil))))
 (pss_cons (ps_set (i := 3) scLRows.nd rfl (.inl rfl) (pe_call GLTake (hr.mono (by decide)) (by rfl) T.gLTake T.FLTake.kp T.bLTake .nil pass0 (pa_cons (pv 0) (pa_cons pe_int pa_nil))))
 (pss_cons (ps_set (i := 4) scLRows.nd rfl (.inl rfl) (pe_lst (pa_cons (pe_lst pa_nil) (pa_cons (pe_lst pa_nil) pa_nil))))
 (pss_cons (ps_for PassesOwn.never rfl (pi_range1 (by rfl) T.n_range (pa_cons (pv 1) pa_nil)) (pg_name (i := 5) scLRows.nd rfl (.inl rfl))
 (pss_cons (ps_set (i := 6) scLRows.nd rfl (.inl rfl) (pe_call GLValue (hr.mono (by decide)) (by rfl) T.gLValue T.FLValue.kp T.bLValue .nil pass0 (pa_cons (pv 0) (pa_cons (pv 5) pa_nil))))
 (pss_cons (ps_set (i := 7) scLRows.nd rfl (.inl rfl) (pe_call GLTake (hr.mono (by decide)) (by rfl) T.gLTake T.FLTake.kp T.bLTake .nil pass0 (pa_cons (pv 0) (pa_cons pe_int pa_nil))))
 (pss_cons (ps_if (pt_cmpR op_ne (pv 7) pe_int (nomark _))
 (pss_one (ps_expr (pe_call GLPutIn (hr.mono (by decide)) (by rfl) T.gLPutIn T.FLPutIn.kp T.bLPutIn .nil pass0 (pa_cons (pv 0) (pa_cons (pe_ix (r := rIxL K) ix_list (pv 4) pe_int (fun _ _ => rfl)) (pa_cons (pv 6) (pa_cons pe_int pa_nil)))))))
 pss_nil)
 (pss_cons (ps_if (pt_cmpR op_ne (pv 7) pe_int (nomark _))
 (pss_one (ps_expr (pe_call GLPutIn (hr.mono (by decide)) (by rfl) T.gLPutIn T.FLPutIn.kp T.bLPutIn .nil pass0 (pa_cons (pv 0) (pa_cons (pe_ix (r := rIxL K) ix_list (pv 4) pe_int (fun _ _ => rfl)) (pa_cons (pv 6) (pa_cons (pv 2) pa_nil)))))))
 pss_nil)
 (pss_one (ps_if (PW.pt (pw_and (pt_cmpR op_eq (pv 3) pe_int (nomark _)) (pw_and (pt_cmpR op_lt (pv 5) pe_int (nomark _)) (pw_and1 (pt_not (pt_val (pe_callB (r := rIsi K) call_isi (by rfl) T.n_isinstance boot_isinstance (pa_cons (pv 6) (pa_cons (pe_bltn (v := .ty "str") (by rfl) T.n_str boot_str rfl) pa_nil)))))))))
 (pss_one (ps_expr (pe_call GLPutIn (hr.mono (by decide)) (by rfl) T.gLPutIn T.FLPutIn.kp T.bLPutIn .nil pass0 (pa_cons (pv 0) (pa_cons (pe_ix (r := rIxL K) ix_list (pv 4) (pe_op op_mod (pv 7) pe_int) (fun _ _ => rfl)) (pa_cons (pe_callTy call_str_int (by rfl) T.n_str boot_str (pa_cons (pv 6) pa_nil)) (pa_cons pe_int pa_nil)))))))
 pss_nil)))))))
 (pss_one (ps_ret (pv 4)))))))))⟩
noncomputable def derLPlace (T : TX K mg) (hr : Room 0 (A.deeper (envOfC "_law_place" (defScope sLPlace) s.heap.objs.size T.fLPlace cdv))) : {t : TS // PSs (cxOf CX0 P w K mg base ["_law_row", "_law_value_here", "_law_k"] "_law_place" (defScope sLPlace) T.fLPlace cdv A outer s H E).nox (defBody sLPlace) t} :=
 ⟨_, (pss_cons (ps_for PassesOwn.never rfl (pi_range1 (by rfl) T.n_range (pa_cons (pe_callB (r := qLen K) c_len (by rfl) T.n_len boot_len (pa_cons (pv 0) pa_nil)) pa_nil)) (pg_name (i := 2) scLPlace.nd rfl (.inl rfl))
 (pss_one (ps_if (PW.pt (pw_and (pt_cmpR op_eq (pe_callB (r := rIsi K) call_isi (by rfl) T.n_isinstance boot_isinstance (pa_cons (pe_ix (r := rIxL K) ix_list (pv 0) (pv 2) (fun _ _ => rfl)) (pa_cons (pe_bltn (v := .ty "str") (by rfl) T.n_str boot_str rfl) pa_nil))) (pe_callB (r := rIsi K) call_isi (by rfl) T.n_isinstance boot_isinstance (pa_cons (pv 1) (pa_cons (pe_bltn (v := .ty "str") (by rfl) T.n_str boot_str rfl) pa_nil))) (nomark _)) (pw_and1 (pt_cmpR op_eq (pe_ix (r := rIxL K) ix_list (pv 0) (pv 2) (fun _ _ => rfl)) (pv 1) (nomark _)))))
 (pss_one (ps_ret (pv 2)))
 pss_nil)))
 (pss_one (ps_ret (pe_un un_neg pe_int))))⟩
noncomputable def derLIsValue (T : TX K mg) (hr : Room 0 (A.deeper (envOfC "_law_is_value" (defScope sLIsValue) s.heap.objs.size T.fLIsValue cdv))) : {t : TS // PSs (cxOf CX0 P w K mg base ["_law_value_here"] "_law_is_value" (defScope sLIsValue) T.fLIsValue cdv A outer s H E).nox (defBody sLIsValue) t} :=
 ⟨_, (pss_one (ps_ret (pe_or (pe_callB (r := rIsi K) call_isi (by rfl) T.n_isinstance boot_isinstance (pa_cons (pv 0) (pa_cons (pe_bltn (v := .ty "str") (by rfl) T.n_str boot_str rfl) pa_nil))) (pe_one (pe_and (pe_callB (r := rIsi K) call_isi (by rfl) T.n_isinstance boot_isinstance (pa_cons (pv 0) (pa_cons (pe_bltn (v := .ty "int") (by rfl) T.n_int boot_int rfl) pa_nil))) (pe_one (pe_not (pe_callB (r := rIsi K) call_isi (by rfl) T.n_isinstance boot_isinstance (pa_cons (pv 0) (pa_cons (pe_bltn (v := .ty "bool") (by rfl) T.n_bool boot_bool rfl) pa_nil))))))))))⟩
noncomputable def derLPlaces (T : TX K mg) {spLPlace : Sp} (GLPlace : FnOk P w K mg base CX0 1 T.fLPlace T.dLPlace ["_law_row", "_law_value_here"] spLPlace) {spLIsValue : Sp} (GLIsValue : FnOk P w K mg base CX0 1 T.fLIsValue T.dLIsValue ["_law_value_here"] spLIsValue) (hr : Room 1 (A.deeper (envOfC "_law_places" (defScope sLPlaces) s.heap.objs.size T.fLPlaces cdv))) : {t : TS // PSs (cxOf CX0 P w K mg base ["_law_old", "_law_new", "_law_row", "_law_found", "_law_value_here"] "_law_places" (defScope sLPlaces) T.fLPlaces cdv A outer s H E).nox (defBody sLPlaces) t} :=
 ⟨_, (pss_cons (ps_if (pt_not (pt_val (pe_callB (r := rIsi K) call_isi (by rfl) T.n_isinstance boot_isinstance (pa_cons (pv 2) (pa_cons (pe_bltn (v := .ty "list") (by rfl) T.n_list boot_list rfl) pa_nil)))))
 (pss_one (ps_ret pe_non))
 pss_nil)
 (pss_cons (ps_set (i := 3) scLPlaces.nd rfl (.inl rfl) (pe_lst pa_nil))
 (pss_cons (ps_for PassesOwn.never rfl (pi_list (pv 2)) (pg_name (i := 4) scLPlaces.nd rfl (.inl rfl))
 (pss_cons (ps_if (pt_not (pt_val (pe_call GLIsValue (hr.mono (by decide)) (by rfl) T.gLIsValue T.FLIsValue.kp T.bLIsValue .nil pass0 (pa_cons (pv 4) pa_nil))))
 (pss_one (ps_ret pe_non))
 pss_nil)
 (pss_cons (ps_expr (pe_bm PySem.F.plainAttrs_list PySem.F.slot_list_append PySem.F.type_list_append mt_append (pv 3) (pa_cons (pe_tup (pa_cons (pe_call GLPlace (hr.mono (by decide)) (by rfl) T.gLPlace T.FLPlace.kp T.bLPlace .nil pass0 (pa_cons (pv 0) (pa_cons (pv 4) pa_nil))) (pa_cons (pe_call GLPlace (hr.mono (by decide)) (by rfl) T.gLPlace T.FLPlace.kp T.bLPlace .nil pass0 (pa_cons (pv 1) (pa_cons (pv 4) pa_nil))) pa_nil))) pa_nil)))
 (pss_one (ps_if (PW.pt (pw_or (pt_cmpR op_lt (pe_ix (r := rIxT K) ix_tup (pe_ix (r := rIxL K) ix_list (pv 3) (pe_un un_neg pe_int) (fun _ _ => rfl)) pe_int (fun _ _ => rfl)) pe_int (nomark _)) (pw_or1 (pt_cmpR op_lt (pe_ix (r := rIxT K) ix_tup (pe_ix (r := rIxL K) ix_list (pv 3) (pe_un un_neg pe_int) (fun _ _ => rfl)) pe_int (fun _ _ => rfl)) pe_int (nomark _)))))
 (pss_one (ps_ret pe_non))
 pss_nil)))))
 (pss_one (ps_ret (pv 3))))))⟩
noncomputable def derLGoes (T : TX K mg) (hr : Room 0 (A.deeper (envOfC "_law_goes" (defScope sLGoes) s.heap.objs.size T.fLGoes cdv))) : {t : TS // PSs (cxOf CX0 P w K mg base ["_law_places_here", "_law_sign", "_law_k"] "_law_goes" (defScope sLGoes) T.fLGoes cdv A outer s H E).nox (defBody sLGoes) t} :=
 ⟨_, (pss_cons (ps_if (pt_cmpR op_isN (pv 0) pe_non (nomark _))
 (pss_one (ps_ret pe_bl))
 pss_nil)
 (pss_cons (ps_for PassesOwn.never rfl (pi_range2 (by rfl) T.n_range (pa_cons pe_int (pa_cons (pe_callB (r := qLen K) c_len (by rfl) T.n_len boot_len (pa_cons (pv 0) pa_nil)) pa_nil))) (pg_name (i := 2) scLGoes.nd rfl (.inl rfl))
 (pss_cons (ps_if (pt_cmpR op_le (pe_ix (r := rIxT K) ix_tup (pe_ix (r := rIxL K) ix_list (pv 0) (pv 2) (fun _ _ => rfl)) pe_int (fun _ _ => rfl)) (pe_ix (r := rIxT K) ix_tup (pe_ix (r := rIxL K) ix_list (pv 0) (pe_op op_sub (pv 2) pe_int) (fun _ _ => rfl)) pe_int (fun _ _ => rfl)) (nomark _))
 (pss_one (ps_ret pe_bl))
 pss_nil)
 (pss_one (ps_if (pt_cmpR op_le (pe_op op_mul (pv 1) (pe_op op_sub (pe_ix (r := rIxT K) ix_tup (pe_ix (r := rIxL K) ix_list (pv 0) (pv 2) (fun _ _ => rfl)) pe_int (fun _ _ => rfl)) (pe_ix (r := rIxT K) ix_tup (pe_ix (r := rIxL K) ix_list (pv 0) (pe_op op_sub (pv 2) pe_int) (fun _ _ => rfl)) pe_int (fun _ _ => rfl)))) pe_int (nomark _))
 (pss_one (ps_ret pe_bl))
 pss_nil))))
 (pss_one (ps_ret pe_bl))))⟩
noncomputable def derLBoth (T : TX K mg) {spLGoes : Sp} (GLGoes : FnOk P w K mg base CX0 1 T.fLGoes T.dLGoes ["_law_places_here", "_law_sign"] spLGoes) {spLPlaces : Sp} (GLPlaces : FnOk P w K mg base CX0 2 T.fLPlaces T.dLPlaces ["_law_old", "_law_new", "_law_row"] spLPlaces) (hr : Room 2 (A.deeper (envOfC "_law_both" (defScope sLBoth) s.heap.objs.size T.fLBoth cdv))) : {t : TS // PSs (cxOf CX0 P w K mg base ["_law_old", "_law_new", "_law_common", "_law_up", "_law_down", "_law_met", "_law_row", "_law_places_here", "_law_place_here"] "_law_both" (defScope sLBoth) T.fLBoth cdv A outer s H E).nox (defBody sLBoth) t} :=
 ⟨_, (pss_cons (ps_if (pt_not (pt_val (pe_call GLGoes (hr.mono (by decide)) (by rfl) T.gLGoes T.FLGoes.kp T.bLGoes .nil pass0 (pa_cons (pe_call GLPlaces (hr.mono (by decide)) (by rfl) T.gLPlaces T.FLPlaces.kp T.bLPlaces .nil pass0 (pa_cons (pv 0) (pa_cons (pv 1) (pa_cons (pv 3) pa_nil)))) (pa_cons pe_int pa_nil)))))
 (pss_one (ps_ret pe_bl))
 pss_nil)
 (pss_cons (ps_if (PW.pt (pw_or (pt_not (pt_val (pe_callB (r := rIsi K) call_isi (by rfl) T.n_isinstance boot_isinstance (pa_cons (pv 4) (pa_cons (pe_bltn (v := .ty "list") (by rfl) T.n_list boot_list rfl) pa_nil))))) (pw_or1 (pt_cmpR op_ne (pe_callB (r := qLen K) c_len (by rfl) T.n_len boot_len (pa_cons (pv 4) pa_nil)) (pe_callB (r := qLen K) c_len (by rfl) T.n_len boot_len (pa_cons (pv 3) pa_nil)) (nomark _)))))
 (pss_one (ps_ret pe_bl))
 pss_nil)
 (pss_cons (ps_set (i := 5) scLBoth.nd rfl (.inl rfl) (pe_lst pa_nil))
 (pss_cons (ps_for PassesOwn.never rfl (pi_list (pv 4)) (pg_name (i := 6) scLBoth.nd rfl (.inl rfl))
 (pss_cons (ps_set (i := 7) scLBoth.nd rfl (.inl rfl) (pe_call GLPlaces (hr.mono (by decide)) (by rfl) T.gLPlaces T.FLPlaces.kp T.bLPlaces .nil pass0 (pa_cons (pv 0) (pa_cons (pv 1) (pa_cons (pv 6) pa_nil)))))
 (pss_cons (ps_if (PW.pt (pw_or (pt_not (pt_val (pe_call GLGoes (hr.mono (by decide)) (by rfl) T.gLGoes T.FLGoes.kp T.bLGoes .nil pass0 (pa_cons (pv 7) (pa_cons (pe_un un_neg pe_int) pa_nil))))) (pw_or1 (pt_cmpR op_eq (pe_callB (r := qLen K) c_len (by rfl) T.n_len boot_len (pa_cons (pv 7) pa_nil)) pe_int (nomark _)))))
 (pss_one (ps_ret pe_bl))
 pss_nil)
 (pss_one (ps_for PassesOwn.never rfl (pi_list (pv 7)) (pg_name (i := 8) scLBoth.nd rfl (.inl rfl))
 (pss_cons (ps_if (pt_cmpR (r := rInD K) (op_inD (hu65 hr)) (pv 8) (pv 5) (by rfl))
 (pss_one (ps_ret pe_bl))
 pss_nil)
 (pss_one (ps_expr (pe_bm PySem.F.plainAttrs_list PySem.F.slot_list_append PySem.F.type_list_append mt_append (pv 5) (pa_cons (pv 8) pa_nil))))))))))
 (pss_one (ps_ret (pe_cmpR op_eq (pe_callB (r := qLen K) c_len (by rfl) T.n_len boot_len (pa_cons (pv 5) pa_nil)) (pv 2) (nomark _))))))))⟩
noncomputable def derLaw (T : TX K mg) {spLBoth : Sp} (GLBoth : FnOk P w K mg base CX0 3 T.fLBoth T.dLBoth ["_law_old", "_law_new", "_law_common", "_law_up", "_law_down"] spLBoth) {spIsFalling : Sp} (GIsFalling : FnOk P w K mg base CX0 3 T.fIsFalling T.dIsFalling ["old", "new", "thing"] spIsFalling) {spIsRising : Sp} (GIsRising : FnOk P w K mg base CX0 3 T.fIsRising T.dIsRising ["old", "new", "thing"] spIsRising) {spFalling : Sp} (GFalling : FnOk P w K mg base CX0 3 T.fFalling T.dFalling ["old", "new"] spFalling) {spRising : Sp} (GRising : FnOk P w K mg base CX0 3 T.fRising T.dRising ["old", "new"] spRising) {spLPlace : Sp} (GLPlace : FnOk P w K mg base CX0 1 T.fLPlace T.dLPlace ["_law_row", "_law_value_here"] spLPlace) {spLRows : Sp} (GLRows : FnOk P w K mg base CX0 3 T.fLRows T.dLRows ["_law_bag"] spLRows) (hr : Room 3 (A.deeper (envOfC "law" (defScope sLaw) s.heap.objs.size T.fLaw cdv))) : {t : TS // PSs (cxOf CX0 P w K mg base ["_law_script", "_law_bag", "_law_rows_here", "_law_old", "_law_new", "_law_passed", "_law_common", "_law_turn", "_law_up", "_law_down", "_law_row", "_law_value_here"] "law" (defScope sLaw) T.fLaw cdv A outer s H E).nox (defBody sLaw) t} :=
 ⟨_, (pss_cons (ps_set (i := 1) scLaw.nd rfl (.inl rfl) (pe_lst (pa_cons (pe_callTy (r := qListOf K) c_list (by rfl) T.n_list boot_list (pa_cons (pv 0) pa_nil)) (pa_cons pe_int (pa_cons pe_int (pa_cons pe_int pa_nil))))))
 (pss_cons (ps_set (i := 2) scLaw.nd rfl (.inl rfl) (pe_call GLRows (hr.mono (by decide)) (by rfl) T.gLRows T.FLRows.kp T.bLRows .nil pass0 (pa_cons (pv 1) pa_nil)))
 (pss_cons (ps_set (i := 3) scLaw.nd rfl (.inl rfl) (pe_ix (r := rIxL K) ix_list (pv 2) pe_int (fun _ _ => rfl)))
 (pss_cons (ps_set (i := 4) scLaw.nd rfl (.inr rfl) (pe_ix (r := rIxL K) ix_list (pv 2) pe_int (fun _ _ => rfl)))
 (pss_cons (ps_set (i := 5) scLaw.nd rfl (.inl rfl) (pe_lst (pa_cons (pe_callTy (r := qListOf K) c_list (by rfl) T.n_list boot_list (pa_cons (pv 3) pa_nil)) (pa_cons (pe_callTy (r := qListOf K) c_list (by rfl) T.n_list boot_list (pa_cons (pv 4) pa_nil)) pa_nil))))
 (pss_cons (ps_set (i := 6) scLaw.nd rfl (.inl rfl) (pe_callB (r := qLen K) c_len (by rfl) T.n_len boot_len (pa_cons (pe_lc (own := [("_law_value_here", 11)]) (g := gName 11) (tt := _) rfl scLaw.nd (pi_list (pv 3)) (blkOk_by (own := [("_law_value_here", 11)]) (N := ["_law_script", "_law_bag", "_law_rows_here", "_law_old", "_law_new", "_law_passed", "_law_common", "_law_turn", "_law_up", "_law_down", "_law_row", "_law_value_here"]) (sc := defScope sLaw) (by decide +kernel)) (fun _ _ _ _ _ => by exact (pg_name (i := 11) scLaw.nd rfl (.inl rfl))) (fun _ _ _ _ _ => (pts_one (pt_cmpR op_ge (pe_call GLPlace (hr.mono (by decide)) (by rfl) T.gLPlace T.FLPlace.kp T.bLPlace .nil pass0 (pa_cons (pv 4) (pa_cons (pv 11) pa_nil))) pe_int (nomark _)))) (fun _ _ _ _ _ => (pv 11))) pa_nil)))
 (pss_cons (ps_for PassesOwn.never rfl (pi_range1 (by rfl) T.n_range (pa_cons pe_int pa_nil)) (pg_name (i := 7) scLaw.nd rfl (.inl rfl))
 (pss_cons (ps_set (i := 8) scLaw.nd rfl (.inl rfl) (pe_call GRising (hr.mono (by decide)) (by rfl) T.gRising T.FRising.kp T.bRising .nil pass0 (pa_cons (pe_ix (r := rIxL K) ix_list (pv 5) pe_int (fun _ _ => rfl)) (pa_cons (pe_ix (r := rIxL K) ix_list (pv 5) pe_int (fun _ _ => rfl)) pa_nil))))
 (pss_cons (ps_set (i := 9) scLaw.nd rfl (.inl rfl) (pe_call GFalling (hr.mono (by decide)) (by rfl) T.gFalling T.FFalling.kp T.bFalling .nil pass0 (pa_cons (pe_ix (r := rIxL K) ix_list (pv 5) pe_int (fun _ _ => rfl)) (pa_cons (pe_ix (r := rIxL K) ix_list (pv 5) pe_int (fun _ _ => rfl)) pa_nil))))
 (pss_cons (ps_if (pt_not (pt_val (pe_call GLBoth (hr.mono (by decide)) (by rfl) T.gLBoth T.FLBoth.kp T.bLBoth .nil pass0 (pa_cons (pv 3) (pa_cons (pv 4) (pa_cons (pv 6) (pa_cons (pv 8) (pa_cons (pv 9) pa_nil))))))))
 (pss_one (ps_ret pe_bl))
 pss_nil)
 (pss_cons (ps_if (pt_cmpR op_notBl (pe_call GIsRising (hr.mono (by decide)) (by rfl) T.gIsRising T.FIsRising.kp T.bIsRising .nil pass0 (pa_cons (pe_ix (r := rIxL K) ix_list (pv 5) pe_int (fun _ _ => rfl)) (pa_cons (pe_ix (r := rIxL K) ix_list (pv 5) pe_int (fun _ _ => rfl)) (pa_cons (pv 8) pa_nil)))) pe_bl (nomark _))
 (pss_one (ps_ret pe_bl))
 pss_nil)
 (pss_cons (ps_if (pt_cmpR op_notBl (pe_call GIsFalling (hr.mono (by decide)) (by rfl) T.gIsFalling T.FIsFalling.kp T.bIsFalling .nil pass0 (pa_cons (pe_ix (r := rIxL K) ix_list (pv 5) pe_int (fun _ _ => rfl)) (pa_cons (pe_ix (r := rIxL K) ix_list (pv 5) pe_int (fun _ _ => rfl)) (pa_cons (pv 9) pa_nil)))) pe_bl (nomark _))
 (pss_one (ps_ret pe_bl))
 pss_nil)
 (pss_cons (ps_if (PW.pt (pw_or (pt_cmpR (op_neD hr.units) (pv 5) (pe_lst (pa_cons (pv 3) (pa_cons (pv 4) pa_nil))) (nomark _)) (pw_or1 (pt_not (pt_val (pe_call GLBoth (hr.mono (by decide)) (by rfl) T.gLBoth T.FLBoth.kp T.bLBoth .nil pass0 (pa_cons (pv 3) (pa_cons (pv 4) (pa_cons (pv 6) (pa_cons (pv 8) (pa_cons (pv 9) pa_nil)))))))))))
 (pss_one (ps_ret pe_bl))
 pss_nil)
 (pss_cons (ps_expr (pe_bm PySem.F.plainAttrs_list PySem.F.slot_list_append PySem.F.type_list_append mt_append (pv 8) (pa_cons pe_str pa_nil)))
 (pss_cons (ps_expr (pe_bm PySem.F.plainAttrs_list PySem.F.slot_list_append PySem.F.type_list_append mt_append (pv 9) (pa_cons (pe_lst (pa_cons pe_str pa_nil)) pa_nil)))
 (pss_one (ps_for PassesOwn.never rfl (pi_list (pv 9)) (pg_name (i := 10) scLaw.nd rfl (.inl rfl))
 (pss_one (ps_expr (pe_bm PySem.F.plainAttrs_list PySem.F.slot_list_append PySem.F.type_list_append mt_append (pv 10) (pa_cons pe_str pa_nil)))))))))))))))
 (pss_one (ps_ret pe_bl)))))))))⟩
end
end Ki

/-! the mathematics of the falling lists: plain Lean -/
namespace M41
variable {α : Type} [DecidableEq α]

def Cons (R : α → α → Prop) (l : List α) : Prop := ∀ i x y, l[i]? = some x → l[i + 1]? = some y → R x y
theorem Cons.nil {R : α → α → Prop} : Cons R [] := fun i x y h _ => by simp at h
theorem Cons.one {R : α → α → Prop} (a : α) : Cons R [a] := fun i x y h h' => by simp at h'
theorem Cons.snoc {R : α → α → Prop} {l : List α} {v : α} (h : Cons R l) (hv : ∀ z, l.getLast? = some z → R z v) : Cons R (l ++ [v]) := fun i x y hx hy => by
  by_cases h1 : i + 1 < l.length
  · rw [List.getElem?_append_left (by omega)] at hx
    rw [List.getElem?_append_left h1] at hy
    exact h i x y hx hy
  · have h2 : i + 1 = l.length := by
      have := (List.getElem?_eq_some_iff.mp hy).1
      simp at this
      omega
    rw [List.getElem?_append_left (by omega)] at hx
    rw [List.getElem?_append_right (by omega), h2, Nat.sub_self] at hy
    have e : v = y := by simpa using hy
    subst e
    refine hv x ?_
    rw [List.getLast?_eq_getElem?, ← hx]
    congr 1
    omega
theorem Cons.rev {R : α → α → Prop} {l : List α} (h : Cons R l) : Cons (fun a b => R b a) l.reverse := fun i x y hx hy => by
  have h1 : i + 1 < l.length := by
    have := (List.getElem?_eq_some_iff.mp hy).1
    simpa using this
  rw [List.getElem?_reverse (by omega)] at hx hy
  refine h (l.length - 1 - (i + 1)) y x hy ?_
  rw [← hx]
  congr 1
  omega
theorem Cons.mono {R S : α → α → Prop} {l : List α} (h : Cons R l) (f : ∀ a b, R a b → S a b) : Cons S l := fun i x y hx hy => f _ _ (h i x y hx hy)

theorem mem_flat {ls : List (List α)} {x : α} : x ∈ ls.flatten ↔ ∃ (j : Nat) (r : List α), ls[j]? = some r ∧ x ∈ r := by
  constructor
  · intro h
    obtain ⟨r, hr, hx⟩ := List.mem_flatten.mp h
    obtain ⟨j, hj⟩ := List.mem_iff_getElem?.mp hr
    exact ⟨j, r, hj, hx⟩
  · rintro ⟨j, r, hj, hx⟩
    exact List.mem_flatten.mpr ⟨r, List.mem_iff_getElem?.mpr ⟨j, hj⟩, hx⟩

theorem flat_set : ∀ {ls : List (List α)} {j : Nat} {r : List α} (v : α), ls[j]? = some r → (ls.set j (r ++ [v])).flatten.Perm (v :: ls.flatten)
  | [], j, r, v, h => by simp at h
  | a :: ls, 0, r, v, h => by
    have e : a = r := by simpa using h
    subst e
    simp only [List.set_cons_zero, List.flatten_cons]
    rw [List.append_assoc]
    exact List.perm_middle
  | a :: ls, j + 1, r, v, h => by
    have h' : ls[j]? = some r := by simpa using h
    simp only [List.set_cons_succ, List.flatten_cons]
    exact ((flat_set v h').append_left a).trans List.perm_middle

/-- the falling lists behind the items `done` of the first list: q, p the places in the first and the second list; C: stands in the second list -/
structure PI (p q : α → Nat) (C : α → Bool) (done : List α) (piles : List (List α)) (bef : α → Option (Option α)) : Prop where
  mem : ∀ x, x ∈ piles.flatten ↔ x ∈ done ∧ C x = true
  nd : piles.flatten.Nodup
  len : piles.flatten.length = (done.filter C).length
  ne : ∀ r, r ∈ piles → r ≠ []
  ord : ∀ r, r ∈ piles → Cons (fun a b => q a < q b ∧ p b < p a) r
  bef : ∀ (j : Nat) r x, piles[j]? = some r → x ∈ r → (j = 0 ∧ bef x = some none) ∨ ∃ (i : Nat) (u : α) (r' : List α), j = i + 1 ∧ piles[i]? = some r' ∧ u ∈ r' ∧ bef x = some (some u) ∧ p u < p x ∧ q u < q x

theorem PI.start (p q : α → Nat) (C : α → Bool) : PI p q C [] [] (fun _ => none) :=
  ⟨fun x => by simp, by simp, by simp, fun r h => by simp at h, fun r h => by simp at h, fun j r x h => by simp at h⟩

theorem PI.skip {p q : α → Nat} {C : α → Bool} {done : List α} {piles : List (List α)} {bef : α → Option (Option α)} (I : PI p q C done piles bef) {v : α} (hv : C v = false) : PI p q C (done ++ [v]) piles bef :=
  ⟨fun x => by
    rw [I.mem]
    constructor
    · rintro ⟨a, b⟩
      exact ⟨List.mem_append_left _ a, b⟩
    · rintro ⟨a, b⟩
      rcases List.mem_append.mp a with a | a
      · exact ⟨a, b⟩
      · simp at a
        subst a
        rw [hv] at b
        exact absurd b Bool.false_ne_true, I.nd, by rw [List.filter_append, List.length_append, I.len]; simp [hv], I.ne, I.ord, I.bef⟩

/-- the turn's new lists -/
def put (piles : List (List α)) (at_ : Nat) (v : α) : List (List α) :=
  match piles[at_]? with
  | none => piles ++ [[v]]
  | some r => piles.set at_ (r ++ [v])

theorem put_len {piles : List (List α)} {at_ : Nat} {v : α} (ha : at_ ≤ piles.length) (j : Nat) (r : List α) (h : (put piles at_ v)[j]? = some r) :
    (j ≠ at_ ∧ piles[j]? = some r) ∨ (j = at_ ∧ ((piles[at_]? = none ∧ r = [v]) ∨ ∃ r0, piles[at_]? = some r0 ∧ r = r0 ++ [v])) := by
  unfold put at h
  cases e : piles[at_]? with
  | none =>
    rw [e] at h
    have hl : piles.length = at_ := by
      have := List.getElem?_eq_none_iff.mp e
      omega
    by_cases hj : j < piles.length
    · simp only [List.getElem?_append_left hj] at h
      exact .inl ⟨by omega, h⟩
    · simp only [List.getElem?_append_right (show piles.length ≤ j by omega)] at h
      have hz : j - piles.length = 0 := by
        have := (List.getElem?_eq_some_iff.mp h).1
        simp at this
        omega
      rw [hz] at h
      simp at h
      exact .inr ⟨by omega, .inl ⟨rfl, h.symm⟩⟩
  | some r0 =>
    rw [e] at h
    simp only at h
    have hlt := (List.getElem?_eq_some_iff.mp e).1
    by_cases hj : j = at_
    · subst hj
      rw [List.getElem?_set_self hlt] at h
      exact .inr ⟨rfl, .inr ⟨r0, rfl, (Option.some.inj h).symm⟩⟩
    · rw [List.getElem?_set_ne (Ne.symm hj)] at h
      exact .inl ⟨hj, h⟩
theorem put_old {piles : List (List α)} {at_ : Nat} {v : α} {j : Nat} {r : List α} (h : piles[j]? = some r) : ∃ r', (put piles at_ v)[j]? = some r' ∧ (∀ x, x ∈ r → x ∈ r') ∧ (j ≠ at_ → r' = r) := by
  unfold put
  have hlt := (List.getElem?_eq_some_iff.mp h).1
  cases e : piles[at_]? with
  | none => exact ⟨r, by simp only [List.getElem?_append_left hlt]; exact h, fun _ z => z, fun _ => rfl⟩
  | some r0 =>
    simp only
    by_cases hj : j = at_
    · subst hj
      rw [h] at e
      cases e
      exact ⟨r ++ [v], by rw [List.getElem?_set_self hlt], fun x z => List.mem_append_left _ z, fun z => absurd rfl z⟩
    · exact ⟨r, by rw [List.getElem?_set_ne (Ne.symm hj)]; exact h, fun _ z => z, fun _ => rfl⟩
theorem put_perm {piles : List (List α)} {at_ : Nat} {v : α} : (put piles at_ v).flatten.Perm (v :: piles.flatten) := by
  unfold put
  cases e : piles[at_]? with
  | none =>
    simp only [List.flatten_append, List.flatten_cons, List.flatten_nil, List.append_nil]
    exact List.perm_append_comm.trans (List.Perm.refl _)
  | some r0 => exact flat_set v e

theorem PI.turn {p q : α → Nat} {C : α → Bool} {done : List α} {piles : List (List α)} {bef bef' : α → Option (Option α)} (I : PI p q C done piles bef) {v : α} {at_ : Nat} (hC : C v = true) (hn : v ∉ done) (hq : ∀ x, x ∈ done → q x < q v)
    (hp : ∀ x, C x = true → p x = p v → x = v) (ha : at_ ≤ piles.length)
    (hs : ∀ r l, piles[at_]? = some r → r.getLast? = some l → ¬ p l < p v)
    (hb : (at_ = 0 ∧ bef' v = some none) ∨ ∃ i r u, at_ = i + 1 ∧ piles[i]? = some r ∧ r.getLast? = some u ∧ p u < p v ∧ bef' v = some (some u)) (hb' : ∀ x, x ≠ v → bef' x = bef x) :
    PI p q C (done ++ [v]) (put piles at_ v) bef' := by
  have nv : v ∉ piles.flatten := fun z => hn ((I.mem v).mp z).1
  refine ⟨fun x => ?_, ?_, ?_, fun r hr => ?_, fun r hr => ?_, fun j r x hj hx => ?_⟩
  · rw [put_perm.mem_iff, List.mem_cons, I.mem, List.mem_append, List.mem_singleton]
    constructor
    · rintro (rfl | ⟨a, b⟩)
      · exact ⟨.inr rfl, hC⟩
      · exact ⟨.inl a, b⟩
    · rintro ⟨a | a, b⟩
      · exact .inr ⟨a, b⟩
      · exact .inl a
  · exact put_perm.nodup_iff.mpr (List.nodup_cons.mpr ⟨nv, I.nd⟩)
  · rw [put_perm.length_eq, List.length_cons, I.len, List.filter_append, List.length_append]
    simp [hC]
  · obtain ⟨j, hj⟩ := List.mem_iff_getElem?.mp hr
    rcases put_len ha j r hj with ⟨_, h⟩ | ⟨_, ⟨_, rfl⟩ | ⟨r0, _, rfl⟩⟩
    · exact I.ne r (List.mem_iff_getElem?.mpr ⟨j, h⟩)
    · simp
    · simp
  · obtain ⟨j, hj⟩ := List.mem_iff_getElem?.mp hr
    rcases put_len ha j r hj with ⟨_, h⟩ | ⟨_, ⟨_, rfl⟩ | ⟨r0, h0, rfl⟩⟩
    · exact I.ord r (List.mem_iff_getElem?.mpr ⟨j, h⟩)
    · exact Cons.one v
    · refine (I.ord r0 (List.mem_iff_getElem?.mpr ⟨_, h0⟩)).snoc fun z hz => ?_
      have zm : z ∈ r0 := List.mem_of_getLast? hz
      have zf := (I.mem z).mp (mem_flat.mpr ⟨_, r0, h0, zm⟩)
      have h1 := hs r0 z h0 hz
      have h2 : p z ≠ p v := fun e => by
        have := hp z zf.2 e
        subst this
        exact hn zf.1
      exact ⟨hq z zf.1, by omega⟩
  · have old : ∀ {j : Nat} {r0 : List α}, piles[j]? = some r0 → x ∈ r0 → (j = 0 ∧ bef' x = some none) ∨ ∃ (i : Nat) (u : α) (r' : List α), j = i + 1 ∧ (put piles at_ v)[i]? = some r' ∧ u ∈ r' ∧ bef' x = some (some u) ∧ p u < p x ∧ q u < q x := fun {j r0} h hx => by
      have xv : x ≠ v := fun e => by
        subst e
        exact nv (mem_flat.mpr ⟨j, r0, h, hx⟩)
      rw [hb' x xv]
      rcases I.bef j r0 x h hx with z | ⟨i, u, r', e1, e2, e3, e4, e5, e6⟩
      · exact .inl z
      · obtain ⟨r2, h2, h3, _⟩ := put_old (at_ := at_) (v := v) e2
        exact .inr ⟨i, u, r2, e1, h2, h3 _ e3, e4, e5, e6⟩
    rcases put_len ha j r hj with ⟨_, h⟩ | ⟨rfl, h⟩
    · exact old h hx
    · have new : x = v → (j = 0 ∧ bef' x = some none) ∨ ∃ (i : Nat) (u : α) (r' : List α), j = i + 1 ∧ (put piles j v)[i]? = some r' ∧ u ∈ r' ∧ bef' x = some (some u) ∧ p u < p x ∧ q u < q x := fun e => by
        subst e
        rcases hb with z | ⟨i, r', u, e1, e2, e3, e4, e5⟩
        · exact .inl z
        · obtain ⟨r2, h2, h3, _⟩ := put_old (at_ := j) (v := x) e2
          have um : u ∈ r' := List.mem_of_getLast? e3
          have uf := (I.mem u).mp (mem_flat.mpr ⟨_, r', e2, um⟩)
          exact .inr ⟨i, u, r2, e1, h2, h3 _ um, e5, e4, hq u uf.1⟩
      rcases h with ⟨_, rfl⟩ | ⟨r0, h0, rfl⟩
      · exact new (by simpa using hx)
      · rcases List.mem_append.mp hx with hx | hx
        · exact old h0 hx
        · exact new (by simpa using hx)
end M41
namespace M41
variable {α : Type} [DecidableEq α]
/-- going down from list to list by `bef` -/
structure Ch (p q : α → Nat) (piles : List (List α)) (row : List α) (x : α) (j : Nat) : Prop where
  last : row.getLast? = some x
  inn : ∃ r, piles[j]? = some r ∧ x ∈ r
  len : row.length + j = piles.length
  con : Cons (fun a b => q b < q a ∧ p b < p a) row
  mem : ∀ y, y ∈ row → y ∈ piles.flatten
theorem Ch.start {p q : α → Nat} {piles : List (List α)} {j : Nat} {r : List α} {x : α} (h : piles[j]? = some r) (hj : j + 1 = piles.length) (hx : x ∈ r) : Ch p q piles [x] x j :=
  ⟨rfl, ⟨r, h, hx⟩, by simp; omega, Cons.one x, fun y hy => by
    have e : y = x := by simpa using hy
    subst e
    exact mem_flat.mpr ⟨j, r, h, hx⟩⟩
theorem Ch.next {p q : α → Nat} {C : α → Bool} {done : List α} {piles : List (List α)} {bef : α → Option (Option α)} (I : PI p q C done piles bef) {row : List α} {x u : α} {j : Nat} (c : Ch p q piles row x j) (hu : bef x = some (some u)) :
    ∃ i, j = i + 1 ∧ Ch p q piles (row ++ [u]) u i := by
  obtain ⟨r, hr, hx⟩ := c.inn
  rcases I.bef j r x hr hx with ⟨_, z⟩ | ⟨i, u', r', e, h1, h2, h3, h4, h5⟩
  · rw [hu] at z
    cases z
  · rw [hu] at h3
    cases h3
    refine ⟨i, e, by simp, ⟨r', h1, h2⟩, by have := c.len; simp; omega, c.con.snoc fun z hz => ?_, fun y hy => ?_⟩
    · rw [c.last] at hz
      cases hz
      exact ⟨h5, h4⟩
    · rcases List.mem_append.mp hy with hy | hy
      · exact c.mem y hy
      · have e : y = u := by simpa using hy
        subst e
        exact mem_flat.mpr ⟨i, r', h1, h2⟩
theorem Ch.some {p q : α → Nat} {C : α → Bool} {done : List α} {piles : List (List α)} {bef : α → Option (Option α)} (I : PI p q C done piles bef) {row : List α} {x : α} {j : Nat} (c : Ch p q piles row x j) : ∃ o, bef x = some o ∧ (o = none → j = 0) := by
  obtain ⟨r, hr, hx⟩ := c.inn
  rcases I.bef j r x hr hx with ⟨z, e⟩ | ⟨i, u', r', e, h1, h2, h3, h4, h5⟩
  · exact ⟨_, e, fun _ => z⟩
  · exact ⟨_, h3, fun z => nomatch z⟩
end M41

namespace Ki
open PySem PySem.Spec PyProof.Rows L2 Lb
section
variable {P : Program} {w : World} {K : PySem.W.Frag} {mg : Str → Option Value} {base : Heap}

/-- the bag at b: the cells' list at c, n draws done -/
def Bag (K : PySem.W.Frag) (H : Hp) (b c : Addr) (cells : List Int) (n : Int) : Prop :=
  ∃ i r : Int, H b = some (.lst [.ref c, .int i, .int r, .int n]) ∧ SqL K H c (cells.map V.int) ∧ c ≠ b ∧ 0 ≤ i ∧ 0 ≤ n ∧ 0 ≤ r
def spTake (K : PySem.W.Frag) : Sp := fun vs H Q _ => ∃ (b c : Addr) (cells : List Int) (n m : Int), vs = [.ref b, .int m] ∧ Bag K H b c cells n ∧ n < 100000 ∧ 0 < m ∧ m < 2 ^ 90 ∧
  ∀ (d : Int) (H' : Hp), 0 ≤ d → d < m → Keep [b] H H' → Bag K H' b c cells (n + 1) → Q (.int d) H'
theorem okTake (T : TX K mg) : FnOk P w K mg base CX0 1 T.fLTake T.dLTake ["_law_bag", "_law_many"] (spTake K) := by
  refine T.FLTake.ok scLTake (fun vs H Q E h => ?_) (fun cdv A outer s H vs Q E hr h => ?_)
  · obtain ⟨b, c, cells, n, m, rfl, _⟩ := h
    rfl
  · obtain ⟨b, c, cells, n, m, rfl, ⟨i, r, hb, hc, ncb, hi, hin, hr0⟩, hn, hm, hm2, q⟩ := h
    refine ⟨_, (derLTake T hr).2, ?_⟩
    unfold derLTake
    dsimp only
    -- cells = bag[0]; bag[3] = bag[3] + 1
    wtm_at "st"
    wtm_at "st"
    -- if ..: bag[2] = cells[bag[1]]; bag[1] = bag[1] + 1
    refine cut (fun σ' H' => σ' = [some (.ref b), some (.int m), some (.ref c), none, none, none] ∧ Keep [b] H H' ∧ ∃ i r, H' b = some (.lst [.ref c, .int i, .int r, .int (n + 1)]) ∧ 0 ≤ i ∧ 0 ≤ r) (fun N hN => ?_) ?_
    · have no : ∀ i' r' : Int, 0 ≤ i' → 0 ≤ r' → N [some (.ref b), some (.int m), some (.ref c), none, none, none] (upd H b (.lst [.ref c, .int i', .int r', .int (n + 1)])) := fun i' r' h1 h3 =>
        hN _ _ ⟨rfl, by wtm_at "keep", i', r', upd_same, h1, h3⟩
      wtm_at "go"
      wtm_at "if"
      · wtm_at "go"
        wtm_at "if"
        · have hlt : i < (cells.map V.int).length := of_decide_eq_true e
          rw [List.length_map] at hlt
          obtain ⟨j, rfl⟩ : ∃ j : Nat, i = (j : Int) := ⟨i.toNat, by omega⟩
          have hj : (cells.map V.int)[j]? = some (.int cells[j]) := by
            rw [List.getElem?_map, List.getElem?_eq_getElem (by omega)]
            rfl
          wtm_at "go"
          wtm_at "if"
          · have hge : (10 : Int) ^ 18 ≤ cells[j] := of_decide_eq_true e
            wtm_at "st"
            wtm_at "go"
            show N _ (upd (upd (upd H b _) b _) b _)
            rw [upd_upd, upd_upd]
            exact no (j + 1) cells[j] (by omega) (by omega)
          · exact no _ _ hi hr0
        · wtm_at "F"
          exact no _ _ hi hr0
      · wtm_at "F"
        exact no _ _ hi hr0
    · rintro σ' H1 ⟨rfl, k1, i1, r1, hb1, h1, h3⟩
      have hc1 : SqL K H1 c (cells.map V.int) := k1.seq hc (by wtm_at "nin")
      have fin : ∀ (d i' r' : Int) (H2 : Hp), Keep [b] H1 H2 → H2 b = some (.lst [.ref c, .int i', .int r', .int (n + 1)]) → 0 ≤ d → d < m → 0 ≤ i' → 0 ≤ r' → Q (.int d) H2 := fun d i' r' H2 k2 hb2 a1 a2 a3 a5 =>
        q d H2 a1 a2 (k1.trans k2) ⟨i', r', hb2, k2.seq hc1 (by wtm_at "nin"), ncb, a3, by omega, a5⟩
      -- if bag[2] > 0
      refine cut (fun σ' H' => σ' = [some (.ref b), some (.int m), some (.ref c), none, none, none] ∧ H' = H1) (fun N hN => ?_) ?_
      · wtm_at "go"
        wtm_at "if"
        · have hr1 : 0 < r1 := of_decide_eq_true e
          refine Lb.seq1 fun N2 hN2 => ?_
          wtm_at "go"
          refine hN2 _ _ ?_
          refine Lb.seq1 fun N3 hN3 => ?_
          wtm_at "go"
          refine g_rI (wide_div hm (b := 90) (by omega) (by decide) (by decide)) ?_
          wtm_at "go"
          refine hN3 _ _ ?_
          wtm_at "go"
          exact fin _ _ (r1 / m) _ (by wtm_at "keep") upd_same (Int.emod_nonneg _ (by omega)) (Int.emod_lt_of_pos _ hm) h1 (Int.ediv_nonneg h3 (by omega))
        · exact hN _ _ ⟨rfl, rfl⟩
      · rintro σ' H' ⟨rfl, rfl⟩
        wtm_at "st"
        -- if len(cells) > 0: cell = int(cells[int(bag[1]) % len(cells)]); bag[1] = bag[1] + 1
        refine cut (fun σ' H2 => ∃ cell i2, σ' = [some (.ref b), some (.int m), some (.ref c), none, some (.int cell), none] ∧ Keep [b] H' H2 ∧ H2 b = some (.lst [.ref c, .int i2, .int r1, .int (n + 1)]) ∧ 0 ≤ i2) (fun N hN => ?_) ?_
        · wtm_at "go"
          wtm_at "if"
          · have hl : 0 < cells.length := by
              have := of_decide_eq_true e
              rw [List.length_map] at this
              omega
            refine Lb.seq1 fun N2 hN2 => ?_
            wtm_at "go"
            refine g_rI (show (0 : Int) < ((cells.map V.int).length : Int) by rw [List.length_map]; omega) ?_
            obtain ⟨j, hj, hjl⟩ : ∃ j : Nat, i1 % ((cells.map V.int).length : Int) = (j : Int) ∧ j < cells.length := by
              have a1 := Int.emod_nonneg i1 (b := ((cells.map V.int).length : Int)) (by rw [List.length_map]; omega)
              have a2 := Int.emod_lt_of_pos i1 (b := ((cells.map V.int).length : Int)) (by rw [List.length_map]; omega)
              simp only [List.length_map] at a1 a2 ⊢
              exact ⟨(i1 % (cells.length : Int)).toNat, by omega, by omega⟩
            have hjc : (cells.map V.int)[j]? = some (.int cells[j]) := by
              rw [List.getElem?_map, List.getElem?_eq_getElem hjl]
              rfl
            rw [hj]
            wtm_at "go"
            refine hN2 _ _ ?_
            wtm_at "go"
            exact hN _ _ ⟨cells[j], i1 + 1, rfl, by wtm_at "keep", upd_same, by omega⟩
          · exact hN _ _ ⟨0, i1, rfl, Keep.refl _ _, hb1, h1⟩
        · rintro σ' H2 ⟨cell, i2, rfl, k2, hb2, h4⟩
          refine Lb.seq1 fun N2 hN2 => ?_
          wtm_at "go"
          refine hN2 _ _ ?_
          clear hN2 N2
          generalize (cell + 7919 * (n + 1) * (n + 1) + 104729 * (n + 1) + 1) = z
          refine Lb.seq1 fun N2 hN2 => ?_
          wtm_at "go"
          refine hN2 _ _ ?_
          clear hN2 N2
          generalize (z % 2147483647 * (z % 2147483647 / 1009 + 69621)) = z2
          refine Lb.seq1 fun N2 hN2 => ?_
          wtm_at "go"
          refine hN2 _ _ ?_
          clear hN2 N2
          wtm_at "go"
          exact fin _ i2 r1 _ k2 hb2 (Int.emod_nonneg _ (by omega)) (Int.emod_lt_of_pos _ hm) h4 h3
end

end Ki
namespace Ki
open PySem PySem.Spec PyProof.Rows L2 Lb
/-! lists of keys: the place of a key; the mirror of the falling lists -/
def ixK : List Key → Key → Option Nat
  | [], _ => none
  | a :: r, k => if a = k then some 0 else (ixK r k).map (· + 1)
theorem ixK_none {k : Key} : ∀ {l : List Key}, ixK l k = none ↔ k ∉ l
  | [] => by simp [ixK]
  | a :: r => by
    unfold ixK
    by_cases h : a = k
    · simp [h]
    · rw [if_neg h]
      have ih := ixK_none (k := k) (l := r)
      have h' : ¬ k = a := fun z => h z.symm
      simp [ih, h']
theorem ixK_some {k : Key} : ∀ {l : List Key} {i : Nat}, ixK l k = some i → l[i]? = some k
  | [], i, h => by simp [ixK] at h
  | a :: r, i, h => by
    unfold ixK at h
    by_cases e : a = k
    · rw [if_pos e] at h
      cases h
      rw [e]
      rfl
    · rw [if_neg e] at h
      cases h2 : ixK r k with
      | none => rw [h2] at h; cases h
      | some j =>
        rw [h2] at h
        cases h
        show r[j]? = some k
        exact ixK_some h2
theorem ixK_at {k : Key} : ∀ {l : List Key} {i : Nat}, l.Nodup → l[i]? = some k → ixK l k = some i
  | [], i, _, h => by simp at h
  | a :: r, 0, _, h => by
    have e : a = k := by simpa using h
    unfold ixK
    rw [if_pos e]
  | a :: r, i + 1, nd, h => by
    have h' : r[i]? = some k := by simpa using h
    have km : k ∈ r := List.mem_of_getElem? h'
    have nd' := List.nodup_cons.mp nd
    have e : ¬ a = k := fun z => nd'.1 (z ▸ km)
    unfold ixK
    rw [if_neg e, ixK_at nd'.2 h']
    rfl
theorem ixK_snoc (a k : Key) : ∀ l : List Key, ixK (l ++ [a]) k = (ixK l k).or (if a = k then some l.length else none)
  | [] => by
    show (if a = k then some 0 else (ixK [] k).map (· + 1)) = _
    by_cases h : a = k
    · rw [if_pos h, if_pos h]; rfl
    · rw [if_neg h, if_neg h]; rfl
  | b :: l => by
    show (if b = k then some 0 else (ixK (l ++ [a]) k).map (· + 1)) = (if b = k then some 0 else (ixK l k).map (· + 1)).or (if a = k then some (l.length + 1) else none)
    by_cases h : b = k
    · rw [if_pos h, if_pos h]; rfl
    · rw [if_neg h, if_neg h, ixK_snoc a k l]
      cases ixK l k with
      | some j => rfl
      | none =>
        by_cases h2 : a = k
        · rw [if_pos h2, if_pos h2]; rfl
        · rw [if_neg h2, if_neg h2]; rfl
/-- the place of a key, as a number -/
def pl (l : List Key) (k : Key) : Nat := (ixK l k).getD 0
theorem pl_at {l : List Key} {i : Nat} {k : Key} (nd : l.Nodup) (h : l[i]? = some k) : pl l k = i := by unfold pl; rw [ixK_at nd h]; rfl
theorem pl_some {l : List Key} {k : Key} (h : k ∈ l) : ixK l k = some (pl l k) := by
  cases e : ixK l k with
  | none => exact absurd h (ixK_none.mp e)
  | some i => unfold pl; rw [e]; rfl
theorem pl_get {l : List Key} {k : Key} (h : k ∈ l) : l[pl l k]? = some k := ixK_some (pl_some h)
theorem pl_inj {l : List Key} {a b : Key} (ha : a ∈ l) (hb : b ∈ l) (e : pl l a = pl l b) : a = b := by
  have h1 := pl_get ha
  have h2 := pl_get hb
  rw [e, h2] at h1
  exact (Option.some.inj h1).symm
theorem pl_lt {l : List Key} {k : Key} (h : k ∈ l) : pl l k < l.length := (List.getElem?_eq_some_iff.mp (pl_get h)).1
/-- the dict of the places of ks -/
def PlD (ks : List Key) (kvs : List (Key × V)) : Prop := kvs.length ≤ ks.length ∧ ∀ k, valV kvs k = (ixK ks k).map fun i : Nat => V.int (i : Int)
theorem PlD.nil : PlD [] [] := ⟨Nat.le_refl _, fun _ => rfl⟩
theorem PlD.snoc {ks : List Key} {kvs : List (Key × V)} {a : Key} (h : PlD ks kvs) (n : a ∉ ks) : PlD (ks ++ [a]) (putK kvs a (V.int (ks.length : Nat))) := by
  refine ⟨?_, fun k => ?_⟩
  · have := length_putK kvs a (V.int (ks.length : Nat))
    rw [List.length_append, List.length_singleton]
    exact Nat.le_trans this (Nat.add_le_add_right h.1 1)
  · rw [valV_put, ixK_snoc, h.2 k]
    by_cases e : k = a
    · subst e
      rw [if_pos rfl, ixK_none.mpr n, if_pos rfl]
      rfl
    · rw [if_neg e, if_neg (fun z => e z.symm)]
      cases ixK ks k <;> rfl
theorem PlD.get {ks : List Key} {kvs : List (Key × V)} (h : PlD ks kvs) {k : Key} (m : k ∈ ks) : valV kvs k = some (V.int (pl ks k : Nat)) := by rw [h.2, pl_some m]; rfl
theorem PlD.isSome {ks : List Key} {kvs : List (Key × V)} (h : PlD ks kvs) (k : Key) : (valV kvs k).isSome = kIn k ks := by
  rw [h.2]
  cases e : ixK ks k with
  | none =>
    have := kIn_no.mpr (ixK_none.mp e)
    rw [this]; rfl
  | some i =>
    have := kIn_iff.mpr (List.mem_of_getElem? (ixK_some e))
    rw [this]; rfl
theorem take_snoc {α : Type} {l : List α} {i : Nat} {x : α} (h : l[i]? = some x) : l.take (i + 1) = l.take i ++ [x] := by
  rw [List.take_add_one, h]
  rfl
theorem nodup_take {l : List Key} {i : Nat} {x : Key} (nd : l.Nodup) (h : l[i]? = some x) : x ∉ l.take i := fun m => by
  obtain ⟨j, hj⟩ := List.mem_iff_getElem?.mp m
  have hlt := (List.getElem?_eq_some_iff.mp hj).1
  rw [List.length_take] at hlt
  rw [List.getElem?_take_of_lt (by omega)] at hj
  have := ixK_at nd h
  rw [ixK_at nd hj] at this
  have := Option.some.inj this
  omega
/-! the mirror of piles_of -/
def atP (p : Key → Nat) (v : Key) : List (List Key) → Nat
  | [] => 0
  | r :: rs => if p ((r.getLast?).getD v) < p v then atP p v rs + 1 else 0
theorem atP_eq {p : Key → Nat} {v : Key} : ∀ {ls : List (List Key)} {n : Nat}, n ≤ ls.length → (∀ (j : Nat) r, j < n → ls[j]? = some r → p ((r.getLast?).getD v) < p v) → (∀ r, ls[n]? = some r → ¬ p ((r.getLast?).getD v) < p v) → atP p v ls = n
  | [], n, h, _, _ => by
    have : n = 0 := by simpa using h
    rw [this]; rfl
  | r :: rs, 0, _, _, h2 => by
    show (if p ((r.getLast?).getD v) < p v then _ else 0) = 0
    rw [if_neg (h2 r rfl)]
  | r :: rs, n + 1, h, h1, h2 => by
    show (if p ((r.getLast?).getD v) < p v then atP p v rs + 1 else 0) = n + 1
    rw [if_pos (h1 0 r (by omega) rfl), atP_eq (ls := rs) (n := n) (by simpa using h) (fun j r' hj hr => h1 (j + 1) r' (by omega) hr) fun r' hr => h2 r' hr]
def stepF (new : List Key) (piles : List (List Key)) (v : Key) : List (List Key) := if kIn v new = true then M41.put piles (atP (pl new) v piles) v else piles
def pilesF (new done : List Key) : List (List Key) := done.foldl (stepF new) []
theorem pilesF_snoc (new done : List Key) (v : Key) : pilesF new (done ++ [v]) = stepF new (pilesF new done) v := by unfold pilesF; rw [List.foldl_append]; rfl
theorem pilesF_le (new : List Key) : ∀ (done : List Key) (acc : List (List Key)), (done.foldl (stepF new) acc).length ≤ acc.length + done.length
  | [], acc => by simp
  | v :: r, acc => by
    have h1 : (stepF new acc v).length ≤ acc.length + 1 := by
      unfold stepF M41.put
      split
      · split
        · simp
        · simp
      · omega
    have := pilesF_le new r (stepF new acc v)
    rw [List.foldl_cons, List.length_cons]
    omega

end Ki
namespace Ki
open PySem PySem.Spec PyProof.Rows L2 Lb
section
variable {P : Program} {w : World} {K : PySem.W.Frag} {mg : Str → Option Value} {base : Heap}
def spIsValue : Sp := fun vs H Q _ => ∃ k : Key, vs = [kV k] ∧ Q (.bl true) H
theorem okIsValue (T : TX K mg) : FnOk P w K mg base CX0 1 T.fIsValue T.dIsValue ["thing"] spIsValue := by
  refine T.FIsValue.ok scIsValue (fun vs H Q E h => ?_) (fun cdv A outer s H vs Q E hr h => ?_)
  · obtain ⟨k, rfl, _⟩ := h
    rfl
  · obtain ⟨k, rfl, q⟩ := h
    refine ⟨_, (derIsValue T hr).2, ?_⟩
    unfold derIsValue
    dsimp only
    wtm_at "go"
    cases k with
    | inl i =>
      refine g_isi (t := "int") (b := false) (.base (.int i)) (by decide +kernel) ?_
      wtm_at "go"
      refine ifbF rfl ?_
      wtm_at "go"
      refine g_isi (t := "int") (b := true) (.base (.int i)) (by decide +kernel) ?_
      wtm_at "go"
      refine ifbT rfl ?_
      wtm_at "go"
      refine g_isi (t := "int") (b := false) (.base (.int i)) (by decide +kernel) ?_
      wtm_at "go"
      exact q
    | inr x =>
      refine g_isi (t := "str") (b := true) (.base (.str x)) (by decide +kernel) ?_
      wtm_at "go"
      refine ifbT rfl ?_
      exact q
def spLIsValue : Sp := spIsValue
theorem okLIsValue (T : TX K mg) : FnOk P w K mg base CX0 1 T.fLIsValue T.dLIsValue ["_law_value_here"] spLIsValue := by
  refine T.FLIsValue.ok scLIsValue (fun vs H Q E h => ?_) (fun cdv A outer s H vs Q E hr h => ?_)
  · obtain ⟨k, rfl, _⟩ := h
    rfl
  · obtain ⟨k, rfl, q⟩ := h
    refine ⟨_, (derLIsValue T hr).2, ?_⟩
    unfold derLIsValue
    dsimp only
    wtm_at "go"
    cases k with
    | inl i =>
      refine g_isi (t := "int") (b := false) (.base (.int i)) (by decide +kernel) ?_
      wtm_at "go"
      refine ifbF rfl ?_
      wtm_at "go"
      refine g_isi (t := "int") (b := true) (.base (.int i)) (by decide +kernel) ?_
      wtm_at "go"
      refine ifbT rfl ?_
      wtm_at "go"
      refine g_isi (t := "int") (b := false) (.base (.int i)) (by decide +kernel) ?_
      wtm_at "go"
      exact q
    | inr x =>
      refine g_isi (t := "str") (b := true) (.base (.str x)) (by decide +kernel) ?_
      wtm_at "go"
      refine ifbT rfl ?_
      exact q
end

end Ki
namespace Ki
open PySem PySem.Spec PyProof.Rows L2 Lb
section
variable {P : Program} {w : World} {K : PySem.W.Frag} {mg : Str → Option Value} {base : Heap}
def spPlacesOf (K : PySem.W.Frag) : Sp := fun vs H Q _ => ∃ (a : Addr) (ks : List Key), vs = [.ref a] ∧ SqL K H a (ks.map kV) ∧ ks.Nodup ∧ ks.length ≤ 1000 ∧
  ∀ (p : Addr) (kvs : List (Key × V)) (H' : Hp), H p = none → Keep [] H H' → H' p = some (.dK kvs) → PlD ks kvs → Q (.ref p) H'
theorem okPlacesOf (T : TX K mg) : FnOk P w K mg base CX0 1 T.fPlacesOf T.dPlacesOf ["row"] (spPlacesOf K) := by
  refine T.FPlacesOf.ok scPlacesOf (fun vs H Q E h => ?_) (fun cdv A outer s H vs Q E hr h => ?_)
  · obtain ⟨a, ks, rfl, _⟩ := h
    rfl
  · obtain ⟨a, ks, rfl, hs, nd, hl, q⟩ := h
    refine ⟨_, (derPlacesOf T hr).2, ?_⟩
    unfold derPlacesOf
    dsimp only
    wtm_at "go"
    refine ⟨_, rfl, a, _, rfl, hs, fun D hD => ?_⟩
    refine ⟨fun i m H1 => i + m = ks.length ∧ Keep [] H H1 ∧ ∃ kvs, H1 D = some (.dK kvs) ∧ PlD (ks.take i) kvs, ⟨ks.length, by omega, by wtm_at "keep", [], upd_same, PlD.nil⟩, ?_⟩
    rintro i m H1 ⟨hm, k1, kvs, hd, pd⟩
    by_cases hi : i < ks.length
    · have hx : (ks.map kV)[i]? = some (kV ks[i]) := by rw [List.getElem?_map, List.getElem?_eq_getElem hi]; rfl
      have hs1 : SqL K H1 a (ks.map kV) := by wtm_at "sq"
      refine .inr ⟨⟨_, _, hs1, hx⟩, fun H2 => Keep [] H H2 ∧ ∃ kvs, H2 D = some (.dK kvs) ∧ PlD (ks.take (i + 1)) kvs, fun H2 h2 => ⟨m - 1, by omega, by omega, h2⟩, fun x H2 hy => ?_⟩
      obtain ⟨T1, x1, rfl, nT, rfl, f1⟩ := hy
      have ex : x1 = kV ks[i] := Option.some.inj ((f1 _ hs1).symm.trans hx)
      subst ex
      have nTD : D ≠ T1 := ne_of_none hd nT
      have nDH : H D = none := hD
      refine ⟨T1, _, rfl, .inl (.inl upd_same), rfl, _, _, rfl, _, _, rfl, rfl, rfl, ?_⟩
      wtm_at "go"
      refine ifbT rfl ?_
      wtm_at "go"
      have e2 : ks[i]? = some ks[i] := List.getElem?_eq_getElem hi
      refine ⟨kvs, ks[i], rfl, by wtm_at "fact", ?_, ?_, _, upd_same, ?_⟩
      · exact Nat.lt_of_le_of_lt pd.1 (by rw [List.length_take]; exact Nat.lt_of_le_of_lt (Nat.min_le_left _ _) (small1000 (by omega)))
      · wtm_at "keep"
      · have hk := pd.snoc (nodup_take nd e2)
        rw [take_snoc e2]
        rw [List.length_take, Nat.min_eq_left (by omega)] at hk
        exact hk
    · have e : i = ks.length := by omega
      subst e
      rw [List.take_length] at pd
      exact .inl ⟨⟨_, k1.seq hs List.not_mem_nil, by rw [List.length_map]; omega⟩, q D kvs H1 hD k1 hd pd⟩
end

end Ki
namespace Ki
open PySem PySem.Spec PyProof.Rows L2 Lb
/-- the list at P holds the lists at as, which hold the falling lists -/
structure PilesAt (H : Hp) (P : Addr) (as : List Addr) (piles : List (List Key)) : Prop where
  top : H P = some (.lst (as.map V.ref))
  len : as.length = piles.length
  nd : as.Nodup
  out : P ∉ as
  row : ∀ (i : Nat) a r, as[i]? = some a → piles[i]? = some r → H a = some (.lst (r.map kV))
def befV : Option Key → V
  | none => .non
  | some u => kV u
def BefD (kvs : List (Key × V)) (bef : Key → Option (Option Key)) : Prop := ∀ k o, bef k = some o → valV kvs k = some (befV o)
theorem BefD.nil : BefD [] (fun _ => none) := fun k o h => nomatch h
theorem PilesAt.keep {H H' : Hp} {P : Addr} {as : List Addr} {piles : List (List Key)} {f : List Addr} (h : PilesAt H P as piles) (k : Keep f H H') (nP : P ∉ f) (na : ∀ a, a ∈ as → a ∉ f) : PilesAt H' P as piles :=
  ⟨k.at h.top nP, h.len, h.nd, h.out, fun i a r ha hr => k.at (h.row i a r ha hr) (na a (List.mem_of_getElem? ha))⟩
theorem PilesAt.set {H : Hp} {P : Addr} {as : List Addr} {piles : List (List Key)} (h : PilesAt H P as piles) {n : Nat} {x : Addr} {r : List Key} (hx : as[n]? = some x) (hr : piles[n]? = some r) (v : Key) :
    PilesAt (upd H x (.lst (r.map kV ++ [kV v]))) P as (piles.set n (r ++ [v])) := by
  have xP : P ≠ x := fun e => h.out (e ▸ List.mem_of_getElem? hx)
  refine ⟨fact_ne xP h.top, by rw [List.length_set]; exact h.len, h.nd, h.out, fun i a r' ha hr' => ?_⟩
  have hlt := (List.getElem?_eq_some_iff.mp hr).1
  by_cases e : i = n
  · subst e
    rw [hx] at ha
    cases ha
    rw [List.getElem?_set_self hlt] at hr'
    cases hr'
    rw [upd_same, List.map_append]
    rfl
  · rw [List.getElem?_set_ne (Ne.symm e)] at hr'
    have ax : a ≠ x := fun z => e (nd_ix h.nd (z ▸ ha) hx)
    exact fact_ne ax (h.row i a r' ha hr')
theorem PilesAt.push {H : Hp} {P x : Addr} {as : List Addr} {piles : List (List Key)} (h : PilesAt H P as piles) (hx : H x = none) (v : Key) :
    PilesAt (upd (upd H x (.lst [kV v])) P (.lst (as.map V.ref ++ [.ref x]))) P (as ++ [x]) (piles ++ [[v]]) := by
  have xP : x ≠ P := fun e => ne_of_none h.top hx e.symm
  have xa : ∀ a, a ∈ as → a ≠ x := fun a ha e => by
    obtain ⟨i, hi⟩ := List.mem_iff_getElem?.mp ha
    have hil : i < piles.length := by rw [← h.len]; exact (List.getElem?_eq_some_iff.mp hi).1
    exact ne_of_none (h.row i a _ hi (List.getElem?_eq_getElem hil)) hx e
  refine ⟨by rw [upd_same, List.map_append]; rfl, by rw [List.length_append, List.length_append, h.len]; rfl, ?_, fun m => ?_, fun i a r ha hr => ?_⟩
  · rw [List.nodup_append]
    exact ⟨h.nd, by simp, fun a ha b hb => by
      rw [List.mem_singleton] at hb
      subst hb
      exact xa a ha⟩
  · rcases List.mem_append.mp m with m | m
    · exact h.out m
    · rw [List.mem_singleton] at m
      exact xP m.symm
  · by_cases hi : i < as.length
    · rw [List.getElem?_append_left hi] at ha
      rw [List.getElem?_append_left (by rw [← h.len]; exact hi)] at hr
      have am := List.mem_of_getElem? ha
      have aP : a ≠ P := fun e => h.out (e ▸ am)
      exact fact_ne aP (fact_ne (xa a am) (h.row i a r ha hr))
    · rw [List.getElem?_append_right (by omega)] at ha
      rw [List.getElem?_append_right (by rw [← h.len]; omega), ← h.len] at hr
      have h0 : i - as.length = 0 := by
        have := (List.getElem?_eq_some_iff.mp ha).1
        simp at this
        omega
      rw [h0] at ha hr
      have e1 : x = a := by simpa using ha
      have e2 : [v] = r := by simpa using hr
      subst e1 e2
      rw [upd_ne xP, upd_same]
      rfl
theorem atI_lastk {r : List Key} {l : Key} (h : r.getLast? = some l) : atI (r.map kV) (-1) = some (kV l) := by
  obtain ⟨r', rfl⟩ := List.getLast?_eq_some_iff.mp h
  rw [List.map_append]
  exact atI_last _ _
theorem last_of {r : List Key} (h : r ≠ []) : ∃ l, r.getLast? = some l := by
  cases e : r.getLast? with
  | none => exact absurd (List.getLast?_eq_none_iff.mp e) h
  | some l => exact ⟨l, rfl⟩
section
variable {P : Program} {w : World} {K : PySem.W.Frag} {mg : Str → Option Value} {base : Heap}
def spPilesOf (K : PySem.W.Frag) : Sp := fun vs H Q _ => ∃ (a b : Addr) (old new : List Key), vs = [.ref a, .ref b] ∧ SqL K H a (old.map kV) ∧ SqL K H b (new.map kV) ∧ old.Nodup ∧ new.Nodup ∧ old.length ≤ 1000 ∧ new.length ≤ 1000 ∧
  ∀ (t P B : Addr) (as : List Addr) (kvs : List (Key × V)) (bef : Key → Option (Option Key)) (H' : Hp), Keep [] H H' → H' t = some (.tup [.ref P, .ref B]) → H P = none → (∀ x, x ∈ as → H x = none) → PilesAt H' P as (pilesF new old) →
    H' B = some (.dK kvs) → BefD kvs bef → M41.PI (pl new) (pl old) (fun k => kIn k new) old (pilesF new old) bef → Q (.ref t) H'
theorem okPilesOf (T : TX K mg) : FnOk P w K mg base CX0 2 T.fPilesOf T.dPilesOf ["old", "new"] (spPilesOf K) := by
  have GP : FnOk P w K mg base CX0 1 T.fPlacesOf T.dPlacesOf ["row"] (spPlacesOf K) := okPlacesOf T
  refine T.FPilesOf.ok scPilesOf (fun vs H Q E h => ?_) (fun cdv A outer s H vs Q E hr h => ?_)
  · obtain ⟨a, b, old, new, rfl, _⟩ := h
    rfl
  · obtain ⟨a, b, old, new, rfl, ha, hb, ndo, ndn, lo, ln, q⟩ := h
    refine ⟨_, (derPilesOf T GP hr).2, ?_⟩
    unfold derPilesOf
    dsimp only [cxOf, Cx.nox]
    refine Lb.seq1 fun N hN => ?_
    wtm_at "go"
    refine ⟨b, new, rfl, hb, ndn, ln, fun D kvD H1 nD k1 hD pd => ?_⟩
    refine hN _ _ ?_
    clear hN N
    refine Lb.seq1 fun N hN => ?_
    wtm_at "go"
    refine ⟨Nat.zero_le _, fun P nP => ?_⟩
    refine hN _ _ ?_
    clear hN N
    refine Lb.seq1 fun N hN => ?_
    refine fun B nB => hN _ _ ?_
    clear hN N
    refine Lb.seq1 fun N hN => ?_
    have nP0 : H P = none := k1.free nP List.not_mem_nil
    have kPB : Keep [] H (upd (upd H1 P (.lst [])) B (.dK [])) := by wtm_at "keep"
    have nB0 : H B = none := (by wtm_at "keep" : Keep [] H (upd H1 P (.lst []))).free nB List.not_mem_nil
    have DB : D ≠ B := ne_of_none (by wtm_at "fact" : upd H1 P (.lst []) D = some (.dK kvD)) nB
    have PB : P ≠ B := ne_of_none (upd_same : upd H1 P (.lst []) P = some (.lst [])) nB
    have sA : SqL K (upd (upd H1 P (.lst [])) B (.dK [])) a (old.map kV) := kPB.seq ha List.not_mem_nil
    have sD : upd (upd H1 P (.lst [])) B (.dK []) D = some (.dK kvD) := by wtm_at "fact"
    have sP : upd (upd H1 P (.lst [])) B (.dK []) P = some (.lst []) := by wtm_at "fact"
    have sB : upd (upd H1 P (.lst [])) B (.dK []) B = some (.dK []) := upd_same
    refine ⟨.ref a, rfl, a, rfl, ⟨_, sA⟩, for_list (K := K) (a := a) (xs := old.map kV)
      (fun i σ H2 => ∃ as kvB bef v5 v6, σ = [some (.ref a), some (.ref b), some (.ref D), some (.ref P), some (.ref B), v5, v6] ∧ Keep [] H H2 ∧ H2 D = some (.dK kvD) ∧ H2 B = some (.dK kvB) ∧
        PilesAt H2 P as (pilesF new (old.take i)) ∧ (∀ x, x ∈ as → H x = none) ∧ BefD kvB bef ∧ kvB.length ≤ i ∧ M41.PI (pl new) (pl old) (fun k => kIn k new) (old.take i) (pilesF new (old.take i)) bef)
      ⟨[], [], fun _ => none, none, none, rfl, kPB, sD, sB, ⟨sP, rfl, List.nodup_nil, by simp, fun i a r h => by simp at h⟩, fun x h => by simp at h, BefD.nil, Nat.le_refl _, M41.PI.start _ _ _⟩
      (fun i σ H2 _ h => by obtain ⟨as, kvB, bef, v5, v6, _, k2, _⟩ := h; exact k2.seq ha List.not_mem_nil) ?_ ?_⟩
    · rintro i y σ H2 hy ⟨as, kvB, bef, v5, v6, rfl, k2, hD2, hB2, hP, hfr, hbd, hbl, I⟩
      obtain ⟨v, hv, rfl⟩ := getk hy
      have vn : v ∉ old.take i := nodup_take ndo hv
      have il : i < old.length := (List.getElem?_eq_some_iff.mp hv).1
      have et := take_snoc hv
      wtm_at "go"
      -- if value not in places: continue
      refine Lb.seq1 fun N2 hN2 => ?_
      wtm_at "go"
      refine g_di (.inl hD2) ?_
      rw [pd.isSome]
      wtm_at "go"
      wtm_at "if"
      · wtm_at "go"
        have hc : kIn v new = false := by simpa using e
        refine ⟨as, kvB, bef, _, _, rfl, k2, hD2, hB2, ?_, hfr, hbd, by omega, ?_⟩
        · rw [et, pilesF_snoc]
          unfold stepF
          rw [if_neg (by rw [hc]; exact Bool.false_ne_true)]
          exact hP
        · rw [et, pilesF_snoc]
          unfold stepF
          rw [if_neg (by rw [hc]; exact Bool.false_ne_true)]
          exact I.skip hc
      · wtm_at "go"
        refine hN2 _ _ ?_
        clear hN2 N2
        have hc : kIn v new = true := by simpa using e
        have hcm : v ∈ new := kIn_iff.mp hc
        wtm_at "st"
        -- while at < len(piles) and places[piles[at][-1]] < places[value]: at += 1
        generalize hpi : pilesF new (old.take i) = piles at hP I
        have hlast : ∀ (n : Nat) r, piles[n]? = some r → ∃ l, r.getLast? = some l ∧ l ∈ r ∧ kIn l new = true ∧ l ∈ old.take i := fun n r hr => by
          obtain ⟨l, hl⟩ := last_of (I.ne r (List.mem_of_getElem? hr))
          have lm : l ∈ r := List.mem_of_getLast? hl
          have := (I.mem l).mp (M41.mem_flat.mpr ⟨n, r, hr, lm⟩)
          exact ⟨l, hl, lm, this.2, this.1⟩
        have hpl : piles.length ≤ i := by
          have h1 := pilesF_le new (old.take i) []
          have h2 : (pilesF new (old.take i)).length ≤ ([] : List (List Key)).length + (old.take i).length := h1
          rw [hpi] at h2
          simp only [List.length_nil, List.length_take] at h2
          omega
        have idx : ∀ (n : Nat), n < piles.length → ∃ x r l, as[n]? = some x ∧ (as.map V.ref)[n]? = some (.ref x) ∧ piles[n]? = some r ∧ r.getLast? = some l ∧ l ∈ r ∧ kIn l new = true ∧ SqL K H2 x (r.map kV) ∧ atI (r.map kV) (-1) = some (kV l) := fun n hn => by
          have hn' : n < as.length := by rw [hP.len]; exact hn
          have hx : as[n]? = some as[n] := List.getElem?_eq_getElem hn'
          have hr := List.getElem?_eq_getElem hn
          obtain ⟨l, hl, lm, ln, _⟩ := hlast n _ hr
          exact ⟨_, _, l, hx, by rw [List.getElem?_map, hx]; rfl, hr, hl, lm, ln, SqL.of (hP.row n _ _ hx hr), atI_lastk hl⟩
        have hPs : SqL K H2 P (as.map V.ref) := SqL.of hP.top
        refine Lb.seq1 fun N2 hN2 => ?_
        refine ⟨fun m σ' H' => H' = H2 ∧ ∃ n : Nat, σ' = [some (.ref a), some (.ref b), some (.ref D), some (.ref P), some (.ref B), some (kV v), some (.int (n : Int))] ∧ n + m = piles.length ∧ ∀ (j : Nat) r, j < n → piles[j]? = some r → pl new ((r.getLast?).getD v) < pl new v, ⟨piles.length, rfl, 0, rfl, by omega, fun j r h => absurd h (by omega)⟩, ?_⟩
        rintro m σ' H' ⟨rfl, n, rfl, hnm, hlow⟩
        have exit_ : (∀ r, piles[n]? = some r → ¬ pl new ((r.getLast?).getD v) < pl new v) → N2 [some (.ref a), some (.ref b), some (.ref D), some (.ref P), some (.ref B), some (kV v), some (.int (n : Int))] H' := fun hhi => by
          refine hN2 _ _ ?_
          refine Lb.seq1 fun N3 hN3 => ?_
          have asn : ∀ x, x ∈ as → x ≠ D ∧ x ≠ B := fun x hx => by
            obtain ⟨j, hj⟩ := List.mem_iff_getElem?.mp hx
            have jl : j < piles.length := by rw [← hP.len]; exact (List.getElem?_eq_some_iff.mp hj).1
            have hxl := hP.row j x _ hj (List.getElem?_eq_getElem jl)
            exact ⟨ne_of hxl hD2 (by intro z; cases z), ne_of hxl hB2 (by intro z; cases z)⟩
          have DP : D ≠ P := ne_of hD2 hP.top (by intro z; cases z)
          have nle : n ≤ piles.length := by omega
          have hat : atP (pl new) v piles = n := atP_eq nle hlow hhi
          have hstep : pilesF new (old.take (i + 1)) = M41.put piles n v := by
            rw [et, pilesF_snoc, hpi]
            unfold stepF
            rw [if_pos hc, hat]
          have post : ∀ o : Option Key, ((n = 0 ∧ o = none) ∨ ∃ (k : Nat) (r : List Key) (u : Key), n = k + 1 ∧ piles[k]? = some r ∧ r.getLast? = some u ∧ pl new u < pl new v ∧ o = some u) →
              N3 [some (.ref a), some (.ref b), some (.ref D), some (.ref P), some (.ref B), some (kV v), some (.int (n : Int))] (upd H' B (.dK (putK kvB v (befV o)))) := fun o ho => by
            refine hN3 _ _ ?_
            have kB : Keep [] H (upd H' B (.dK (putK kvB v (befV o)))) := by wtm_at "keep"
            have hP3 : PilesAt (upd H' B (.dK (putK kvB v (befV o)))) P as piles := ⟨fact_ne PB hP.top, hP.len, hP.nd, hP.out, fun i a r ha hr => fact_ne (asn a (List.mem_of_getElem? ha)).2 (hP.row i a r ha hr)⟩
            have hD3 : upd H' B (.dK (putK kvB v (befV o))) D = some (.dK kvD) := fact_ne DB hD2
            have hB3 : upd H' B (.dK (putK kvB v (befV o))) B = some (.dK (putK kvB v (befV o))) := upd_same
            generalize upd H' B (.dK (putK kvB v (befV o))) = H3 at kB hP3 hD3 hB3
            have hbd' : BefD (putK kvB v (befV o)) (fun k => if k = v then some o else bef k) := fun k o' hk => by
              have hk : (if k = v then some o else bef k) = some o' := hk
              rw [valV_put]
              by_cases ek : k = v
              · rw [if_pos ek] at hk ⊢
                cases hk
                rfl
              · rw [if_neg ek] at hk ⊢
                exact hbd k o' hk
            have hl' : (putK kvB v (befV o)).length ≤ i + 1 := Nat.le_trans (length_putK _ _ _) (by omega)
            have I' : M41.PI (pl new) (pl old) (fun k => kIn k new) (old.take (i + 1)) (pilesF new (old.take (i + 1))) (fun k => if k = v then some o else bef k) := by
              rw [hstep, et]
              refine I.turn hc vn (fun x hx => ?_) (fun x hx he => pl_inj (kIn_iff.mp hx) hcm he) nle (fun r l hr hl => ?_) ?_ (fun x hx => if_neg hx)
              · obtain ⟨j, hj⟩ := List.mem_iff_getElem?.mp hx
                have jl := (List.getElem?_eq_some_iff.mp hj).1
                rw [List.length_take] at jl
                rw [List.getElem?_take_of_lt (by omega)] at hj
                rw [pl_at ndo hj, pl_at ndo hv]
                omega
              · have := hhi r hr
                rw [hl] at this
                exact this
              · rcases ho with ⟨h0, rfl⟩ | ⟨k, r, u, h1, h2, h3, h4, rfl⟩
                · exact .inl ⟨h0, if_pos rfl⟩
                · exact .inr ⟨k, r, u, h1, h2, h3, h4, if_pos rfl⟩
            have hPs3 : SqL K H3 P (as.map V.ref) := SqL.of hP3.top
            wtm_at "go"
            wtm_at "if"
            · have hnl : n = piles.length := by
                have := V.int.inj (of_decide_eq_true e)
                rw [List.length_map, hP.len] at this
                omega
              wtm_at "go"
              refine ⟨tyl (SqL.of hP3.top), ?_⟩
              wtm_at "go"
              refine ⟨by show 1 ≤ sizeLine; decide, fun x nx => ?_⟩
              wtm_at "go"
              have nx0 : H x = none := kB.free nx List.not_mem_nil
              have hPx : upd H3 x (.lst [kV v]) P = some (.lst (as.map V.ref)) := fact_new nx hP3.top
              refine g_append hPx (by rw [List.length_map, hP.len]; exact small1000 (by omega)) ?_
              have xD : D ≠ x := ne_of_none hD3 nx
              have xB : B ≠ x := ne_of_none hB3 nx
              refine ⟨as ++ [x], _, _, _, _, rfl, by wtm_at "keep", by wtm_at "fact", by wtm_at "fact", ?_, fun z hz => ?_, hbd', hl', I'⟩
              · have ep : M41.put piles n v = piles ++ [[v]] := by
                  unfold M41.put
                  rw [List.getElem?_eq_none (by omega)]
                rw [hstep, ep]
                exact hP3.push nx v
              · rcases List.mem_append.mp hz with hz | hz
                · exact hfr z hz
                · rw [List.mem_singleton] at hz
                  rw [hz]
                  exact nx0
            · have hnl : n < piles.length := by
                have : ¬ (n : Int) = ((as.map V.ref).length : Int) := fun z => ofF e (by rw [z])
                rw [List.length_map, hP.len] at this
                omega
              obtain ⟨x, r, l, hx, hxr, hr, _⟩ := idx n hnl
              have xm := List.mem_of_getElem? hx
              have hx3 := hP3.row n x r hx hr
              wtm_at "go"
              refine ⟨tyl (SqL.of hx3), ?_⟩
              wtm_at "go"
              refine g_append hx3 ?_ ?_
              · have h1 : r.length ≤ piles.flatten.length := (List.sublist_flatten_of_mem (List.mem_of_getElem? hr)).length_le
                have h2 := I.len
                have h3 := List.length_filter_le (fun k => kIn k new) (old.take i)
                rw [List.length_map]
                refine small1000 ?_
                rw [List.length_take] at h3
                omega
              · have xD := (asn x xm).1
                have xB := (asn x xm).2
                have hx0 := hfr x xm
                refine ⟨as, _, _, _, _, rfl, by wtm_at "keep", by wtm_at "fact", by wtm_at "fact", ?_, hfr, hbd', hl', I'⟩
                have ep : M41.put piles n v = piles.set n (r ++ [v]) := by
                  unfold M41.put
                  rw [hr]
                rw [hstep, ep]
                exact hP3.set hx hr v
          wtm_at "go"
          wtm_at "if"
          · have hn0 : n = 0 := by
              have := V.int.inj (of_decide_eq_true e)
              omega
            wtm_at "go"
            refine g_dp hB2 (small1000 (by omega)) ?_
            exact post none (.inl ⟨hn0, rfl⟩)
          · have hn0 : n ≠ 0 := fun z => ofF e (by rw [z]; rfl)
            obtain ⟨k, rfl⟩ : ∃ k, n = k + 1 := ⟨n - 1, by omega⟩
            obtain ⟨x, r, l, hx, hxr, hr, hl, lm, lnw, hsx, hatx⟩ := idx k (by omega)
            have hatk : atI (as.map V.ref) (((k + 1 : Nat) : Int) - 1) = some (.ref x) := at_of (by omega) hxr
            wtm_at "go"
            refine g_dp hB2 (small1000 (by omega)) ?_
            refine post (some l) (.inr ⟨k, r, l, rfl, hr, hl, ?_, rfl⟩)
            have := hlow k r (by omega) hr
            rw [hl] at this
            exact this
        wtm_at "go"
        wtm_at "if"
        · have hn : n < piles.length := by
            have := of_decide_eq_true e
            rw [List.length_map, hP.len] at this
            omega
          obtain ⟨x, r, l, hx, hxr, hr, hl, lm, lnw, hsx, hat⟩ := idx n hn
          wtm_at "go"
          refine g_dg (.inl hD2) (pd.get (kIn_iff.mp lnw)) ?_
          wtm_at "go"
          refine g_dg (.inl hD2) (pd.get hcm) ?_
          wtm_at "go"
          wtm_at "if"
          · refine ⟨_, fun σ' H' h => h, ?_⟩
            wtm_at "go"
            refine ⟨_, _, rfl, rfl, ?_⟩
            have hlt := of_decide_eq_true e
            refine ⟨m - 1, by omega, rfl, n + 1, rfl, by omega, fun j r' hj hr' => ?_⟩
            by_cases ej : j = n
            · subst ej
              rw [hr] at hr'
              cases hr'
              rw [hl]
              show pl new l < pl new v
              omega
            · exact hlow j r' (by omega) hr'
          · refine exit_ fun r' hr' => ?_
            rw [hr] at hr'
            cases hr'
            rw [hl]
            have := ofF e
            show ¬ pl new l < pl new v
            omega
        · wtm_at "F"
          refine exit_ fun r' hr' => ?_
          have h1 := (List.getElem?_eq_some_iff.mp hr').1
          have := ofF e
          rw [List.length_map, hP.len] at this
          omega
    · rintro σ H2 ⟨as, kvB, bef, v5, v6, rfl, k2, hD2, hB2, hP, hfr, hbd, hbl, I⟩
      rw [List.length_map, List.take_length] at hP I
      refine hN _ _ ?_
      wtm_at "go"
      refine ⟨by show 2 ≤ sizeLine; decide, fun t nt => ?_⟩
      refine q t P B as kvB bef _ (by wtm_at "keep") upd_same nP0 hfr (hP.keep (Keep.new nt) List.not_mem_nil fun _ _ => List.not_mem_nil) (by wtm_at "fact") hbd I
end

end Ki
namespace Ki
open PySem PySem.Spec PyProof.Rows L2 Lb
/-- a row of common values in the order of both lists -/
structure UpOk (old new up : List Key) : Prop where
  mem : ∀ x, x ∈ up → x ∈ old ∧ x ∈ new
  ord : M41.Cons (fun a b => pl old a < pl old b ∧ pl new a < pl new b) up
theorem PilesAt.last {H : Hp} {P : Addr} {as : List Addr} {piles : List (List Key)} (h : PilesAt H P as piles) {r : List Key} {j : Nat} (hj : j + 1 = piles.length) (hr : piles[j]? = some r) : ∃ x, as[j]? = some x ∧ atI (as.map V.ref) (-1) = some (.ref x) ∧ H x = some (.lst (r.map kV)) := by
  have hl : j < as.length := by rw [h.len]; omega
  refine ⟨as[j], List.getElem?_eq_getElem hl, ?_, h.row j _ r (List.getElem?_eq_getElem hl) hr⟩
  have hne : as ≠ [] := fun z => by rw [z] at hl; simp at hl
  have e : as = as.dropLast ++ [as[j]] := by
    have e1 := (List.dropLast_concat_getLast hne).symm
    have e2 : as.getLast hne = as[j] := by
      rw [List.getLast_eq_getElem]
      congr 1
      have := h.len
      omega
    rw [e2] at e1
    exact e1
  have e3 : as.map V.ref = as.dropLast.map V.ref ++ [V.ref as[j]] := by
    conv => lhs; rw [e]
    rw [List.map_append]
    rfl
  rw [e3]
  exact atI_last _ _
section
variable {P : Program} {w : World} {K : PySem.W.Frag} {mg : Str → Option Value} {base : Heap}
def spFalling (K : PySem.W.Frag) : Sp := fun vs H Q _ => ∃ (a b : Addr) (old new : List Key), vs = [.ref a, .ref b] ∧ SqL K H a (old.map kV) ∧ SqL K H b (new.map kV) ∧ old.Nodup ∧ new.Nodup ∧ old.length ≤ 1000 ∧ new.length ≤ 1000 ∧
  ∀ (P : Addr) (as : List Addr) (H' : Hp), Keep [] H H' → H P = none → (∀ x, x ∈ as → H x = none) → PilesAt H' P as (pilesF new old) → (∃ bef, M41.PI (pl new) (pl old) (fun k => kIn k new) old (pilesF new old) bef) → Q (.ref P) H'
theorem okFalling (T : TX K mg) : FnOk P w K mg base CX0 3 T.fFalling T.dFalling ["old", "new"] (spFalling K) := by
  have GP : FnOk P w K mg base CX0 2 T.fPilesOf T.dPilesOf ["old", "new"] (spPilesOf K) := okPilesOf T
  refine T.FFalling.ok scFalling (fun vs H Q E h => ?_) (fun cdv A outer s H vs Q E hr h => ?_)
  · obtain ⟨a, b, old, new, rfl, _⟩ := h
    rfl
  · obtain ⟨a, b, old, new, rfl, ha, hb, ndo, ndn, lo, ln, q⟩ := h
    refine ⟨_, (derFalling T GP hr).2, ?_⟩
    unfold derFalling
    dsimp only [cxOf, Cx.nox]
    refine Lb.seq1 fun N hN => ?_
    wtm_at "go"
    refine ⟨a, b, old, new, rfl, ha, hb, ndo, ndn, lo, ln, fun t P B as kvs bef H' k1 ht nP nas hP hB hbd I => ?_⟩
    refine ⟨t, _, rfl, SqT.of ht, rfl, _, _, rfl, _, _, rfl, rfl, ?_⟩
    refine hN _ _ ?_
    wtm_at "go"
    exact q P as H' k1 nP nas hP ⟨_, I⟩
def spRising (K : PySem.W.Frag) : Sp := fun vs H Q _ => ∃ (a b : Addr) (old new : List Key), vs = [.ref a, .ref b] ∧ SqL K H a (old.map kV) ∧ SqL K H b (new.map kV) ∧ old.Nodup ∧ new.Nodup ∧ old.length ≤ 1000 ∧ new.length ≤ 1000 ∧
  ∀ (p : Addr) (up : List Key) (H' : Hp), Keep [] H H' → H p = none → H' p = some (.lst (up.map kV)) → UpOk old new up → up.length = (pilesF new old).length → Q (.ref p) H'
theorem okRising (T : TX K mg) : FnOk P w K mg base CX0 3 T.fRising T.dRising ["old", "new"] (spRising K) := by
  have GP : FnOk P w K mg base CX0 2 T.fPilesOf T.dPilesOf ["old", "new"] (spPilesOf K) := okPilesOf T
  refine T.FRising.ok scRising (fun vs H Q E h => ?_) (fun cdv A outer s H vs Q E hr h => ?_)
  · obtain ⟨a, b, old, new, rfl, _⟩ := h
    rfl
  · obtain ⟨a, b, old, new, rfl, ha, hb, ndo, ndn, lo, ln, q⟩ := h
    refine ⟨_, (derRising T GP hr).2, ?_⟩
    unfold derRising
    dsimp only [cxOf, Cx.nox]
    refine Lb.seq1 fun N hN => ?_
    wtm_at "go"
    refine ⟨a, b, old, new, rfl, ha, hb, ndo, ndn, lo, ln, fun t P B as kvs bef H' k1 ht nP nas hP hB hbd I => ?_⟩
    refine ⟨t, _, rfl, SqT.of ht, rfl, _, _, rfl, _, _, rfl, rfl, ?_⟩
    refine hN _ _ ?_
    clear hN N
    generalize hpi : pilesF new old = piles at hP I
    rw [hpi] at q
    have hPs : SqL K H' P (as.map V.ref) := SqL.of hP.top
    refine Lb.seq1 fun N hN => ?_
    wtm_at "go"
    refine ⟨_, .inl ⟨_, hPs, rfl⟩, ?_⟩
    wtm_at "go"
    wtm_at "if"
    · wtm_at "go"
      refine ⟨Nat.zero_le _, fun p np => ?_⟩
      have hz : piles = [] := by
        have h1 : as.map V.ref = [] := by
          cases hh : as.map V.ref with
          | nil => rfl
          | cons x r => rw [hh] at e; simp at e
        have h2 : as.length = 0 := by
          have := congrArg List.length h1
          simpa using this
        have := hP.len
        exact List.eq_nil_of_length_eq_zero (by omega)
      refine q p [] _ (by wtm_at "keep") (k1.free np List.not_mem_nil) upd_same ⟨fun x h => by simp at h, M41.Cons.nil⟩ (by rw [hz]; rfl)
    · wtm_at "go"
      refine hN _ _ ?_
      clear hN N
      have hz : 0 < piles.length := by
        rw [← hP.len]
        cases has : as with
        | nil => rw [has] at e; simp at e
        | cons x r => simp
      obtain ⟨j, hj⟩ : ∃ j, j + 1 = piles.length := ⟨piles.length - 1, by omega⟩
      have hr := List.getElem?_eq_getElem (show j < piles.length by omega)
      generalize piles[j] = r at hr
      obtain ⟨l, hl⟩ := last_of (I.ne r (List.mem_of_getElem? hr))
      obtain ⟨x, hx, hax, hxr⟩ := hP.last hj hr
      have hxs : SqL K H' x (r.map kV) := SqL.of hxr
      have hal := atI_lastk hl
      refine Lb.seq1 fun N hN => ?_
      wtm_at "go"
      refine ⟨by show 1 ≤ sizeLine; decide, fun R nR => ?_⟩
      refine hN _ _ ?_
      clear hN N
      have nR0 : H R = none := k1.free nR List.not_mem_nil
      have BR : B ≠ R := ne_of_none hB nR
      have hB1 : upd H' R (.lst [kV l]) B = some (.dK kvs) := fact_ne BR hB
      have kR : Keep [] H (upd H' R (.lst [kV l])) := by wtm_at "keep"
      refine Lb.seq1 fun N hN => ?_
      refine ⟨fun m σ' H2 => ∃ row x, σ' = [some (.ref a), some (.ref b), some (.ref P), some (.ref B), some (.ref R)] ∧ Keep [] H H2 ∧ H2 B = some (.dK kvs) ∧ H2 R = some (.lst (row.map kV)) ∧ M41.Ch (pl new) (pl old) piles row x m,
        ⟨j, [l], l, rfl, kR, hB1, upd_same, M41.Ch.start hr hj (List.mem_of_getLast? hl)⟩, ?_⟩
      rintro m σ' H2 ⟨row, y, rfl, k2, hB2, hR2, c⟩
      have hRs : SqL K H2 R (row.map kV) := SqL.of hR2
      have hay := atI_lastk c.last
      obtain ⟨o, ho, ho0⟩ := c.some I
      have hval := hbd y o ho
      wtm_at "go"
      refine g_dg (.inl hB2) hval ?_
      refine ⟨rfl, ?_⟩
      wtm_at "go"
      cases o with
      | none =>
        refine ifbF rfl ?_
        refine hN _ _ ?_
        wtm_at "go"
        refine ⟨R, _, rfl, hRs, fun p np => ?_⟩
        have hm := ho0 rfl
        subst hm
        refine q p row.reverse _ (by wtm_at "keep") (k2.free np List.not_mem_nil) (by rw [upd_same, List.map_reverse]) ⟨fun z hz => ?_, ?_⟩ (by have := c.len; rw [List.length_reverse]; omega)
        · have h1 := (I.mem z).mp (c.mem z (List.mem_reverse.mp hz))
          exact ⟨h1.1, kIn_iff.mp h1.2⟩
        · exact c.con.rev.mono fun a b h => h
      | some u =>
        refine ifbT (by cases u <;> rfl) ?_
        refine ⟨_, fun σ' H3 h => h, ?_⟩
        wtm_at "go"
        refine ⟨tyl hRs, ?_⟩
        wtm_at "go"
        refine g_dg (.inl hB2) hval ?_
        wtm_at "go"
        obtain ⟨i, hi, c'⟩ := c.next I ho
        have hlen : row.length ≤ 1000 := by
          have h1 := c.len
          have h2 := pilesF_le new old []
          have h3 : (pilesF new old).length ≤ 0 + old.length := h2
          rw [hpi] at h3
          omega
        refine g_append hR2 (by rw [List.length_map]; exact small1000 hlen) ?_
        refine ⟨i, by omega, row ++ [u], u, rfl, by wtm_at "keep", fact_ne BR hB2, ?_, c'⟩
        rw [upd_same, List.map_append]
        rfl
end

end Ki
namespace Ki
open PySem PySem.Spec PyProof.Rows L2 Lb
theorem cut1 (xs : List V) : cutV xs (some 1) none = xs.drop 1 := by
  unfold cutV
  rw [show HT.sIx xs.length 0 (some 1) = min 1 xs.length from HT.sIx_nat xs.length 0 1, HT.sIx_none]
  cases xs with
  | nil => rfl
  | cons x r =>
    rw [show min 1 (x :: r).length = 1 by
      rw [List.length_cons]
      omega]
    show (List.take ((x :: r).length - 1) r) = r
    rw [List.length_cons, Nat.add_sub_cancel]
    exact List.take_length
theorem tyx_list {K : PySem.W.Frag} {H : Hp} {a : Addr} {xs : List V} (h : SqL K H a xs) : TyX K H (.ref a) (.type "list") := by
  rcases h with (h | ⟨o, h⟩) | ⟨o, _, _, h, c, _⟩
  · exact .base (.lst h)
  · exact .base (.frz h)
  · exact .kList h c
section
variable {P : Program} {w : World} {K : PySem.W.Frag} {mg : Str → Option Value} {base : Heap}
def spInOrder (K : PySem.W.Frag) : Sp := fun vs H Q _ => ∃ (d a : Addr) (kvs : List (Key × V)) (ks row : List Key) (z : Int), vs = [.ref d, .ref a, .int z] ∧ Rd H d (.dK kvs) ∧ PlD ks kvs ∧ SqL K H a (row.map kV) ∧ (∀ x, x ∈ row → x ∈ ks) ∧ (z = 1 ∨ z = -1) ∧
  M41.Cons (fun x y => 0 < z * ((pl ks y : Int) - (pl ks x : Int))) row ∧ ∀ H', Keep [] H H' → Q (.bl true) H'
theorem okInOrder (T : TX K mg) : FnOk P w K mg base CX0 1 T.fInOrder T.dInOrder ["places", "row", "sign"] (spInOrder K) := by
  refine T.FInOrder.ok scInOrder (fun vs H Q E h => ?_) (fun cdv A outer s H vs Q E hr h => ?_)
  · obtain ⟨d, a, kvs, ks, row, z, rfl, _⟩ := h
    rfl
  · obtain ⟨d, a, kvs, ks, row, z, rfl, hd, pd, hs, hm, hz, hc, q⟩ := h
    refine ⟨_, (derInOrder T hr).2, ?_⟩
    unfold derInOrder
    dsimp only [cxOf, Cx.nox]
    refine Lb.seq1 fun N hN => ?_
    refine ⟨.ref a, rfl, .ref a, rfl, 1, rfl, a, row.map kV, rfl, hs, fun c nc => ?_⟩
    have k0 : Keep [] H (upd H c (.lst (cutV (row.map kV) (some 1) none))) := Keep.new nc
    have hc0 : upd H c (.lst (cutV (row.map kV) (some 1) none)) c = some (.lst ((row.drop 1).map kV)) := by rw [upd_same, cut1, List.map_drop]
    generalize upd H c (.lst (cutV (row.map kV) (some 1) none)) = H1 at k0 hc0
    refine ⟨a, c, row.map kV, _, rfl, k0.seq hs List.not_mem_nil, SqL.of hc0, ?_⟩
    refine ⟨fun i m σ H2 => ∃ v3 v4, σ = [some (.ref d), some (.ref a), some (.int z), v3, v4] ∧ i + m = row.length - 1 ∧ Keep [] H H2 ∧ H2 c = some (.lst ((row.drop 1).map kV)), ⟨row.length - 1, none, none, rfl, by omega, k0, hc0⟩, ?_⟩
    rintro i m σ H2 ⟨v3, v4, rfl, em, k2, hc2⟩
    have hA : SqL K H2 a (row.map kV) := k2.seq hs List.not_mem_nil
    have hC : SqL K H2 c ((row.drop 1).map kV) := SqL.of hc2
    by_cases hi : i < row.length - 1
    · have h1 : i < row.length := by omega
      have h2 : i + 1 < row.length := by omega
      have e1 := List.getElem?_eq_getElem h1
      have e2 := List.getElem?_eq_getElem h2
      generalize row[i] = x at e1
      generalize row[i + 1] = y at e2
      have g1 : (row.map kV)[i]? = some (kV x) := by rw [List.getElem?_map, e1]; rfl
      have g2 : ((row.drop 1).map kV)[i]? = some (kV y) := by rw [List.getElem?_map, List.getElem?_drop, Nat.add_comm 1 i, e2]; rfl
      refine .inr ⟨⟨_, _, _, _, hA, hC, g1, g2⟩, fun σ' H' => ∃ v3 v4, σ' = [some (.ref d), some (.ref a), some (.int z), v3, v4] ∧ Keep [] H H' ∧ H' c = some (.lst ((row.drop 1).map kV)), fun σ' H' hN => ?_, fun v H' hy => ?_⟩
      · obtain ⟨v3, v4, e, k3, hc3⟩ := hN
        exact ⟨m - 1, by omega, v3, v4, e, by omega, k3, hc3⟩
      · obtain ⟨T1, x1, x2, rfl, nT, rfl, f1, f2⟩ := hy
        have ex1 : x1 = kV x := Option.some.inj ((f1 _ hA).symm.trans g1)
        have ex2 : x2 = kV y := Option.some.inj ((f2 _ hC).symm.trans g2)
        subst ex1 ex2
        have hd2 : Rd (upd H2 T1 (.tup [kV x, kV y])) d (.dK kvs) := (k2.unew nT).rd hd List.not_mem_nil
        have k3 : Keep [] H (upd H2 T1 (.tup [kV x, kV y])) := k2.unew nT
        have hc3 : upd H2 T1 (.tup [kV x, kV y]) c = some (.lst ((row.drop 1).map kV)) := fact_new nT hc2
        refine ⟨T1, [kV x, kV y], rfl, SqT.of upd_same, rfl, _, _, rfl, _, _, rfl, rfl, ?_⟩
        wtm_at "go"
        refine g_dg hd2 (pd.get (hm y (List.mem_of_getElem? e2))) ?_
        wtm_at "go"
        refine g_dg hd2 (pd.get (hm x (List.mem_of_getElem? e1))) ?_
        wtm_at "go"
        have hh := hc i x y e1 e2
        refine ifbF (decide_eq_false (by omega)) ?_
        wtm_at "go"
        exact ⟨_, _, rfl, k3, hc3⟩
    · refine .inl ⟨⟨_, _, hA, hC, .inr ?_⟩, ?_⟩
      · rw [List.length_map, List.length_drop]
        omega
      · refine hN _ _ ?_
        wtm_at "go"
        exact q _ k2
def spAreCommon (K : PySem.W.Frag) : Sp := fun vs H Q _ => ∃ (a b c : Addr) (old new th : List Key), vs = [.ref a, .ref b, .ref c] ∧ SqL K H a (old.map kV) ∧ SqL K H b (new.map kV) ∧ SqL K H c (th.map kV) ∧ (∀ x, x ∈ th → x ∈ old ∧ x ∈ new) ∧ th.length ≤ 1000 ∧
  ∀ H', Keep [] H H' → Q (.bl true) H'
theorem okAreCommon (T : TX K mg) : FnOk P w K mg base CX0 2 T.fAreCommon T.dAreCommon ["old", "new", "thing"] (spAreCommon K) := by
  have GV : FnOk P w K mg base CX0 1 T.fIsValue T.dIsValue ["thing"] spIsValue := okIsValue T
  refine T.FAreCommon.ok scAreCommon (fun vs H Q E h => ?_) (fun cdv A outer s H vs Q E hr h => ?_)
  · obtain ⟨a, b, c, old, new, th, rfl, _⟩ := h
    rfl
  · obtain ⟨a, b, c, old, new, th, rfl, ha, hb, hc, hm, hl, q⟩ := h
    refine ⟨_, (derAreCommon T GV hr).2, ?_⟩
    unfold derAreCommon
    dsimp only [cxOf, Cx.nox]
    refine Lb.seq1 fun N hN => ?_
    wtm_at "go"
    refine g_isi (tyx_list hc) (b := true) (by decide +kernel) ?_
    wtm_at "go"
    refine ifbF rfl ?_
    wtm_at "go"
    refine hN _ _ ?_
    clear hN N
    wtm_at "go"
    refine ⟨_, rfl, c, rfl, ⟨_, hc⟩, fun D hD => ?_⟩
    refine lc_list (K := K) (a := c) (xs := th.map kV) (fun i H1 => Keep [] H H1 ∧ H1 D = some (.lst ((List.replicate i true).map V.bl))) ⟨Keep.new hD, upd_same⟩ (fun i H1 _ h => h.1.seq hc List.not_mem_nil) ?_ ?_
    · rintro i y H1 hy ⟨k1, hD1⟩
      obtain ⟨x, hx, rfl⟩ := getk hy
      have xm := hm x (List.mem_of_getElem? hx)
      have il := (List.getElem?_eq_some_iff.mp hx).1
      have ha1 : SqL K H1 a (old.map kV) := k1.seq ha List.not_mem_nil
      have hb1 : SqL K H1 b (new.map kV) := k1.seq hb List.not_mem_nil
      refine ⟨rfl, ?_⟩
      wtm_at "go"
      refine ifbT rfl ?_
      wtm_at "go"
      refine ⟨x, rfl, ?_⟩
      wtm_at "go"
      refine ifbT rfl ?_
      wtm_at "go"
      refine g_in (.inl ha1) (kV_flat _) (kV_all _) ?_
      wtm_at "go"
      rw [inV_keys, kIn_iff.mpr xm.1]
      refine ifbT rfl ?_
      wtm_at "go"
      refine g_in (.inl hb1) (kV_flat _) (kV_all _) ?_
      rw [inV_keys, kIn_iff.mpr xm.2]
      refine ⟨_, hD1, ?_, k1.umut hD, ?_⟩
      · rw [List.length_map, List.length_replicate]
        exact small1000 (by omega)
      · rw [upd_same, List.replicate_succ', List.map_append]
        rfl
    · rintro H1 ⟨k1, hD1⟩
      wtm_at "go"
      refine g_all (SqL.of hD1) ?_
      have e : (List.replicate (th.map kV).length true).all id = true := by
        rw [List.all_eq_true]
        intro x hx
        exact List.eq_of_mem_replicate hx
      rw [e]
      exact q _ k1
def spIsRising (K : PySem.W.Frag) : Sp := fun vs H Q _ => ∃ (a b c : Addr) (old new th : List Key), vs = [.ref a, .ref b, .ref c] ∧ SqL K H a (old.map kV) ∧ SqL K H b (new.map kV) ∧ SqL K H c (th.map kV) ∧ old.Nodup ∧ new.Nodup ∧ old.length ≤ 1000 ∧ new.length ≤ 1000 ∧ UpOk old new th ∧ th.length ≤ 1000 ∧
  ∀ H', Keep [] H H' → Q (.bl true) H'
theorem okIsRising (T : TX K mg) : FnOk P w K mg base CX0 3 T.fIsRising T.dIsRising ["old", "new", "thing"] (spIsRising K) := by
  have GC : FnOk P w K mg base CX0 2 T.fAreCommon T.dAreCommon ["old", "new", "thing"] (spAreCommon K) := okAreCommon T
  have GO : FnOk P w K mg base CX0 1 T.fInOrder T.dInOrder ["places", "row", "sign"] (spInOrder K) := okInOrder T
  have GP : FnOk P w K mg base CX0 1 T.fPlacesOf T.dPlacesOf ["row"] (spPlacesOf K) := okPlacesOf T
  refine T.FIsRising.ok scIsRising (fun vs H Q E h => ?_) (fun cdv A outer s H vs Q E hr h => ?_)
  · obtain ⟨a, b, c, old, new, th, rfl, _⟩ := h
    rfl
  · obtain ⟨a, b, c, old, new, th, rfl, ha, hb, hc, ndo, ndn, lo, ln, up, hl, q⟩ := h
    refine ⟨_, (derIsRising T GO GP GC hr).2, ?_⟩
    unfold derIsRising
    dsimp only [cxOf, Cx.nox]
    refine Lb.seq1 fun N hN => ?_
    wtm_at "go"
    refine ⟨a, b, c, old, new, th, rfl, ha, hb, hc, up.mem, hl, fun H1 k1 => ?_⟩
    wtm_at "go"
    refine ifbF rfl ?_
    wtm_at "go"
    refine hN _ _ ?_
    clear hN N
    wtm_at "go"
    refine ⟨a, old, rfl, k1.seq ha List.not_mem_nil, ndo, lo, fun p kvs H2 np k2 hp pd => ?_⟩
    have k02 := k1.trans k2
    wtm_at "go"
    refine ⟨p, c, kvs, old, th, 1, rfl, .inl hp, pd, k02.seq hc List.not_mem_nil, fun x hx => (up.mem x hx).1, .inl rfl, up.ord.mono fun x y h => by omega, fun H3 k3 => ?_⟩
    have k03 := k02.trans k3
    wtm_at "go"
    refine ifbT rfl ?_
    wtm_at "go"
    refine ⟨b, new, rfl, k03.seq hb List.not_mem_nil, ndn, ln, fun p kvs H4 np k4 hp pd => ?_⟩
    have k04 := k03.trans k4
    wtm_at "go"
    refine ⟨p, c, kvs, new, th, 1, rfl, .inl hp, pd, k04.seq hc List.not_mem_nil, fun x hx => (up.mem x hx).2, .inl rfl, up.ord.mono fun x y h => by omega, fun H5 k5 => ?_⟩
    exact q _ (k04.trans k5)
end

end Ki
namespace Ki
open PySem PySem.Spec PyProof.Rows L2 Lb
/-- falling lists, each common value once -/
structure DownOk (old new : List Key) (piles : List (List Key)) : Prop where
  ne : ∀ r, r ∈ piles → r ≠ []
  mem : ∀ r, r ∈ piles → ∀ x, x ∈ r → x ∈ old ∧ x ∈ new
  ord : ∀ r, r ∈ piles → M41.Cons (fun a b => pl old a < pl old b ∧ pl new b < pl new a) r
  nd : piles.flatten.Nodup
  len : piles.flatten.length = (old.filter fun k => kIn k new).length
theorem downOk_of {old new : List Key} {piles : List (List Key)} {bef : Key → Option (Option Key)} (I : M41.PI (pl new) (pl old) (fun k => kIn k new) old piles bef) : DownOk old new piles :=
  ⟨I.ne, fun r hr x hx => by
    obtain ⟨j, hj⟩ := List.mem_iff_getElem?.mp hr
    have h := (I.mem x).mp (M41.mem_flat.mpr ⟨j, r, hj, hx⟩)
    exact ⟨h.1, kIn_iff.mp h.2⟩, I.ord, I.nd, I.len⟩
theorem DownOk.out {old new : List Key} {piles : List (List Key)} (D : DownOk old new piles) {i j : Nat} {r : List Key} {x : Key} (hr : piles[i]? = some r) (hx : r[j]? = some x) : x ∉ (piles.take i).flatten ++ r.take j := by
  have hlt := (List.getElem?_eq_some_iff.mp hr).1
  have e1 : piles = piles.take i ++ r :: piles.drop (i + 1) := by
    have h0 := (List.take_append_drop i piles).symm
    have h2 : piles.drop i = r :: piles.drop (i + 1) := by
      rw [List.drop_eq_getElem_cons hlt]
      congr 1
      exact (List.getElem?_eq_some_iff.mp hr).2
    rw [h2] at h0
    exact h0
  have hjl := (List.getElem?_eq_some_iff.mp hx).1
  have e2 : r = r.take j ++ x :: r.drop (j + 1) := by
    have h0 := (List.take_append_drop j r).symm
    have h2 : r.drop j = x :: r.drop (j + 1) := by
      rw [List.drop_eq_getElem_cons hjl]
      congr 1
      exact (List.getElem?_eq_some_iff.mp hx).2
    rw [h2] at h0
    exact h0
  have nd := D.nd
  rw [e1] at nd
  simp only [List.flatten_append, List.flatten_cons] at nd
  have nd1 := List.nodup_append.mp nd
  have nd2 := (List.nodup_append.mp nd1.2.1).1
  intro m
  rcases List.mem_append.mp m with m | m
  · exact nd1.2.2 x m x (List.mem_append_left _ (List.mem_of_getElem? hx)) rfl
  · rw [e2] at nd2
    have := (List.nodup_append.mp nd2).2.2 x m x List.mem_cons_self
    exact this rfl
theorem DownOk.rlen {old new : List Key} {piles : List (List Key)} (D : DownOk old new piles) {r : List Key} (hr : r ∈ piles) : r.length ≤ old.length := by
  have h1 : r.length ≤ piles.flatten.length := (List.sublist_flatten_of_mem hr).length_le
  have h3 := List.length_filter_le (fun k => kIn k new) old
  have := D.len
  omega
theorem DownOk.plen {old new : List Key} {piles : List (List Key)} (D : DownOk old new piles) (i j : Nat) {r : List Key} (hr : piles[i]? = some r) : ((piles.take i).flatten ++ r.take j).length ≤ old.length := by
  have hlt := (List.getElem?_eq_some_iff.mp hr).1
  have h3 := List.length_filter_le (fun k => kIn k new) old
  have h4 := D.len
  have e1 : (piles.take (i + 1)).flatten = (piles.take i).flatten ++ r := by
    rw [take_snoc hr, List.flatten_append]
    simp
  have h5 : (piles.take (i + 1)).flatten.length ≤ piles.flatten.length := by
    have e6 : piles.flatten = (piles.take (i + 1)).flatten ++ (piles.drop (i + 1)).flatten := by
      rw [← List.flatten_append, List.take_append_drop]
    rw [e6, List.length_append]
    omega
  rw [e1, List.length_append] at h5
  rw [List.length_append, List.length_take]
  omega
/-- the dict of the keys met -/
def MetD (seen : List Key) (kvs : List (Key × V)) : Prop := kvs.length = seen.length ∧ ∀ k, (valV kvs k).isSome = kIn k seen
theorem MetD.nil : MetD [] [] := ⟨rfl, fun _ => rfl⟩
theorem MetD.snoc {seen : List Key} {kvs : List (Key × V)} (h : MetD seen kvs) {k : Key} (n : k ∉ seen) (v : V) : MetD (seen ++ [k]) (putK kvs k v) := by
  have h1 : valV kvs k = none := by
    have := h.2 k
    rw [kIn_no.mpr n] at this
    cases e : valV kvs k with
    | none => rfl
    | some x => rw [e] at this; cases this
  refine ⟨by rw [putK_new v h1, List.length_append, List.length_append, h.1]; rfl, fun j => ?_⟩
  rw [valV_put]
  by_cases e : j = k
  · rw [if_pos e]
    have : kIn j (seen ++ [k]) = true := kIn_iff.mpr (by rw [e]; simp)
    rw [this]; rfl
  · rw [if_neg e, h.2 j]
    have e1 : kIn j seen = true ↔ kIn j (seen ++ [k]) = true := by
      rw [kIn_iff, kIn_iff, List.mem_append, List.mem_singleton]
      exact ⟨.inl, fun z => z.elim id fun w => absurd w e⟩
    cases h2 : kIn j seen <;> cases h3 : kIn j (seen ++ [k]) <;> simp_all
section
variable {P : Program} {w : World} {K : PySem.W.Frag} {mg : Str → Option Value} {base : Heap}
def spIsFalling (K : PySem.W.Frag) : Sp := fun vs H Q _ => ∃ (a b P : Addr) (as : List Addr) (old new : List Key) (piles : List (List Key)), vs = [.ref a, .ref b, .ref P] ∧ SqL K H a (old.map kV) ∧ SqL K H b (new.map kV) ∧ PilesAt H P as piles ∧ old.Nodup ∧ new.Nodup ∧ old.length ≤ 1000 ∧ new.length ≤ 1000 ∧ DownOk old new piles ∧
  ∀ H', Keep [] H H' → Q (.bl true) H'
theorem okIsFalling (T : TX K mg) : FnOk P w K mg base CX0 3 T.fIsFalling T.dIsFalling ["old", "new", "thing"] (spIsFalling K) := by
  have GC : FnOk P w K mg base CX0 2 T.fAreCommon T.dAreCommon ["old", "new", "thing"] (spAreCommon K) := okAreCommon T
  have GO : FnOk P w K mg base CX0 1 T.fInOrder T.dInOrder ["places", "row", "sign"] (spInOrder K) := okInOrder T
  have GP : FnOk P w K mg base CX0 1 T.fPlacesOf T.dPlacesOf ["row"] (spPlacesOf K) := okPlacesOf T
  refine T.FIsFalling.ok scIsFalling (fun vs H Q E h => ?_) (fun cdv A outer s H vs Q E hr h => ?_)
  · obtain ⟨a, b, c, as, old, new, th, rfl, _⟩ := h
    rfl
  · obtain ⟨a, b, c, as, old, new, piles, rfl, ha, hb, hP, ndo, ndn, lo, ln, dn, q⟩ := h
    refine ⟨_, (derIsFalling T GO GC GP hr).2, ?_⟩
    unfold derIsFalling
    dsimp only [cxOf, Cx.nox]
    have hPs : SqL K H c (as.map V.ref) := SqL.of hP.top
    refine Lb.seq1 fun N hN => ?_
    wtm_at "go"
    refine g_isi (tyx_list hPs) (b := true) (by decide +kernel) ?_
    wtm_at "go"
    refine ifbF rfl ?_
    wtm_at "go"
    refine hN _ _ ?_
    clear hN N
    refine Lb.seq1 fun N hN => ?_
    wtm_at "go"
    refine ⟨a, old, rfl, ha, ndo, lo, fun De kvE H1 nE k1 hE pE => ?_⟩
    refine hN _ _ ?_
    clear hN N
    refine Lb.seq1 fun N hN => ?_
    wtm_at "go"
    refine ⟨b, new, rfl, k1.seq hb List.not_mem_nil, ndn, ln, fun Dy kvY H2 nY k2 hY pY => ?_⟩
    refine hN _ _ ?_
    clear hN N
    have hE2 := k2.at hE List.not_mem_nil
    have k02 := k1.trans k2
    refine Lb.seq1 fun N hN => ?_
    refine fun M nM => hN _ _ ?_
    clear hN N
    have nM0 : H M = none := k02.free nM List.not_mem_nil
    have EM : De ≠ M := ne_of_none hE2 nM
    have YM : Dy ≠ M := ne_of_none hY nM
    have k03 : Keep [] H (upd H2 M (.dK [])) := by wtm_at "keep"
    have hE3 : upd H2 M (.dK []) De = some (.dK kvE) := fact_ne EM hE2
    have hY3 : upd H2 M (.dK []) Dy = some (.dK kvY) := fact_ne YM hY
    have hM3 : upd H2 M (.dK []) M = some (.dK []) := upd_same
    generalize upd H2 M (.dK []) = H3 at k03 hE3 hY3 hM3
    refine Lb.seq1 fun N hN => ?_
    refine ⟨.ref c, rfl, c, rfl, ⟨_, k03.seq hPs List.not_mem_nil⟩, for_list (K := K) (a := c) (xs := as.map V.ref)
      (fun i σ H4 => ∃ kvM v6 v7, σ = [some (.ref a), some (.ref b), some (.ref c), some (.ref De), some (.ref Dy), some (.ref M), v6, v7] ∧ Keep [] H H4 ∧ H4 De = some (.dK kvE) ∧ H4 Dy = some (.dK kvY) ∧ H4 M = some (.dK kvM) ∧ MetD ((piles.take i).flatten) kvM)
      ⟨[], none, none, rfl, k03, hE3, hY3, hM3, MetD.nil⟩ (fun i σ H4 _ h => by obtain ⟨_, _, _, _, k4, _⟩ := h; exact k4.seq hPs List.not_mem_nil) ?_ ?_⟩
    · rintro i y σ H4 hy ⟨kvM, v6, v7, rfl, k4, hE4, hY4, hM4, mt⟩
      have hil : i < as.length := by
        have := (List.getElem?_eq_some_iff.mp hy).1
        rwa [List.length_map] at this
      have hxa := List.getElem?_eq_getElem hil
      have hil2 : i < piles.length := by rw [← hP.len]; exact hil
      have hr := List.getElem?_eq_getElem hil2
      generalize as[i] = x at hxa
      generalize piles[i] = r at hr
      have ey : y = .ref x := by
        rw [List.getElem?_map, hxa] at hy
        exact (Option.some.inj hy).symm
      subst ey
      have hrm : r ∈ piles := List.mem_of_getElem? hr
      have hx0 : SqL K H x (r.map kV) := SqL.of (hP.row i x r hxa hr)
      have rl : r.length ≤ 1000 := Nat.le_trans (dn.rlen hrm) lo
      wtm_at "go"
      -- if not are_common(..) or len(row) == 0
      refine Lb.seq1 fun N2 hN2 => ?_
      wtm_at "go"
      refine ⟨a, b, x, old, new, r, rfl, k4.seq ha List.not_mem_nil, k4.seq hb List.not_mem_nil, k4.seq hx0 List.not_mem_nil, dn.mem r hrm, rl, fun H5 k5 => ?_⟩
      have k05 := k4.trans k5
      have hx5 : SqL K H5 x (r.map kV) := k05.seq hx0 List.not_mem_nil
      wtm_at "go"
      refine ifbF rfl ?_
      wtm_at "go"
      have hne : r ≠ [] := dn.ne r hrm
      refine ifbF (decide_eq_false fun z => ?_) ?_
      · have := V.int.inj z
        rw [List.length_map] at this
        exact hne (List.eq_nil_of_length_eq_zero (by omega))
      wtm_at "go"
      refine hN2 _ _ ?_
      clear hN2 N2
      have hE5 := k5.at hE4 List.not_mem_nil
      have hY5 := k5.at hY4 List.not_mem_nil
      have hM5 := k5.at hM4 List.not_mem_nil
      -- if not in_order(elder, row, 1) or not in_order(younger, row, -1)
      refine Lb.seq1 fun N2 hN2 => ?_
      wtm_at "go"
      refine ⟨De, x, kvE, old, r, 1, rfl, .inl hE5, pE, hx5, fun z hz => (dn.mem r hrm z hz).1, .inl rfl, (dn.ord r hrm).mono fun x y h => by omega, fun H6 k6 => ?_⟩
      have k06 := k05.trans k6
      wtm_at "go"
      refine ifbF rfl ?_
      wtm_at "go"
      refine ⟨Dy, x, kvY, new, r, -1, rfl, .inl (k6.at hY5 List.not_mem_nil), pY, k6.seq hx5 List.not_mem_nil, fun z hz => (dn.mem r hrm z hz).2, .inr rfl, (dn.ord r hrm).mono fun x y h => by omega, fun H7 k7 => ?_⟩
      have k07 := k06.trans k7
      have k57 := k6.trans k7
      wtm_at "go"
      refine ifbF rfl ?_
      wtm_at "go"
      refine hN2 _ _ ?_
      clear hN2 N2
      have hE7 := k57.at hE5 List.not_mem_nil
      have hY7 := k57.at hY5 List.not_mem_nil
      have hM7 := k57.at hM5 List.not_mem_nil
      refine ⟨.ref x, rfl, x, rfl, ⟨_, k07.seq hx0 List.not_mem_nil⟩, for_list (K := K) (a := x) (xs := r.map kV)
        (fun j σ H8 => ∃ kvM v7, σ = [some (.ref a), some (.ref b), some (.ref c), some (.ref De), some (.ref Dy), some (.ref M), some (.ref x), v7] ∧ Keep [] H H8 ∧ H8 De = some (.dK kvE) ∧ H8 Dy = some (.dK kvY) ∧ H8 M = some (.dK kvM) ∧ MetD ((piles.take i).flatten ++ r.take j) kvM)
        ⟨kvM, v7, rfl, k07, hE7, hY7, hM7, by rw [List.take_zero, List.append_nil]; exact mt⟩ (fun j σ H8 _ h => by obtain ⟨_, _, _, k8, _⟩ := h; exact k8.seq hx0 List.not_mem_nil) ?_ ?_⟩
      · rintro j y σ H8 hy ⟨kvM8, v7, rfl, k8, hE8, hY8, hM8, mt8⟩
        obtain ⟨v, hv, rfl⟩ := getk hy
        have vout := dn.out hr hv
        wtm_at "go"
        refine Lb.seq1 fun N3 hN3 => ?_
        wtm_at "go"
        refine g_di (.inl hM8) ?_
        rw [mt8.2 v, kIn_no.mpr vout]
        wtm_at "go"
        refine ifbF rfl ?_
        wtm_at "go"
        refine hN3 _ _ ?_
        wtm_at "go"
        have ml := dn.plen i j hr
        refine g_dp hM8 (small1000 (by rw [mt8.1]; omega)) ?_
        refine ⟨_, _, rfl, by wtm_at "keep", fact_ne EM hE8, fact_ne YM hY8, upd_same, ?_⟩
        have := mt8.snoc vout (.bl true)
        rw [take_snoc hv, ← List.append_assoc]
        exact this
      · rintro σ H8 ⟨kvM8, v7, rfl, k8, hE8, hY8, hM8, mt8⟩
        refine ⟨kvM8, _, _, rfl, k8, hE8, hY8, hM8, ?_⟩
        rw [List.length_map, List.take_length] at mt8
        rw [take_snoc hr, List.flatten_append]
        simpa using mt8
    · rintro σ H4 ⟨kvM, v6, v7, rfl, k4, hE4, hY4, hM4, mt⟩
      rw [List.length_map, hP.len, List.take_length] at mt
      refine hN _ _ ?_
      wtm_at "go"
      refine ⟨M, kvM, rfl, hM4, ?_⟩
      wtm_at "go"
      refine ⟨_, rfl, a, rfl, ⟨_, k4.seq ha List.not_mem_nil⟩, fun D hD => ?_⟩
      have nD0 : H D = none := k4.free hD List.not_mem_nil
      have YD : Dy ≠ D := ne_of_none hY4 hD
      have kD : Keep [] H (upd H4 D (.lst [])) := by wtm_at "keep"
      refine lc_list (K := K) (a := a) (xs := old.map kV) (fun i H5 => Keep [] H H5 ∧ H5 Dy = some (.dK kvY) ∧ H5 D = some (.lst (((old.take i).filter fun k => kIn k new).map kV))) ⟨kD, fact_ne YD hY4, upd_same⟩ (fun i H5 _ h => h.1.seq ha List.not_mem_nil) ?_ ?_
      · rintro i y H5 hy ⟨k5, hY5, hD5⟩
        obtain ⟨v, hv, rfl⟩ := getk hy
        refine ⟨rfl, ?_⟩
        wtm_at "go"
        refine g_di (.inl hY5) ?_
        rw [pY.isSome]
        wtm_at "go"
        rw [take_snoc hv, List.filter_append]
        wtm_at "if"
        · wtm_at "go"
          refine ⟨_, hD5, ?_, by wtm_at "keep", fact_ne YD hY5, ?_⟩
          · rw [List.length_map]
            have h3 := List.length_filter_le (fun k => kIn k new) (old.take i)
            have h4 : (old.take i).length ≤ old.length := by rw [List.length_take]; omega
            exact small1000 (by omega)
          · rw [upd_same, List.map_append]
            simp [List.filter, e]
        · refine ⟨k5, hY5, ?_⟩
          rw [hD5]
          simp [List.filter, e]
      · rintro H5 ⟨k5, hY5, hD5⟩
        rw [List.length_map, List.take_length] at hD5
        wtm_at "go"
        have e1 : decide (V.int ((kvM.length : Nat) : Int) = V.int ((((old.filter fun k => kIn k new).map kV).length : Nat) : Int)) = true := decide_eq_true (by rw [mt.1, dn.len, List.length_map])
        rw [e1]
        exact q _ k5
end

end Ki
namespace Ki
open PySem PySem.Spec PyProof.Rows L2 Lb
/-- the place of a key, as the law tells it -/
def plI (l : List Key) (k : Key) : Int := match ixK l k with
  | some i => (i : Int)
  | none => -1
theorem plI_mem {l : List Key} {k : Key} (h : k ∈ l) : plI l k = (pl l k : Int) := by unfold plI; rw [pl_some h]
theorem plI_out {l : List Key} {k : Key} (h : k ∉ l) : plI l k = -1 := by unfold plI; rw [ixK_none.mpr h]
theorem ixK_first {l : List Key} {k : Key} {i : Nat} (h : l[i]? = some k) (hn : k ∉ l.take i) : ixK l k = some i := by
  have e : l.take (i + 1) = l.take i ++ [k] := take_snoc h
  have h2 : l = (l.take i ++ [k]) ++ l.drop (i + 1) := by rw [← e, List.take_append_drop]
  have hlt := (List.getElem?_eq_some_iff.mp h).1
  have gen : ∀ (a b : List Key) (j : Nat), ixK a k = some j → ixK (a ++ b) k = some j := by
    intro a
    induction a with
    | nil => intro b j hj; simp [ixK] at hj
    | cons c r ih =>
      intro b j hj
      show (if c = k then some 0 else (ixK (r ++ b) k).map (· + 1)) = some j
      have hj' : (if c = k then some 0 else (ixK r k).map (· + 1)) = some j := hj
      by_cases ec : c = k
      · rw [if_pos ec] at hj' ⊢
        exact hj'
      · rw [if_neg ec] at hj' ⊢
        cases e2 : ixK r k with
        | none => rw [e2] at hj'; cases hj'
        | some m =>
          rw [e2] at hj'
          rw [ih b m e2]
          exact hj'
  rw [h2]
  refine gen _ _ _ ?_
  rw [ixK_snoc, ixK_none.mpr hn, if_pos rfl, List.length_take, Nat.min_eq_left (by omega)]
  rfl
/-- tuples of two ints at ts -/
structure Tups (H : Hp) (ts : List Addr) (ps : List (Int × Int)) : Prop where
  len : ts.length = ps.length
  at_ : ∀ (i : Nat) t p, ts[i]? = some t → ps[i]? = some p → H t = some (.tup [.int p.1, .int p.2])
theorem Tups.keep {H H' : Hp} {ts : List Addr} {ps : List (Int × Int)} (h : Tups H ts ps) (k : Keep [] H H') : Tups H' ts ps := ⟨h.len, fun i t p a b => k.at (h.at_ i t p a b) List.not_mem_nil⟩
theorem Tups.get {K : PySem.W.Frag} {H : Hp} {ts : List Addr} {ps : List (Int × Int)} (h : Tups H ts ps) {i : Nat} {p : Int × Int} (hp : ps[i]? = some p) : ∃ t, (ts.map V.ref)[i]? = some (.ref t) ∧ SqT K H t [.int p.1, .int p.2] ∧ ts[i]? = some t := by
  have hl : i < ts.length := by rw [h.len]; exact (List.getElem?_eq_some_iff.mp hp).1
  have e := List.getElem?_eq_getElem hl
  exact ⟨ts[i], by rw [List.getElem?_map, e]; rfl, SqT.of (h.at_ i _ p e hp), e⟩
theorem Tups.snoc {H : Hp} {ts : List Addr} {ps : List (Int × Int)} (h : Tups H ts ps) {t : Addr} {p : Int × Int} (ht : H t = some (.tup [.int p.1, .int p.2])) : Tups H (ts ++ [t]) (ps ++ [p]) := by
  refine ⟨by rw [List.length_append, List.length_append, h.len]; rfl, fun i t' p' a b => ?_⟩
  by_cases hi : i < ts.length
  · rw [List.getElem?_append_left hi] at a
    rw [List.getElem?_append_left (by rw [← h.len]; exact hi)] at b
    exact h.at_ i t' p' a b
  · rw [List.getElem?_append_right (by omega)] at a
    rw [List.getElem?_append_right (by rw [← h.len]; omega), ← h.len] at b
    have h0 : i - ts.length = 0 := by
      have := (List.getElem?_eq_some_iff.mp a).1
      simp at this
      omega
    rw [h0] at a b
    have e1 : t = t' := by simpa using a
    have e2 : p = p' := by simpa using b
    subst e1 e2
    exact ht
def isS : Key → Bool
  | .inl _ => false
  | .inr _ => true
theorem tyk (K : PySem.W.Frag) (H : Hp) (k : Key) : ∃ t, TyX K H (kV k) (.type t) ∧ kitB t "str" = some (isS k) := by
  cases k with
  | inl i => exact ⟨"int", .base (.int i), (by decide +kernel : kitB "int" "str" = some false)⟩
  | inr x => exact ⟨"str", .base (.str x), (by decide +kernel : kitB "str" "str" = some true)⟩
theorem key_dec (x y : Key) : decide (kV x = kV y) = decide (x = y) := by
  by_cases h : x = y
  · rw [h, decide_eq_true rfl, decide_eq_true rfl]
  · rw [decide_eq_false h, decide_eq_false fun z => h (kV_inj z)]
section
variable {P : Program} {w : World} {K : PySem.W.Frag} {mg : Str → Option Value} {base : Heap}
def spLPlace (K : PySem.W.Frag) : Sp := fun vs H Q _ => ∃ (a : Addr) (ks : List Key) (k : Key), vs = [.ref a, kV k] ∧ SqL K H a (ks.map kV) ∧ ks.length ≤ 1000 ∧ Q (.int (plI ks k)) H
theorem okLPlace (T : TX K mg) : FnOk P w K mg base CX0 1 T.fLPlace T.dLPlace ["_law_row", "_law_value_here"] (spLPlace K) := by
  refine T.FLPlace.ok scLPlace (fun vs H Q E h => ?_) (fun cdv A outer s H vs Q E hr h => ?_)
  · obtain ⟨a, ks, k, rfl, _⟩ := h
    rfl
  · obtain ⟨a, ks, k, rfl, hs, hl, q⟩ := h
    refine ⟨_, (derLPlace T hr).2, ?_⟩
    unfold derLPlace
    dsimp only [cxOf, Cx.nox]
    refine Lb.seq1 fun N hN => ?_
    refine ⟨.ref a, rfl, a, _, rfl, .inl hs, ((ks.map kV).length : Int), rfl, by omega, by rw [List.length_map]; omega, ?_⟩
    refine for_range (lo := 0) (n := ((ks.map kV).length : Int).toNat) (fun i σ H1 => ∃ v2, σ = [some (.ref a), some (kV k), v2] ∧ H1 = H ∧ k ∉ ks.take i) ⟨none, rfl, rfl, by simp⟩ ?_ ?_
    · rintro i σ H1 hi ⟨v2, rfl, rfl, hn⟩
      have hi' : i < ks.length := by rw [List.length_map] at hi; omega
      have hx := List.getElem?_eq_getElem hi'
      generalize ks[i] = x at hx
      have hxv : (ks.map kV)[i]? = some (kV x) := by rw [List.getElem?_map, hx]; rfl
      have hat : atI (ks.map kV) (0 + (i : Int)) = some (kV x) := at_of (by omega) hxv
      obtain ⟨tx, tyx, bx⟩ := tyk K H1 x
      obtain ⟨tk, tyk, bk⟩ := tyk K H1 k
      wtm_at "go"
      refine g_isi tyx bx ?_
      wtm_at "go"
      refine g_isi tyk bk ?_
      wtm_at "go"
      have go_on : ¬ x = k → k ∉ ks.take (i + 1) := fun ne m => by
        rw [take_snoc hx] at m
        rcases List.mem_append.mp m with m | m
        · exact hn m
        · rw [List.mem_singleton] at m
          exact ne m.symm
      wtm_at "if"
      · wtm_at "go"
        refine ⟨by cases x <;> cases k <;> rfl, ?_⟩
        rw [key_dec]
        wtm_at "go"
        have h1 := e
        wtm_at "if"
        · have exk := of_decide_eq_true e
          subst exk
          wtm_at "go"
          have e2 : V.int (plI ks x) = V.int (0 + (i : Int)) := by
            unfold plI
            rw [ixK_first hx hn]
            show V.int (i : Int) = _
            congr 1
            omega
          rw [e2] at q
          exact q
        · wtm_at "go"
          exact ⟨_, rfl, rfl, go_on (ofF e)⟩
      · wtm_at "F"
        wtm_at "go"
        exact ⟨_, rfl, rfl, go_on fun z => ofF e (by rw [z])⟩
    · rintro σ H1 ⟨v2, rfl, rfl, hn⟩
      have hn' : k ∉ ks := by
        have e : ((ks.map kV).length : Int).toNat = ks.length := by rw [List.length_map]; omega
        rw [e, List.take_length] at hn
        exact hn
      refine hN _ _ ?_
      wtm_at "go"
      have e2 : V.int (plI ks k) = V.int (-1) := by rw [plI_out hn']
      rw [e2] at q
      exact q
def spLPlaces (K : PySem.W.Frag) : Sp := fun vs H Q _ => ∃ (a b c : Addr) (old new th : List Key), vs = [.ref a, .ref b, .ref c] ∧ SqL K H a (old.map kV) ∧ SqL K H b (new.map kV) ∧ SqL K H c (th.map kV) ∧ old.length ≤ 1000 ∧ new.length ≤ 1000 ∧ th.length ≤ 1000 ∧ (∀ x, x ∈ th → x ∈ old ∧ x ∈ new) ∧
  ∀ (F : Addr) (ts : List Addr) (H' : Hp), Keep [] H H' → H F = none → H' F = some (.lst (ts.map V.ref)) → Tups H' ts (th.map fun x => ((pl old x : Int), (pl new x : Int))) → Q (.ref F) H'
theorem okLPlaces (T : TX K mg) : FnOk P w K mg base CX0 2 T.fLPlaces T.dLPlaces ["_law_old", "_law_new", "_law_row"] (spLPlaces K) := by
  have GP : FnOk P w K mg base CX0 1 T.fLPlace T.dLPlace ["_law_row", "_law_value_here"] (spLPlace K) := okLPlace T
  have GV : FnOk P w K mg base CX0 1 T.fLIsValue T.dLIsValue ["_law_value_here"] spLIsValue := okLIsValue T
  refine T.FLPlaces.ok scLPlaces (fun vs H Q E h => ?_) (fun cdv A outer s H vs Q E hr h => ?_)
  · obtain ⟨a, b, c, old, new, th, rfl, _⟩ := h
    rfl
  · obtain ⟨a, b, c, old, new, th, rfl, ha, hb, hc, lo, ln, lt, hm, q⟩ := h
    refine ⟨_, (derLPlaces T GP GV hr).2, ?_⟩
    unfold derLPlaces
    dsimp only [cxOf, Cx.nox]
    refine Lb.seq1 fun N hN => ?_
    wtm_at "go"
    refine g_isi (tyx_list hc) (b := true) (by decide +kernel) ?_
    wtm_at "go"
    refine ifbF rfl ?_
    wtm_at "go"
    refine hN _ _ ?_
    clear hN N
    refine Lb.seq1 fun N hN => ?_
    wtm_at "go"
    refine ⟨Nat.zero_le _, fun F nF => ?_⟩
    refine hN _ _ ?_
    clear hN N
    have k0 : Keep [] H (upd H F (.lst [])) := Keep.new nF
    refine Lb.seq1 fun N hN => ?_
    refine ⟨.ref c, rfl, c, rfl, ⟨_, k0.seq hc List.not_mem_nil⟩, for_list (K := K) (a := c) (xs := th.map kV)
      (fun i σ H1 => ∃ ts v4, σ = [some (.ref a), some (.ref b), some (.ref c), some (.ref F), v4] ∧ Keep [] H H1 ∧ H1 F = some (.lst (ts.map V.ref)) ∧ Tups H1 ts ((th.take i).map fun x => ((pl old x : Int), (pl new x : Int))))
      ⟨[], none, rfl, k0, upd_same, ⟨rfl, fun i t p h => by simp at h⟩⟩ (fun i σ H1 _ h => by obtain ⟨_, _, _, k1, _⟩ := h; exact k1.seq hc List.not_mem_nil) ?_ ?_⟩
    · rintro i y σ H1 hy ⟨ts, v4, rfl, k1, hF1, tt⟩
      obtain ⟨x, hx, rfl⟩ := getk hy
      have xm := hm x (List.mem_of_getElem? hx)
      have il := (List.getElem?_eq_some_iff.mp hx).1
      wtm_at "go"
      refine Lb.seq1 fun N2 hN2 => ?_
      wtm_at "go"
      refine ⟨x, rfl, ?_⟩
      wtm_at "go"
      refine ifbF rfl ?_
      wtm_at "go"
      refine hN2 _ _ ?_
      clear hN2 N2
      have hF1s : SqL K H1 F (ts.map V.ref) := SqL.of hF1
      refine Lb.seq1 fun N2 hN2 => ?_
      wtm_at "go"
      refine ⟨tyl hF1s, ?_⟩
      wtm_at "go"
      refine ⟨a, old, x, rfl, k1.seq ha List.not_mem_nil, lo, ?_⟩
      wtm_at "go"
      refine ⟨b, new, x, rfl, k1.seq hb List.not_mem_nil, ln, ?_⟩
      rw [plI_mem xm.1, plI_mem xm.2]
      wtm_at "go"
      refine ⟨by show 2 ≤ sizeLine; decide, fun t nt => ?_⟩
      have Ft : F ≠ t := ne_of_none hF1 nt
      have hF2 : upd H1 t (.tup [.int (pl old x : Int), .int (pl new x : Int)]) F = some (.lst (ts.map V.ref)) := fact_ne Ft hF1
      have ht2 : upd H1 t (.tup [.int (pl old x : Int), .int (pl new x : Int)]) t = some (.tup [.int (pl old x : Int), .int (pl new x : Int)]) := upd_same
      have k2 : Keep [] H (upd H1 t (.tup [.int (pl old x : Int), .int (pl new x : Int)])) := k1.unew nt
      have tt2 := tt.keep (Keep.new (p := t) (o := .tup [.int (pl old x : Int), .int (pl new x : Int)]) nt)
      generalize upd H1 t (.tup [.int (pl old x : Int), .int (pl new x : Int)]) = H2 at hF2 ht2 k2 tt2
      wtm_at "go"
      have tl : ts.length = i := by
        have := tt.len
        rw [List.length_map, List.length_take] at this
        omega
      refine g_append hF2 (by rw [List.length_map]; exact small1000 (by omega)) ?_
      refine hN2 _ _ ?_
      clear hN2 N2
      have hF3 : upd H2 F (.lst (ts.map V.ref ++ [.ref t])) F = some (.lst ((ts ++ [t]).map V.ref)) := by rw [upd_same, List.map_append]; rfl
      have ht3 : upd H2 F (.lst (ts.map V.ref ++ [.ref t])) t = some (.tup [.int (pl old x : Int), .int (pl new x : Int)]) := fact_ne (Ne.symm Ft) ht2
      have k3 : Keep [] H (upd H2 F (.lst (ts.map V.ref ++ [.ref t]))) := k2.umut nF
      have tt3 : Tups (upd H2 F (.lst (ts.map V.ref ++ [.ref t]))) ts ((th.take i).map fun x => ((pl old x : Int), (pl new x : Int))) := ⟨tt2.len, fun j t' p a b => fact_ne (fun z => by
        have h1 := tt2.at_ j t' p a b
        rw [z, hF2] at h1
        cases h1) (tt2.at_ j t' p a b)⟩
      generalize upd H2 F (.lst (ts.map V.ref ++ [.ref t])) = H3 at hF3 ht3 k3 tt3
      have hF3s : SqL K H3 F ((ts ++ [t]).map V.ref) := SqL.of hF3
      have hl3 : atI ((ts ++ [t]).map V.ref) (-1) = some (.ref t) := by rw [List.map_append]; exact atI_last _ _
      have ht3s : SqT K H3 t [.int (pl old x : Int), .int (pl new x : Int)] := SqT.of ht3
      wtm_at "go"
      refine ifbF (decide_eq_false (by omega)) ?_
      wtm_at "go"
      refine ifbF (decide_eq_false (by omega)) ?_
      wtm_at "go"
      refine ⟨ts ++ [t], _, rfl, k3, hF3, ?_⟩
      rw [take_snoc hx, List.map_append]
      exact tt3.snoc ht3
    · rintro σ H1 ⟨ts, v4, rfl, k1, hF1, tt⟩
      rw [List.length_map, List.take_length] at tt
      refine hN _ _ ?_
      wtm_at "go"
      exact q F ts H1 k1 nF hF1 tt
def spLGoes (K : PySem.W.Frag) : Sp := fun vs H Q _ => ∃ (F : Addr) (ts : List Addr) (ps : List (Int × Int)) (z : Int), vs = [.ref F, .int z] ∧ SqL K H F (ts.map V.ref) ∧ Tups H ts ps ∧ ps.length ≤ 1000 ∧ (z = 1 ∨ z = -1) ∧
  M41.Cons (fun p r => p.1 < r.1 ∧ 0 < z * (r.2 - p.2)) ps ∧ Q (.bl true) H
theorem okLGoes (T : TX K mg) : FnOk P w K mg base CX0 1 T.fLGoes T.dLGoes ["_law_places_here", "_law_sign"] (spLGoes K) := by
  refine T.FLGoes.ok scLGoes (fun vs H Q E h => ?_) (fun cdv A outer s H vs Q E hr h => ?_)
  · obtain ⟨F, ts, ps, z, rfl, _⟩ := h
    rfl
  · obtain ⟨F, ts, ps, z, rfl, hF, tt, hl, hz, hc, q⟩ := h
    refine ⟨_, (derLGoes T hr).2, ?_⟩
    unfold derLGoes
    dsimp only [cxOf, Cx.nox]
    refine Lb.seq1 fun N hN => ?_
    wtm_at "go"
    refine ⟨rfl, ?_⟩
    wtm_at "go"
    refine ifbF rfl ?_
    wtm_at "go"
    refine hN _ _ ?_
    clear hN N
    refine Lb.seq1 fun N hN => ?_
    have etl : ((ts.map V.ref).length : Int) = (ps.length : Int) := by rw [List.length_map, tt.len]
    refine ⟨.ref F, rfl, F, _, rfl, .inl hF, 1, ((ts.map V.ref).length : Int), rfl, ⟨by omega, by omega, by omega, by omega⟩, ?_⟩
    refine for_range (lo := 1) (n := (((ts.map V.ref).length : Int) - 1).toNat) (fun i σ H1 => ∃ v2, σ = [some (.ref F), some (.int z), v2] ∧ H1 = H) ⟨none, rfl, rfl⟩ ?_ ?_
    · rintro i σ H1 hi ⟨v2, rfl, rfl⟩
      have h1 : i < ps.length := by omega
      have h2 : i + 1 < ps.length := by omega
      have e1 := List.getElem?_eq_getElem h1
      have e2 := List.getElem?_eq_getElem h2
      generalize ps[i] = p at e1
      generalize ps[i + 1] = r at e2
      obtain ⟨t1, a1, b1, _⟩ := tt.get (K := K) e1
      obtain ⟨t2, a2, b2, _⟩ := tt.get (K := K) e2
      have c1 : atI (ts.map V.ref) (1 + (i : Int) - 1) = some (.ref t1) := at_of (by omega) a1
      have c2 : atI (ts.map V.ref) (1 + (i : Int)) = some (.ref t2) := at_of (by omega) a2
      have hh := hc i p r e1 e2
      wtm_at "go"
      refine Lb.seq1 fun N2 hN2 => ?_
      wtm_at "go"
      refine ifbF (decide_eq_false (show ¬ r.1 ≤ p.1 by omega)) ?_
      wtm_at "go"
      refine hN2 _ _ ?_
      wtm_at "go"
      refine ifbF (decide_eq_false (show ¬ z * (r.2 - p.2) ≤ 0 by omega)) ?_
      wtm_at "go"
      exact ⟨_, rfl, rfl⟩
    · rintro σ H1 ⟨v2, rfl, rfl⟩
      refine hN _ _ ?_
      wtm_at "go"
      exact q
end

end Ki
namespace Ki
open PySem PySem.Spec PyProof.Rows L2 Lb
def dT (p : Int × Int) : PyData := .tuple [.int p.1, .int p.2]
theorem dp_t {K : PySem.W.Frag} {H : Hp} {t : Addr} {p : Int × Int} (h : SqT K H t [.int p.1, .int p.2]) : Dp K H (.ref t) (dT p) := .tup h (.cons (.int _) (.cons (.int _) .nil))
theorem dp_ts {K : PySem.W.Frag} {H : Hp} : ∀ {ts : List Addr} {ps : List (Int × Int)}, Tups H ts ps → DpAll K H (ts.map V.ref) (ps.map dT)
  | [], [], _ => .nil
  | [], _ :: _, h => by have := h.len; simp at this
  | _ :: _, [], h => by have := h.len; simp at this
  | t :: ts, p :: ps, h => .cons (dp_t (SqT.of (h.at_ 0 t p rfl rfl))) (dp_ts ⟨by have := h.len; simpa using this, fun i t' p' a b => h.at_ (i + 1) t' p' a b⟩)
theorem shaped_t (p : Int × Int) : SeqAt.shaped (dT p) = true := rfl
theorem shaped_ts (ps : List (Int × Int)) : SeqAt.shaped (.list (ps.map dT)) = true := by
  have h1 : PyData.canLayAll0 (ps.map dT) = true := by
    induction ps with
    | nil => rfl
    | cons p r ih => show (PyData.canLay0 (dT p) && PyData.canLayAll0 (r.map dT)) = true; rw [ih]; rfl
  have h2 : PyData.depthAll (ps.map dT) ≤ 1 := by
    induction ps with
    | nil => exact Nat.zero_le _
    | cons p r ih =>
      have hr : PyData.canLayAll0 (r.map dT) = true := by
        have : (PyData.canLay0 (dT p) && PyData.canLayAll0 (r.map dT)) = true := h1
        exact (Bool.and_eq_true_iff.mp this).2
      show max (PyData.depth (dT p)) (PyData.depthAll (r.map dT)) ≤ 1
      exact Nat.max_le.mpr ⟨Nat.le_refl 1, ih hr⟩
  show (PyData.canLayAll0 (ps.map dT) && decide (PyData.depthAll (ps.map dT) + 1 ≤ 64)) = true
  rw [h1, decide_eq_true (by omega)]
  rfl
theorem eqv_t (p r : Int × Int) : PyData.eqv (dT p) (dT r) = ((p.1 == r.1) && ((p.2 == r.2) && true)) := rfl
theorem any_no {ps : List (Int × Int)} {p : Int × Int} (h : p ∉ ps) : ((ps.map dT).any fun z => PyData.eqv z (dT p)) = false := by
  rw [List.any_eq_false]
  intro z hz
  obtain ⟨r, hr, rfl⟩ := List.mem_map.mp hz
  rw [eqv_t]
  intro e
  simp only [Bool.and_true, Bool.and_eq_true, beq_iff_eq] at e
  have : r = p := Prod.ext e.1 e.2
  exact h (this ▸ hr)
def pr (old new : List Key) (x : Key) : Int × Int := ((pl old x : Int), (pl new x : Int))
section
variable {P : Program} {w : World} {K : PySem.W.Frag} {mg : Str → Option Value} {base : Heap}
def spLBoth (K : PySem.W.Frag) : Sp := fun vs H Q _ => ∃ (a b u P : Addr) (as : List Addr) (old new up : List Key) (piles : List (List Key)) (cm : Int), vs = [.ref a, .ref b, .int cm, .ref u, .ref P] ∧ SqL K H a (old.map kV) ∧ SqL K H b (new.map kV) ∧ SqL K H u (up.map kV) ∧ PilesAt H P as piles ∧
  old.length ≤ 1000 ∧ new.length ≤ 1000 ∧ up.length ≤ 1000 ∧ UpOk old new up ∧ DownOk old new piles ∧ piles.length = up.length ∧ cm = ((old.filter fun k => kIn k new).length : Int) ∧ ∀ H', Keep [] H H' → Q (.bl true) H'
theorem okLBoth (T : TX K mg) : FnOk P w K mg base CX0 3 T.fLBoth T.dLBoth ["_law_old", "_law_new", "_law_common", "_law_up", "_law_down"] (spLBoth K) := by
  have GG : FnOk P w K mg base CX0 1 T.fLGoes T.dLGoes ["_law_places_here", "_law_sign"] (spLGoes K) := okLGoes T
  have GP : FnOk P w K mg base CX0 2 T.fLPlaces T.dLPlaces ["_law_old", "_law_new", "_law_row"] (spLPlaces K) := okLPlaces T
  refine T.FLBoth.ok scLBoth (fun vs H Q E h => ?_) (fun cdv A outer s H vs Q E hr h => ?_)
  · obtain ⟨a, b, u, P, as, old, new, up, piles, cm, rfl, _⟩ := h
    rfl
  · obtain ⟨a, b, u, P, as, old, new, up, piles, cm, rfl, ha, hb, hu, hP, lo, ln, lu, upo, dn, len, rfl, q⟩ := h
    refine ⟨_, (derLBoth T GG GP hr).2, ?_⟩
    unfold derLBoth
    dsimp only [cxOf, Cx.nox]
    have hPs : SqL K H P (as.map V.ref) := SqL.of hP.top
    -- if not goes(places(up), 1)
    refine Lb.seq1 fun N hN => ?_
    wtm_at "go"
    refine ⟨a, b, u, old, new, up, rfl, ha, hb, hu, lo, ln, lu, upo.mem, fun F ts H1 k1 nF hF tt => ?_⟩
    wtm_at "go"
    refine ⟨F, ts, _, 1, rfl, SqL.of hF, tt, by rw [List.length_map]; exact lu, .inl rfl, fun i p r hp hr => ?_, ?_⟩
    · rw [List.getElem?_map] at hp hr
      obtain ⟨x, hx, rfl⟩ := Option.map_eq_some_iff.mp hp
      obtain ⟨y, hy, rfl⟩ := Option.map_eq_some_iff.mp hr
      have := upo.ord i x y hx hy
      show (pl old x : Int) < (pl old y : Int) ∧ 0 < 1 * ((pl new y : Int) - (pl new x : Int))
      omega
    wtm_at "go"
    refine ifbF rfl ?_
    wtm_at "go"
    refine hN _ _ ?_
    clear hN N
    have hP1s : SqL K H1 P (as.map V.ref) := k1.seq hPs List.not_mem_nil
    have hu1 : SqL K H1 u (up.map kV) := k1.seq hu List.not_mem_nil
    refine Lb.seq1 fun N hN => ?_
    wtm_at "go"
    refine g_isi (tyx_list hP1s) (b := true) (by decide +kernel) ?_
    wtm_at "go"
    refine ifbF rfl ?_
    wtm_at "go"
    refine ifbF ?_ ?_
    · have e : ((as.map V.ref).length : Int) = ((up.map kV).length : Int) := by rw [List.length_map, List.length_map, hP.len, len]
      rw [e, decide_eq_true rfl]
      rfl
    wtm_at "go"
    refine hN _ _ ?_
    clear hN N
    refine Lb.seq1 fun N hN => ?_
    wtm_at "go"
    refine ⟨Nat.zero_le _, fun M nM => ?_⟩
    refine hN _ _ ?_
    clear hN N
    have nM0 : H M = none := k1.free nM List.not_mem_nil
    have k2 := k1.unew (o := .lst []) nM
    refine Lb.seq1 fun N hN => ?_
    refine ⟨.ref P, rfl, P, rfl, ⟨_, k2.seq hPs List.not_mem_nil⟩, for_list (K := K) (a := P) (xs := as.map V.ref)
      (fun i σ H4 => ∃ ms v6 v7 v8, σ = [some (.ref a), some (.ref b), some (.int ((old.filter fun k => kIn k new).length : Int)), some (.ref u), some (.ref P), some (.ref M), v6, v7, v8] ∧ Keep [] H H4 ∧ H4 M = some (.lst (ms.map V.ref)) ∧ Tups H4 ms (((piles.take i).flatten).map (pr old new)))
      ⟨[], none, none, none, rfl, k2, upd_same, ⟨rfl, fun i t p h => by simp at h⟩⟩ (fun i σ H4 _ h => by obtain ⟨_, _, _, _, _, k4, _⟩ := h; exact k4.seq hPs List.not_mem_nil) ?_ ?_⟩
    · rintro i y σ H4 hy ⟨ms, v6, v7, v8, rfl, k4, hM4, tm⟩
      have hil : i < as.length := by
        have := (List.getElem?_eq_some_iff.mp hy).1
        rwa [List.length_map] at this
      have hil2 : i < piles.length := by rw [← hP.len]; exact hil
      have hxa := List.getElem?_eq_getElem hil
      have hr := List.getElem?_eq_getElem hil2
      generalize as[i] = x at hxa
      generalize piles[i] = r at hr
      have ey : y = .ref x := by
        rw [List.getElem?_map, hxa] at hy
        exact (Option.some.inj hy).symm
      subst ey
      have hrm : r ∈ piles := List.mem_of_getElem? hr
      have hx0 : SqL K H x (r.map kV) := SqL.of (hP.row i x r hxa hr)
      have rl : r.length ≤ 1000 := Nat.le_trans (dn.rlen hrm) lo
      wtm_at "go"
      refine Lb.seq1 fun N2 hN2 => ?_
      wtm_at "go"
      refine ⟨a, b, x, old, new, r, rfl, k4.seq ha List.not_mem_nil, k4.seq hb List.not_mem_nil, k4.seq hx0 List.not_mem_nil, lo, ln, rl, dn.mem r hrm, fun F5 ts5 H5 k5 nF5 hF5 tt5 => ?_⟩
      refine hN2 _ _ ?_
      clear hN2 N2
      have hM5 := k5.at hM4 List.not_mem_nil
      have tm5 := tm.keep k5
      have k05 := k4.trans k5
      have FM : M ≠ F5 := ne_of_none hM4 nF5
      have hF5s : SqL K H5 F5 (ts5.map V.ref) := SqL.of hF5
      refine Lb.seq1 fun N2 hN2 => ?_
      wtm_at "go"
      refine ⟨F5, ts5, _, -1, rfl, SqL.of hF5, tt5, by rw [List.length_map]; exact rl, .inr rfl, fun i p r' hp hr' => ?_, ?_⟩
      · rw [List.getElem?_map] at hp hr'
        obtain ⟨x, hx, rfl⟩ := Option.map_eq_some_iff.mp hp
        obtain ⟨y, hy, rfl⟩ := Option.map_eq_some_iff.mp hr'
        have := dn.ord r hrm i x y hx hy
        show (pl old x : Int) < (pl old y : Int) ∧ 0 < -1 * ((pl new y : Int) - (pl new x : Int))
        omega
      wtm_at "go"
      refine ifbF rfl ?_
      wtm_at "go"
      have hne : r ≠ [] := dn.ne r hrm
      refine ifbF (decide_eq_false fun z => ?_) ?_
      · have := V.int.inj z
        have h2 := tt5.len
        rw [List.length_map] at this h2
        exact hne (List.eq_nil_of_length_eq_zero (by omega))
      wtm_at "go"
      refine hN2 _ _ ?_
      clear hN2 N2
      refine ⟨.ref F5, rfl, F5, rfl, ⟨_, hF5s⟩, for_list (K := K) (a := F5) (xs := ts5.map V.ref)
        (fun j σ H8 => ∃ ms v8, σ = [some (.ref a), some (.ref b), some (.int ((old.filter fun k => kIn k new).length : Int)), some (.ref u), some (.ref P), some (.ref M), some (.ref x), some (.ref F5), v8] ∧ Keep [] H H8 ∧ H8 M = some (.lst (ms.map V.ref)) ∧ H8 F5 = some (.lst (ts5.map V.ref)) ∧ Tups H8 ts5 (r.map (pr old new)) ∧ Tups H8 ms (((piles.take i).flatten ++ r.take j).map (pr old new)))
        ⟨ms, v8, rfl, k05, hM5, hF5, tt5, by rw [List.take_zero, List.append_nil]; exact tm5⟩ (fun j σ H8 _ h => by obtain ⟨_, _, _, _, _, h8, _⟩ := h; exact SqL.of h8) ?_ ?_⟩
      · rintro j y σ H8 hy ⟨ms8, v8, rfl, k8, hM8, hF8, tt8, tm8⟩
        have hjl : j < r.length := by
          have := (List.getElem?_eq_some_iff.mp hy).1
          have h2 := tt8.len
          rw [List.length_map] at this h2
          omega
        have hv := List.getElem?_eq_getElem hjl
        generalize r[j] = v at hv
        have hpv : (r.map (pr old new))[j]? = some (pr old new v) := by rw [List.getElem?_map, hv]; rfl
        obtain ⟨t, ht1, ht2, ht3⟩ := tt8.get (K := K) hpv
        have ey : y = .ref t := Option.some.inj (hy.symm.trans ht1)
        subst ey
        have vout := dn.out hr hv
        have vm := dn.mem r hrm v (List.mem_of_getElem? hv)
        have pout : pr old new v ∉ ((piles.take i).flatten ++ r.take j).map (pr old new) := fun m => by
          obtain ⟨z, hz, e⟩ := List.mem_map.mp m
          have zo : z ∈ old := by
            rcases List.mem_append.mp hz with h | h
            · obtain ⟨n, r2, h1, h2⟩ := M41.mem_flat.mp h
              exact (dn.mem r2 (List.mem_of_mem_take (List.mem_of_getElem? h1)) z h2).1
            · exact (dn.mem r hrm z (List.mem_of_mem_take h)).1
          have e1 : (pl old z : Int) = (pl old v : Int) := congrArg Prod.fst e
          have e2 : z = v := pl_inj zo vm.1 (by omega)
          exact vout (e2 ▸ hz)
        have hM8s : SqL K H8 M (ms8.map V.ref) := SqL.of hM8
        wtm_at "go"
        refine Lb.seq1 fun N3 hN3 => ?_
        wtm_at "go"
        refine ⟨dT (pr old new v), _, dp_t ht2, .lst hM8s (dp_ts tm8), shaped_t _, shaped_ts _, ?_⟩
        rw [any_no pout]
        wtm_at "go"
        refine ifbF rfl ?_
        wtm_at "go"
        refine hN3 _ _ ?_
        wtm_at "go"
        refine ⟨tyl hM8s, ?_⟩
        wtm_at "go"
        have ml := dn.plen i j hr
        have mlen := tm8.len
        rw [List.length_map] at mlen
        refine g_append hM8 (by rw [List.length_map]; exact small1000 (by omega)) ?_
        have tneM : ∀ (ts : List Addr) (ps : List (Int × Int)) (i : Nat) (t : Addr) (p : Int × Int), Tups H8 ts ps → ts[i]? = some t → ps[i]? = some p → t ≠ M := fun ts ps i t p tt a b z => by
          have h1 := tt.at_ i t p a b
          rw [z, hM8] at h1
          cases h1
        have up2 : ∀ (ts : List Addr) (ps : List (Int × Int)), Tups H8 ts ps → Tups (upd H8 M (.lst (ms8.map V.ref ++ [.ref t]))) ts ps := fun ts ps tt => ⟨tt.len, fun i t p a b => fact_ne (tneM ts ps i t p tt a b) (tt.at_ i t p a b)⟩
        refine ⟨ms8 ++ [t], _, rfl, by wtm_at "keep", by rw [upd_same, List.map_append]; rfl, fact_ne (Ne.symm FM) hF8, up2 _ _ tt8, ?_⟩
        have h9 := (up2 _ _ tm8).snoc (t := t) (p := pr old new v) (fact_ne (tneM _ _ j t _ tt8 ht3 hpv) (tt8.at_ j t _ ht3 hpv))
        rw [take_snoc hv, ← List.append_assoc, List.map_append (l₁ := (piles.take i).flatten ++ r.take j)]
        exact h9
      · rintro σ H8 ⟨ms8, v8, rfl, k8, hM8, hF8, tt8, tm8⟩
        have h2 := tt8.len
        rw [List.length_map] at h2
        rw [List.length_map, h2, List.take_length] at tm8
        refine ⟨ms8, _, _, _, rfl, k8, hM8, ?_⟩
        rw [take_snoc hr, List.flatten_append]
        simpa using tm8
    · rintro σ H4 ⟨ms, v6, v7, v8, rfl, k4, hM4, tm⟩
      rw [List.length_map, hP.len, List.take_length] at tm
      have hM4s : SqL K H4 M (ms.map V.ref) := SqL.of hM4
      refine hN _ _ ?_
      wtm_at "go"
      have e1 : decide (V.int (((ms.map V.ref).length : Nat) : Int) = V.int ((((old.filter fun k => kIn k new)).length : Nat) : Int)) = true := decide_eq_true (by
        have := tm.len
        rw [List.length_map] at this
        rw [List.length_map, this, dn.len])
      rw [e1]
      exact q _ k4
end

end Ki
namespace Ki
open PySem PySem.Spec PyProof.Rows L2 Lb
theorem ofS_inj {s t : String} (h : Str.ofString s = Str.ofString t) : s = t := by
  have h1 : (Str.ofString s).cps.toList = (Str.ofString t).cps.toList := by rw [h]
  rw [signs_ofString, signs_ofString] at h1
  have h2 : s.toList = t.toList := by
    have inj : ∀ (a b : List Char), a.map Char.toNat = b.map Char.toNat → a = b := by
      intro a
      induction a with
      | nil => intro b hb; cases b with | nil => rfl | cons _ _ => cases hb
      | cons x r ih =>
        intro b hb
        cases b with
        | nil => cases hb
        | cons y r' =>
          simp only [List.map_cons, List.cons.injEq] at hb
          rw [Char.toNat_inj.mp hb.1, ih r' hb.2]
    exact inj _ _ h1
  exact String.toList_inj.mp h2
theorem strI_inj {i j : Int} (h : Str.ofString (toString i) = Str.ofString (toString j)) : i = j := Int.repr_inj.mp (ofS_inj h)
theorem strOk_of (s : String) : PyData.strOk (Str.ofString s) = true := by
  unfold PyData.strOk
  rw [← Array.all_toList, signs_ofString, List.all_eq_true]
  intro x hx
  obtain ⟨c, _, rfl⟩ := List.mem_map.mp hx
  refine decide_eq_true ?_
  have := c.valid
  unfold UInt32.isValidChar Nat.isValidChar at this
  show c.toNat < _
  have e : c.toNat = c.val.toNat := rfl
  omega
/-- a value that the n-th draw makes -/
def KeyT (n : Nat) (k : Key) : Prop := ∃ i : Int, i.natAbs % 100 = n ∧ i.natAbs < 10 ^ 27 ∧ (k = .inl i ∨ k = .inr (Str.ofString (toString i)))
theorem KeyT.one {m n : Nat} {k : Key} (h : KeyT m k) (h' : KeyT n k) : m = n := by
  obtain ⟨i, a1, _, a3⟩ := h
  obtain ⟨j, b1, _, b3⟩ := h'
  have e : i = j := by
    rcases a3 with rfl | rfl
    · rcases b3 with b | b
      · exact Sum.inl.inj b
      · cases b
    · rcases b3 with b | b
      · cases b
      · exact strI_inj (Sum.inr.inj b)
  rw [e] at a1
  omega
/-- a row behind n draws -/
structure RowN (n : Nat) (ks : List Key) : Prop where
  nd : ks.Nodup
  tag : ∀ k, k ∈ ks → ∃ m, m < n ∧ KeyT m k
  len : ks.length ≤ 2 * n
theorem RowN.mono {n m : Nat} {ks : List Key} (h : RowN n ks) (l : n ≤ m) : RowN m ks := ⟨h.nd, fun k hk => by obtain ⟨j, h1, h2⟩ := h.tag k hk; exact ⟨j, by omega, h2⟩, by have := h.len; omega⟩
def insK (ks : List Key) (i : Nat) (k : Key) : List Key := ks.take i ++ [k] ++ ks.drop i
theorem insK_perm (ks : List Key) (i : Nat) (k : Key) : (insK ks i k).Perm (k :: ks) := by
  unfold insK
  rw [List.append_assoc]
  have h : (ks.take i ++ ([k] ++ ks.drop i)).Perm (k :: (ks.take i ++ ks.drop i)) := List.perm_middle
  rw [List.take_append_drop] at h
  exact h
/-- a row in the midst of the n-th turn: its new items are of n -/
structure RowM (n j : Nat) (ks : List Key) : Prop where
  nd : ks.Nodup
  tag : ∀ k, k ∈ ks → ∃ m, m ≤ n ∧ KeyT m k
  len : ks.length ≤ 2 * n + j
theorem insK_map (ks : List Key) (i : Nat) (k : Key) : (ks.map kV).take i ++ [kV k] ++ (ks.map kV).drop i = (insK ks i k).map kV := by
  unfold insK
  rw [List.map_append, List.map_append, List.map_take, List.map_drop]
  rfl
theorem insK_mem {ks : List Key} {i : Nat} {k z : Key} (h : z ∈ insK ks i k) : z ∈ ks ∨ z = k := by
  rcases List.mem_cons.mp ((insK_perm ks i k).mem_iff.mp h) with h | h
  · exact .inr h
  · exact .inl h
theorem RowN.m {n : Nat} {ks : List Key} (h : RowN n ks) : RowM n 0 ks := ⟨h.nd, fun k hk => by obtain ⟨m, h1, h2⟩ := h.tag k hk; exact ⟨m, by omega, h2⟩, h.len⟩
theorem RowM.n {n j : Nat} {ks : List Key} (h : RowM n j ks) (hj : j ≤ 2) : RowN (n + 1) ks := ⟨h.nd, fun k hk => by obtain ⟨m, h1, h2⟩ := h.tag k hk; exact ⟨m, by omega, h2⟩, by have := h.len; omega⟩
theorem RowM.mono {n j i : Nat} {ks : List Key} (h : RowM n j ks) (l : j ≤ i) : RowM n i ks := ⟨h.nd, h.tag, by have := h.len; omega⟩
theorem RowN.no {n : Nat} {ks : List Key} (h : RowN n ks) {k : Key} (t : KeyT n k) : k ∉ ks := fun m => by
  obtain ⟨j, h1, h2⟩ := h.tag k m
  have := h2.one t
  omega
theorem RowM.ins {n j : Nat} {ks : List Key} (h : RowM n j ks) {k : Key} (t : KeyT n k) (no : k ∉ ks) (i : Nat) : RowM n (j + 1) (insK ks i k) :=
  ⟨(insK_perm ks i k).nodup_iff.mpr (List.nodup_cons.mpr ⟨no, h.nd⟩), fun x hx => by
    rcases List.mem_cons.mp ((insK_perm ks i k).mem_iff.mp hx) with rfl | hx
    · exact ⟨n, Nat.le_refl _, t⟩
    · exact h.tag x hx, by rw [(insK_perm ks i k).length_eq, List.length_cons]; have := h.len; omega⟩
theorem Keep_fresh {b x : Addr} {H H1 H2 : Hp} (h : Keep [b] H H1) (h' : Keep [b, x] H1 H2) (n : H x = none) : Keep [b] H H2 := fun z o e nz => by
  refine h' z o (h z o e nz) fun m => ?_
  rcases List.mem_cons.mp m with rfl | m
  · exact nz List.mem_cons_self
  · rw [List.mem_singleton] at m
    rw [m, n] at e
    cases e
section
variable {P : Program} {w : World} {K : PySem.W.Frag} {mg : Str → Option Value} {base : Heap}
def spLValue (K : PySem.W.Frag) : Sp := fun vs H Q _ => ∃ (b c : Addr) (cells : List Int) (n : Int) (k : Nat), vs = [.ref b, .int (k : Int)] ∧ Bag K H b c cells n ∧ n + 3 < 100000 ∧ k < 100 ∧
  ∀ (key : Key) (H' : Hp), Keep [b] H H' → Bag K H' b c cells (n + 3) → KeyT k key → Q (kV key) H'
theorem okLValue (T : TX K mg) : FnOk P w K mg base CX0 2 T.fLValue T.dLValue ["_law_bag", "_law_k"] (spLValue K) := by
  have GT : FnOk P w K mg base CX0 1 T.fLTake T.dLTake ["_law_bag", "_law_many"] (spTake K) := okTake T
  refine T.FLValue.ok scLValue (fun vs H Q E h => ?_) (fun cdv A outer s H vs Q E hr h => ?_)
  · obtain ⟨b, c, cells, n, k, rfl, _⟩ := h
    rfl
  · obtain ⟨b, c, cells, n, k, rfl, hB, hn, hk, q⟩ := h
    refine ⟨_, (derLValue T GT hr).2, ?_⟩
    unfold derLValue
    dsimp only [cxOf, Cx.nox]
    refine Lb.seq1 fun N hN => ?_
    wtm_at "go"
    refine ⟨b, c, cells, n, _, rfl, hB, by omega, by decide, by decide, fun d H1 h0 h1 k1 hB1 => ?_⟩
    have h1' : d < 10 ^ 24 := h1
    wtm_at "go"
    refine hN _ _ ?_
    clear hN N
    refine cut (fun σ' H2 => ∃ z : Int, σ' = [some (.ref b), some (.int (k : Int)), some (.int z)] ∧ z.natAbs % 100 = k ∧ z.natAbs < 10 ^ 27 ∧ Keep [b] H H2 ∧ Bag K H2 b c cells (n + 2)) (fun N hN => ?_) ?_
    · wtm_at "go"
      refine ⟨b, c, cells, n + 1, 2, rfl, hB1, by omega, by decide, by decide, fun d2 H2 a0 a1 k2 hB2 => ?_⟩
      have hB2' : Bag K H2 b c cells (n + 2) := by rw [show n + 2 = n + 1 + 1 by omega]; exact hB2
      wtm_at "go"
      wtm_at "if"
      · wtm_at "go"
        exact hN _ _ ⟨-(d * 100 + k), rfl, by omega, by omega, k1.trans k2, hB2'⟩
      · wtm_at "go"
        exact hN _ _ ⟨d * 100 + k, rfl, by omega, by omega, k1.trans k2, hB2'⟩
    · rintro σ' H2 ⟨z, rfl, hz1, hz2, k2, hB2⟩
      refine Lb.seq1 fun N hN => ?_
      wtm_at "go"
      refine ⟨b, c, cells, n + 2, 3, rfl, hB2, by omega, by decide, by decide, fun d2 H3 a0 a1 k3 hB3 => ?_⟩
      have hB3' : Bag K H3 b c cells (n + 3) := by rw [show n + 3 = n + 2 + 1 by omega]; exact hB3
      wtm_at "go"
      wtm_at "if"
      · wtm_at "go"
        refine ⟨z, rfl, ?_, ?_⟩
        · have h3 : z.natAbs < 2 ^ 1920 := Nat.lt_of_lt_of_le hz2 (by decide +kernel)
          by_cases hz0 : z.natAbs = 0
          · rw [hz0]; decide
          · exact (Nat.log2_lt hz0).mpr h3
        · exact q (.inr (Str.ofString (toString z))) H3 (k2.trans k3) hB3' ⟨z, hz1, hz2, .inr rfl⟩
      · wtm_at "go"
        refine hN _ _ ?_
        wtm_at "go"
        exact q (.inl z) H3 (k2.trans k3) hB3' ⟨z, hz1, hz2, .inl rfl⟩
def spLPutIn (K : PySem.W.Frag) : Sp := fun vs H Q _ => ∃ (b c r : Addr) (cells : List Int) (n sh : Int) (xs : List V) (v : V), vs = [.ref b, .ref r, v, .int sh] ∧ Bag K H b c cells n ∧ n + 1 < 100000 ∧ H r = some (.lst xs) ∧ r ≠ b ∧ c ≠ r ∧ xs.length ≤ 1000 ∧
  ∀ (i : Nat) (H' : Hp), Keep [b, r] H H' → Bag K H' b c cells (n + 1) → H' r = some (.lst (xs.take i ++ [v] ++ xs.drop i)) → Q .non H'
theorem okLPutIn (T : TX K mg) : FnOk P w K mg base CX0 2 T.fLPutIn T.dLPutIn ["_law_bag", "_law_row", "_law_value_here", "_law_shape"] (spLPutIn K) := by
  have GT : FnOk P w K mg base CX0 1 T.fLTake T.dLTake ["_law_bag", "_law_many"] (spTake K) := okTake T
  refine T.FLPutIn.ok scLPutIn (fun vs H Q E h => ?_) (fun cdv A outer s H vs Q E hr h => ?_)
  · obtain ⟨b, c, r, cells, n, sh, xs, v, rfl, _⟩ := h
    rfl
  · obtain ⟨b, c, r, cells, n, sh, xs, v, rfl, hB, hn, hR, rb, cr, hl, q⟩ := h
    refine ⟨_, (derLPutIn T GT hr).2, ?_⟩
    unfold derLPutIn
    dsimp only [cxOf, Cx.nox]
    have hRs : SqL K H r xs := SqL.of hR
    refine Lb.seq1 fun N hN => ?_
    wtm_at "go"
    refine ⟨b, c, cells, n, _, rfl, hB, by omega, by omega, by omega, fun d H1 h0 h1 k1 hB1 => ?_⟩
    refine hN _ _ ?_
    clear hN N
    have hR1 : H1 r = some (.lst xs) := k1.at hR (by wtm_at "nin")
    have hR1s : SqL K H1 r xs := SqL.of hR1
    refine cut (fun σ' H2 => H2 = H1 ∧ ∃ i : Nat, i ≤ xs.length ∧ σ' = [some (.ref b), some (.ref r), some v, some (.int sh), some (.int (i : Int))]) (fun N hN => ?_) ?_
    · obtain ⟨j, rfl⟩ : ∃ j : Nat, d = (j : Int) := ⟨d.toNat, by omega⟩
      wtm_at "go"
      wtm_at "if"
      · wtm_at "go"
        exact hN _ _ ⟨rfl, xs.length, Nat.le_refl _, rfl⟩
      · wtm_at "go"
        exact hN _ _ ⟨rfl, j, by omega, rfl⟩
    · rintro σ' H2 ⟨rfl, i, hi, rfl⟩
      refine cut (fun σ' H3 => H3 = H2 ∧ ∃ i : Nat, i ≤ xs.length ∧ σ' = [some (.ref b), some (.ref r), some v, some (.int sh), some (.int (i : Int))]) (fun N hN => ?_) ?_
      · wtm_at "go"
        wtm_at "if"
        · wtm_at "go"
          exact hN _ _ ⟨rfl, 0, Nat.zero_le _, rfl⟩
        · wtm_at "go"
          exact hN _ _ ⟨rfl, i, hi, rfl⟩
      · rintro σ' H3 ⟨rfl, i, hi, rfl⟩
        wtm_at "go"
        refine ⟨tyl hR1s, ?_⟩
        wtm_at "go"
        refine ⟨r, xs, (i : Int), v, rfl, rfl, hR1, small1000 hl, by omega, by omega, ?_⟩
        have hbr : b ≠ r := fun z => rb z.symm
        obtain ⟨i1, r1, hb1, hc1, ncb, g1, g2, g3⟩ := hB1
        refine q i _ ?_ ⟨i1, r1, fact_ne hbr hb1, sq_ne cr hc1, ncb, g1, g2, g3⟩ ?_
        · exact (k1.mono (fun x hx => by simp at hx; simp [hx])).uput (by simp)
        · rw [upd_same]
          rfl
def spLRows (K : PySem.W.Frag) : Sp := fun vs H Q _ => ∃ (b c : Addr) (cells : List Int) (o : HO), vs = [.ref b] ∧ Bag K H b c cells 0 ∧ H c = some o ∧
  ∀ (R x y : Addr) (old new : List Key) (n : Int) (H' : Hp), Keep [b] H H' → H R = none → H x = none → H y = none → x ≠ y → R ≠ x → R ≠ y → Bag K H' b c cells n → n < 1000 → H' R = some (.lst [.ref x, .ref y]) → H' x = some (.lst (old.map kV)) → H' y = some (.lst (new.map kV)) → RowN 30 old → RowN 30 new → Q (.ref R) H'
theorem okLRows (T : TX K mg) : FnOk P w K mg base CX0 3 T.fLRows T.dLRows ["_law_bag"] (spLRows K) := by
  have GT : FnOk P w K mg base CX0 1 T.fLTake T.dLTake ["_law_bag", "_law_many"] (spTake K) := okTake T
  have GV : FnOk P w K mg base CX0 2 T.fLValue T.dLValue ["_law_bag", "_law_k"] (spLValue K) := okLValue T
  have GI : FnOk P w K mg base CX0 2 T.fLPutIn T.dLPutIn ["_law_bag", "_law_row", "_law_value_here", "_law_shape"] (spLPutIn K) := okLPutIn T
  refine T.FLRows.ok scLRows (fun vs H Q E h => ?_) (fun cdv A outer s H vs Q E hr h => ?_)
  · obtain ⟨b, c, cells, o, rfl, _⟩ := h
    rfl
  · obtain ⟨b, c, cells, o, rfl, hB, hco, q⟩ := h
    refine ⟨_, (derLRows T GI GT GV hr).2, ?_⟩
    unfold derLRows
    dsimp only [cxOf, Cx.nox]
    refine Lb.seq1 fun N hN => ?_
    wtm_at "go"
    refine ⟨b, c, cells, 0, 9, rfl, hB, by decide, by decide, by decide, fun d H1 h0 h1 k1 hB1 => ?_⟩
    refine hN _ _ ?_
    clear hN N
    refine cut (fun σ' H2 => Keep [b] H H2 ∧ Bag K H2 b c cells 2 ∧ ∃ m : Nat, m ≤ 28 ∧ σ' = [some (.ref b), some (.int (m : Int)), none, none, none, none, none, none]) (fun N hN => ?_) ?_
    · obtain ⟨j, rfl⟩ : ∃ j : Nat, d = (j : Int) := ⟨d.toNat, by omega⟩
      wtm_at "go"
      refine ⟨b, c, cells, 1, 8, rfl, hB1, by decide, by decide, by decide, fun d2 H2 a0 a1 k2 hB2 => ?_⟩
      wtm_at "go"
      wtm_at "if"
      · wtm_at "go"
        exact hN _ _ ⟨k1.trans k2, hB2, j + 20, by omega, rfl⟩
      · wtm_at "go"
        exact hN _ _ ⟨k1.trans k2, hB2, j, by omega, rfl⟩
    · rintro σ' H2 ⟨k2, hB2, m, hm, rfl⟩
      refine Lb.seq1 fun N hN => ?_
      wtm_at "go"
      refine ⟨b, c, cells, 2, 4, rfl, hB2, by decide, by decide, by decide, fun sh H3 s0 s1 k3 hB3 => ?_⟩
      refine hN _ _ ?_
      clear hN N
      refine Lb.seq1 fun N hN => ?_
      wtm_at "go"
      refine ⟨b, c, cells, 3, 3, rfl, hB3, by decide, by decide, by decide, fun tw H4 t0 t1 k4 hB4 => ?_⟩
      refine hN _ _ ?_
      clear hN N
      have k04 := (k2.trans k3).trans k4
      obtain ⟨i4, r4, hb4, hc4, ncb, f1, f2, f3⟩ := id hB4
      have hco4 : H4 c = some o := k04.at hco (by wtm_at "nin")
      refine Lb.seq1 fun N hN => ?_
      wtm_at "go"
      refine ⟨Nat.zero_le _, fun x nx => ?_⟩
      wtm_at "go"
      refine ⟨Nat.zero_le _, fun y ny => ?_⟩
      wtm_at "go"
      refine ⟨by show 2 ≤ sizeLine; decide, fun R nR => ?_⟩
      refine hN _ _ ?_
      clear hN N
      have xb : x ≠ b := fun z => ne_of_none hb4 nx z.symm
      have xc : c ≠ x := ne_of_none hco4 nx
      have hb5 : upd H4 x (.lst []) b = some (.lst [.ref c, .int i4, .int r4, .int (3 + 1)]) := fact_new nx hb4
      have hco5 : upd H4 x (.lst []) c = some o := fact_new nx hco4
      have hx5 : upd H4 x (.lst []) x = some (.lst []) := upd_same
      have yb : y ≠ b := fun z => ne_of_none hb5 ny z.symm
      have yc : c ≠ y := ne_of_none hco5 ny
      have xy : x ≠ y := ne_of_none hx5 ny
      have hb6 := fact_new (o := .lst []) ny hb5
      have hco6 := fact_new (o := .lst []) ny hco5
      have hx6 := fact_new (o := .lst []) ny hx5
      have hy6 : upd (upd H4 x (.lst [])) y (.lst []) y = some (.lst []) := upd_same
      have Rb : R ≠ b := fun z => ne_of_none hb6 nR z.symm
      have Rx : R ≠ x := fun z => ne_of_none hx6 nR z.symm
      have Ry : R ≠ y := fun z => ne_of_none hy6 nR z.symm
      have nx0 : H x = none := k04.free nx (by wtm_at "nin")
      have k5 : Keep [b] H (upd H4 x (.lst [])) := k04.unew nx
      have ny0 : H y = none := k5.free ny (by wtm_at "nin")
      have k6 := k5.unew (o := .lst []) ny
      have nR0 : H R = none := k6.free nR (by wtm_at "nin")
      have k7 := k6.unew (o := .lst [.ref x, .ref y]) nR
      have hB7 : Bag K (upd (upd (upd H4 x (.lst [])) y (.lst [])) R (.lst [.ref x, .ref y])) b c cells 4 := ⟨i4, r4, fact_new nR hb6, sq_new nR (sq_new ny (sq_new nx hc4)), ncb, f1, f2, f3⟩
      have hx7 := fact_new (o := .lst [.ref x, .ref y]) nR hx6
      have hy7 := fact_new (o := .lst [.ref x, .ref y]) nR hy6
      have hR7 : upd (upd (upd H4 x (.lst [])) y (.lst [])) R (.lst [.ref x, .ref y]) R = some (.lst [.ref x, .ref y]) := upd_same
      generalize upd (upd (upd H4 x (.lst [])) y (.lst [])) R (.lst [.ref x, .ref y]) = H7 at k7 hB7 hx7 hy7 hR7
      refine Lb.seq1 fun N hN => ?_
      refine ⟨_, rfl, (m : Int), rfl, by omega, by omega, ?_⟩
      refine for_range (lo := 0) (n := (m : Int).toNat) (fun i σ H8 => ∃ old new v5 v6 v7, ∃ n : Int, σ = [some (.ref b), some (.int (m : Int)), some (.int sh), some (.int tw), some (.ref R), v5, v6, v7] ∧ Keep [b] H H8 ∧ Bag K H8 b c cells n ∧ n ≤ 4 + 10 * i ∧ H8 R = some (.lst [.ref x, .ref y]) ∧ H8 x = some (.lst (old.map kV)) ∧ H8 y = some (.lst (new.map kV)) ∧ RowN i old ∧ RowN i new)
        ⟨[], [], none, none, none, 4, rfl, k7, hB7, by omega, hR7, hx7, hy7, ⟨List.nodup_nil, fun k h => by simp at h, by simp⟩, ⟨List.nodup_nil, fun k h => by simp at h, by simp⟩⟩ ?_ ?_
      · rintro i σ H8 hi ⟨old, new, v5, v6, v7, n, rfl, k8, hB8, hn8, hR8, hx8, hy8, ro, rn⟩
        have hi' : i < m := by omega
        rw [show (0 : Int) + (i : Int) = (i : Int) by omega]
        have xc8 : c ≠ x := xc
        wtm_at "go"
        refine Lb.seq1 fun N2 hN2 => ?_
        wtm_at "go"
        refine ⟨b, c, cells, n, i, rfl, hB8, by omega, by omega, fun key H9 k9 hB9 kt => ?_⟩
        refine hN2 _ _ ?_
        clear hN2 N2
        have hR9 := k9.at hR8 (by wtm_at "nin")
        have hx9 := k9.at hx8 (by wtm_at "nin")
        have hy9 := k9.at hy8 (by wtm_at "nin")
        have k09 := k8.trans k9
        refine Lb.seq1 fun N2 hN2 => ?_
        wtm_at "go"
        refine ⟨b, c, cells, n + 3, 5, rfl, hB9, by omega, by decide, by decide, fun wh H10 w0 w1 k10 hB10 => ?_⟩
        refine hN2 _ _ ?_
        clear hN2 N2
        have hR10 := k10.at hR9 (by wtm_at "nin")
        have hx10 := k10.at hx9 (by wtm_at "nin")
        have hy10 := k10.at hy9 (by wtm_at "nin")
        have k010 := k09.trans k10
        have ol : (old.map kV).length ≤ 1000 := by rw [List.length_map]; have := ro.len; omega
        have nl : (new.map kV).length ≤ 1000 := by rw [List.length_map]; have := rn.len; omega
        -- if where != 1
        refine cut (fun σ' H' => ∃ (old' : List Key) (n' : Int), σ' = [some (.ref b), some (.int (m : Int)), some (.int sh), some (.int tw), some (.ref R), some (.int (i : Int)), some (kV key), some (.int wh)] ∧ Keep [b] H H' ∧ Bag K H' b c cells n' ∧ n' ≤ n + 5 ∧ H' R = some (.lst [.ref x, .ref y]) ∧ H' x = some (.lst (old'.map kV)) ∧ H' y = some (.lst (new.map kV)) ∧ RowM i 1 old' ∧ (∀ k, k ∈ old' → k ∈ old ∨ k = key)) (fun N2 hN2 => ?_) ?_
        · wtm_at "go"
          wtm_at "if"
          · wtm_at "go"
            refine ⟨b, c, x, cells, n + 3 + 1, 1, old.map kV, kV key, rfl, hB10, by omega, hx10, xb, xc, ol, fun p H11 k11 hB11 hx11 => ?_⟩
            refine hN2 _ _ ⟨insK old p key, n + 3 + 1 + 1, rfl, Keep_fresh k010 k11 nx0, hB11, by omega, k11.at hR10 (by wtm_at "nin"), by rw [hx11, insK_map], k11.at hy10 (by wtm_at "nin"), ro.m.ins kt (ro.no kt) p, fun k hk => insK_mem hk⟩
          · wtm_at "go"
            exact hN2 _ _ ⟨old, n + 3 + 1, rfl, k010, hB10, by omega, hR10, hx10, hy10, ro.m.mono (by omega), fun k hk => .inl hk⟩
        · rintro σ' H11 ⟨old', n', rfl, k11, hB11, hn11, hR11, hx11, hy11, ro', mo'⟩
          -- if where != 0
          refine cut (fun σ' H' => ∃ (new' : List Key) (n' : Int), σ' = [some (.ref b), some (.int (m : Int)), some (.int sh), some (.int tw), some (.ref R), some (.int (i : Int)), some (kV key), some (.int wh)] ∧ Keep [b] H H' ∧ Bag K H' b c cells n' ∧ n' ≤ n + 6 ∧ H' R = some (.lst [.ref x, .ref y]) ∧ H' x = some (.lst (old'.map kV)) ∧ H' y = some (.lst (new'.map kV)) ∧ RowM i 1 new' ∧ (∀ k, k ∈ new' → k ∈ new ∨ k = key)) (fun N2 hN2 => ?_) ?_
          · wtm_at "go"
            wtm_at "if"
            · wtm_at "go"
              refine ⟨b, c, y, cells, n', sh, new.map kV, kV key, rfl, hB11, by omega, hy11, yb, yc, nl, fun p H12 k12 hB12 hy12 => ?_⟩
              refine hN2 _ _ ⟨insK new p key, n' + 1, rfl, Keep_fresh k11 k12 ny0, hB12, by omega, k12.at hR11 (by wtm_at "nin"), k12.at hx11 (by wtm_at "nin"), by rw [hy12, insK_map], rn.m.ins kt (rn.no kt) p, fun k hk => insK_mem hk⟩
            · wtm_at "go"
              exact hN2 _ _ ⟨new, n', rfl, k11, hB11, by omega, hR11, hx11, hy11, rn.m.mono (by omega), fun k hk => .inl hk⟩
          · rintro σ' H12 ⟨new', n2, rfl, k12, hB12, hn12, hR12, hx12, hy12, rn', mn'⟩
            have stay : ∀ σ', σ' = [some (.ref b), some (.int (m : Int)), some (.int sh), some (.int tw), some (.ref R), some (.int (i : Int)), some (kV key), some (.int wh)] → ∃ old new v5 v6 v7, ∃ n : Int, σ' = [some (.ref b), some (.int (m : Int)), some (.int sh), some (.int tw), some (.ref R), v5, v6, v7] ∧ Keep [b] H H12 ∧ Bag K H12 b c cells n ∧ n ≤ 4 + 10 * ((i + 1 : Nat) : Int) ∧ H12 R = some (.lst [.ref x, .ref y]) ∧ H12 x = some (.lst (old.map kV)) ∧ H12 y = some (.lst (new.map kV)) ∧ RowN (i + 1) old ∧ RowN (i + 1) new :=
              fun σ' e => ⟨old', new', _, _, _, n2, e, k12, hB12, by omega, hR12, hx12, hy12, ro'.n (by omega), rn'.n (by omega)⟩
            have ol' : (old'.map kV).length ≤ 1000 := by rw [List.length_map]; have := ro'.len; omega
            have nl' : (new'.map kV).length ≤ 1000 := by rw [List.length_map]; have := rn'.len; omega
            wtm_at "go"
            wtm_at "if"
            · wtm_at "go"
              wtm_at "if"
              · wtm_at "go"
                cases key with
                | inr s =>
                  refine g_isi (t := "str") (b := true) (.base (.str s)) (by decide +kernel) ?_
                  wtm_at "go"
                  refine ifbF rfl ?_
                  wtm_at "go"
                  exact stay _ rfl
                | inl z =>
                  refine g_isi (t := "int") (b := false) (.base (.int z)) (by decide +kernel) ?_
                  wtm_at "go"
                  refine ifbT rfl ?_
                  have kt2 : KeyT i (.inr (Str.ofString (toString z))) := by
                    obtain ⟨z', h1, h2, h3⟩ := kt
                    rcases h3 with h3 | h3
                    · cases h3
                      exact ⟨z, h1, h2, .inr rfl⟩
                    · cases h3
                  have lg : z.natAbs.log2 < 1920 := by
                    obtain ⟨z', h1, h2, h3⟩ := kt
                    have ez : z = z' := by
                      rcases h3 with h3 | h3
                      · exact Sum.inl.inj h3
                      · cases h3
                    rw [ez]
                    have h3 : z'.natAbs < 2 ^ 1920 := Nat.lt_of_lt_of_le h2 (by decide +kernel)
                    by_cases hz0 : z'.natAbs = 0
                    · rw [hz0]; decide
                    · exact (Nat.log2_lt hz0).mpr h3
                  have wm : wh % 2 = 0 ∨ wh % 2 = 1 := by omega
                  wtm_at "go"
                  rcases wm with wm | wm
                  · rw [wm]
                    wtm_at "go"
                    refine ⟨z, rfl, lg, ?_⟩
                    wtm_at "go"
                    have no : (.inr (Str.ofString (toString z)) : Key) ∉ old' := fun mm => by
                      rcases mo' _ mm with h | h
                      · exact ro.no kt2 h
                      · cases h
                    refine ⟨b, c, x, cells, n2, 0, old'.map kV, kV (.inr (Str.ofString (toString z))), rfl, hB12, by omega, hx12, xb, xc, ol', fun p H13 k13 hB13 hx13 => ?_⟩
                    exact ⟨insK old' p _, new', _, _, _, n2 + 1, rfl, Keep_fresh k12 k13 nx0, hB13, by omega, k13.at hR12 (by wtm_at "nin"), by rw [hx13, insK_map], k13.at hy12 (by wtm_at "nin"), (ro'.ins kt2 no p).n (by omega), rn'.n (by omega)⟩
                  · rw [wm]
                    wtm_at "go"
                    refine ⟨z, rfl, lg, ?_⟩
                    wtm_at "go"
                    have no : (.inr (Str.ofString (toString z)) : Key) ∉ new' := fun mm => by
                      rcases mn' _ mm with h | h
                      · exact rn.no kt2 h
                      · cases h
                    refine ⟨b, c, y, cells, n2, 0, new'.map kV, kV (.inr (Str.ofString (toString z))), rfl, hB12, by omega, hy12, yb, yc, nl', fun p H13 k13 hB13 hy13 => ?_⟩
                    exact ⟨old', insK new' p _, _, _, _, n2 + 1, rfl, Keep_fresh k12 k13 ny0, hB13, by omega, k13.at hR12 (by wtm_at "nin"), k13.at hx12 (by wtm_at "nin"), by rw [hy13, insK_map], ro'.n (by omega), (rn'.ins kt2 no p).n (by omega)⟩
              · wtm_at "F"
                wtm_at "go"
                exact stay _ rfl
            · wtm_at "F"
              wtm_at "go"
              exact stay _ rfl
      · rintro σ H8 ⟨old, new, v5, v6, v7, n, rfl, k8, hB8, hn8, hR8, hx8, hy8, ro, rn⟩
        refine hN _ _ ?_
        wtm_at "go"
        exact q R x y old new n H8 k8 nR0 nx0 ny0 xy Rx Ry hB8 (by omega) hR8 hx8 hy8 (ro.mono (by omega)) (rn.mono (by omega))
end

end Ki
namespace Ki
open PySem PySem.Spec PyProof.Rows L2 Lb
def dK : Key → PyData
  | .inl i => .int i
  | .inr s => .str s
theorem dp_k (K : PySem.W.Frag) (H : Hp) (k : Key) : Dp K H (kV k) (dK k) := by
  cases k with
  | inl i => exact .int i
  | inr s => exact .str s
theorem dp_ks (K : PySem.W.Frag) (H : Hp) : ∀ ks : List Key, DpAll K H (ks.map kV) (ks.map dK)
  | [] => .nil
  | k :: r => .cons (dp_k K H k) (dp_ks K H r)
theorem lay_k {n : Nat} {k : Key} (h : KeyT n k) : PyData.canLay0 (dK k) = true := by
  obtain ⟨i, _, _, rfl | rfl⟩ := h
  · rfl
  · exact strOk_of _
theorem lay_ks {n : Nat} {ks : List Key} (h : ∀ k, k ∈ ks → ∃ m, m < n ∧ KeyT m k) : PyData.canLayAll0 (ks.map dK) = true := by
  induction ks with
  | nil => rfl
  | cons k r ih =>
    obtain ⟨m, _, hk⟩ := h k List.mem_cons_self
    show (PyData.canLay0 (dK k) && PyData.canLayAll0 (r.map dK)) = true
    rw [lay_k hk, ih fun k hk => h k (List.mem_cons_of_mem _ hk)]
    rfl
theorem depth_ks (ks : List Key) : PyData.depthAll (ks.map dK) = 0 := by
  induction ks with
  | nil => rfl
  | cons k r ih =>
    show max (PyData.depth (dK k)) (PyData.depthAll (r.map dK)) = 0
    rw [ih]
    cases k <;> rfl
theorem shaped_2 {n : Nat} {old new : List Key} (ro : RowN n old) (rn : RowN n new) : SeqAt.shaped (.list [.list (old.map dK), .list (new.map dK)]) = true := by
  show ((PyData.canLayAll0 (old.map dK) && (PyData.canLayAll0 (new.map dK) && true)) && decide (max (PyData.depthAll (old.map dK) + 1) (max (PyData.depthAll (new.map dK) + 1) 0) + 1 ≤ 64)) = true
  rw [lay_ks ro.tag, lay_ks rn.tag, depth_ks, depth_ks]
  rfl
section
variable {P : Program} {w : World} {K : PySem.W.Frag} {mg : Str → Option Value} {base : Heap}
def spLaw (K : PySem.W.Frag) : Sp := fun vs H Q _ => ∃ (a : Addr) (ns : List Int), vs = [.ref a] ∧ SqL K H a (ns.map V.int) ∧ ns.length ≤ 63 ∧ ∀ H', Q (.bl true) H'
theorem spLaw_of {K : PySem.W.Frag} {H : Hp} {a : Addr} {ns : List Int} {E : XK} (hl : ns.length ≤ 63) (hS : SqL K H a (ns.map V.int)) : spLaw K [.ref a] H (fun v _ => v = .bl true) E := ⟨a, ns, rfl, hS, hl, fun _ => rfl⟩
theorem okEnd (T : TX K mg) : FnOk P w K mg base CX0 4 T.fLaw T.dLaw ["_law_script"] (spLaw K) := by
  have GB : FnOk P w K mg base CX0 3 T.fLBoth T.dLBoth ["_law_old", "_law_new", "_law_common", "_law_up", "_law_down"] (spLBoth K) := okLBoth T
  have GF : FnOk P w K mg base CX0 3 T.fIsFalling T.dIsFalling ["old", "new", "thing"] (spIsFalling K) := okIsFalling T
  have GI : FnOk P w K mg base CX0 3 T.fIsRising T.dIsRising ["old", "new", "thing"] (spIsRising K) := okIsRising T
  have GD : FnOk P w K mg base CX0 3 T.fFalling T.dFalling ["old", "new"] (spFalling K) := okFalling T
  have GU : FnOk P w K mg base CX0 3 T.fRising T.dRising ["old", "new"] (spRising K) := okRising T
  have GP : FnOk P w K mg base CX0 1 T.fLPlace T.dLPlace ["_law_row", "_law_value_here"] (spLPlace K) := okLPlace T
  have GR : FnOk P w K mg base CX0 3 T.fLRows T.dLRows ["_law_bag"] (spLRows K) := okLRows T
  refine T.FLaw.ok scLaw (fun vs H Q E h => ?_) (fun cdv A outer s H vs Q E hr h => ?_)
  · obtain ⟨a, ns, rfl, _⟩ := h
    rfl
  · obtain ⟨a, ns, rfl, ha, hl, q⟩ := h
    refine ⟨_, (derLaw T GB GF GI GD GU GP GR hr).2, ?_⟩
    unfold derLaw
    dsimp only [cxOf, Cx.nox]
    -- bag = [list(script), 0, 0, 0]
    refine Lb.seq1 fun N hN => ?_
    wtm_at "go"
    refine g_list ha fun c nc => ?_
    wtm_at "go"
    refine ⟨by show 4 ≤ sizeLine; decide, fun b nb => ?_⟩
    refine hN _ _ ?_
    clear hN N
    have hc1 : upd H c (.lst (ns.map V.int)) c = some (.lst (ns.map V.int)) := upd_same
    have cb : c ≠ b := ne_of_none hc1 nb
    have hc2 := fact_new (o := .lst [.ref c, .int 0, .int 0, .int 0]) nb hc1
    have hB2 : Bag K (upd (upd H c (.lst (ns.map V.int))) b (.lst [.ref c, .int 0, .int 0, .int 0])) b c ns 0 := ⟨0, 0, upd_same, SqL.of hc2, cb, by decide, by decide, by decide⟩
    generalize upd (upd H c (.lst (ns.map V.int))) b (.lst [.ref c, .int 0, .int 0, .int 0]) = H2 at hc2 hB2
    refine Lb.seq1 fun N hN => ?_
    wtm_at "go"
    refine ⟨b, c, ns, _, rfl, hB2, hc2, fun R x y old new n H3 k3 nR nx ny xy Rx Ry hB3 hn hR3 hx3 hy3 ro rn => ?_⟩
    refine hN _ _ ?_
    clear hN N
    have hR3s : SqL K H3 R [.ref x, .ref y] := SqL.of hR3
    have hx3s : SqL K H3 x (old.map kV) := SqL.of hx3
    have hy3s : SqL K H3 y (new.map kV) := SqL.of hy3
    have lo : old.length ≤ 1000 := by have := ro.len; omega
    have ln : new.length ≤ 1000 := by have := rn.len; omega
    wtm_at "st"
    wtm_at "st"
    -- passed = [list(old), list(new)]
    refine Lb.seq1 fun N hN => ?_
    wtm_at "go"
    refine g_list hx3s fun p1 np1 => ?_
    have hy4s : SqL K (upd H3 p1 (.lst (old.map kV))) y (new.map kV) := sq_new np1 hy3s
    wtm_at "go"
    refine g_list hy4s fun p2 np2 => ?_
    wtm_at "go"
    refine ⟨by show 2 ≤ sizeLine; decide, fun Z nZ => ?_⟩
    refine hN _ _ ?_
    clear hN N
    have hp1 : upd (upd (upd H3 p1 (.lst (old.map kV))) p2 (.lst (new.map kV))) Z (.lst [.ref p1, .ref p2]) p1 = some (.lst (old.map kV)) := fact_new nZ (fact_new np2 upd_same)
    have hp2 : upd (upd (upd H3 p1 (.lst (old.map kV))) p2 (.lst (new.map kV))) Z (.lst [.ref p1, .ref p2]) p2 = some (.lst (new.map kV)) := fact_new nZ upd_same
    have hZ : upd (upd (upd H3 p1 (.lst (old.map kV))) p2 (.lst (new.map kV))) Z (.lst [.ref p1, .ref p2]) Z = some (.lst [.ref p1, .ref p2]) := upd_same
    have hx5 := fact_new (o := .lst [.ref p1, .ref p2]) nZ (fact_new (o := .lst (new.map kV)) np2 (fact_new (o := .lst (old.map kV)) np1 hx3))
    have hy5 := fact_new (o := .lst [.ref p1, .ref p2]) nZ (fact_new (o := .lst (new.map kV)) np2 (fact_new (o := .lst (old.map kV)) np1 hy3))
    generalize upd (upd (upd H3 p1 (.lst (old.map kV))) p2 (.lst (new.map kV))) Z (.lst [.ref p1, .ref p2]) = H5 at hp1 hp2 hZ hx5 hy5
    have hx5s : SqL K H5 x (old.map kV) := SqL.of hx5
    have hy5s : SqL K H5 y (new.map kV) := SqL.of hy5
    -- common = len([..])
    refine Lb.seq1 fun N hN => ?_
    wtm_at "go"
    refine ⟨_, rfl, x, rfl, ⟨_, hx5s⟩, fun D hD => ?_⟩
    refine lc_list (K := K) (a := x) (xs := old.map kV) (fun i H6 => Keep [] H5 H6 ∧ H6 D = some (.lst (((old.take i).filter fun k => kIn k new).map kV))) ⟨Keep.new hD, upd_same⟩ (fun i H6 _ h => h.1.seq hx5s List.not_mem_nil) ?_ ?_
    · rintro i v H6 hv ⟨k6, hD6⟩
      obtain ⟨k, hk, rfl⟩ := getk hv
      refine ⟨rfl, ?_⟩
      wtm_at "go"
      refine ⟨y, new, k, rfl, k6.seq hy5s List.not_mem_nil, ln, ?_⟩
      wtm_at "go"
      rw [take_snoc hk, List.filter_append]
      have eb : decide (0 ≤ plI new k) = kIn k new := by
        by_cases m : k ∈ new
        · rw [plI_mem m, kIn_iff.mpr m]
          exact decide_eq_true (by omega)
        · rw [plI_out m, kIn_no.mpr m]
          rfl
      refine ifb (fun e => ?_) (fun e => ?_)
      · have e2 : kIn k new = true := eb.symm.trans e
        wtm_at "go"
        refine ⟨_, hD6, ?_, k6.umut hD, ?_⟩
        · rw [List.length_map]
          have h3 := List.length_filter_le (fun k => kIn k new) (old.take i)
          have h4 : (old.take i).length ≤ old.length := by rw [List.length_take]; omega
          exact small1000 (by omega)
        · rw [upd_same, List.map_append]
          simp [List.filter, e2]
      · have e2 : kIn k new = false := eb.symm.trans e
        refine ⟨k6, ?_⟩
        rw [hD6]
        simp [List.filter, e2]
    rintro H6 ⟨k6, hD6⟩
    rw [List.length_map, List.take_length] at hD6
    have hD6s := SqL.of (K := K) hD6
    wtm_at "go"
    refine hN _ _ ?_
    clear hN N
    have hp16 := k6.at hp1 List.not_mem_nil
    have hp26 := k6.at hp2 List.not_mem_nil
    have hZ6 := k6.at hZ List.not_mem_nil
    have hx6 := k6.at hx5 List.not_mem_nil
    have hy6 := k6.at hy5 List.not_mem_nil
    have ecm : (((old.filter fun k => kIn k new).map kV).length : Int) = ((old.filter fun k => kIn k new).length : Int) := by rw [List.length_map]
    rw [ecm]
    generalize hcm : ((old.filter fun k => kIn k new).length : Int) = cm
    refine Lb.seq1 fun N hN => ?_
    refine ⟨2, rfl, by decide, by decide, ?_⟩
    refine for_range (lo := 0) (n := 2) (fun i σ H7 => ∃ v7 v8 v9 v10 v11, σ = [some (.ref a), some (.ref b), some (.ref R), some (.ref x), some (.ref y), some (.ref Z), some (.int cm), v7, v8, v9, v10, v11] ∧ Keep [] H6 H7)
      ⟨none, none, none, none, none, rfl, Keep.refl _ _⟩ ?_ ?_
    · rintro i σ H7 hi ⟨v7, v8, v9, v10, v11, rfl, k7⟩
      have st : ∀ {H8 : Hp}, Keep [] H6 H8 → SqL K H8 Z [.ref p1, .ref p2] ∧ SqL K H8 p1 (old.map kV) ∧ SqL K H8 p2 (new.map kV) ∧ SqL K H8 x (old.map kV) ∧ SqL K H8 y (new.map kV) := fun {H8} k =>
        ⟨SqL.of (k.at hZ6 List.not_mem_nil), SqL.of (k.at hp16 List.not_mem_nil), SqL.of (k.at hp26 List.not_mem_nil), SqL.of (k.at hx6 List.not_mem_nil), SqL.of (k.at hy6 List.not_mem_nil)⟩
      wtm_at "go"
      -- up = rising(passed[0], passed[1])
      refine Lb.seq1 fun N2 hN2 => ?_
      obtain ⟨sZ, s1, s2, sx, sy⟩ := st k7
      wtm_at "go"
      refine ⟨p1, p2, old, new, rfl, s1, s2, ro.nd, rn.nd, lo, ln, fun U up H8 k8 nU hU upo ulen => ?_⟩
      refine hN2 _ _ ?_
      clear hN2 N2
      have k08 := k7.trans k8
      have nU6 : H6 U = none := k7.free nU List.not_mem_nil
      obtain ⟨sZ8, s18, s28, sx8, sy8⟩ := st k08
      -- down = falling(..)
      refine Lb.seq1 fun N2 hN2 => ?_
      wtm_at "go"
      refine ⟨p1, p2, old, new, rfl, s18, s28, ro.nd, rn.nd, lo, ln, fun P1 as H9 k9 nP nas hP ⟨bef, I⟩ => ?_⟩
      refine hN2 _ _ ?_
      clear hN2 N2
      have dn := downOk_of I
      generalize hpi : pilesF new old = piles at hP I dn
      rw [hpi] at ulen
      have k09 := k08.trans k9
      have nP6 : H6 P1 = none := k08.free nP List.not_mem_nil
      have nas6 : ∀ z, z ∈ as → H6 z = none := fun z hz => k08.free (nas z hz) List.not_mem_nil
      have hU9 := k9.at hU List.not_mem_nil
      have lu : up.length ≤ 1000 := by
        have h1 := pilesF_le new old []
        have h2 : (pilesF new old).length ≤ 0 + old.length := h1
        rw [hpi] at h2
        omega
      obtain ⟨sZ9, s19, s29, sx9, sy9⟩ := st k09
      -- if not both(..)
      refine Lb.seq1 fun N2 hN2 => ?_
      wtm_at "go"
      refine ⟨x, y, U, P1, as, old, new, up, piles, cm, rfl, sx9, sy9, SqL.of hU9, hP, lo, ln, lu, upo, dn, ulen.symm, hcm.symm, fun H10 k10 => ?_⟩
      wtm_at "go"
      refine ifbF rfl ?_
      wtm_at "go"
      refine hN2 _ _ ?_
      clear hN2 N2
      have k010 := k09.trans k10
      obtain ⟨sZ10, s110, s210, sx10, sy10⟩ := st k010
      have hU10 := k10.at hU9 List.not_mem_nil
      have hP10 := hP.keep k10 List.not_mem_nil fun _ _ => List.not_mem_nil
      -- if is_rising(..) is not True
      refine Lb.seq1 fun N2 hN2 => ?_
      wtm_at "go"
      refine ⟨p1, p2, U, old, new, up, rfl, s110, s210, SqL.of hU10, ro.nd, rn.nd, lo, ln, upo, lu, fun H11 k11 => ?_⟩
      wtm_at "go"
      refine ⟨true, true, rfl, rfl, ?_⟩
      wtm_at "go"
      refine ifbF rfl ?_
      wtm_at "go"
      refine hN2 _ _ ?_
      clear hN2 N2
      have k011 := k010.trans k11
      obtain ⟨sZ11, s111, s211, sx11, sy11⟩ := st k011
      have hU11 := k11.at hU10 List.not_mem_nil
      have hP11 := hP10.keep k11 List.not_mem_nil fun _ _ => List.not_mem_nil
      -- if is_falling(..) is not True
      refine Lb.seq1 fun N2 hN2 => ?_
      wtm_at "go"
      refine ⟨p1, p2, P1, as, old, new, piles, rfl, s111, s211, hP11, ro.nd, rn.nd, lo, ln, dn, fun H12 k12 => ?_⟩
      wtm_at "go"
      refine ⟨true, true, rfl, rfl, ?_⟩
      wtm_at "go"
      refine ifbF rfl ?_
      wtm_at "go"
      refine hN2 _ _ ?_
      clear hN2 N2
      have k012 := k011.trans k12
      obtain ⟨sZ12, s112, s212, sx12, sy12⟩ := st k012
      have hU12 := k12.at hU11 List.not_mem_nil
      have hP12 := hP11.keep k12 List.not_mem_nil fun _ _ => List.not_mem_nil
      -- if passed != [old, new] or not both(..)
      refine Lb.seq1 fun N2 hN2 => ?_
      wtm_at "go"
      refine ⟨by show 2 ≤ sizeLine; decide, fun W nW => ?_⟩
      have k013 := k012.unew (o := .lst [.ref x, .ref y]) nW
      have hU13 := fact_new (o := .lst [.ref x, .ref y]) nW hU12
      have hP13 := hP12.keep (Keep.new (o := .lst [.ref x, .ref y]) nW) List.not_mem_nil fun _ _ => List.not_mem_nil
      have hW : upd H12 W (.lst [.ref x, .ref y]) W = some (.lst [.ref x, .ref y]) := upd_same
      generalize upd H12 W (.lst [.ref x, .ref y]) = H13 at k013 hU13 hP13 hW
      obtain ⟨sZ13, s113, s213, sx13, sy13⟩ := st k013
      refine ⟨_, _, .lst sZ13 (.cons (.lst s113 (dp_ks K H13 old)) (.cons (.lst s213 (dp_ks K H13 new)) .nil)), .lst (SqL.of hW) (.cons (.lst sx13 (dp_ks K H13 old)) (.cons (.lst sy13 (dp_ks K H13 new)) .nil)), shaped_2 ro rn, shaped_2 ro rn, ?_⟩
      rw [SeqAt.eqv_refl _ (SeqAt.canLay_of_shaped (shaped_2 ro rn))]
      wtm_at "go"
      refine ifbF rfl ?_
      wtm_at "go"
      refine ⟨x, y, U, P1, as, old, new, up, piles, cm, rfl, sx13, sy13, SqL.of hU13, hP13, lo, ln, lu, upo, dn, ulen.symm, hcm.symm, fun H14 k14 => ?_⟩
      wtm_at "go"
      refine ifbF rfl ?_
      wtm_at "go"
      refine hN2 _ _ ?_
      clear hN2 N2
      have k014 := k013.trans k14
      have hU14 := k14.at hU13 List.not_mem_nil
      have hP14 := hP13.keep k14 List.not_mem_nil fun _ _ => List.not_mem_nil
      have hU14s : SqL K H14 U (up.map kV) := SqL.of hU14
      -- up.append('x')
      refine Lb.seq1 fun N2 hN2 => ?_
      wtm_at "go"
      refine ⟨tyl hU14s, ?_⟩
      wtm_at "go"
      refine g_append hU14 (by rw [List.length_map]; exact small1000 lu) ?_
      refine hN2 _ _ ?_
      clear hN2 N2
      have k015 := k014.umut (o := .lst (up.map kV ++ [.str "x"])) nU6
      have UP : P1 ≠ U := fun z => ne_of_none hU nP z.symm
      have UA : ∀ z, z ∈ as → z ≠ U := fun z hz e => ne_of_none hU (nas z hz) e.symm
      have top15 : upd H14 U (.lst (up.map kV ++ [.str "x"])) P1 = some (.lst (as.map V.ref)) := fact_ne UP hP14.top
      have row15 : ∀ z, z ∈ as → ∃ r : List Key, r.length ≤ 1000 ∧ upd H14 U (.lst (up.map kV ++ [.str "x"])) z = some (.lst (r.map kV)) := fun z hz => by
        obtain ⟨j, hj⟩ := List.mem_iff_getElem?.mp hz
        have hjl : j < piles.length := by rw [← hP14.len]; exact (List.getElem?_eq_some_iff.mp hj).1
        have hr := List.getElem?_eq_getElem hjl
        exact ⟨_, Nat.le_trans (dn.rlen (List.mem_of_getElem? hr)) lo, fact_ne (UA z hz) (hP14.row j z _ hj hr)⟩
      generalize upd H14 U (.lst (up.map kV ++ [.str "x"])) = H15 at k015 top15 row15
      have top15s : SqL K H15 P1 (as.map V.ref) := SqL.of top15
      -- down.append(['x'])
      refine Lb.seq1 fun N2 hN2 => ?_
      wtm_at "go"
      refine ⟨tyl top15s, ?_⟩
      wtm_at "go"
      refine ⟨by show 1 ≤ sizeLine; decide, fun L nL => ?_⟩
      wtm_at "go"
      have al : as.length ≤ 1000 := by rw [hP.len]; omega
      have LP : P1 ≠ L := ne_of_none top15 nL
      have nL6 : H6 L = none := k015.free nL List.not_mem_nil
      have k016 := k015.unew (o := .lst [.str "x"]) nL
      have top16 := fact_new (o := .lst [.str "x"]) nL top15
      have hL16 : upd H15 L (.lst [.str "x"]) L = some (.lst [.str "x"]) := upd_same
      have row16 : ∀ z, z ∈ as → ∃ r : List Key, r.length ≤ 1000 ∧ upd H15 L (.lst [.str "x"]) z = some (.lst (r.map kV)) := fun z hz => by
        obtain ⟨r, h1, h2⟩ := row15 z hz
        exact ⟨r, h1, fact_new nL h2⟩
      generalize upd H15 L (.lst [.str "x"]) = H16 at k016 top16 hL16 row16
      refine g_append top16 (by rw [List.length_map]; exact small1000 al) ?_
      refine hN2 _ _ ?_
      clear hN2 N2
      have k017 := k016.umut (o := .lst (as.map V.ref ++ [.ref L])) nP6
      have top17 : upd H16 P1 (.lst (as.map V.ref ++ [.ref L])) P1 = some (.lst ((as ++ [L]).map V.ref)) := by rw [upd_same, List.map_append]; rfl
      have out17 : P1 ∉ as ++ [L] := fun m => by
        rcases List.mem_append.mp m with m | m
        · exact hP.out m
        · rw [List.mem_singleton] at m
          exact LP m
      have nas17 : ∀ z, z ∈ as ++ [L] → H6 z = none := fun z hz => by
        rcases List.mem_append.mp hz with m | m
        · exact nas6 z m
        · rw [List.mem_singleton] at m
          rw [m]
          exact nL6
      have row17 : ∀ z, z ∈ as ++ [L] → ∃ xs : List V, xs.length ≤ 1000 ∧ upd H16 P1 (.lst (as.map V.ref ++ [.ref L])) z = some (.lst xs) := fun z hz => by
        have zP : z ≠ P1 := fun e => out17 (e ▸ hz)
        rcases List.mem_append.mp hz with m | m
        · obtain ⟨r, h1, h2⟩ := row16 z m
          exact ⟨_, by rw [List.length_map]; exact h1, fact_ne zP h2⟩
        · rw [List.mem_singleton] at m
          subst m
          exact ⟨_, by decide, fact_ne zP hL16⟩
      generalize upd H16 P1 (.lst (as.map V.ref ++ [.ref L])) = H17 at k017 top17 row17
      refine ⟨.ref P1, rfl, P1, rfl, ⟨_, SqL.of top17⟩, for_list (K := K) (a := P1) (xs := (as ++ [L]).map V.ref)
        (fun j σ H18 => ∃ v10, σ = [some (.ref a), some (.ref b), some (.ref R), some (.ref x), some (.ref y), some (.ref Z), some (.int cm), some (.int (0 + (i : Int))), some (.ref U), some (.ref P1), v10, v11] ∧ Keep [] H6 H18 ∧ H18 P1 = some (.lst ((as ++ [L]).map V.ref)) ∧ ∀ z, z ∈ as ++ [L] → ∃ xs : List V, xs.length ≤ 1000 + j ∧ H18 z = some (.lst xs))
        ⟨v10, rfl, k017, top17, row17⟩ (fun j σ H18 _ h => by obtain ⟨_, _, _, h1, _⟩ := h; exact SqL.of h1) ?_ ?_⟩
      · rintro j v σ H18 hv ⟨v10, rfl, k18, top18, row18⟩
        obtain ⟨z, hz, rfl⟩ : ∃ z, (as ++ [L])[j]? = some z ∧ v = .ref z := by
          rw [List.getElem?_map] at hv
          obtain ⟨z, h1, h2⟩ := Option.map_eq_some_iff.mp hv
          exact ⟨z, h1, h2.symm⟩
        have zm := List.mem_of_getElem? hz
        have jl := (List.getElem?_eq_some_iff.mp hz).1
        rw [List.length_append, List.length_singleton] at jl
        obtain ⟨xs, hxl, hzx⟩ := row18 z zm
        have zP : P1 ≠ z := fun e => out17 (e ▸ zm)
        wtm_at "go"
        refine ⟨tyl (SqL.of hzx), ?_⟩
        wtm_at "go"
        refine g_append hzx (Nat.lt_of_le_of_lt (show xs.length ≤ 3000 by omega) (by decide)) ?_
        refine ⟨_, rfl, k18.umut (nas17 z zm), fact_ne zP top18, fun u hu => ?_⟩
        by_cases e : u = z
        · subst e
          exact ⟨_, by rw [List.length_append, List.length_singleton]; omega, upd_same⟩
        · obtain ⟨ys, h1, h2⟩ := row18 u hu
          exact ⟨ys, by omega, fact_ne e h2⟩
      · rintro σ H18 ⟨v10, rfl, k18, _, _⟩
        exact ⟨_, _, _, _, _, rfl, k18⟩
    · rintro σ H7 ⟨v7, v8, v9, v10, v11, rfl, k7⟩
      refine hN _ _ ?_
      wtm_at "go"
      exact q _
end

end Ki
namespace Ki
open PySem PySem.Spec PyProof.Rows L2 Lb
theorem all_mk {l : PySem.W.OpenLaw} {w : World} {K : PySem.W.Frag} {h : Heap} {mg : Str → Option Value} {fa : Addr} (X : K.In h) (G : h.Ns mainGlobals mg) (hfa : mg "law" = some (.ref fa))
    {f0 f1 f2 f3 f4 f5 f6 f7 f8 f9 f10 f11 f12 f13 f14 f15 f16 f17 f18 : Addr} {od0 an0 od1 an1 od2 an2 od3 an3 od4 an4 od5 an5 od6 an6 od7 an7 od8 an8 od9 an9 od10 an10 od11 an11 od12 an12 od13 an13 od14 an14 od15 an15 od16 an16 od17 an17 od18 an18 : Option Addr} {sl0 sl1 sl2 sl3 sl4 sl5 sl6 sl7 sl8 sl9 sl10 sl11 sl12 sl13 sl14 sl15 sl16 sl17 sl18 : Array (Option Value)} {oc0 kV0 dc0 pm0 cd0 ct0 oc1 kV1 dc1 pm1 cd1 ct1 oc2 kV2 dc2 pm2 cd2 ct2 oc3 kV3 dc3 pm3 cd3 ct3 oc4 kV4 dc4 pm4 cd4 ct4 oc5 kV5 dc5 pm5 cd5 ct5 oc6 kV6 dc6 pm6 cd6 ct6 oc7 kV7 dc7 pm7 cd7 ct7 oc8 kV8 dc8 pm8 cd8 ct8 oc9 kV9 dc9 pm9 cd9 ct9 oc10 kV10 dc10 pm10 cd10 ct10 oc11 kV11 dc11 pm11 cd11 ct11 oc12 kV12 dc12 pm12 cd12 ct12 oc13 kV13 dc13 pm13 cd13 ct13 oc14 kV14 dc14 pm14 cd14 ct14 oc15 kV15 dc15 pm15 cd15 ct15 oc16 kV16 dc16 pm16 cd16 ct16 oc17 kV17 dc17 pm17 cd17 ct17 oc18 kV18 dc18 pm18 cd18 ct18 : Value}
    (a0 : PySem.W.nsIn K mainGlobals "is_value" = some (some (.ref f0))) (l0 : K.lookup f0 = some ⟨oc0, od0, .func (PySem.W.fnOf "is_value" "is_value" (defArgs sIsValue) (defBody sIsValue) (defScope sIsValue) .none kV0 dc0 pm0 an0 cd0 ct0), sl0⟩) (c0 : PySem.W.codeIn K cd0 "is_value" = true) (k0 : PySem.W.keepIn K (.ref f0) = true)
    (a1 : PySem.W.nsIn K mainGlobals "places_of" = some (some (.ref f1))) (l1 : K.lookup f1 = some ⟨oc1, od1, .func (PySem.W.fnOf "places_of" "places_of" (defArgs sPlacesOf) (defBody sPlacesOf) (defScope sPlacesOf) .none kV1 dc1 pm1 an1 cd1 ct1), sl1⟩) (c1 : PySem.W.codeIn K cd1 "places_of" = true) (k1 : PySem.W.keepIn K (.ref f1) = true)
    (a2 : PySem.W.nsIn K mainGlobals "piles_of" = some (some (.ref f2))) (l2 : K.lookup f2 = some ⟨oc2, od2, .func (PySem.W.fnOf "piles_of" "piles_of" (defArgs sPilesOf) (defBody sPilesOf) (defScope sPilesOf) .none kV2 dc2 pm2 an2 cd2 ct2), sl2⟩) (c2 : PySem.W.codeIn K cd2 "piles_of" = true) (k2 : PySem.W.keepIn K (.ref f2) = true)
    (a3 : PySem.W.nsIn K mainGlobals "rising" = some (some (.ref f3))) (l3 : K.lookup f3 = some ⟨oc3, od3, .func (PySem.W.fnOf "rising" "rising" (defArgs sRising) (defBody sRising) (defScope sRising) .none kV3 dc3 pm3 an3 cd3 ct3), sl3⟩) (c3 : PySem.W.codeIn K cd3 "rising" = true) (k3 : PySem.W.keepIn K (.ref f3) = true)
    (a4 : PySem.W.nsIn K mainGlobals "falling" = some (some (.ref f4))) (l4 : K.lookup f4 = some ⟨oc4, od4, .func (PySem.W.fnOf "falling" "falling" (defArgs sFalling) (defBody sFalling) (defScope sFalling) .none kV4 dc4 pm4 an4 cd4 ct4), sl4⟩) (c4 : PySem.W.codeIn K cd4 "falling" = true) (k4 : PySem.W.keepIn K (.ref f4) = true)
    (a5 : PySem.W.nsIn K mainGlobals "in_order" = some (some (.ref f5))) (l5 : K.lookup f5 = some ⟨oc5, od5, .func (PySem.W.fnOf "in_order" "in_order" (defArgs sInOrder) (defBody sInOrder) (defScope sInOrder) .none kV5 dc5 pm5 an5 cd5 ct5), sl5⟩) (c5 : PySem.W.codeIn K cd5 "in_order" = true) (k5 : PySem.W.keepIn K (.ref f5) = true)
    (a6 : PySem.W.nsIn K mainGlobals "are_common" = some (some (.ref f6))) (l6 : K.lookup f6 = some ⟨oc6, od6, .func (PySem.W.fnOf "are_common" "are_common" (defArgs sAreCommon) (defBody sAreCommon) (defScope sAreCommon) .none kV6 dc6 pm6 an6 cd6 ct6), sl6⟩) (c6 : PySem.W.codeIn K cd6 "are_common" = true) (k6 : PySem.W.keepIn K (.ref f6) = true)
    (a7 : PySem.W.nsIn K mainGlobals "is_rising" = some (some (.ref f7))) (l7 : K.lookup f7 = some ⟨oc7, od7, .func (PySem.W.fnOf "is_rising" "is_rising" (defArgs sIsRising) (defBody sIsRising) (defScope sIsRising) .none kV7 dc7 pm7 an7 cd7 ct7), sl7⟩) (c7 : PySem.W.codeIn K cd7 "is_rising" = true) (k7 : PySem.W.keepIn K (.ref f7) = true)
    (a8 : PySem.W.nsIn K mainGlobals "is_falling" = some (some (.ref f8))) (l8 : K.lookup f8 = some ⟨oc8, od8, .func (PySem.W.fnOf "is_falling" "is_falling" (defArgs sIsFalling) (defBody sIsFalling) (defScope sIsFalling) .none kV8 dc8 pm8 an8 cd8 ct8), sl8⟩) (c8 : PySem.W.codeIn K cd8 "is_falling" = true) (k8 : PySem.W.keepIn K (.ref f8) = true)
    (a9 : PySem.W.nsIn K mainGlobals "_law_take" = some (some (.ref f9))) (l9 : K.lookup f9 = some ⟨oc9, od9, .func (PySem.W.fnOf "_law_take" "_law_take" (defArgs sLTake) (defBody sLTake) (defScope sLTake) .none kV9 dc9 pm9 an9 cd9 ct9), sl9⟩) (c9 : PySem.W.codeIn K cd9 "_law_take" = true) (k9 : PySem.W.keepIn K (.ref f9) = true)
    (a10 : PySem.W.nsIn K mainGlobals "_law_value" = some (some (.ref f10))) (l10 : K.lookup f10 = some ⟨oc10, od10, .func (PySem.W.fnOf "_law_value" "_law_value" (defArgs sLValue) (defBody sLValue) (defScope sLValue) .none kV10 dc10 pm10 an10 cd10 ct10), sl10⟩) (c10 : PySem.W.codeIn K cd10 "_law_value" = true) (k10 : PySem.W.keepIn K (.ref f10) = true)
    (a11 : PySem.W.nsIn K mainGlobals "_law_put_in" = some (some (.ref f11))) (l11 : K.lookup f11 = some ⟨oc11, od11, .func (PySem.W.fnOf "_law_put_in" "_law_put_in" (defArgs sLPutIn) (defBody sLPutIn) (defScope sLPutIn) .none kV11 dc11 pm11 an11 cd11 ct11), sl11⟩) (c11 : PySem.W.codeIn K cd11 "_law_put_in" = true) (k11 : PySem.W.keepIn K (.ref f11) = true)
    (a12 : PySem.W.nsIn K mainGlobals "_law_rows" = some (some (.ref f12))) (l12 : K.lookup f12 = some ⟨oc12, od12, .func (PySem.W.fnOf "_law_rows" "_law_rows" (defArgs sLRows) (defBody sLRows) (defScope sLRows) .none kV12 dc12 pm12 an12 cd12 ct12), sl12⟩) (c12 : PySem.W.codeIn K cd12 "_law_rows" = true) (k12 : PySem.W.keepIn K (.ref f12) = true)
    (a13 : PySem.W.nsIn K mainGlobals "_law_place" = some (some (.ref f13))) (l13 : K.lookup f13 = some ⟨oc13, od13, .func (PySem.W.fnOf "_law_place" "_law_place" (defArgs sLPlace) (defBody sLPlace) (defScope sLPlace) .none kV13 dc13 pm13 an13 cd13 ct13), sl13⟩) (c13 : PySem.W.codeIn K cd13 "_law_place" = true) (k13 : PySem.W.keepIn K (.ref f13) = true)
    (a14 : PySem.W.nsIn K mainGlobals "_law_is_value" = some (some (.ref f14))) (l14 : K.lookup f14 = some ⟨oc14, od14, .func (PySem.W.fnOf "_law_is_value" "_law_is_value" (defArgs sLIsValue) (defBody sLIsValue) (defScope sLIsValue) .none kV14 dc14 pm14 an14 cd14 ct14), sl14⟩) (c14 : PySem.W.codeIn K cd14 "_law_is_value" = true) (k14 : PySem.W.keepIn K (.ref f14) = true)
    (a15 : PySem.W.nsIn K mainGlobals "_law_places" = some (some (.ref f15))) (l15 : K.lookup f15 = some ⟨oc15, od15, .func (PySem.W.fnOf "_law_places" "_law_places" (defArgs sLPlaces) (defBody sLPlaces) (defScope sLPlaces) .none kV15 dc15 pm15 an15 cd15 ct15), sl15⟩) (c15 : PySem.W.codeIn K cd15 "_law_places" = true) (k15 : PySem.W.keepIn K (.ref f15) = true)
    (a16 : PySem.W.nsIn K mainGlobals "_law_goes" = some (some (.ref f16))) (l16 : K.lookup f16 = some ⟨oc16, od16, .func (PySem.W.fnOf "_law_goes" "_law_goes" (defArgs sLGoes) (defBody sLGoes) (defScope sLGoes) .none kV16 dc16 pm16 an16 cd16 ct16), sl16⟩) (c16 : PySem.W.codeIn K cd16 "_law_goes" = true) (k16 : PySem.W.keepIn K (.ref f16) = true)
    (a17 : PySem.W.nsIn K mainGlobals "_law_both" = some (some (.ref f17))) (l17 : K.lookup f17 = some ⟨oc17, od17, .func (PySem.W.fnOf "_law_both" "_law_both" (defArgs sLBoth) (defBody sLBoth) (defScope sLBoth) .none kV17 dc17 pm17 an17 cd17 ct17), sl17⟩) (c17 : PySem.W.codeIn K cd17 "_law_both" = true) (k17 : PySem.W.keepIn K (.ref f17) = true)
    (a18 : PySem.W.nsIn K mainGlobals "law" = some (some (.ref f18))) (l18 : K.lookup f18 = some ⟨oc18, od18, .func (PySem.W.fnOf "law" "law" (defArgs sLaw) (defBody sLaw) (defScope sLaw) .none kV18 dc18 pm18 an18 cd18 ct18), sl18⟩) (c18 : PySem.W.codeIn K cd18 "law" = true) (k18 : PySem.W.keepIn K (.ref f18) = true)
    (z_all : PySem.W.nsIn K mainGlobals "all" = some none)
    (z_bool : PySem.W.nsIn K mainGlobals "bool" = some none)
    (z_enumerate : PySem.W.nsIn K mainGlobals "enumerate" = some none)
    (z_int : PySem.W.nsIn K mainGlobals "int" = some none)
    (z_isinstance : PySem.W.nsIn K mainGlobals "isinstance" = some none)
    (z_len : PySem.W.nsIn K mainGlobals "len" = some none)
    (z_list : PySem.W.nsIn K mainGlobals "list" = some none)
    (z_range : PySem.W.nsIn K mainGlobals "range" = some none)
    (z_str : PySem.W.nsIn K mainGlobals "str" = some none)
    (z_zip : PySem.W.nsIn K mainGlobals "zip" = some none)
    : ∃ fd : FuncData, (∀ (s : Shared) (v : Value), BindsTo s fd ⟨[v], []⟩ [("_law_script", v)]) ∧ ∀ base : Heap, K.In base → base.Ns mainGlobals mg → FnOk l.prog w K mg base CX0 4 fa fd ["_law_script"] (spLaw K) := by
  have e := hfa.symm.trans (PySem.W.mg_of X G a18)
  cases e
  have F0 := fun_mk (st := sIsValue) l0 c0 k0
  have b0 := F0.binds (ps := ["thing"]) fun _ _ _ _ _ _ us hl => match us, hl with | [_], _ => rfl
  have F1 := fun_mk (st := sPlacesOf) l1 c1 k1
  have b1 := F1.binds (ps := ["row"]) fun _ _ _ _ _ _ us hl => match us, hl with | [_], _ => rfl
  have F2 := fun_mk (st := sPilesOf) l2 c2 k2
  have b2 := F2.binds (ps := ["old", "new"]) fun _ _ _ _ _ _ us hl => match us, hl with | [_, _], _ => rfl
  have F3 := fun_mk (st := sRising) l3 c3 k3
  have b3 := F3.binds (ps := ["old", "new"]) fun _ _ _ _ _ _ us hl => match us, hl with | [_, _], _ => rfl
  have F4 := fun_mk (st := sFalling) l4 c4 k4
  have b4 := F4.binds (ps := ["old", "new"]) fun _ _ _ _ _ _ us hl => match us, hl with | [_, _], _ => rfl
  have F5 := fun_mk (st := sInOrder) l5 c5 k5
  have b5 := F5.binds (ps := ["places", "row", "sign"]) fun _ _ _ _ _ _ us hl => match us, hl with | [_, _, _], _ => rfl
  have F6 := fun_mk (st := sAreCommon) l6 c6 k6
  have b6 := F6.binds (ps := ["old", "new", "thing"]) fun _ _ _ _ _ _ us hl => match us, hl with | [_, _, _], _ => rfl
  have F7 := fun_mk (st := sIsRising) l7 c7 k7
  have b7 := F7.binds (ps := ["old", "new", "thing"]) fun _ _ _ _ _ _ us hl => match us, hl with | [_, _, _], _ => rfl
  have F8 := fun_mk (st := sIsFalling) l8 c8 k8
  have b8 := F8.binds (ps := ["old", "new", "thing"]) fun _ _ _ _ _ _ us hl => match us, hl with | [_, _, _], _ => rfl
  have F9 := fun_mk (st := sLTake) l9 c9 k9
  have b9 := F9.binds (ps := ["_law_bag", "_law_many"]) fun _ _ _ _ _ _ us hl => match us, hl with | [_, _], _ => rfl
  have F10 := fun_mk (st := sLValue) l10 c10 k10
  have b10 := F10.binds (ps := ["_law_bag", "_law_k"]) fun _ _ _ _ _ _ us hl => match us, hl with | [_, _], _ => rfl
  have F11 := fun_mk (st := sLPutIn) l11 c11 k11
  have b11 := F11.binds (ps := ["_law_bag", "_law_row", "_law_value_here", "_law_shape"]) fun _ _ _ _ _ _ us hl => match us, hl with | [_, _, _, _], _ => rfl
  have F12 := fun_mk (st := sLRows) l12 c12 k12
  have b12 := F12.binds (ps := ["_law_bag"]) fun _ _ _ _ _ _ us hl => match us, hl with | [_], _ => rfl
  have F13 := fun_mk (st := sLPlace) l13 c13 k13
  have b13 := F13.binds (ps := ["_law_row", "_law_value_here"]) fun _ _ _ _ _ _ us hl => match us, hl with | [_, _], _ => rfl
  have F14 := fun_mk (st := sLIsValue) l14 c14 k14
  have b14 := F14.binds (ps := ["_law_value_here"]) fun _ _ _ _ _ _ us hl => match us, hl with | [_], _ => rfl
  have F15 := fun_mk (st := sLPlaces) l15 c15 k15
  have b15 := F15.binds (ps := ["_law_old", "_law_new", "_law_row"]) fun _ _ _ _ _ _ us hl => match us, hl with | [_, _, _], _ => rfl
  have F16 := fun_mk (st := sLGoes) l16 c16 k16
  have b16 := F16.binds (ps := ["_law_places_here", "_law_sign"]) fun _ _ _ _ _ _ us hl => match us, hl with | [_, _], _ => rfl
  have F17 := fun_mk (st := sLBoth) l17 c17 k17
  have b17 := F17.binds (ps := ["_law_old", "_law_new", "_law_common", "_law_up", "_law_down"]) fun _ _ _ _ _ _ us hl => match us, hl with | [_, _, _, _, _], _ => rfl
  have F18 := fun_mk (st := sLaw) l18 c18 k18
  have b18 := F18.binds (ps := ["_law_script"]) fun _ _ _ _ _ _ us hl => match us, hl with | [_], _ => rfl
  exact ⟨PySem.W.fnOf "law" "law" (defArgs sLaw) (defBody sLaw) (defScope sLaw) .none kV18 dc18 pm18 an18 cd18 ct18, fun s v => .of_eq rfl, fun base _ _ => okEnd (P := l.prog) (w := w) (base := base) ({
    n_all := PySem.W.mg_none_of X G z_all,
    n_bool := PySem.W.mg_none_of X G z_bool,
    n_enumerate := PySem.W.mg_none_of X G z_enumerate,
    n_int := PySem.W.mg_none_of X G z_int,
    n_isinstance := PySem.W.mg_none_of X G z_isinstance,
    n_len := PySem.W.mg_none_of X G z_len,
    n_list := PySem.W.mg_none_of X G z_list,
    n_range := PySem.W.mg_none_of X G z_range,
    n_str := PySem.W.mg_none_of X G z_str,
    n_zip := PySem.W.mg_none_of X G z_zip,
    fIsValue := _, dIsValue := _, FIsValue := F0, gIsValue := PySem.W.mg_of X G a0, bIsValue := b0,
    fPlacesOf := _, dPlacesOf := _, FPlacesOf := F1, gPlacesOf := PySem.W.mg_of X G a1, bPlacesOf := b1,
    fPilesOf := _, dPilesOf := _, FPilesOf := F2, gPilesOf := PySem.W.mg_of X G a2, bPilesOf := b2,
    fRising := _, dRising := _, FRising := F3, gRising := PySem.W.mg_of X G a3, bRising := b3,
    fFalling := _, dFalling := _, FFalling := F4, gFalling := PySem.W.mg_of X G a4, bFalling := b4,
    fInOrder := _, dInOrder := _, FInOrder := F5, gInOrder := PySem.W.mg_of X G a5, bInOrder := b5,
    fAreCommon := _, dAreCommon := _, FAreCommon := F6, gAreCommon := PySem.W.mg_of X G a6, bAreCommon := b6,
    fIsRising := _, dIsRising := _, FIsRising := F7, gIsRising := PySem.W.mg_of X G a7, bIsRising := b7,
    fIsFalling := _, dIsFalling := _, FIsFalling := F8, gIsFalling := PySem.W.mg_of X G a8, bIsFalling := b8,
    fLTake := _, dLTake := _, FLTake := F9, gLTake := PySem.W.mg_of X G a9, bLTake := b9,
    fLValue := _, dLValue := _, FLValue := F10, gLValue := PySem.W.mg_of X G a10, bLValue := b10,
    fLPutIn := _, dLPutIn := _, FLPutIn := F11, gLPutIn := PySem.W.mg_of X G a11, bLPutIn := b11,
    fLRows := _, dLRows := _, FLRows := F12, gLRows := PySem.W.mg_of X G a12, bLRows := b12,
    fLPlace := _, dLPlace := _, FLPlace := F13, gLPlace := PySem.W.mg_of X G a13, bLPlace := b13,
    fLIsValue := _, dLIsValue := _, FLIsValue := F14, gLIsValue := PySem.W.mg_of X G a14, bLIsValue := b14,
    fLPlaces := _, dLPlaces := _, FLPlaces := F15, gLPlaces := PySem.W.mg_of X G a15, bLPlaces := b15,
    fLGoes := _, dLGoes := _, FLGoes := F16, gLGoes := PySem.W.mg_of X G a16, bLGoes := b16,
    fLBoth := _, dLBoth := _, FLBoth := F17, gLBoth := PySem.W.mg_of X G a17, bLBoth := b17,
    fLaw := _, dLaw := _, FLaw := F18, gLaw := PySem.W.mg_of X G a18, bLaw := b18 } : TX K mg)⟩
end Ki
open PySem PySem.W PyProof.Rows
set_option maxHeartbeats 0 in
theorem PySem.Challenge.cw_drawnwhole_k41_whole_rising_and_falling_holds : PySem.Challenge.rw_drawnwhole_k41_whole_rising_and_falling.Holds := by
  w_on; o_law; k_head; (case hw => w_witness2)
  k_fill
  refine L2.walk_of (l := PySem.Challenge.rw_drawnwhole_k41_whole_rising_and_falling) (n := 63) (k := 4) (x := "_law_script") (CX := fun _ => L2.CX0) (sp := fun w => Ki.spLaw _) rfl (by decide) rfl ⟨rfl, by decide, by decide⟩ (fun w h Y => PySem.W.kIn_of Y) ?F (fun _ _ a ns hl ho hS => Ki.spLaw_of hl hS) (fun _ _ _ _ _ h => h)
  case F =>
    intro w mg fa h KX G hmg
    refine' Ki.all_mk KX G hmg ?a0 ?l0 ?c0 ?k0 ?a1 ?l1 ?c1 ?k1 ?a2 ?l2 ?c2 ?k2 ?a3 ?l3 ?c3 ?k3 ?a4 ?l4 ?c4 ?k4 ?a5 ?l5 ?c5 ?k5 ?a6 ?l6 ?c6 ?k6 ?a7 ?l7 ?c7 ?k7 ?a8 ?l8 ?c8 ?k8 ?a9 ?l9 ?c9 ?k9 ?a10 ?l10 ?c10 ?k10 ?a11 ?l11 ?c11 ?k11 ?a12 ?l12 ?c12 ?k12 ?a13 ?l13 ?c13 ?k13 ?a14 ?l14 ?c14 ?k14 ?a15 ?l15 ?c15 ?k15 ?a16 ?l16 ?c16 ?k16 ?a17 ?l17 ?c17 ?k17 ?a18 ?l18 ?c18 ?k18 ?z_all ?z_bool ?z_enumerate ?z_int ?z_isinstance ?z_len ?z_list ?z_range ?z_str ?z_zip
    (case a0 => k_is); (case l0 => k_is); (case c0 => k_is); (case k0 => k_is); (case a1 => k_is); (case l1 => k_is); (case c1 => k_is); (case k1 => k_is); (case a2 => k_is); (case l2 => k_is); (case c2 => k_is); (case k2 => k_is); (case a3 => k_is); (case l3 => k_is); (case c3 => k_is); (case k3 => k_is); (case a4 => k_is); (case l4 => k_is); (case c4 => k_is); (case k4 => k_is); (case a5 => k_is); (case l5 => k_is); (case c5 => k_is); (case k5 => k_is); (case a6 => k_is); (case l6 => k_is); (case c6 => k_is); (case k6 => k_is); (case a7 => k_is); (case l7 => k_is); (case c7 => k_is); (case k7 => k_is); (case a8 => k_is); (case l8 => k_is); (case c8 => k_is); (case k8 => k_is); (case a9 => k_is); (case l9 => k_is); (case c9 => k_is); (case k9 => k_is); (case a10 => k_is); (case l10 => k_is); (case c10 => k_is); (case k10 => k_is); (case a11 => k_is); (case l11 => k_is); (case c11 => k_is); (case k11 => k_is); (case a12 => k_is); (case l12 => k_is); (case c12 => k_is); (case k12 => k_is); (case a13 => k_is); (case l13 => k_is); (case c13 => k_is); (case k13 => k_is); (case a14 => k_is); (case l14 => k_is); (case c14 => k_is); (case k14 => k_is); (case a15 => k_is); (case l15 => k_is); (case c15 => k_is); (case k15 => k_is); (case a16 => k_is); (case l16 => k_is); (case c16 => k_is); (case k16 => k_is); (case a17 => k_is); (case l17 => k_is); (case c17 => k_is); (case k17 => k_is); (case a18 => k_is); (case l18 => k_is); (case c18 => k_is); (case k18 => k_is); (case z_all => k_is); (case z_bool => k_is); (case z_enumerate => k_is); (case z_int => k_is); (case z_isinstance => k_is); (case z_len => k_is); (case z_list => k_is); (case z_range => k_is); (case z_str => k_is); (case z_zip => k_is)

