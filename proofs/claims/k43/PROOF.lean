import PyProof.Rows.All
import Wide.All
import OpenK.AllK
import Wide.FinOn
import HandS.ForMost
import HandS.IsInst
import HandS.DictComp
import HandS.Style
import HandS.Wide
import HandS.Deep
import HandS.More
import HandS.SetFor
import KE.DataFind
import KE.GoesMore
import PySem.Challenge.RW_drawnwhole_k43_whole_fewest_moves
set_option Elab.async false
set_option linter.all false
set_option maxRecDepth 100000
set_option maxHeartbeats 4000000
/-! what every proof of ours leans on: heaps kept but for a footprint -/
namespace Lb
open PySem PySem.Spec PyProof.Rows L2

def Keep (fp : List Addr) (H H' : Hp) : Prop := ∀ x o, H x = some o → x ∉ fp → H' x = some o
section
variable {f g : List Addr} {H H1 H2 : Hp} {x p : Addr} {o : HO} {K : PySem.W.Frag} {xs : List V}
theorem Keep.refl (f : List Addr) (H : Hp) : Keep f H H := fun _ _ h _ => h
theorem Keep.trans (a : Keep f H H1) (b : Keep f H1 H2) : Keep f H H2 := fun x o h n => b x o (a x o h n) n
theorem Keep.mono (a : Keep f H H1) (h : ∀ x, x ∈ f → x ∈ g) : Keep g H H1 := fun x o e n => a x o e fun z => n (h x z)
theorem Keep.new (h : H p = none) : Keep f H (upd H p o) := fun x u e _ => by rw [upd_ne (ne_of_none e h)]; exact e
theorem Keep.put (h : p ∈ f) : Keep f H (upd H p o) := fun x u e n => by rw [upd_ne (fun z => n (by rw [z]; exact h))]; exact e
theorem Keep.at (a : Keep f H H1) (e : H x = some o) (n : x ∉ f) : H1 x = some o := a x o e n
theorem Keep.rd (a : Keep f H H1) (e : Rd H x o) (n : x ∉ f) : Rd H1 x o := by
  rcases e with e | ⟨u, e⟩
  · exact .inl (a _ _ e n)
  · exact .inr ⟨u, a _ _ e n⟩
theorem Keep.seq (a : Keep f H H1) (e : SqL K H x xs) (n : x ∉ f) : SqL K H1 x xs := by
  rcases e with e | e
  · exact .inl (a.rd e n)
  · exact .inr e
theorem Keep.tup (a : Keep f H H1) (e : SqT K H x xs) (n : x ∉ f) : SqT K H1 x xs := by
  rcases e with e | e
  · exact .inl (a.rd e n)
  · exact .inr e
/-- free before: a new address was free, if it is none of the footprint -/
theorem Keep.free (a : Keep f H H1) (h : H1 p = none) (n : p ∉ f) : H p = none := by
  cases q : H p with
  | none => rfl
  | some u =>
    rw [a p u q n] at h
    cases h
theorem Keep.same (a : Keep [] H H1) : Same H H1 := fun x o e => a x o e (by simp)
theorem Keep.of_same (a : Same H H1) : Keep f H H1 := fun x o e _ => a x o e
/-- an object that was made since (free in H) may change -/
theorem Keep.mut (a : Keep f H H1) (h : H p = none) : Keep f H (upd H1 p o) := fun x u e n => by
  rw [upd_ne (ne_of_none e h)]
  exact a x u e n
end
theorem nin_cons {α : Type} {x a : α} {l : List α} (h : x ≠ a) (h' : x ∉ l) : x ∉ a :: l := fun z => by
  rcases List.mem_cons.mp z with z | z
  · exact h z
  · exact h' z
section
variable {f : List Addr} {H H1 : Hp} {x p a : Addr} {o u : HO} {K : PySem.W.Frag} {xs : List V}
theorem fact_new (h : H p = none) (e : H a = some u) : upd H p o a = some u := by rw [upd_ne (ne_of_none e h)]; exact e
theorem fact_ne (h : a ≠ p) (e : H a = some u) : upd H p o a = some u := by rw [upd_ne h]; exact e
theorem sq_new (h : H p = none) (e : SqL K H a xs) : SqL K (upd H p o) a xs := by
  rcases e with (e | ⟨v, e⟩) | e
  · exact .inl (.inl (fact_new h e))
  · exact .inl (.inr ⟨v, fact_new h e⟩)
  · exact .inr e
theorem sq_ne (h : a ≠ p) (e : SqL K H a xs) : SqL K (upd H p o) a xs := by
  rcases e with (e | ⟨v, e⟩) | e
  · exact .inl (.inl (fact_ne h e))
  · exact .inl (.inr ⟨v, fact_ne h e⟩)
  · exact .inr e
theorem sqt_new (h : H p = none) (e : SqT K H a xs) : SqT K (upd H p o) a xs := by
  rcases e with (e | ⟨v, e⟩) | e
  · exact .inl (.inl (fact_new h e))
  · exact .inl (.inr ⟨v, fact_new h e⟩)
  · exact .inr e
theorem sqt_ne (h : a ≠ p) (e : SqT K H a xs) : SqT K (upd H p o) a xs := by
  rcases e with (e | ⟨v, e⟩) | e
  · exact .inl (.inl (fact_ne h e))
  · exact .inl (.inr ⟨v, fact_ne h e⟩)
  · exact .inr e
theorem Keep.unew (a : Keep f H H1) (h : H1 p = none) : Keep f H (upd H1 p o) := a.trans (Keep.new h)
theorem Keep.uput (a : Keep f H H1) (h : p ∈ f) : Keep f H (upd H1 p o) := a.trans (Keep.put h)
theorem Keep.umut (a : Keep f H H1) (h : H p = none) : Keep f H (upd H1 p o) := a.mut h
end
/-- a point where the ways of a statement meet: N is what follows -/
theorem cut {t1 t2 : TS} {D : Ends} {σ : L2.St} {H : Hp} (M : L2.St → Hp → Prop) (h1 : ∀ N : L2.St → Hp → Prop, (∀ σ' H', M σ' H' → N σ' H') → t1 { D with nx := N } σ H) (h2 : ∀ σ' H', M σ' H' → t2 D σ' H') : tSeq t1 t2 D σ H := h1 _ h2
/-- one statement: N is what follows -/
theorem seq1 {t1 t2 : TS} {D : Ends} {σ : L2.St} {H : Hp} (h1 : ∀ N : L2.St → Hp → Prop, (∀ σ' H', t2 D σ' H' → N σ' H') → t1 { D with nx := N } σ H) : tSeq t1 t2 D σ H := h1 _ fun _ _ h => h
theorem ifb {b : Bool} {A B : Prop} (h1 : b = true → A) (h2 : b = false → B) : if b = true then A else B := by
  cases b with
  | true => rw [if_pos rfl]; exact h1 rfl
  | false => rw [if_neg Bool.false_ne_true]; exact h2 rfl
theorem ifbT {b : Bool} {A B : Prop} (h : b = true) (h1 : A) : if b = true then A else B := by rw [if_pos h]; exact h1
theorem ifbF {b : Bool} {A B : Prop} (h : b = false) (h1 : B) : if b = true then A else B := by rw [if_neg (by rw [h]; exact Bool.false_ne_true)]; exact h1
theorem ofF {p : Prop} [Decidable p] (h : decide p = false) : ¬ p := of_decide_eq_false h
theorem ne_free {H : Hp} {a b : Addr} {o : HO} (h : H a = some o) (h' : H b = none) : a ≠ b := ne_of_none h h'
theorem kV_flat (k : Key) : flatV (kV k) = true := by cases k <;> rfl
theorem kV_eq (a b : Key) : eqV (kV a) (kV b) = decide (a = b) := by
  cases a with
  | inl i =>
    cases b with
    | inl j =>
      show (i == j) = _
      by_cases h : i = j
      · subst h; simp
      · simp [h]
    | inr j => simp [kV, eqV]
  | inr i =>
    cases b with
    | inl j => simp [kV, eqV]
    | inr j =>
      show (i == j) = _
      by_cases h : i = j
      · subst h; simp
      · simp [h]
theorem kV_all (ks : List Key) : (ks.map kV).all flatV = true := by
  induction ks with
  | nil => rfl
  | cons a r ih => rw [List.map_cons, List.all_cons, ih, kV_flat]; rfl
/-- k stands in the list -/
def kIn (k : Key) (ks : List Key) : Bool := ks.any fun a => decide (a = k)
theorem kIn_iff {k : Key} {ks : List Key} : kIn k ks = true ↔ k ∈ ks := by
  unfold kIn
  rw [List.any_eq_true]
  constructor
  · rintro ⟨a, h, e⟩
    rw [← of_decide_eq_true e]
    exact h
  · intro h
    exact ⟨k, h, decide_eq_true rfl⟩
theorem kIn_no {k : Key} {ks : List Key} : kIn k ks = false ↔ k ∉ ks := by
  rw [← kIn_iff]
  cases kIn k ks <;> simp
theorem inV_keys (k : Key) (ks : List Key) : inV (kV k) (ks.map kV) = kIn k ks := by
  induction ks with
  | nil => rfl
  | cons a r ih =>
    have e : inV (kV k) ((a :: r).map kV) = (eqV (kV a) (kV k) || inV (kV k) (r.map kV)) := rfl
    rw [e, ih, kV_eq]
    rfl
theorem getk {ks : List Key} {i : Nat} {v : V} (h : (ks.map kV)[i]? = some v) : ∃ k, ks[i]? = some k ∧ v = kV k := by
  rw [List.getElem?_map] at h
  cases e : ks[i]? with
  | none => rw [e] at h; cases h
  | some k => rw [e] at h; exact ⟨k, rfl, (Option.some.inj h).symm⟩
/-! rules with their written part told by name -/
def qLen (K : PySem.W.Frag) : List V → Hp → VK → Prop := fun xs H Q => ∃ p ys, xs = [.ref p] ∧ (SqL K H p ys ∨ SqT K H p ys) ∧ Q (.int ys.length) H
def qListOf (K : PySem.W.Frag) : List V → Hp → VK → Prop := fun xs H Q => ∃ p ys, xs = [.ref p] ∧ (SqL K H p ys ∨ SqT K H p ys) ∧ ∀ l, H l = none → Q (.ref l) (upd H l (.lst ys))
def qInt1 : List V → Hp → VK → Prop := fun xs H Q => (∃ i, xs = [.int i] ∧ Q (.int i) H) ∨ ∃ k, xs = [.bl k] ∧ Q (.int (if k then 1 else 0)) H
theorem c_len {X : Cx} : CallR X (.builtin "len") (qLen X.K) := call_len_seq
theorem c_list {X : Cx} : CallR X (.type "list") (qListOf X.K) := call_list_of
theorem c_int {X : Cx} : CallR X (.type "int") qInt1 := call_int1
theorem isWk {a b : String} {r : Bool} (h : kitB a b = some r) {K : PySem.W.Frag} : PySem.W.kitOne K (.type a) (.type b) = some r := h
end Lb

/-! the readings step by step: one lemma a word -/
namespace Lb
open PySem PySem.Spec PyProof.Rows L2
section
variable {K : PySem.W.Frag} {σ : L2.St} {H : Hp} {Q : VK} {i : Nat} {v x y : V} {ta tb te : TE} {tr : TA} {b : Bool}
theorem g_var (h : σ[i]? = some (some v)) (k : Q v H) : tVar i σ H Q := ⟨v, h, k⟩
theorem g_c (k : Q v H) : tC v σ H Q := k
theorem g_op {r : R2} (k : ta σ H fun x H1 => tb σ H1 fun y H2 => r x y H2 Q) : tOp r ta tb σ H Q := k
theorem g_un {r : V → Hp → VK → Prop} (k : ta σ H fun x H1 => r x H1 Q) : tUn r ta σ H Q := k
theorem g_cb {r : List V → Hp → VK → Prop} (k : tr σ H fun vs H1 => r vs H1 Q) : tCB r tr σ H Q := k
theorem g_nil {R : List V → Hp → Prop} (k : R [] H) : tNil σ H R := k
theorem g_cons {R : List V → Hp → Prop} (k : ta σ H fun x H1 => tr σ H1 fun xs H2 => R (x :: xs) H2) : tCons ta tr σ H R := k
theorem g_rI0 {g : Int → Int → V} {i j : Int} (k : Q (g i j) H) : rI0 g (.int i) (.int j) H Q := ⟨i, j, rfl, rfl, k⟩
theorem g_rI {C : Int → Int → Prop} {g : Int → Int → V} {i j : Int} (c : C i j) (k : Q (g i j) H) : rI C g (.int i) (.int j) H Q := ⟨i, j, rfl, rfl, c, k⟩
theorem g_rU {g : Int → V} {i : Int} (k : Q (g i) H) : rU g (.int i) H Q := ⟨i, rfl, k⟩
theorem g_eq (h : scal x y = true) (k : Q (.bl (decide (x = y))) H) : rEq x y H Q := ⟨h, k⟩
theorem g_ne (h : scal x y = true) (k : Q (.bl (!decide (x = y))) H) : rNe x y H Q := ⟨h, k⟩
theorem g_ixL {p : Addr} {xs : List V} {i : Int} (h : SqL K H p xs) (ha : atI xs i = some v) (k : Q v H) : rIxL K (.ref p) (.int i) H Q := ⟨p, xs, i, v, rfl, rfl, h, ha, k⟩
theorem g_ixT {p : Addr} {xs : List V} {i : Int} (h : SqT K H p xs) (ha : atI xs i = some v) (k : Q v H) : rIxT K (.ref p) (.int i) H Q := ⟨p, xs, i, v, rfl, rfl, h, ha, k⟩
theorem g_len {p : Addr} {xs : List V} (h : SqL K H p xs) (k : Q (.int xs.length) H) : qLen K [.ref p] H Q := ⟨p, xs, rfl, .inl h, k⟩
theorem g_lenT {p : Addr} {xs : List V} (h : SqT K H p xs) (k : Q (.int xs.length) H) : qLen K [.ref p] H Q := ⟨p, xs, rfl, .inr h, k⟩
theorem g_int {i : Int} (k : Q (.int i) H) : qInt1 [.int i] H Q := .inl ⟨i, rfl, k⟩
theorem g_intB {b : Bool} (k : Q (.int (if b then 1 else 0)) H) : qInt1 [.bl b] H Q := .inr ⟨b, rfl, k⟩
theorem g_list {p : Addr} {xs : List V} (h : SqL K H p xs) (k : ∀ l, H l = none → Q (.ref l) (upd H l (.lst xs))) : qListOf K [.ref p] H Q := ⟨p, xs, rfl, .inl h, k⟩
theorem g_in {neg : Bool} {p : Addr} {xs : List V} (h : SqL K H p xs ∨ SqT K H p xs) (fx : flatV x = true) (fs : xs.all flatV = true) (k : Q (.bl (if neg then !inV x xs else inV x xs)) H) : rIn K neg x (.ref p) H Q := ⟨p, xs, rfl, h, fx, fs, k⟩
theorem g_isi {t : String} {c : String} (ty : TyX K H x (.type t)) (h : kitB t c = some b) (k : Q (.bl b) H) : rIsi K [x, .ty c] H Q := ⟨x, .ty c, .type t, .type c, b, rfl, .ty c, ty, kit_ty h, k⟩
theorem g_all {p : Addr} {bs : List Bool} (h : SqL K H p (bs.map V.bl)) (k : Q (.bl (bs.all id)) H) : rAll K [.ref p] H Q := ⟨p, bs, rfl, h, k⟩
theorem g_andV (k : ta σ H fun x H1 => ∃ c, x = .bl c ∧ if c = true then tb σ H1 Q else Q (.bl false) H1) : tAndV ta tb σ H Q := k
theorem g_orV (k : ta σ H fun x H1 => ∃ c, x = .bl c ∧ if c = true then Q (.bl true) H1 else tb σ H1 Q) : tOrV ta tb σ H Q := k
theorem g_notV (k : ta σ H fun x H1 => ∃ c, x = .bl c ∧ Q (.bl (!c)) H1) : tNotV ta σ H Q := k
theorem g_tif {t : TT} (k : t σ H fun c H1 => if c = true then ta σ H1 Q else tb σ H1 Q) : tIf t ta tb σ H Q := k
theorem g_tup (k : tr σ H fun xs H1 => xs.length ≤ sizeLine ∧ ∀ p, H1 p = none → Q (.ref p) (upd H1 p (.tup xs))) : tTup tr σ H Q := k
theorem g_lst (k : tr σ H fun xs H1 => xs.length ≤ sizeLine ∧ ∀ p, H1 p = none → Q (.ref p) (upd H1 p (.lst xs))) : tLst tr σ H Q := k
theorem g_revL (k : ta σ H fun x H1 => ∃ a xs, x = .ref a ∧ SqL K H1 a xs ∧ ∀ p, H1 p = none → Q (.ref p) (upd H1 p (.lst xs.reverse))) : tRevL K ta σ H Q := k
theorem g_sl {r : V → Option Int → Option Int → Hp → VK → Prop} {tl th : TO} (k : ta σ H fun x H1 => tl σ H1 fun l H2 => th σ H2 fun u H3 => r x l u H3 Q) : tSl r ta tl th σ H Q := k
theorem g_nopart {R : Option Int → Hp → Prop} (k : R none H) : tNoPart σ H R := k
theorem g_part {R : Option Int → Hp → Prop} (k : ta σ H fun x H1 => ∃ i, x = .int i ∧ R (some i) H1) : tPart ta σ H R := k
theorem g_i {i : Int} {R : Int → Prop} (k : R i) : ∃ j, V.int i = .int j ∧ R j := ⟨i, rfl, k⟩
theorem g_call {sp : Sp} {dvs : List V} {E : XK} (k : tr σ H fun vs H1 => sp (vs ++ dvs) H1 Q E) : tCall sp dvs E tr σ H Q := k
theorem g_bm0 {T : String} {r : V → List V → Hp → VK → Prop} (k : ta σ H fun x H1 => tyV K T x H1 ∧ r x [] H1 Q) : tBM0 K T r ta σ H Q := k
theorem g_bm {T : String} {r : V → List V → Hp → VK → Prop} (k : ta σ H fun x H1 => tyV K T x H1 ∧ tr σ H1 fun xs H2 => r x xs H2 Q) : tBM K T r ta tr σ H Q := k
theorem g_append {l : Addr} {xs : List V} (h : H l = some (.lst xs)) (hl : xs.length < sizeLine) (k : Q .non (upd H l (.lst (xs ++ [y])))) : rAppend (.ref l) [y] H Q := ⟨l, xs, y, rfl, rfl, h, hl, k⟩
theorem g_dget (k : ta σ H fun x H1 => tb σ H1 fun y H2 => ∃ a v, x = .ref a ∧ DGet H2 a y (some v) ∧ Q v H2) : tDGet ta tb σ H Q := k
theorem g_din (k : ta σ H fun y H1 => tb σ H1 fun x H2 => ∃ a o, x = .ref a ∧ DGet H2 a y o ∧ Q (.bl o.isSome) H2) : tDIn ta tb σ H Q := k
theorem g_dnotin (k : ta σ H fun y H1 => tb σ H1 fun x H2 => ∃ a o, x = .ref a ∧ DGet H2 a y o ∧ Q (.bl (!o.isSome)) H2) : tDNotIn ta tb σ H Q := k
/-- what a dict holds, read -/
theorem g_dg {a : Addr} {kvs : List (Key × V)} {k : Key} {R : V → Prop} (h : Rd H a (.dK kvs)) (e : valV kvs k = some v) (q : R v) : ∃ a' v', V.ref a = .ref a' ∧ DGet H a' (kV k) (some v') ∧ R v' := ⟨a, v, rfl, .inl ⟨kvs, k, h, rfl, e.symm⟩, q⟩
theorem g_di {a : Addr} {kvs : List (Key × V)} {k : Key} {R : Option V → Prop} (h : Rd H a (.dK kvs)) (q : R (valV kvs k)) : ∃ a' o, V.ref a = .ref a' ∧ DGet H a' (kV k) o ∧ R o := ⟨a, _, rfl, .inl ⟨kvs, k, h, rfl, rfl⟩, q⟩
end
section
variable {σ : L2.St} {H : Hp} {R : Bool → Hp → Prop} {te : TE} {t u : TT} {v : V}
theorem g_test (k : te σ H fun x H' => ∃ b, x = .bl b ∧ R b H') : tTest te σ H R := k
theorem g_tb (k : te σ H fun x H' => ∃ b, x = .bl b ∧ R b H') : tB te σ H R := k
theorem g_bl {b : Bool} {R : Bool → Prop} (k : R b) : ∃ c, V.bl b = .bl c ∧ R c := ⟨b, rfl, k⟩
theorem g_and (k : t σ H fun c H1 => if c = true then u σ H1 R else R false H1) : tAnd t u σ H R := k
theorem g_or (k : t σ H fun c H1 => if c = true then R true H1 else u σ H1 R) : tOr t u σ H R := k
theorem g_not (k : t σ H fun c H1 => R (!c) H1) : tNot t σ H R := k
theorem g_yes (k : R true H) : tYes σ H R := k
end
section
variable {D : Ends} {σ : L2.St} {H : Hp} {te : TE} {t1 t2 : TS} {g : TG} {c : TT} {x v : V} {S : L2.St → Hp → Prop}
theorem g_asg (k : te σ H fun x H1 => g x σ H1 D.nx) : tAsg te g D σ H := k
theorem g_name {i : Nat} (k : S (σ.set i (some x)) H) : gName i x σ H S := k
theorem g_sub {ta tb : TE} {t : TSet} (k : ta σ H fun o H1 => tb σ H1 fun i H2 => t o i x H2 fun H3 => S σ H3) : gSub ta tb t x σ H S := k
theorem g_setL {p : Addr} {xs : List V} {i : Int} {j : Nat} {R : Hp → Prop} (h : H p = some (.lst xs)) (hj : ixN xs.length i = some j) (k : R (upd H p (.lst (xs.set j v)))) : rSetL (.ref p) (.int i) v H R := ⟨p, xs, i, j, rfl, rfl, h, hj, k⟩
theorem g_ifS (k : c σ H fun b H1 => if b = true then t1 D σ H1 else t2 D σ H1) : tIfS c t1 t2 D σ H := k
theorem g_next (k : D.nx σ H) : tNext D σ H := k
theorem g_cont (k : D.ct σ H) : tCont D σ H := k
theorem g_brk (k : D.bk σ H) : tBreak D σ H := k
theorem g_drop (k : te σ H fun _ H1 => D.nx σ H1) : tDrop te D σ H := k
theorem g_ret (k : te σ H D.rt) : tRet te D σ H := k
theorem g_retN (k : D.rt .non H) : tRetN D σ H := k
theorem g_aug {i : Nat} {ti : TIp} (h : σ[i]? = some (some x)) (k : te σ H fun y H1 => ti x y H1 fun z H2 => D.nx (σ.set i (some z)) H2) : tAug i te ti D σ H := ⟨x, h, k⟩
theorem g_dput {td ty tv : TE} (k : tv σ H fun v H1 => td σ H1 fun x H2 => ty σ H2 fun y H3 => ∃ a H4, x = .ref a ∧ DPut H3 a y v H4 ∧ D.nx σ H4) : sDPut td ty tv D σ H := k
theorem g_dp {a : Addr} {kvs : List (Key × V)} {k : Key} {R : Hp → Prop} (h : H a = some (.dK kvs)) (hl : kvs.length < sizeLine) (q : R (upd H a (.dK (putK kvs k v)))) : ∃ a' H4, V.ref a = .ref a' ∧ DPut H a' (kV k) v H4 ∧ R H4 := ⟨a, _, rfl, .inl ⟨kvs, k, h, rfl, hl, rfl⟩, q⟩
end
theorem tyl {K : PySem.W.Frag} {H : Hp} {p : Addr} {xs : List V} (h : SqL K H p xs) : tyV K "list" (.ref p) H := .inl ⟨rfl, _, h⟩
end Lb

local macro_rules | `(tactic| wtm_at "ne") => `(tactic| first
  | with_reducible assumption
  | with_reducible exact Ne.symm (by assumption)
  | fail)
local macro_rules | `(tactic| wtm_at "nin") => `(tactic| first
  | exact List.not_mem_nil
  | ((with_reducible refine' Lb.nin_cons ?k1 ?k2); (case k1 => wtm_at "ne"); (case k2 => wtm_at "nin"))
  | fail)
local macro_rules | `(tactic| wtm_at "fact") => `(tactic| first
  | with_reducible assumption
  | with_reducible exact L2.upd_same
  | ((with_reducible refine' Lb.fact_new ?k1 ?k2); (case k1 => with_reducible assumption); (case k2 => wtm_at "fact"))
  | ((with_reducible refine' Lb.fact_ne ?k1 ?k2); (case k1 => wtm_at "ne"); (case k2 => wtm_at "fact"))
  | ((with_reducible refine' Lb.Keep.at ?k1 ?k2 ?k3); (case k1 => with_reducible assumption); (case k2 => wtm_at "fact"); (case k3 => wtm_at "nin"))
  | fail)
local macro_rules | `(tactic| wtm_at "sq") => `(tactic| first
  | with_reducible assumption
  | with_reducible exact L2.SqL.of L2.upd_same
  | with_reducible exact L2.SqL.of (by assumption)
  | ((with_reducible refine' Lb.sq_new ?k1 ?k2); (case k1 => with_reducible assumption); (case k2 => wtm_at "sq"))
  | ((with_reducible refine' Lb.sq_ne ?k1 ?k2); (case k1 => wtm_at "ne"); (case k2 => wtm_at "sq"))
  | ((with_reducible refine' Lb.Keep.seq ?k1 ?k2 ?k3); (case k1 => with_reducible assumption); (case k2 => wtm_at "sq"); (case k3 => wtm_at "nin"))
  | fail)
local macro_rules | `(tactic| wtm_at "sqt") => `(tactic| first
  | with_reducible assumption
  | with_reducible exact L2.SqT.of L2.upd_same
  | with_reducible exact L2.SqT.of (by assumption)
  | ((with_reducible refine' Lb.sqt_new ?k1 ?k2); (case k1 => with_reducible assumption); (case k2 => wtm_at "sqt"))
  | ((with_reducible refine' Lb.sqt_ne ?k1 ?k2); (case k1 => wtm_at "ne"); (case k2 => wtm_at "sqt"))
  | ((with_reducible refine' Lb.Keep.tup ?k1 ?k2 ?k3); (case k1 => with_reducible assumption); (case k2 => wtm_at "sqt"); (case k3 => wtm_at "nin"))
  | fail)
local macro_rules | `(tactic| wtm_at "keep") => `(tactic| first
  | with_reducible exact Lb.Keep.refl _ _
  | with_reducible assumption
  | ((with_reducible refine' Lb.Keep.unew ?k1 ?k2); (case k2 => with_reducible assumption); (case k1 => wtm_at "keep"))
  | ((with_reducible refine' Lb.Keep.uput ?k1 ?k2); (case k2 => simp only [List.mem_cons, true_or, or_true]; done); (case k1 => wtm_at "keep"))
  | ((with_reducible refine' Lb.Keep.umut ?k1 ?k2); (case k2 => with_reducible assumption); (case k1 => wtm_at "keep"))
  | fail)
local macro_rules | `(tactic| wtm_at "at") => `(tactic| first
  | assumption
  | exact L2.atI_nat (by assumption)
  | rfl
  | fail)
local macro_rules | `(tactic| wtm_at "cond") => `(tactic| first
  | assumption
  | (show (0 : Int) < _; omega)
  | exact ⟨by omega, by omega⟩
  | exact .inl ⟨by omega, by omega⟩
  | exact .inr ⟨by omega, by omega⟩
  | exact ⟨by decide, by decide, by decide⟩
  | fail)
local macro_rules | `(tactic| wtm_at "go1") => `(tactic| first
  | ((with_reducible refine' Lb.g_var ?k1 ?_); (case k1 => rfl))
  | with_reducible refine' Lb.g_c ?_
  | with_reducible refine' Lb.g_op ?_
  | with_reducible refine' Lb.g_nil ?_
  | with_reducible refine' Lb.g_cons ?_
  | with_reducible refine' Lb.g_cb ?_
  | with_reducible refine' Lb.g_bl ?_
  | with_reducible refine' Lb.g_asg ?_
  | with_reducible refine' Lb.g_name ?_
  | with_reducible refine' Lb.g_ifS ?_
  | with_reducible refine' Lb.g_test ?_
  | with_reducible refine' Lb.g_tb ?_
  | with_reducible refine' Lb.g_and ?_
  | with_reducible refine' Lb.g_or ?_
  | with_reducible refine' Lb.g_not ?_
  | with_reducible refine' Lb.g_un ?_
  | with_reducible refine' Lb.g_rI0 ?_
  | with_reducible refine' Lb.g_rU ?_
  | ((with_reducible refine' Lb.g_rI ?k1 ?_); (case k1 => wtm_at "cond"))
  | ((with_reducible refine' Lb.g_ixL ?k1 ?k2 ?_); (case k1 => wtm_at "sq"); (case k2 => wtm_at "at"))
  | ((with_reducible refine' Lb.g_ixT ?k1 ?k2 ?_); (case k1 => wtm_at "sqt"); (case k2 => wtm_at "at"))
  | ((with_reducible refine' Lb.g_eq ?k1 ?_); (case k1 => rfl))
  | ((with_reducible refine' Lb.g_ne ?k1 ?_); (case k1 => rfl))
  | ((with_reducible refine' Lb.g_len ?k1 ?_); (case k1 => wtm_at "sq"))
  | ((with_reducible refine' Lb.g_lenT ?k1 ?_); (case k1 => wtm_at "sqt"))
  | with_reducible refine' Lb.g_int ?_
  | with_reducible refine' Lb.g_sub ?_
  | ((with_reducible refine' Lb.g_setL ?k1 ?k2 ?_); (case k1 => wtm_at "fact"); (case k2 => rfl))
  | with_reducible refine' Lb.g_drop ?_
  | with_reducible refine' Lb.g_ret ?_
  | with_reducible refine' Lb.g_retN ?_
  | with_reducible refine' Lb.g_next ?_
  | with_reducible refine' Lb.g_cont ?_
  | with_reducible refine' Lb.g_brk ?_
  | ((with_reducible refine' Lb.g_aug ?k1 ?_); (case k1 => rfl))
  | with_reducible refine' Lb.g_tup ?_
  | with_reducible refine' Lb.g_lst ?_
  | with_reducible refine' Lb.g_call ?_
  | with_reducible refine' Lb.g_bm ?_
  | with_reducible refine' Lb.g_bm0 ?_
  | with_reducible refine' Lb.g_dget ?_
  | with_reducible refine' Lb.g_din ?_
  | with_reducible refine' Lb.g_dnotin ?_
  | with_reducible refine' Lb.g_dput ?_
  | with_reducible refine' Lb.g_tif ?_
  | with_reducible refine' Lb.g_andV ?_
  | with_reducible refine' Lb.g_orV ?_
  | with_reducible refine' Lb.g_notV ?_
  | with_reducible refine' Lb.g_revL ?_
  | with_reducible refine' Lb.g_sl ?_
  | with_reducible refine' Lb.g_nopart ?_
  | with_reducible refine' Lb.g_part ?_
  | with_reducible refine' Lb.g_i ?_
  | with_reducible refine' Lb.g_yes ?_
  | fail)
local macro_rules | `(tactic| wtm_at "go") => `(tactic| repeat wtm_at "go1")
local macro_rules | `(tactic| wtm_at "st") => `(tactic| (refine Lb.seq1 fun N hN => ?_; wtm_at "go"; refine hN _ _ ?_; clear hN N))
set_option hygiene false in
local macro_rules | `(tactic| wtm_at "if") => `(tactic| refine Lb.ifb (fun e => ?_) (fun e => ?_))
local macro_rules | `(tactic| wtm_at "T") => `(tactic| refine L2.iteT ?_)
local macro_rules | `(tactic| wtm_at "F") => `(tactic| refine L2.iteF ?_)

namespace Ki
open PySem PySem.Spec PyProof.Rows L2 Lb
theorem erase_mapK (f : Key → V) : ∀ (l : List Key) (j : Nat), (l.map f).eraseIdx j = (l.eraseIdx j).map f
  | [], j => by simp
  | a :: r, 0 => by simp
  | a :: r, j + 1 => by
    have ih := erase_mapK f r j
    simp [ih]
/-- xs.remove(y), y a key that is there, xs a list of keys -/
def rRemK : V → List V → Hp → VK → Prop := fun x xs H Q => ∃ (l : Addr) (ks : List Key) (k : Key) (j : Nat), x = .ref l ∧ xs = [kV k] ∧ H l = some (.lst (ks.map kV)) ∧ ks[j]? = some k ∧ (∀ (m : Nat) z, m < j → ks[m]? = some z → z ≠ k) ∧ Q .non (upd H l (.lst ((ks.eraseIdx j).map kV)))
theorem mt_removeK {X : Cx} : MtM X "list.remove" rRemK := by
  intro pins s σ H x xs v us Q I rx rxs h
  obtain ⟨l, ks, k, j, rfl, rfl, hH, hj, hno, q⟩ := h
  cases rx
  obtain ⟨u, rfl, ru⟩ := rxs.one
  obtain ⟨z, its, n, r, hl, e⟩ := I.lstM hH
  have hvl := r.length
  rw [List.length_map] at hvl
  have hjn : j < ks.length := (List.getElem?_eq_some_iff.mp hj).1
  have hjl : j < its.toArray.size := by rw [List.size_toArray]; omega
  have at_ : ∀ (m : Nat) (c : Key), ks[m]? = some c → ∃ h : m < its.toArray.size, RelV (kV c) its.toArray[m] := fun m c hm => by
    obtain ⟨w, hw, rw'⟩ := r.get (show (ks.map kV)[m]? = some (kV c) by rw [List.getElem?_map, hm]; rfl)
    obtain ⟨h1, h2⟩ := List.getElem?_eq_some_iff.mp hw
    exact ⟨by rw [List.size_toArray]; exact h1, by rw [List.getElem_toArray, h2]; exact rw'⟩
  refine call_meets PySem.F.slot_list_remove ⟨_, e, rfl⟩ PySem.F.entry_list_remove (PySem.F.args_list_remove_2 _ _)
    (SeqAt.list_removeAt l its.toArray n _ _ u (eqU (kV k)) j hjl ?_ ?_ (by rw [List.size_toArray]; omega)) ⟨e, fun y hy => mem_eqAt ru (kV_flat k) r (kV_all ks) y (by simpa using hy), ?_⟩
  · obtain ⟨h1, h2⟩ := at_ j k hj
    rw [eqU_of h2 (kV_flat _), kV_eq, decide_eq_true rfl]
  · intro m hm hmj
    have hmn : m < ks.length := by omega
    have hmk := List.getElem?_eq_getElem hmn
    obtain ⟨h1, h2⟩ := at_ m _ hmk
    rw [eqU_of h2 (kV_flat _), kV_eq, decide_eq_false (hno m _ hmj hmk)]
  · have rr := r.eraseIdx j
    rw [erase_mapK] at rr
    refine ⟨.non, _, I.lset (its' := its.eraseIdx j) (t' := s.toks) hH e ?_ rr ?_, rfl, q⟩
    · show its.toArray.eraseIdxIfInBounds j = (its.eraseIdx j).toArray
      rw [List.eraseIdxIfInBounds_toArray]
    · rw [List.length_map] at z ⊢
      have z2 := List.length_eraseIdx_le (l := ks) (i := j)
      omega

end Ki
namespace Ki
open PySem PySem.Spec PyProof.Rows L2 Lb
/-! enumerate of a tuple -/
open AutoSeq1 (wpAny_loadPart') in
theorem enumT_new (ta : Addr) (us : Array Value) (nn : Nat) (od : Option Addr) (osl : Array (Option Value)) :
    Meets (Builtin.«enumerate.__new__» ⟨[.type "enumerate", .ref ta], []⟩) (fun _ RR st => st.heap.get? ta = some { cls := .type "tuple", dict := od, data := .seq us nn, slots := osl } ∧
      RR (.ok (.ret (.ref (st.heap.push { cls := .type "tuple_iterator", data := .fields #[.ref ta, .int 0 0] }).objs.size)))
        { st with heap := (st.heap.push { cls := .type "tuple_iterator", data := .fields #[.ref ta, .int 0 0] }).push { cls := .type "enumerate", data := .fields #[.none, .bool false, .ref st.heap.objs.size, rawInt 0, .none, .none] } }) :=
  .of_wp fun pg wd AA RR st hyp => by
    obtain ⟨hp1, g1, d1, tk1, os1⟩ := st
    obtain ⟨hta, hyp⟩ := hyp
    have hsub1 := sub_enumerate
    have hTT : Heap.IsTuple (Shared.heap ⟨hp1, g1, d1, tk1, os1⟩) ta us := ⟨_, hta, rfl, nn, rfl⟩
    wp_walk using wpAny_loadPart' hta
    refine wpAny_stack_any fun _ => wpAny_pure ?_
    split
    · rename_i c0 _ _ _ _ _
      cases (c0 == Value.type "enumerate")
      all_goals
        wp_walk using wpAny_loadPart' hta, wpAny_pyIter_tuple hTT
        exact ⟨_, rfl, hyp⟩
    · wp_walk using wpAny_loadPart' hta, wpAny_pyIter_tuple hTT
      exact ⟨_, rfl, hyp⟩
theorem enumT_call {pg : Program} {wd : World} {AA : Around} {EE : Value → Shared → Prop} {st : Shared} {ta : Addr} {us : Array Value} {QQ : Value → Shared → Prop} (hta : st.heap.IsTuple ta us)
    (hyp : ∀ hh, IsEnum hh (st.heap.objs.size + 1) st.heap.objs.size 0 .none → hh.IsTupleIter st.heap.objs.size ta 0 → hh.objs.size = st.heap.objs.size + 2 →
      (∀ b ob, st.heap.get? b = some ob → hh.get? b = some ob) → QQ (.ref (st.heap.objs.size + 1)) { st with heap := hh }) :
    wpAny (model pg wd) AA (call (.type "enumerate") [.ref ta]) QQ EE st := by
  obtain ⟨⟨c1, od, dt1, osl⟩, h1, h2, nn, h3⟩ := hta
  replace h2 : c1 = .type "tuple" := h2
  replace h3 : dt1 = .seq us nn := h3
  subst h2 h3
  refine callType_new F.called_enumerate (by decide) (F.typeCall_enumerate_1 _) (F.newCall_enumerate_1 _) (fun ob => F.args_object_init_2 ob _) F.entry_enumerate_new (enumT_new ta us nn od osl) ⟨h1, ?_⟩
  have sz : (st.heap.push { cls := .type "tuple_iterator", data := .fields #[.ref ta, .int 0 0] }).objs.size = st.heap.objs.size + 1 := by rw [Heap.size_push]
  show _ ∧ _
  rw [sz]
  have en : IsEnum ((st.heap.push { cls := .type "tuple_iterator", data := .fields #[.ref ta, .int 0 0] }).push { cls := .type "enumerate", data := .fields #[.none, .bool false, .ref st.heap.objs.size, rawInt 0, .none, .none] })
      (st.heap.objs.size + 1) st.heap.objs.size 0 .none := by
    have q := Heap.get?_push_size (st.heap.push { cls := .type "tuple_iterator", data := .fields #[.ref ta, .int 0 0] }) (o := { cls := .type "enumerate", data := .fields #[.none, .bool false, .ref st.heap.objs.size, rawInt 0, .none, .none] }) rfl
    rw [sz] at q
    exact q
  exact ⟨⟨_, en, rfl⟩, hyp _ en ⟨_, Heap.get?_push_of_some _ (Heap.get?_push_size _ rfl), rfl, rfl⟩ (by rw [Heap.size_push, sz]) fun b ob q => Heap.get?_push_of_some _ (Heap.get?_push_of_some _ q)⟩
theorem enumT_end {pg : Program} {wd : World} {AA : Around} {EE : Value → Shared → Prop} {st : Shared} {ee ii ta : Addr} {n : Nat} {us : Array Value} {old : Value} {QQ : Option Value → Shared → Prop} (hh : AA.handled = none) (he : IsEnum st.heap ee ii n old)
    (hit : st.heap.IsTupleIter ii ta n) (hta : st.heap.IsTuple ta us) (hx : us[n]? = none) (hQ : ∀ h1, Heap.ExtBut ii st.heap h1 → QQ none { st with heap := h1 }) : wpAny (model pg wd) AA (pyNext (.ref ee)) QQ EE st := by
  have ty : st.TypeIs (.ref ee) "enumerate" := ⟨_, he, rfl⟩
  unfold pyNext
  refine wpAny_bind (wpAny_attempt (wpAny_callSpecial?_slot (name := Str.ofString "__next__") ty F.slot_enumerate_next (wpAny_call_entry F.slot_enumerate_next ty F.entry_enumerate_next ?_ (F.args_enumerate_next_1 _))))
  show wpAny _ _ (field (.ref ee) 2 >>= _) _ _ _
  refine wpAny_bind (wpAny_field he rfl (x := .ref ii) rfl (wpAny_bind (wpAny_nextOf_tuple_end hh hit hta hx fun h1 x ex ⟨o, ho, hc⟩ => ?_)))
  exact wpAny_bind (wpAny_isInstance (T := "StopIteration") (b := true) ⟨o, ho, hc⟩ isSubtype_stop (wpAny_pure (hQ _ ex)))
/-- the tuple at a, each item in a new pair -/
def IteT (K : PySem.W.Frag) (a : Addr) : It :=
  ⟨fun i H => ∃ (xs : List V) (x : V), SqT K H a xs ∧ xs[i]? = some x,
   fun i H v H' => ∃ T x, v = .ref T ∧ H T = none ∧ H' = upd H T (.tup [.int (i : Nat), x]) ∧ ∀ xs, SqT K H a xs → xs[i]? = some x,
   fun i H => ∃ xs : List V, SqT K H a xs ∧ xs.length ≤ i⟩
theorem turn_enumT {P : Program} {w : World} {K : PySem.W.Frag} {elts : List Expr} {kk : Nat} {tpos : Pos} (a e it : Addr) :
    Turn P w K (.Tuple elts kk tpos) (IteT K a) [e, it] e (fun i h => (∃ old, IsEnum h e it ((i : Nat) : Int) old) ∧ h.IsTupleIter it a i ∧ e ≠ it) where
  mem := by simp
  obj := fun i h st b hb => by
    obtain ⟨⟨old, he⟩, ⟨o, ho, hc, hd⟩, _⟩ := st
    rcases (show b = e ∨ b = it by simpa using hb) with rfl | rfl
    · exact ⟨_, he, fun v q => nomatch q⟩
    · exact ⟨o, ho, fun v q => by rw [hd] at q; cases q⟩
  keep := fun i h h' st k => let ⟨⟨old, he⟩, hi, hne⟩ := st; ⟨⟨old, k e (by simp) _ he⟩, hi.at fun o q => k it (by simp) o q, hne⟩
  item := by
    intro X hP hw hK hc i pins s σ H E I hf st hg
    subst hP hw hK
    obtain ⟨⟨old, he⟩, hit, hne⟩ := st
    obtain ⟨xs, x, hq, hx⟩ := hg
    obtain ⟨its, rv, p, hz⟩ := I.tuple hq
    obtain ⟨u, hu, ru⟩ := rv.get hx
    have hel : e < s.heap.objs.size := Heap.lt_size he
    have hil : it < s.heap.objs.size := by
      obtain ⟨o, q, _⟩ := hit
      exact Heap.lt_size q
    have hT0 : s.heap.IsTuple a its.toArray := p
    have nit : a ≠ it := fun z => by
      obtain ⟨o1, q1, q2, _⟩ := hT0
      obtain ⟨o2, q3, q4, _⟩ := hit
      rw [z, q3] at q1
      cases q1
      rw [q4] at q2
      exact absurd (Value.type.inj q2) (by decide)
    have nea : e ≠ a := fun z => by
      obtain ⟨o1, q1, q2, _⟩ := hT0
      have he2 := he
      unfold IsEnum at he2
      rw [z, q1] at he2
      have e3 : o1 = _ := Option.some.inj he2
      rw [e3] at q2
      exact absurd (Value.type.inj q2) (by decide)
    have hul : i < its.toArray.size := by
      have := (List.getElem?_eq_some_iff.mp hu).1
      simpa using this
    refine wpAny_pyNext_enum_itemD (Draws.tuple (show X.A.in1.handled = none from I.ok.hd hc) it a nit its.toArray) he ⟨hit, hT0⟩ hul hne (by simp [hne, nea]) fun u' h' tk hu' ho hst hT hsz hk => ?_
    obtain ⟨hit', hT1⟩ := hst
    have eu : u' = u := by
      have h1 : its.toArray[i]? = some u := by simpa using hu
      rw [h1] at hu'
      exact (Option.some.inj hu').symm
    subst eu
    refine ⟨_, rfl, wpAny_letOwnedTupleGo_enum (s := { s with heap := h', toks := tk + 1 }) ho fun h'' he' sb => ?_⟩
    have hT2 : h''.get? s.heap.objs.size = some { cls := .type "tuple", data := .seq #[.int i tk, u'] } := (sb.2 _ (Nat.ne_of_gt hel)).trans hT
    have new : ObjOk X.prog X.w (upd H s.heap.objs.size (.tup [.int (i : Nat), x])) h'' s.heap.objs.size (.tup [.int (i : Nat), x]) :=
      ⟨by show 2 ≤ sizeLine; decide, [.int i tk, u'], .cons ⟨_, rfl⟩ (.cons ru .nil), ⟨_, hT2, rfl, _, rfl⟩⟩
    have I1 : Inv X pins σ (upd H s.heap.objs.size (.tup [.int (i : Nat), x])) { s with heap := h'', toks := tk + 1 } :=
      I.turnedNew (ch := [e, it]) (fun b ob hb q => (sb.2 b (fun z => hb (by simp [z]))).trans (hk b ob (fun z => hb (by simp [z])) (fun z => hb (by simp [z])) q)) hf (Nat.le_refl _) new
    refine ⟨.ref s.heap.objs.size, _, I1, rfl, ⟨_, x, rfl, I.hok.fresh (Nat.le_refl _), rfl, fun ys hy => by rw [I.tuple_inj hy hq]; exact hx⟩, ⟨⟨u', ?_⟩, hit'.at fun o q => (sb.2 it (Ne.symm hne)).trans q, hne⟩, fun b hb => ?_⟩
    · have e1 : ((i + 1 : Nat) : Int) = (i : Int) + 1 := by omega
      rw [e1]
      exact he'
    · have hb' : b < s.heap.objs.size := by
        rcases (show b = e ∨ b = it by simpa using hb) with rfl | rfl
        · exact hel
        · exact hil
      rw [upd_ne (Nat.ne_of_lt hb')]
      exact (hf b hb).1
  done := by
    intro X hP hw hK hc i pins s σ H E I hf st hg
    subst hP hw hK
    obtain ⟨⟨old, he⟩, hit, hne⟩ := st
    obtain ⟨xs, hq, hx⟩ := hg
    obtain ⟨its, rv, p, hz⟩ := I.tuple hq
    obtain ⟨f0, f1, f2, f3, f4, f5⟩ := hf it (by simp)
    have hl := rv.length
    have hT0 : s.heap.IsTuple a its.toArray := p
    have nit : a ≠ it := fun z => by
      obtain ⟨o1, q1, q2, _⟩ := hT0
      obtain ⟨o2, q3, q4, _⟩ := hit
      rw [z, q3] at q1
      cases q1
      rw [q4] at q2
      exact absurd (Value.type.inj q2) (by decide)
    exact enumT_end (I.ok.hd hc) he hit hT0 (by simp; omega) fun h' eb => ⟨rfl, I.turned (t' := s.toks) (fun b o hb q => eb b o hb q) f0 f1 f3 f4 f5⟩
  self := fun A i s Q E st h => let ⟨⟨_, he⟩, _⟩ := st; wpAny_pyIter_enum he h

/-- enumerate of a list or a tuple -/
def iEnumA (K : PySem.W.Frag) (ta : TA) : TI := fun σ H R => ta σ H fun vs H1 => ∃ a xs, vs = [.ref a] ∧ ((SqL K H1 a xs ∧ R (Ite K a) H1) ∨ (SqT K H1 a xs ∧ R (IteT K a) H1))
theorem pi_enumA {X : Cx} {e : Expr} {ta : TA} {p pos tpos : Pos} {elts : List Expr} {kk : Nat} (hg : Gl X "enumerate") (hm : X.mg "enumerate" = none) (ha : PA X [e] ta) (hs : starEach [e] X.env = [(false, eval e X.env)] := by rfl) :
    PI X (.Tuple elts kk tpos) (.Call (.Name "enumerate" p) [e] [] pos) (iEnumA X.K ta) := by
  refine ⟨fun pins s σ H R I h => ?_⟩
  refine Call_ (ld_blt I hg hm boot_enumerate (PyProof.Rows.callWith_type1 (thn (ha.run pos pins s σ H _ I h) fun us s1 ⟨vs, H1, I1, r1, q1⟩ => ?_) hs rfl))
  obtain ⟨a, xs, rfl, q⟩ := q1
  cases r1 with
  | cons r rr =>
    cases rr
    cases r
    have fin : ∀ (b : Addr), b = s1.heap.objs.size + 1 ∨ b = s1.heap.objs.size → s1.heap.objs.size ≤ b := fun b hb => by
      rcases hb with rfl | rfl
      · exact Nat.le_add_right _ _
      · exact Nat.le_refl _
    rcases q with ⟨hq, q⟩ | ⟨hq, q⟩
    · obtain ⟨its, rv, p', hz⟩ := I1.list hq
      refine call_enumerate_list p'.isList fun h' he hit hsz hk => wpAny_pyIter_enum he ?_
      have I2 : Inv X pins σ H1 { s1 with heap := h' } := I1.kept (t' := s1.toks) hk
      exact ⟨_, [s1.heap.objs.size + 1, s1.heap.objs.size], _, _, H1, rfl, I2, turn_enum a _ s1.heap.objs.size, ⟨⟨.none, he⟩, hit, Nat.succ_ne_self _⟩, fun b hb => I1.fpOk (fin b (by simpa using hb)) (I1.hok.fresh (fin b (by simpa using hb))), q⟩
    · obtain ⟨its, rv, p', hz⟩ := I1.tuple hq
      refine enumT_call (show s1.heap.IsTuple a its.toArray from p') fun h' he hit hsz hk => wpAny_pyIter_enum he ?_
      have I2 : Inv X pins σ H1 { s1 with heap := h' } := I1.kept (t' := s1.toks) hk
      exact ⟨_, [s1.heap.objs.size + 1, s1.heap.objs.size], _, _, H1, rfl, I2, turn_enumT a _ s1.heap.objs.size, ⟨⟨.none, he⟩, hit, Nat.succ_ne_self _⟩, fun b hb => I1.fpOk (fin b (by simpa using hb)) (I1.hok.fresh (fin b (by simpa using hb))), q⟩
/-- a loop over it: the items xs stand still -/
theorem for_enumA {K : PySem.W.Frag} {a : Addr} {xs : List V} {g : TG} {tb : TS} {D : Ends} {σ : L2.St} {H0 H : Hp} {J : It} (hJ : (J = Ite K a ∧ SqL K H0 a xs) ∨ (J = IteT K a ∧ SqT K H0 a xs)) (Pv : Nat → L2.St → Hp → Prop) (h0 : Pv 0 σ H)
    (hl : ∀ i σ H', i ≤ xs.length → Pv i σ H' → Keep [] H0 H')
    (hs : ∀ i x T σ H', xs[i]? = some x → Pv i σ H' → H' T = none → g (.ref T) σ (upd H' T (.tup [.int (i : Nat), x])) fun σ2 H2 => tb { D with nx := Pv (i + 1), ct := Pv (i + 1), bk := D.nx } σ2 H2)
    (hd : ∀ σ H', Pv xs.length σ H' → D.nx σ H') :
    ∃ W : Nat → Nat → L2.St → Hp → Prop, (∃ m, W 0 m σ H) ∧ ∀ i m σ H, W i m σ H →
      (J.stop i H ∧ D.nx σ H) ∨ (J.go i H ∧ ∃ N : L2.St → Hp → Prop, (∀ σ' H', N σ' H' → ∃ m', m' < m ∧ W (i + 1) m' σ' H') ∧ ∀ x H', J.yld i H x H' → g x σ H' fun σ2 H2 => tb { D with nx := N, ct := N, bk := D.nx } σ2 H2) := by
  refine ⟨fun i m σ H' => i + m = xs.length ∧ Pv i σ H', ⟨xs.length, by omega, h0⟩, ?_⟩
  rintro i m σ H' ⟨hm, pv⟩
  have k := hl i σ H' (by omega) pv
  by_cases hi : i < xs.length
  · have hx := List.getElem?_eq_getElem hi
    refine .inr ⟨?_, Pv (i + 1), fun σ' H2 p => ⟨m - 1, by omega, by omega, p⟩, fun x H2 hy => ?_⟩
    · rcases hJ with ⟨rfl, hq⟩ | ⟨rfl, hq⟩
      · exact ⟨xs, _, k.seq hq List.not_mem_nil, hx⟩
      · exact ⟨xs, _, k.tup hq List.not_mem_nil, hx⟩
    · rcases hJ with ⟨rfl, hq⟩ | ⟨rfl, hq⟩
      · obtain ⟨T, y, rfl, nT, rfl, f⟩ := hy
        have ey := f _ (k.seq hq List.not_mem_nil)
        exact hs i y T σ H' ey pv nT
      · obtain ⟨T, y, rfl, nT, rfl, f⟩ := hy
        have ey := f _ (k.tup hq List.not_mem_nil)
        exact hs i y T σ H' ey pv nT
  · have e : i = xs.length := by omega
    subst e
    refine .inl ⟨?_, hd σ H' pv⟩
    rcases hJ with ⟨rfl, hq⟩ | ⟨rfl, hq⟩
    · exact ⟨xs, k.seq hq List.not_mem_nil, Nat.le_refl _⟩
    · exact ⟨xs, k.tup hq List.not_mem_nil, Nat.le_refl _⟩

end Ki
namespace Ki
open PySem PySem.Spec PyProof.Rows L2 Lb
theorem hu65 {A : Around} {k : Nat} (hr : Room k A) : A.units + 65 < cLine := by have := hr.un; omega
def topS (i : Nat) : Stmt := PySem.Challenge.pw_drawnwhole_k43_whole_fewest_moves.main.body.getD i (.Pass ⟨0, 0, 0, 0⟩)
abbrev sIsValue : Stmt := topS 4
theorem scIsValue : FnScope ["thing"] ["thing"] (defScope sIsValue) := ⟨rfl, rfl, rfl, by decide +kernel, rfl, by decide +kernel, by decide +kernel⟩
abbrev sPlacesOf : Stmt := topS 5
theorem scPlacesOf : FnScope ["row", "at", "value"] ["row"] (defScope sPlacesOf) := ⟨rfl, rfl, rfl, by decide +kernel, rfl, by decide +kernel, by decide +kernel⟩
abbrev sPilesOf : Stmt := topS 6
theorem scPilesOf : FnScope ["old", "new", "places", "piles", "before", "value", "at"] ["old", "new"] (defScope sPilesOf) := ⟨rfl, rfl, rfl, by decide +kernel, rfl, by decide +kernel, by decide +kernel⟩
abbrev sRising : Stmt := topS 7
theorem scRising : FnScope ["old", "new", "piles", "before", "row"] ["old", "new"] (defScope sRising) := ⟨rfl, rfl, rfl, by decide +kernel, rfl, by decide +kernel, by decide +kernel⟩
abbrev sIsTarget : Stmt := topS 8
theorem scIsTarget : FnScope ["row", "value", "target"] ["row", "value", "target"] (defScope sIsTarget) := ⟨rfl, rfl, rfl, by decide +kernel, rfl, by decide +kernel, by decide +kernel⟩
abbrev sIsEdit : Stmt := topS 9
theorem scIsEdit : FnScope ["row", "edit", "there"] ["row", "edit"] (defScope sIsEdit) := ⟨rfl, rfl, rfl, by decide +kernel, rfl, by decide +kernel, by decide +kernel⟩
abbrev sEdited : Stmt := topS 10
theorem scEdited : FnScope ["old", "edits", "row", "index", "edit", "at"] ["old", "edits"] (defScope sEdited) := ⟨rfl, rfl, rfl, by decide +kernel, rfl, by decide +kernel, by decide +kernel⟩
abbrev sEdits : Stmt := topS 11
theorem scEdits : FnScope ["old", "new", "elder", "younger", "kept", "made", "target", "value"] ["old", "new"] (defScope sEdits) := ⟨rfl, rfl, rfl, by decide +kernel, rfl, by decide +kernel, by decide +kernel⟩
abbrev sLeastMoves : Stmt := topS 12
theorem scLeastMoves : FnScope ["old", "new", "edit"] ["old", "new"] (defScope sLeastMoves) := ⟨rfl, rfl, rfl, by decide +kernel, rfl, by decide +kernel, by decide +kernel⟩
abbrev sLTake : Stmt := topS 14
theorem scLTake : FnScope ["_law_bag", "_law_many", "_law_cells", "_law_digit", "_law_cell", "_law_number"] ["_law_bag", "_law_many"] (defScope sLTake) := ⟨rfl, rfl, rfl, by decide +kernel, rfl, by decide +kernel, by decide +kernel⟩
abbrev sLValue : Stmt := topS 15
theorem scLValue : FnScope ["_law_bag", "_law_k", "_law_number"] ["_law_bag", "_law_k"] (defScope sLValue) := ⟨rfl, rfl, rfl, by decide +kernel, rfl, by decide +kernel, by decide +kernel⟩
abbrev sLPutIn : Stmt := topS 16
theorem scLPutIn : FnScope ["_law_bag", "_law_row", "_law_value_here", "_law_shape", "_law_at"] ["_law_bag", "_law_row", "_law_value_here", "_law_shape"] (defScope sLPutIn) := ⟨rfl, rfl, rfl, by decide +kernel, rfl, by decide +kernel, by decide +kernel⟩
abbrev sLRows : Stmt := topS 17
theorem scLRows : FnScope ["_law_bag", "_law_many", "_law_shape", "_law_twin", "_law_rows_here", "_law_k", "_law_value_here", "_law_where"] ["_law_bag"] (defScope sLRows) := ⟨rfl, rfl, rfl, by decide +kernel, rfl, by decide +kernel, by decide +kernel⟩
abbrev sLPlace : Stmt := topS 18
theorem scLPlace : FnScope ["_law_row", "_law_value_here", "_law_k"] ["_law_row", "_law_value_here"] (defScope sLPlace) := ⟨rfl, rfl, rfl, by decide +kernel, rfl, by decide +kernel, by decide +kernel⟩
abbrev sLLongest : Stmt := topS 19
theorem scLLongest : FnScope ["_law_old", "_law_new", "_law_places", "_law_best", "_law_k", "_law_many", "_law_j", "_law_most", "_law_value_here"] ["_law_old", "_law_new"] (defScope sLLongest) := ⟨rfl, rfl, rfl, by decide +kernel, rfl, by decide +kernel, by decide +kernel⟩
abbrev sLIsValue : Stmt := topS 20
theorem scLIsValue : FnScope ["_law_value_here"] ["_law_value_here"] (defScope sLIsValue) := ⟨rfl, rfl, rfl, by decide +kernel, rfl, by decide +kernel, by decide +kernel⟩
abbrev sLDone : Stmt := topS 21
theorem scLDone : FnScope ["_law_row", "_law_edit", "_law_at", "_law_to"] ["_law_row", "_law_edit"] (defScope sLDone) := ⟨rfl, rfl, rfl, by decide +kernel, rfl, by decide +kernel, by decide +kernel⟩
abbrev sLWell : Stmt := topS 22
theorem scLWell : FnScope ["_law_old", "_law_new", "_law_made", "_law_moves", "_law_row", "_law_single", "_law_count", "_law_edit", "_law_both"] ["_law_old", "_law_new", "_law_made", "_law_moves"] (defScope sLWell) := ⟨rfl, rfl, rfl, by decide +kernel, rfl, by decide +kernel, by decide +kernel⟩
abbrev sLaw : Stmt := topS 23
theorem scLaw : FnScope ["_law_script", "_law_bag", "_law_rows_here", "_law_old", "_law_new", "_law_longest_here", "_law_moves", "_law_turn", "_law_passed", "_law_told", "_law_made", "_law_kept", "_law_back", "_law_other"] ["_law_script"] (defScope sLaw) := ⟨rfl, rfl, rfl, by decide +kernel, rfl, by decide +kernel, by decide +kernel⟩

theorem boot_bool : bootBuiltins "bool" = some (.type "bool") := by decide +kernel
theorem boot_int : bootBuiltins "int" = some (.type "int") := by decide +kernel
theorem boot_isinstance : bootBuiltins "isinstance" = some (.builtin "isinstance") := by decide +kernel
theorem boot_len : bootBuiltins "len" = some (.builtin "len") := by decide +kernel
theorem boot_list : bootBuiltins "list" = some (.type "list") := by decide +kernel
theorem boot_max : bootBuiltins "max" = some (.builtin "max") := by decide +kernel
theorem boot_str : bootBuiltins "str" = some (.type "str") := by decide +kernel
theorem boot_tuple : bootBuiltins "tuple" = some (.type "tuple") := by decide +kernel
structure TX (K : PySem.W.Frag) (mg : Str → Option Value) : Type where
  n_bool : mg "bool" = none
  n_enumerate : mg "enumerate" = none
  n_int : mg "int" = none
  n_isinstance : mg "isinstance" = none
  n_len : mg "len" = none
  n_list : mg "list" = none
  n_max : mg "max" = none
  n_range : mg "range" = none
  n_str : mg "str" = none
  n_tuple : mg "tuple" = none
  fIsValue : Addr
  dIsValue : FuncData
  FIsValue : Fun K "is_value" "is_value" sIsValue fIsValue dIsValue
  gIsValue : mg "is_value" = some (.ref fIsValue)
  bIsValue : Binds K dIsValue ["thing"] []
  fPlacesOf : Addr
  dPlacesOf : FuncData
  FPlacesOf : Fun K "places_of" "places_of" sPlacesOf fPlacesOf dPlacesOf
  gPlacesOf : mg "places_of" = some (.ref fPlacesOf)
  bPlacesOf : Binds K dPlacesOf ["row"] []
  fPilesOf : Addr
  dPilesOf : FuncData
  FPilesOf : Fun K "piles_of" "piles_of" sPilesOf fPilesOf dPilesOf
  gPilesOf : mg "piles_of" = some (.ref fPilesOf)
  bPilesOf : Binds K dPilesOf ["old", "new"] []
  fRising : Addr
  dRising : FuncData
  FRising : Fun K "rising" "rising" sRising fRising dRising
  gRising : mg "rising" = some (.ref fRising)
  bRising : Binds K dRising ["old", "new"] []
  fIsTarget : Addr
  dIsTarget : FuncData
  FIsTarget : Fun K "is_target" "is_target" sIsTarget fIsTarget dIsTarget
  gIsTarget : mg "is_target" = some (.ref fIsTarget)
  bIsTarget : Binds K dIsTarget ["row", "value", "target"] []
  fIsEdit : Addr
  dIsEdit : FuncData
  FIsEdit : Fun K "is_edit" "is_edit" sIsEdit fIsEdit dIsEdit
  gIsEdit : mg "is_edit" = some (.ref fIsEdit)
  bIsEdit : Binds K dIsEdit ["row", "edit"] []
  fEdited : Addr
  dEdited : FuncData
  FEdited : Fun K "edited" "edited" sEdited fEdited dEdited
  gEdited : mg "edited" = some (.ref fEdited)
  bEdited : Binds K dEdited ["old", "edits"] []
  fEdits : Addr
  dEdits : FuncData
  FEdits : Fun K "edits" "edits" sEdits fEdits dEdits
  gEdits : mg "edits" = some (.ref fEdits)
  bEdits : Binds K dEdits ["old", "new"] []
  fLeastMoves : Addr
  dLeastMoves : FuncData
  FLeastMoves : Fun K "least_moves" "least_moves" sLeastMoves fLeastMoves dLeastMoves
  gLeastMoves : mg "least_moves" = some (.ref fLeastMoves)
  bLeastMoves : Binds K dLeastMoves ["old", "new"] []
  fLTake : Addr
  dLTake : FuncData
  FLTake : Fun K "_law_take" "_law_take" sLTake fLTake dLTake
  gLTake : mg "_law_take" = some (.ref fLTake)
  bLTake : Binds K dLTake ["_law_bag", "_law_many"] []
  fLValue : Addr
  dLValue : FuncData
  FLValue : Fun K "_law_value" "_law_value" sLValue fLValue dLValue
  gLValue : mg "_law_value" = some (.ref fLValue)
  bLValue : Binds K dLValue ["_law_bag", "_law_k"] []
  fLPutIn : Addr
  dLPutIn : FuncData
  FLPutIn : Fun K "_law_put_in" "_law_put_in" sLPutIn fLPutIn dLPutIn
  gLPutIn : mg "_law_put_in" = some (.ref fLPutIn)
  bLPutIn : Binds K dLPutIn ["_law_bag", "_law_row", "_law_value_here", "_law_shape"] []
  fLRows : Addr
  dLRows : FuncData
  FLRows : Fun K "_law_rows" "_law_rows" sLRows fLRows dLRows
  gLRows : mg "_law_rows" = some (.ref fLRows)
  bLRows : Binds K dLRows ["_law_bag"] []
  fLPlace : Addr
  dLPlace : FuncData
  FLPlace : Fun K "_law_place" "_law_place" sLPlace fLPlace dLPlace
  gLPlace : mg "_law_place" = some (.ref fLPlace)
  bLPlace : Binds K dLPlace ["_law_row", "_law_value_here"] []
  fLLongest : Addr
  dLLongest : FuncData
  FLLongest : Fun K "_law_longest" "_law_longest" sLLongest fLLongest dLLongest
  gLLongest : mg "_law_longest" = some (.ref fLLongest)
  bLLongest : Binds K dLLongest ["_law_old", "_law_new"] []
  fLIsValue : Addr
  dLIsValue : FuncData
  FLIsValue : Fun K "_law_is_value" "_law_is_value" sLIsValue fLIsValue dLIsValue
  gLIsValue : mg "_law_is_value" = some (.ref fLIsValue)
  bLIsValue : Binds K dLIsValue ["_law_value_here"] []
  fLDone : Addr
  dLDone : FuncData
  FLDone : Fun K "_law_done" "_law_done" sLDone fLDone dLDone
  gLDone : mg "_law_done" = some (.ref fLDone)
  bLDone : Binds K dLDone ["_law_row", "_law_edit"] []
  fLWell : Addr
  dLWell : FuncData
  FLWell : Fun K "_law_well" "_law_well" sLWell fLWell dLWell
  gLWell : mg "_law_well" = some (.ref fLWell)
  bLWell : Binds K dLWell ["_law_old", "_law_new", "_law_made", "_law_moves"] []
  fLaw : Addr
  dLaw : FuncData
  FLaw : Fun K "law" "law" sLaw fLaw dLaw
  gLaw : mg "law" = some (.ref fLaw)
  bLaw : Binds K dLaw ["_law_script"] []
section
variable {P : Program} {w : World} {K : PySem.W.Frag} {mg : Str → Option Value} {base : Heap} {cdv : Value} {A : Around} {outer : List Env} {s : Shared} {H : Hp} {E : XK}
noncomputable def derIsValue (T : TX K mg) (hr : Room 0 (A.deeper (envOfC "is_value" (defScope sIsValue) s.heap.objs.size T.fIsValue cdv))) : {t : TS // PSs (cxOf CX0 P w K mg base ["thing"] "is_value" (defScope sIsValue) T.fIsValue cdv A outer s H E).nox (defBody sIsValue) t} :=
 ⟨_, (pss_one (ps_ret (pe_or (pe_callB (r := rIsi K) call_isi (by rfl) T.n_isinstance boot_isinstance (pa_cons (pv 0) (pa_cons (pe_bltn (v := .ty "str") (by rfl) T.n_str boot_str rfl) pa_nil))) (pe_one (pe_and (pe_callB (r := rIsi K) call_isi (by rfl) T.n_isinstance boot_isinstance (pa_cons (pv 0) (pa_cons (pe_bltn (v := .ty "int") (by rfl) T.n_int boot_int rfl) pa_nil))) (pe_one (pe_not (pe_callB (r := rIsi K) call_isi (by rfl) T.n_isinstance boot_isinstance (pa_cons (pv 0) (pa_cons (pe_bltn (v := .ty "bool") (by rfl) T.n_bool boot_bool rfl) pa_nil))))))))))⟩
noncomputable def derPlacesOf (T : TX K mg) (hr : Room 0 (A.deeper (envOfC "places_of" (defScope sPlacesOf) s.heap.objs.size T.fPlacesOf cdv))) : {t : TS // PSs (cxOf CX0 P w K mg base ["row", "at", "value"] "places_of" (defScope sPlacesOf) T.fPlacesOf cdv A outer s H E).nox (defBody sPlacesOf) t} :=
 ⟨_, (pss_one (ps_ret (pe_dc (own := [("at", 1), ("value", 2)]) (g := gTup K 2 (gCons (gName 1) (gCons (gName 2) gNil))) (tt := tYes) rfl scPlacesOf.nd (pi_enum (by rfl) T.n_enumerate (pa_cons (pv 0) pa_nil)) (blkOk_by (own := [("at", 1), ("value", 2)]) (N := ["row", "at", "value"]) (sc := defScope sPlacesOf) (by decide +kernel)) (fun _ _ _ _ _ => by exact (pg_tup rfl (pgs_cons (pg_name (i := 1) scPlacesOf.nd rfl (.inl rfl)) (pgs_cons (pg_name (i := 2) scPlacesOf.nd rfl (.inl rfl)) pgs_nil)))) (fun _ _ _ _ _ => pts_nil) (fun _ _ _ _ _ => (pv 2)) (fun _ _ _ _ _ => (pv 1)))))⟩
noncomputable def derPilesOf (T : TX K mg) {spPlacesOf : Sp} (GPlacesOf : FnOk P w K mg base CX0 1 T.fPlacesOf T.dPlacesOf ["row"] spPlacesOf) (hr : Room 1 (A.deeper (envOfC "piles_of" (defScope sPilesOf) s.heap.objs.size T.fPilesOf cdv))) : {t : TS // PSs (cxOf CX0 P w K mg base ["old", "new", "places", "piles", "before", "value", "at"] "piles_of" (defScope sPilesOf) T.fPilesOf cdv A outer s H E).nox (defBody sPilesOf) t} :=
 ⟨_, (pss_cons (ps_set (i := 2) scPilesOf.nd rfl (.inl rfl) (pe_call GPlacesOf (hr.mono (by decide)) (by rfl) T.gPlacesOf T.FPlacesOf.kp T.bPlacesOf .nil pass0 (pa_cons (pv 1) pa_nil)))
 (pss_cons (ps_set (i := 3) scPilesOf.nd rfl (.inl rfl) (pe_lst pa_nil))
 (pss_cons (ps_set (i := 4) scPilesOf.nd rfl (.inl rfl) pe_dnewK)
 (pss_cons (ps_for PassesOwn.never rfl (pi_list (pv 0)) (pg_name (i := 5) scPilesOf.nd rfl (.inl rfl))
 (pss_cons (ps_if (pt_cmp (pc_dnotin (hu_of hr) (pv 5) (pv 2)))
 (pss_one ps_continue)
 pss_nil)
 (pss_cons (ps_set (i := 6) scPilesOf.nd rfl (.inl rfl) pe_int)
 (pss_cons (ps_while PassesOwn.never (PW.pt (pw_and (pt_cmpR op_lt (pv 6) (pe_callB (r := qLen K) c_len (by rfl) T.n_len boot_len (pa_cons (pv 3) pa_nil)) (nomark _)) (pw_and1 (pt_cmpR op_lt (pe_dget (hu_of hr) (pv 2) (pe_ix (r := rIxL K) ix_list (pe_ix (r := rIxL K) ix_list (pv 3) (pv 6) (fun _ _ => rfl)) (pe_un un_neg pe_int) (fun _ _ => rfl)) (fun _ _ => rfl)) (pe_dget (hu_of hr) (pv 2) (pv 5) (fun _ _ => rfl)) (nomark _)))))
 (pss_one (ps_aug (i := 6) scPilesOf.nd rfl (.inl rfl) pe_int ip_add)))
 (pss_cons (ps_dput (hu_of hr) (pv 4) (pv 5) (pe_ifExp (pt_cmpR op_eq (pv 6) pe_int (nomark _)) pe_non (pe_ix (r := rIxL K) ix_list (pe_ix (r := rIxL K) ix_list (pv 3) (pe_op op_sub (pv 6) pe_int) (fun _ _ => rfl)) (pe_un un_neg pe_int) (fun _ _ => rfl))) rfl)
 (pss_one (ps_if (pt_cmpR op_eq (pv 6) (pe_callB (r := qLen K) c_len (by rfl) T.n_len boot_len (pa_cons (pv 3) pa_nil)) (nomark _))
 (pss_one (ps_expr (pe_bm PySem.F.plainAttrs_list PySem.F.slot_list_append PySem.F.type_list_append mt_append (pv 3) (pa_cons (pe_lst (pa_cons (pv 5) pa_nil)) pa_nil))))
 (pss_one (ps_expr (pe_bm PySem.F.plainAttrs_list PySem.F.slot_list_append PySem.F.type_list_append mt_append (pe_ix (r := rIxL K) ix_list (pv 3) (pv 6) (fun _ _ => rfl)) (pa_cons (pv 5) pa_nil)))))))))))
 (pss_one (ps_ret (pe_tup (pa_cons (pv 3) (pa_cons (pv 4) pa_nil)))))))))⟩
noncomputable def derRising (T : TX K mg) {spPilesOf : Sp} (GPilesOf : FnOk P w K mg base CX0 2 T.fPilesOf T.dPilesOf ["old", "new"] spPilesOf) (hr : Room 2 (A.deeper (envOfC "rising" (defScope sRising) s.heap.objs.size T.fRising cdv))) : {t : TS // PSs (cxOf CX0 P w K mg base ["old", "new", "piles", "before", "row"] "rising" (defScope sRising) T.fRising cdv A outer s H E).nox (defBody sRising) t} :=
 ⟨_, (pss_cons (ps_asg (pe_call GPilesOf (hr.mono (by decide)) (by rfl) T.gPilesOf T.FPilesOf.kp T.bPilesOf .nil pass0 (pa_cons (pv 0) (pa_cons (pv 1) pa_nil))) (pg_tup rfl (pgs_cons (pg_name (i := 2) scRising.nd rfl (.inl rfl)) (pgs_cons (pg_name (i := 3) scRising.nd rfl (.inl rfl)) pgs_nil))))
 (pss_cons (ps_if (pt_not (pt_truth (pv 2) (by intro _; rfl)))
 (pss_one (ps_ret (pe_lst pa_nil)))
 pss_nil)
 (pss_cons (ps_set (i := 4) scRising.nd rfl (.inl rfl) (pe_lst (pa_cons (pe_ix (r := rIxL K) ix_list (pe_ix (r := rIxL K) ix_list (pv 2) (pe_un un_neg pe_int) (fun _ _ => rfl)) (pe_un un_neg pe_int) (fun _ _ => rfl)) pa_nil)))
 (pss_cons (ps_while PassesOwn.never (pt_cmpR op_notN (pe_dget (hu_of hr) (pv 3) (pe_ix (r := rIxL K) ix_list (pv 4) (pe_un un_neg pe_int) (fun _ _ => rfl)) (fun _ _ => rfl)) pe_non (nomark _))
 (pss_one (ps_expr (pe_bm PySem.F.plainAttrs_list PySem.F.slot_list_append PySem.F.type_list_append mt_append (pv 4) (pa_cons (pe_dget (hu_of hr) (pv 3) (pe_ix (r := rIxL K) ix_list (pv 4) (pe_un un_neg pe_int) (fun _ _ => rfl)) (fun _ _ => rfl)) pa_nil)))))
 (pss_one (ps_ret (pe_revL (pv 4))))))))⟩
noncomputable def derIsTarget (T : TX K mg) {spIsValue : Sp} (GIsValue : FnOk P w K mg base CX0 1 T.fIsValue T.dIsValue ["thing"] spIsValue) (hr : Room 1 (A.deeper (envOfC "is_target" (defScope sIsTarget) s.heap.objs.size T.fIsTarget cdv))) : {t : TS // PSs (cxOf CX0 P w K mg base ["row", "value", "target"] "is_target" (defScope sIsTarget) T.fIsTarget cdv A outer s H E).nox (defBody sIsTarget) t} :=
 ⟨_, (pss_cons (ps_if (pt_cmpR op_isN (pv 2) pe_non (nomark _))
 (pss_one (ps_ret pe_bl))
 pss_nil)
 (pss_one (ps_ret (pe_and (pe_call GIsValue (hr.mono (by decide)) (by rfl) T.gIsValue T.FIsValue.kp T.bIsValue .nil pass0 (pa_cons (pv 2) pa_nil)) (pe_and (pe_cmpR (r := rIn K false) op_in_seq (pv 2) (pv 0) (by rfl)) (pe_one (pe_cmpR op_ne (pv 2) (pv 1) (nomark _))))))))⟩
noncomputable def derIsEdit (T : TX K mg) {spIsTarget : Sp} (GIsTarget : FnOk P w K mg base CX0 2 T.fIsTarget T.dIsTarget ["row", "value", "target"] spIsTarget) {spIsValue : Sp} (GIsValue : FnOk P w K mg base CX0 1 T.fIsValue T.dIsValue ["thing"] spIsValue) (hr : Room 2 (A.deeper (envOfC "is_edit" (defScope sIsEdit) s.heap.objs.size T.fIsEdit cdv))) : {t : TS // PSs (cxOf CX0 P w K mg base ["row", "edit", "there"] "is_edit" (defScope sIsEdit) T.fIsEdit cdv A outer s H E).nox (defBody sIsEdit) t} :=
 ⟨_, (pss_cons (ps_if (PW.pt (pw_or (pt_not (pt_val (pe_callB (r := rIsi K) call_isi (by rfl) T.n_isinstance boot_isinstance (pa_cons (pv 1) (pa_cons (pe_bltn (v := .ty "tuple") (by rfl) T.n_tuple boot_tuple rfl) pa_nil))))) (pw_or (pt_cmpR op_lt (pe_callB (r := qLen K) c_len (by rfl) T.n_len boot_len (pa_cons (pv 1) pa_nil)) pe_int (nomark _)) (pw_or (pt_not (pt_val (pe_callB (r := rIsi K) call_isi (by rfl) T.n_isinstance boot_isinstance (pa_cons (pe_ix (r := rIxT K) ix_tup (pv 1) pe_int (fun _ _ => rfl)) (pa_cons (pe_bltn (v := .ty "str") (by rfl) T.n_str boot_str rfl) pa_nil))))) (pw_or1 (pt_not (pt_val (pe_call GIsValue (hr.mono (by decide)) (by rfl) T.gIsValue T.FIsValue.kp T.bIsValue .nil pass0 (pa_cons (pe_ix (r := rIxT K) ix_tup (pv 1) pe_int (fun _ _ => rfl)) pa_nil)))))))))
 (pss_one (ps_ret pe_bl))
 pss_nil)
 (pss_cons (ps_set (i := 2) scIsEdit.nd rfl (.inl rfl) (pe_cmpR (r := rIn K false) op_in_seq (pe_ix (r := rIxT K) ix_tup (pv 1) pe_int (fun _ _ => rfl)) (pv 0) (by rfl)))
 (pss_cons (ps_if (pt_cmpR op_eq (pe_ix (r := rIxT K) ix_tup (pv 1) pe_int (fun _ _ => rfl)) pe_str (nomark _))
 (pss_one (ps_ret (pe_and (pe_cmpR op_eq (pe_callB (r := qLen K) c_len (by rfl) T.n_len boot_len (pa_cons (pv 1) pa_nil)) pe_int (nomark _)) (pe_one (pv 2)))))
 pss_nil)
 (pss_cons (ps_if (PW.pt (pw_or (pt_cmpR op_ne (pe_callB (r := qLen K) c_len (by rfl) T.n_len boot_len (pa_cons (pv 1) pa_nil)) pe_int (nomark _)) (pw_or1 (pt_not (pt_val (pe_call GIsTarget (hr.mono (by decide)) (by rfl) T.gIsTarget T.FIsTarget.kp T.bIsTarget .nil pass0 (pa_cons (pv 0) (pa_cons (pe_ix (r := rIxT K) ix_tup (pv 1) pe_int (fun _ _ => rfl)) (pa_cons (pe_ix (r := rIxT K) ix_tup (pv 1) pe_int (fun _ _ => rfl)) pa_nil)))))))))
 (pss_one (ps_ret pe_bl))
 pss_nil)
 (pss_one (ps_ret (pe_or (pe_and (pe_cmpR op_eq (pe_ix (r := rIxT K) ix_tup (pv 1) pe_int (fun _ _ => rfl)) pe_str (nomark _)) (pe_one (pe_not (pv 2)))) (pe_one (pe_and (pe_cmpR op_eq (pe_ix (r := rIxT K) ix_tup (pv 1) pe_int (fun _ _ => rfl)) pe_str (nomark _)) (pe_one (pv 2)))))))))))⟩
noncomputable def derEdited (T : TX K mg) {spIsEdit : Sp} (GIsEdit : FnOk P w K mg base CX0 3 T.fIsEdit T.dIsEdit ["row", "edit"] spIsEdit) (hr : Room 3 (A.deeper (envOfC "edited" (defScope sEdited) s.heap.objs.size T.fEdited cdv))) : {t : TS // PSs (cxOf CX0 P w K mg base ["old", "edits", "row", "index", "edit", "at"] "edited" (defScope sEdited) T.fEdited cdv A outer s H E).nox (defBody sEdited) t} :=
 ⟨_, (pss_cons (ps_if (pt_not (pt_val (pe_callB (r := rIsiT K) call_isiT (by rfl) T.n_isinstance boot_isinstance (pa_cons (pv 1) (pa_cons (pe_tup (pa_cons (pe_bltn (v := .ty "list") (by rfl) T.n_list boot_list rfl) (pa_cons (pe_bltn (v := .ty "tuple") (by rfl) T.n_tuple boot_tuple rfl) pa_nil))) pa_nil)))))
 (pss_one ps_never)
 pss_nil)
 (pss_cons (ps_set (i := 2) scEdited.nd rfl (.inl rfl) (pe_callTy (r := qListOf K) c_list (by rfl) T.n_list boot_list (pa_cons (pv 0) pa_nil)))
 (pss_cons (ps_for PassesOwn.never rfl (pi_enumA (by rfl) T.n_enumerate (pa_cons (pv 1) pa_nil)) (pg_tup rfl (pgs_cons (pg_name (i := 3) scEdited.nd rfl (.inl rfl)) (pgs_cons (pg_name (i := 4) scEdited.nd rfl (.inl rfl)) pgs_nil)))
 (pss_cons (ps_if (pt_not (pt_val (pe_call GIsEdit (hr.mono (by decide)) (by rfl) T.gIsEdit T.FIsEdit.kp T.bIsEdit .nil pass0 (pa_cons (pv 2) (pa_cons (pv 4) pa_nil)))))
 (pss_one ps_never)
 pss_nil)
 (pss_cons (ps_if (pt_cmpR op_ne (pe_ix (r := rIxT K) ix_tup (pv 4) pe_int (fun _ _ => rfl)) pe_str (nomark _))
 (pss_one (ps_expr (pe_bm PySem.F.plainAttrs_list PySem.F.slot_list_remove PySem.F.type_list_remove mt_removeK (pv 2) (pa_cons (pe_ix (r := rIxT K) ix_tup (pv 4) pe_int (fun _ _ => rfl)) pa_nil))))
 pss_nil)
 (pss_one (ps_if (pt_cmpR op_ne (pe_ix (r := rIxT K) ix_tup (pv 4) pe_int (fun _ _ => rfl)) pe_str (nomark _))
 (pss_cons (ps_set (i := 5) scEdited.nd rfl (.inl rfl) (pe_ifExp (pt_cmpR op_isN (pe_ix (r := rIxT K) ix_tup (pv 4) pe_int (fun _ _ => rfl)) pe_non (nomark _)) (pe_callB (r := qLen K) c_len (by rfl) T.n_len boot_len (pa_cons (pv 2) pa_nil)) (pe_bm PySem.F.plainAttrs_list PySem.F.slot_list_index PySem.F.type_list_index mt_index (pv 2) (pa_cons (pe_ix (r := rIxT K) ix_tup (pv 4) pe_int (fun _ _ => rfl)) pa_nil))))
 (pss_one (ps_expr (pe_bm PySem.F.plainAttrs_list PySem.F.slot_list_insert PySem.F.type_list_insert mt_insert (pv 2) (pa_cons (pv 5) (pa_cons (pe_ix (r := rIxT K) ix_tup (pv 4) pe_int (fun _ _ => rfl)) pa_nil))))))
 pss_nil)))))
 (pss_one (ps_ret (pv 2))))))⟩
noncomputable def derEdits (T : TX K mg) {spPlacesOf : Sp} (GPlacesOf : FnOk P w K mg base CX0 1 T.fPlacesOf T.dPlacesOf ["row"] spPlacesOf) {spRising : Sp} (GRising : FnOk P w K mg base CX0 3 T.fRising T.dRising ["old", "new"] spRising) (hr : Room 3 (A.deeper (envOfC "edits" (defScope sEdits) s.heap.objs.size T.fEdits cdv))) : {t : TS // PSs (cxOf CX0 P w K mg base ["old", "new", "elder", "younger", "kept", "made", "target", "value"] "edits" (defScope sEdits) T.fEdits cdv A outer s H E).nox (defBody sEdits) t} :=
 ⟨_, (pss_cons (ps_set (i := 2) scEdits.nd rfl (.inl rfl) (pe_call GPlacesOf (hr.mono (by decide)) (by rfl) T.gPlacesOf T.FPlacesOf.kp T.bPlacesOf .nil pass0 (pa_cons (pv 0) pa_nil)))
 (pss_cons (ps_set (i := 3) scEdits.nd rfl (.inr rfl) (pe_call GPlacesOf (hr.mono (by decide)) (by rfl) T.gPlacesOf T.FPlacesOf.kp T.bPlacesOf .nil pass0 (pa_cons (pv 1) pa_nil)))
 (pss_cons (ps_set (i := 4) scEdits.nd rfl (.inl rfl) (pe_call GPlacesOf (hr.mono (by decide)) (by rfl) T.gPlacesOf T.FPlacesOf.kp T.bPlacesOf .nil pass0 (pa_cons (pe_call GRising (hr.mono (by decide)) (by rfl) T.gRising T.FRising.kp T.bRising .nil pass0 (pa_cons (pv 0) (pa_cons (pv 1) pa_nil))) pa_nil)))
 (pss_cons (ps_setLc (i := 5) (own := [("value", 7)]) (g := gName 7) (tt := _) rfl scEdits.nd rfl rfl (sw_true rfl rfl rfl (by decide +kernel)) (pi_list (pv 0)) (blkOk_by (own := [("value", 7)]) (N := ["old", "new", "elder", "younger", "kept", "made", "target", "value"]) (sc := defScope sEdits) (by decide +kernel)) (fun _ _ _ _ _ => by exact (pg_name (i := 7) scEdits.nd rfl (.inl rfl))) (fun _ _ _ _ _ => (pts_one (pt_cmp (pc_dnotin (hu_of hr) (pv 7) (pv 3))))) (fun _ _ _ _ _ => (pe_tup (pa_cons pe_str (pa_cons (pv 7) pa_nil)))))
 (pss_cons (ps_set (i := 6) scEdits.nd rfl (.inl rfl) pe_non)
 (pss_cons (ps_for PassesOwn.never rfl (pi_list (pe_revL (pv 1))) (pg_name (i := 7) scEdits.nd rfl (.inl rfl))
 (pss_cons (ps_if (pt_cmp (pc_dnotin (hu_of hr) (pv 7) (pv 2)))
 (pss_one (ps_expr (pe_bm PySem.F.plainAttrs_list PySem.F.slot_list_append PySem.F.type_list_append mt_append (pv 5) (pa_cons (pe_tup (pa_cons pe_str (pa_cons (pv 7) (pa_cons (pv 6) pa_nil)))) pa_nil))))
 (pss_one (ps_if (pt_cmp (pc_dnotin (hu_of hr) (pv 7) (pv 4)))
 (pss_one (ps_expr (pe_bm PySem.F.plainAttrs_list PySem.F.slot_list_append PySem.F.type_list_append mt_append (pv 5) (pa_cons (pe_tup (pa_cons pe_str (pa_cons (pv 7) (pa_cons (pv 6) pa_nil)))) pa_nil))))
 pss_nil)))
 (pss_one (ps_set (i := 6) scEdits.nd rfl (.inl rfl) (pv 7)))))
 (pss_one (ps_ret (pv 5)))))))))⟩
noncomputable def derLeastMoves (T : TX K mg) {spEdits : Sp} (GEdits : FnOk P w K mg base CX0 4 T.fEdits T.dEdits ["old", "new"] spEdits) (hr : Room 4 (A.deeper (envOfC "least_moves" (defScope sLeastMoves) s.heap.objs.size T.fLeastMoves cdv))) : {t : TS // PSs (cxOf CX0 P w K mg base ["old", "new", "edit"] "least_moves" (defScope sLeastMoves) T.fLeastMoves cdv A outer s H E).nox (defBody sLeastMoves) t} :=
 ⟨_, (pss_one (ps_ret (pe_callB (r := qLen K) c_len (by rfl) T.n_len boot_len (pa_cons (pe_lc (own := [("edit", 2)]) (g := gName 2) (tt := _) rfl scLeastMoves.nd (pi_list (pe_call GEdits (hr.mono (by decide)) (by rfl) T.gEdits T.FEdits.kp T.bEdits .nil pass0 (pa_cons (pv 0) (pa_cons (pv 1) pa_nil)))) (blkOk_by (own := [("edit", 2)]) (N := ["old", "new", "edit"]) (sc := defScope sLeastMoves) (by decide +kernel)) (fun _ _ _ _ _ => by exact (pg_name (i := 2) scLeastMoves.nd rfl (.inl rfl))) (fun _ _ _ _ _ => (pts_one (pt_cmpR op_eq (pe_ix (r := rIxT K) ix_tup (pv 2) pe_int (fun _ _ => rfl)) pe_str (nomark _)))) (fun _ _ _ _ _ => (pv 2))) pa_nil))))⟩
noncomputable def derLTake (T : TX K mg) (hr : Room 0 (A.deeper (envOfC "_law_take" (defScope sLTake) s.heap.objs.size T.fLTake cdv))) : {t : TS // PSs (cxOf CX0 P w K mg base ["_law_bag", "_law_many", "_law_cells", "_law_digit", "_law_cell", "_law_number"] "_law_take" (defScope sLTake) T.fLTake cdv A outer s H E).nox (defBody sLTake) t} :=
 ⟨_, (pss_cons (ps_set (i := 2) scLTake.nd rfl (.inl rfl) (pe_ix (r := rIxL K) ix_list (pv 0) pe_int (fun _ _ => rfl)))
 (pss_cons (ps_asg (pe_op op_add (pe_ix (r := rIxL K) ix_list (pv 0) pe_int (fun _ _ => rfl)) pe_int) (pg_sub (pv 0) pe_int set_list))
 (pss_cons (ps_if (PW.pt (pw_and (pt_cmpR op_eq (pe_ix (r := rIxL K) ix_list (pv 0) pe_int (fun _ _ => rfl)) pe_int (nomark _)) (pw_and (pt_cmpR op_lt (pe_ix (r := rIxL K) ix_list (pv 0) pe_int (fun _ _ => rfl)) (pe_callB (r := qLen K) c_len (by rfl) T.n_len boot_len (pa_cons (pv 2) pa_nil)) (nomark _)) (pw_and1 (pt_cmpR op_ge (pe_ix (r := rIxL K) ix_list (pv 2) (pe_ix (r := rIxL K) ix_list (pv 0) pe_int (fun _ _ => rfl)) (fun _ _ => rfl)) (pe_op op_pow pe_int pe_int) (nomark _))))))
 (pss_cons (ps_asg (pe_ix (r := rIxL K) ix_list (pv 2) (pe_ix (r := rIxL K) ix_list (pv 0) pe_int (fun _ _ => rfl)) (fun _ _ => rfl)) (pg_sub (pv 0) pe_int set_list))
 (pss_one (ps_asg (pe_op op_add (pe_ix (r := rIxL K) ix_list (pv 0) pe_int (fun _ _ => rfl)) pe_int) (pg_sub (pv 0) pe_int set_list))))
 pss_nil)
 (pss_cons (ps_if (pt_cmpR op_gt (pe_ix (r := rIxL K) ix_list (pv 0) pe_int (fun _ _ => rfl)) pe_int (nomark _))
 (pss_cons (ps_set (i := 3) scLTake.nd rfl (.inl rfl) (pe_op op_mod (pe_callTy (r := qInt1) c_int (by rfl) T.n_int boot_int (pa_cons (pe_ix (r := rIxL K) ix_list (pv 0) pe_int (fun _ _ => rfl)) pa_nil)) (pv 1)))
 (pss_cons (ps_asg (pe_op op_fdivW (pe_callTy (r := qInt1) c_int (by rfl) T.n_int boot_int (pa_cons (pe_ix (r := rIxL K) ix_list (pv 0) pe_int (fun _ _ => rfl)) pa_nil)) (pv 1)) (pg_sub (pv 0) pe_int set_list))
 (pss_one (ps_ret (pv 3)))))
 pss_nil)
 (pss_cons (ps_set (i := 4) scLTake.nd rfl (.inl rfl) pe_int)
 (pss_cons (ps_if (pt_cmpR op_gt (pe_callB (r := qLen K) c_len (by rfl) T.n_len boot_len (pa_cons (pv 2) pa_nil)) pe_int (nomark _))
 (pss_cons (ps_set (i := 4) scLTake.nd rfl (.inl rfl) (pe_callTy (r := qInt1) c_int (by rfl) T.n_int boot_int (pa_cons (pe_ix (r := rIxL K) ix_list (pv 2) (pe_op op_mod (pe_callTy (r := qInt1) c_int (by rfl) T.n_int boot_int (pa_cons (pe_ix (r := rIxL K) ix_list (pv 0) pe_int (fun _ _ => rfl)) pa_nil)) (pe_callB (r := qLen K) c_len (by rfl) T.n_len boot_len (pa_cons (pv 2) pa_nil))) (fun _ _ => rfl)) pa_nil)))
 (pss_one (ps_asg (pe_op op_add (pe_ix (r := rIxL K) ix_list (pv 0) pe_int (fun _ _ => rfl)) pe_int) (pg_sub (pv 0) pe_int set_list))))
 pss_nil)
 (pss_cons (ps_set (i := 5) scLTake.nd rfl (.inl rfl) (pe_op op_mod (pe_callTy (r := qInt1) c_int (by rfl) T.n_int boot_int (pa_cons (pe_op op_add (pe_op op_add (pe_op op_add (pv 4) (pe_op op_mul (pe_op op_mul pe_int (pe_ix (r := rIxL K) ix_list (pv 0) pe_int (fun _ _ => rfl))) (pe_ix (r := rIxL K) ix_list (pv 0) pe_int (fun _ _ => rfl)))) (pe_op op_mul pe_int (pe_ix (r := rIxL K) ix_list (pv 0) pe_int (fun _ _ => rfl)))) pe_int) pa_nil)) pe_int))
 (pss_cons (ps_set (i := 5) scLTake.nd rfl (.inl rfl) (pe_op op_mod (pe_callTy (r := qInt1) c_int (by rfl) T.n_int boot_int (pa_cons (pe_op op_mul (pv 5) (pe_op op_add (pe_op op_fdiv (pv 5) pe_int) pe_int)) pa_nil)) pe_int))
 (pss_cons (ps_set (i := 5) scLTake.nd rfl (.inl rfl) (pe_op op_mod (pe_callTy (r := qInt1) c_int (by rfl) T.n_int boot_int (pa_cons (pe_op op_mul (pv 5) (pe_op op_add (pe_op op_fdiv (pv 5) pe_int) pe_int)) pa_nil)) pe_int))
 (pss_one (ps_ret (pe_op op_mod (pe_callTy (r := qInt1) c_int (by rfl) T.n_int boot_int (pa_cons (pe_op op_fdiv (pv 5) pe_int) pa_nil)) (pv 1)))))))))))))⟩
noncomputable def derLValue (T : TX K mg) {spLTake : Sp} (GLTake : FnOk P w K mg base CX0 1 T.fLTake T.dLTake ["_law_bag", "_law_many"] spLTake) (hr : Room 1 (A.deeper (envOfC "_law_value" (defScope sLValue) s.heap.objs.size T.fLValue cdv))) : {t : TS // PSs (cxOf CX0 P w K mg base ["_law_bag", "_law_k", "_law_number"] "_law_value" (defScope sLValue) T.fLValue cdv A outer s H E).nox (defBody sLValue) t} :=
 ⟨_, (pss_cons (ps_set (i := 2) scLValue.nd rfl (.inl rfl) (pe_op op_add (pe_op op_mul (pe_call GLTake (hr.mono (by decide)) (by rfl) T.gLTake T.FLTake.kp T.bLTake .nil pass0 (pa_cons (pv 0) (pa_cons (pe_op op_pow pe_int pe_int) pa_nil))) pe_int) (pv 1)))
 (pss_cons (ps_if (pt_cmpR op_gt (pe_call GLTake (hr.mono (by decide)) (by rfl) T.gLTake T.FLTake.kp T.bLTake .nil pass0 (pa_cons (pv 0) (pa_cons pe_int pa_nil))) pe_int (nomark _))
 (pss_one (ps_set (i := 2) scLValue.nd rfl (.inl rfl) (pe_un un_neg (pv 2))))
 pss_nil)
 (pss_cons (ps_if (pt_cmpR op_eq (pe_call GLTake (hr.mono (by decide)) (by rfl) T.gLTake T.FLTake.kp T.bLTake .nil pass0 (pa_cons (pv 0) (pa_cons pe_int pa_nil))) pe_int (nomark _))
 (pss_one (ps_ret (pe_callTy call_str_int (by rfl) T.n_str boot_str (pa_cons (pv 2) pa_nil))))
 pss_nil)
 (pss_one (ps_ret (pv 2))))))⟩
noncomputable def derLPutIn (T : TX K mg) {spLTake : Sp} (GLTake : FnOk P w K mg base CX0 1 T.fLTake T.dLTake ["_law_bag", "_law_many"] spLTake) (hr : Room 1 (A.deeper (envOfC "_law_put_in" (defScope sLPutIn) s.heap.objs.size T.fLPutIn cdv))) : {t : TS // PSs (cxOf CX0 P w K mg base ["_law_bag", "_law_row", "_law_value_here", "_law_shape", "_law_at"] "_law_put_in" (defScope sLPutIn) T.fLPutIn cdv A outer s H E).nox (defBody sLPutIn) t} :=
 ⟨_, (pss_cons (ps_set (i := 4) scLPutIn.nd rfl (.inl rfl) (pe_call GLTake (hr.mono (by decide)) (by rfl) T.gLTake T.FLTake.kp T.bLTake .nil pass0 (pa_cons (pv 0) (pa_cons (pe_op op_add (pe_callB (r := qLen K) c_len (by rfl) T.n_len boot_len (pa_cons (pv 1) pa_nil)) pe_int) pa_nil))))
 (pss_cons (ps_if (pt_cmpR op_eq (pv 3) pe_int (nomark _))
 (pss_one (ps_set (i := 4) scLPutIn.nd rfl (.inl rfl) (pe_callB (r := qLen K) c_len (by rfl) T.n_len boot_len (pa_cons (pv 1) pa_nil))))
 pss_nil)
 (pss_cons (ps_if (pt_cmpR op_eq (pv 3) pe_int (nomark _))
 (pss_one (ps_set (i := 4) scLPutIn.nd rfl (.inl rfl) pe_int))
 pss_nil)
 (pss_one (ps_expr (pe_bm PySem.F.plainAttrs_list PySem.F.slot_list_insert PySem.F.type_list_insert mt_insert (pv 1) (pa_cons (pv 4) (pa_cons (pv 2) pa_nil))))))))⟩
noncomputable def derLRows (T : TX K mg) {spLPutIn : Sp} (GLPutIn : FnOk P w K mg base CX0 2 T.fLPutIn T.dLPutIn ["_law_bag", "_law_row", "_law_value_here", "_law_shape"] spLPutIn) {spLTake : Sp} (GLTake : FnOk P w K mg base CX0 1 T.fLTake T.dLTake ["_law_bag", "_law_many"] spLTake) {spLValue : Sp} (GLValue : FnOk P w K mg base CX0 2 T.fLValue T.dLValue ["_law_bag", "_law_k"] spLValue) (hr : Room 2 (A.deeper (envOfC "_law_rows" (defScope sLRows) s.heap.objs.size T.fLRows cdv))) : {t : TS // PSs (cxOf CX0 P w K mg base ["_law_bag", "_law_many", "_law_shape", "_law_twin", "_law_rows_here", "_law_k", "_law_value_here", "_law_where"] "_law_rows" (defScope sLRows) T.fLRows cdv A outer s H E).nox (defBody sLRows) t} :=
 ⟨_, (pss_cons (ps_set (i := 1) scLRows.nd rfl (.inl rfl) (pe_call GLTake (hr.mono (by decide)) (by rfl) T.gLTake T.FLTake.kp T.bLTake .nil pass0 (pa_cons (pv 0) (pa_cons pe_int pa_nil))))
 (pss_cons (ps_if (pt_cmpR op_eq (pe_call GLTake (hr.mono (by decide)) (by rfl) T.gLTake T.FLTake.kp T.bLTake .nil pass0 (pa_cons (pv 0) (pa_cons pe_int pa_nil))) pe_int (nomark _))
 (pss_one (ps_set (i := 1) scLRows.nd rfl (.inl rfl) (pe_op op_add (pv 1) pe_int)))
 pss_nil)
 (pss_cons (ps_set (i := 2) scLRows.nd rfl (.inl rfl) (pe_call GLTake (hr.mono (by decide)) (by rfl) T.gLTake T.FLTake.kp T.bLTake .nil pass0 (pa_cons (pv 0) (pa_cons pe_int pa_nil))))
 (pss_cons (ps_set (i := 3) scLRows.nd rfl (.inl rfl) (pe_call GLTake (hr.mono (by decide)) (by rfl) T.gLTake T.FLTake.kp T.bLTake .nil pass0 (pa_cons (pv 0) (pa_cons pe_int pa_nil))))
 (pss_cons (ps_set (i := 4) scLRows.nd rfl (.inl rfl) (pe_lst (pa_cons (pe_lst pa_nil) (pa_cons (pe_lst pa_nil) pa_nil))))
 (pss_cons (ps_for PassesOwn.never rfl (pi_range1 (by rfl) T.n_range (pa_cons (pv 1) pa_nil)) (pg_name (i := 5) scLRows.nd rfl (.inl rfl))
 (pss_cons (ps_set (i := 6) scLRows.nd rfl (.inl rfl) (pe_call GLValue (hr.mono (by decide)) (by rfl) T.gLValue T.FLValue.kp T.bLValue .nil pass0 (pa_cons (pv 0) (pa_cons (pv 5) pa_nil))))
 (pss_cons (ps_set (i := 7) scLRows.nd rfl (.inl rfl) (pe_call GLTake (hr.mono (by decide)) (by rfl) T.gLTake T.FLTake.kp T.bLTake .nil pass0 (pa_cons (pv 0) (pa_cons pe_int pa_nil))))
 (pss_cons (ps_if (pt_cmpR op_ne (pv 7) pe_int (nomark _))
 (pss_one (ps_expr (pe_call GLPutIn (hr.mono (by decide)) (by rfl) T.gLPutIn T.FLPutIn.kp T.bLPutIn .nil pass0 (pa_cons (pv 0) (pa_cons (pe_ix (r := rIxL K) ix_list (pv 4) pe_int (fun _ _ => rfl)) (pa_cons (pv 6) (pa_cons pe_int pa_nil)))))))
 pss_nil)
 (pss_cons (ps_if (pt_cmpR op_ne (pv 7) pe_int (nomark _))
 (pss_one (ps_expr (pe_call GLPutIn (hr.mono (by decide)) (by rfl) T.gLPutIn T.FLPutIn.kp T.bLPutIn .nil pass0 (pa_cons (pv 0) (pa_cons (pe_ix (r := rIxL K) ix_list (pv 4) pe_int (fun _ _ => rfl)) (pa_cons (pv 6) (pa_cons (pv 2) pa_nil)))))))
 pss_nil)
 (pss_one (ps_if (PW.pt (pw_and (pt_cmpR op_eq (pv 3) pe_int (nomark _)) (pw_and (pt_cmpR op_lt (pv 5) pe_int (nomark _)) (pw_and1 (pt_not (pt_val (pe_callB (r := rIsi K) call_isi (by rfl) T.n_isinstance boot_isinstance (pa_cons (pv 6) (pa_cons (pe_bltn (v := .ty "str") (by rfl) T.n_str boot_str rfl) pa_nil)))))))))
 (pss_one (ps_expr (pe_call GLPutIn (hr.mono (by decide)) (by rfl) T.gLPutIn T.FLPutIn.kp T.bLPutIn .nil pass0 (pa_cons (pv 0) (pa_cons (pe_ix (r := rIxL K) ix_list (pv 4) (pe_op op_mod (pv 7) pe_int) (fun _ _ => rfl)) (pa_cons (pe_callTy call_str_int (by rfl) T.n_str boot_str (pa_cons (pv 6) pa_nil)) (pa_cons pe_int pa_nil)))))))
 pss_nil)))))))
 (pss_one (ps_ret (pv 4)))))))))⟩
noncomputable def derLPlace (T : TX K mg) (hr : Room 0 (A.deeper (envOfC "_law_place" (defScope sLPlace) s.heap.objs.size T.fLPlace cdv))) : {t : TS // PSs (cxOf CX0 P w K mg base ["_law_row", "_law_value_here", "_law_k"] "_law_place" (defScope sLPlace) T.fLPlace cdv A outer s H E).nox (defBody sLPlace) t} :=
 ⟨_, (pss_cons (ps_for PassesOwn.never rfl (pi_range1 (by rfl) T.n_range (pa_cons (pe_callB (r := qLen K) c_len (by rfl) T.n_len boot_len (pa_cons (pv 0) pa_nil)) pa_nil)) (pg_name (i := 2) scLPlace.nd rfl (.inl rfl))
 (pss_one (ps_if (PW.pt (pw_and (pt_cmpR op_eq (pe_callB (r := rIsi K) call_isi (by rfl) T.n_isinstance boot_isinstance (pa_cons (pe_ix (r := rIxL K) ix_list (pv 0) (pv 2) (fun _ _ => rfl)) (pa_cons (pe_bltn (v := .ty "str") (by rfl) T.n_str boot_str rfl) pa_nil))) (pe_callB (r := rIsi K) call_isi (by rfl) T.n_isinstance boot_isinstance (pa_cons (pv 1) (pa_cons (pe_bltn (v := .ty "str") (by rfl) T.n_str boot_str rfl) pa_nil))) (nomark _)) (pw_and1 (pt_cmpR op_eq (pe_ix (r := rIxL K) ix_list (pv 0) (pv 2) (fun _ _ => rfl)) (pv 1) (nomark _)))))
 (pss_one (ps_ret (pv 2)))
 pss_nil)))
 (pss_one (ps_ret (pe_un un_neg pe_int))))⟩
noncomputable def derLLongest (T : TX K mg) {spLPlace : Sp} (GLPlace : FnOk P w K mg base CX0 1 T.fLPlace T.dLPlace ["_law_row", "_law_value_here"] spLPlace) (hr : Room 1 (A.deeper (envOfC "_law_longest" (defScope sLLongest) s.heap.objs.size T.fLLongest cdv))) : {t : TS // PSs (cxOf CX0 P w K mg base ["_law_old", "_law_new", "_law_places", "_law_best", "_law_k", "_law_many", "_law_j", "_law_most", "_law_value_here"] "_law_longest" (defScope sLLongest) T.fLLongest cdv A outer s H E).nox (defBody sLLongest) t} :=
 ⟨_, (pss_cons (ps_setLc (i := 2) (own := [("_law_value_here", 8)]) (g := gName 8) (tt := _) rfl scLLongest.nd rfl rfl (sw_true rfl rfl rfl (by decide +kernel)) (pi_list (pv 0)) (blkOk_by (own := [("_law_value_here", 8)]) (N := ["_law_old", "_law_new", "_law_places", "_law_best", "_law_k", "_law_many", "_law_j", "_law_most", "_law_value_here"]) (sc := defScope sLLongest) (by decide +kernel)) (fun _ _ _ _ _ => by exact (pg_name (i := 8) scLLongest.nd rfl (.inl rfl))) (fun _ _ _ _ _ => (pts_one (pt_cmpR op_ge (pe_call GLPlace (hr.mono (by decide)) (by rfl) T.gLPlace T.FLPlace.kp T.bLPlace .nil pass0 (pa_cons (pv 1) (pa_cons (pv 8) pa_nil))) pe_int (nomark _)))) (fun _ _ _ _ _ => (pe_call GLPlace (hr.mono (by decide)) (by rfl) T.gLPlace T.FLPlace.kp T.bLPlace .nil pass0 (pa_cons (pv 1) (pa_cons (pv 8) pa_nil)))))
 (pss_cons (ps_set (i := 3) scLLongest.nd rfl (.inl rfl) (pe_lst pa_nil))
 (pss_cons (ps_for PassesOwn.never rfl (pi_range1 (by rfl) T.n_range (pa_cons (pe_callB (r := qLen K) c_len (by rfl) T.n_len boot_len (pa_cons (pv 2) pa_nil)) pa_nil)) (pg_name (i := 4) scLLongest.nd rfl (.inl rfl))
 (pss_cons (ps_set (i := 5) scLLongest.nd rfl (.inl rfl) pe_int)
 (pss_cons (ps_for PassesOwn.never rfl (pi_range1 (by rfl) T.n_range (pa_cons (pv 4) pa_nil)) (pg_name (i := 6) scLLongest.nd rfl (.inl rfl))
 (pss_one (ps_if (pt_cmpR op_lt (pe_ix (r := rIxL K) ix_list (pv 2) (pv 6) (fun _ _ => rfl)) (pe_ix (r := rIxL K) ix_list (pv 2) (pv 4) (fun _ _ => rfl)) (nomark _))
 (pss_one (ps_set (i := 5) scLLongest.nd rfl (.inl rfl) (pe_callB (call_max2 rfl) (by rfl) T.n_max boot_max (pa_cons (pv 5) (pa_cons (pe_ix (r := rIxL K) ix_list (pv 3) (pv 6) (fun _ _ => rfl)) pa_nil)))))
 pss_nil)))
 (pss_one (ps_expr (pe_bm PySem.F.plainAttrs_list PySem.F.slot_list_append PySem.F.type_list_append mt_append (pv 3) (pa_cons (pe_op op_add (pv 5) pe_int) pa_nil)))))))
 (pss_cons (ps_set (i := 7) scLLongest.nd rfl (.inl rfl) pe_int)
 (pss_cons (ps_for PassesOwn.never rfl (pi_list (pv 3)) (pg_name (i := 5) scLLongest.nd rfl (.inl rfl))
 (pss_one (ps_set (i := 7) scLLongest.nd rfl (.inl rfl) (pe_callB (call_max2 rfl) (by rfl) T.n_max boot_max (pa_cons (pv 7) (pa_cons (pv 5) pa_nil))))))
 (pss_one (ps_ret (pe_tup (pa_cons (pe_callB (r := qLen K) c_len (by rfl) T.n_len boot_len (pa_cons (pv 2) pa_nil)) (pa_cons (pv 7) pa_nil))))))))))⟩
noncomputable def derLIsValue (T : TX K mg) (hr : Room 0 (A.deeper (envOfC "_law_is_value" (defScope sLIsValue) s.heap.objs.size T.fLIsValue cdv))) : {t : TS // PSs (cxOf CX0 P w K mg base ["_law_value_here"] "_law_is_value" (defScope sLIsValue) T.fLIsValue cdv A outer s H E).nox (defBody sLIsValue) t} :=
 ⟨_, (pss_one (ps_ret (pe_or (pe_callB (r := rIsi K) call_isi (by rfl) T.n_isinstance boot_isinstance (pa_cons (pv 0) (pa_cons (pe_bltn (v := .ty "str") (by rfl) T.n_str boot_str rfl) pa_nil))) (pe_one (pe_and (pe_callB (r := rIsi K) call_isi (by rfl) T.n_isinstance boot_isinstance (pa_cons (pv 0) (pa_cons (pe_bltn (v := .ty "int") (by rfl) T.n_int boot_int rfl) pa_nil))) (pe_one (pe_not (pe_callB (r := rIsi K) call_isi (by rfl) T.n_isinstance boot_isinstance (pa_cons (pv 0) (pa_cons (pe_bltn (v := .ty "bool") (by rfl) T.n_bool boot_bool rfl) pa_nil))))))))))⟩
noncomputable def derLDone (T : TX K mg) {spLPlace : Sp} (GLPlace : FnOk P w K mg base CX0 1 T.fLPlace T.dLPlace ["_law_row", "_law_value_here"] spLPlace) {spLIsValue : Sp} (GLIsValue : FnOk P w K mg base CX0 1 T.fLIsValue T.dLIsValue ["_law_value_here"] spLIsValue) (hr : Room 1 (A.deeper (envOfC "_law_done" (defScope sLDone) s.heap.objs.size T.fLDone cdv))) : {t : TS // PSs (cxOf CX0 P w K mg base ["_law_row", "_law_edit", "_law_at", "_law_to"] "_law_done" (defScope sLDone) T.fLDone cdv A outer s H E).nox (defBody sLDone) t} :=
 ⟨_, (pss_cons (ps_if (PW.pt (pw_or (pt_not (pt_val (pe_callB (r := rIsi K) call_isi (by rfl) T.n_isinstance boot_isinstance (pa_cons (pv 1) (pa_cons (pe_bltn (v := .ty "tuple") (by rfl) T.n_tuple boot_tuple rfl) pa_nil))))) (pw_or (pt_cmpR op_lt (pe_callB (r := qLen K) c_len (by rfl) T.n_len boot_len (pa_cons (pv 1) pa_nil)) pe_int (nomark _)) (pw_or1 (pt_cmpR (r := rIn K true) op_notIn_seq (pe_ix (r := rIxT K) ix_tup (pv 1) pe_int (fun _ _ => rfl)) (pe_tup (pa_cons pe_str (pa_cons pe_str (pa_cons pe_str pa_nil)))) (by rfl))))))
 (pss_one (ps_ret pe_non))
 pss_nil)
 (pss_cons (ps_if (PW.pt (pw_or (pt_not (pt_val (pe_call GLIsValue (hr.mono (by decide)) (by rfl) T.gLIsValue T.FLIsValue.kp T.bLIsValue .nil pass0 (pa_cons (pe_ix (r := rIxT K) ix_tup (pv 1) pe_int (fun _ _ => rfl)) pa_nil)))) (pw_or1 (pt_cmpR op_ne (pe_callB (r := qLen K) c_len (by rfl) T.n_len boot_len (pa_cons (pv 1) pa_nil)) (pe_op op_sub pe_int (pe_callTy (r := qInt1) c_int (by rfl) T.n_int boot_int (pa_cons (pe_cmpR op_eq (pe_ix (r := rIxT K) ix_tup (pv 1) pe_int (fun _ _ => rfl)) pe_str (nomark _)) pa_nil))) (nomark _)))))
 (pss_one (ps_ret pe_non))
 pss_nil)
 (pss_cons (ps_set (i := 2) scLDone.nd rfl (.inl rfl) (pe_call GLPlace (hr.mono (by decide)) (by rfl) T.gLPlace T.FLPlace.kp T.bLPlace .nil pass0 (pa_cons (pv 0) (pa_cons (pe_ix (r := rIxT K) ix_tup (pv 1) pe_int (fun _ _ => rfl)) pa_nil))))
 (pss_cons (ps_if (pt_cmpR op_ne (pe_cmpR op_lt (pv 2) pe_int (nomark _)) (pe_cmpR op_eq (pe_ix (r := rIxT K) ix_tup (pv 1) pe_int (fun _ _ => rfl)) pe_str (nomark _)) (nomark _))
 (pss_one (ps_ret pe_non))
 pss_nil)
 (pss_cons (ps_if (pt_cmpR op_ge (pv 2) pe_int (nomark _))
 (pss_one (ps_set (i := 0) scLDone.nd rfl (.inl rfl) (pe_op op_cat (pe_slice sl_list (pv 0) po_none (po_some (pv 2))) (pe_slice sl_list (pv 0) (po_some (pe_op op_add (pv 2) pe_int)) po_none))))
 pss_nil)
 (pss_cons (ps_if (pt_cmpR op_eq (pe_ix (r := rIxT K) ix_tup (pv 1) pe_int (fun _ _ => rfl)) pe_str (nomark _))
 (pss_one (ps_ret (pv 0)))
 pss_nil)
 (pss_cons (ps_if (pt_cmpR op_isN (pe_ix (r := rIxT K) ix_tup (pv 1) pe_int (fun _ _ => rfl)) pe_non (nomark _))
 (pss_one (ps_ret (pe_op op_cat (pv 0) (pe_lst (pa_cons (pe_ix (r := rIxT K) ix_tup (pv 1) pe_int (fun _ _ => rfl)) pa_nil)))))
 pss_nil)
 (pss_cons (ps_if (pt_not (pt_val (pe_call GLIsValue (hr.mono (by decide)) (by rfl) T.gLIsValue T.FLIsValue.kp T.bLIsValue .nil pass0 (pa_cons (pe_ix (r := rIxT K) ix_tup (pv 1) pe_int (fun _ _ => rfl)) pa_nil))))
 (pss_one (ps_ret pe_non))
 pss_nil)
 (pss_cons (ps_set (i := 3) scLDone.nd rfl (.inl rfl) (pe_call GLPlace (hr.mono (by decide)) (by rfl) T.gLPlace T.FLPlace.kp T.bLPlace .nil pass0 (pa_cons (pv 0) (pa_cons (pe_ix (r := rIxT K) ix_tup (pv 1) pe_int (fun _ _ => rfl)) pa_nil))))
 (pss_cons (ps_if (pt_cmpR op_lt (pv 3) pe_int (nomark _))
 (pss_one (ps_ret pe_non))
 pss_nil)
 (pss_one (ps_ret (pe_op op_cat (pe_op op_cat (pe_slice sl_list (pv 0) po_none (po_some (pv 3))) (pe_lst (pa_cons (pe_ix (r := rIxT K) ix_tup (pv 1) pe_int (fun _ _ => rfl)) pa_nil))) (pe_slice sl_list (pv 0) (po_some (pv 3)) po_none))))))))))))))⟩
noncomputable def derLWell (T : TX K mg) {spLPlace : Sp} (GLPlace : FnOk P w K mg base CX0 1 T.fLPlace T.dLPlace ["_law_row", "_law_value_here"] spLPlace) {spLDone : Sp} (GLDone : FnOk P w K mg base CX0 2 T.fLDone T.dLDone ["_law_row", "_law_edit"] spLDone) (hr : Room 2 (A.deeper (envOfC "_law_well" (defScope sLWell) s.heap.objs.size T.fLWell cdv))) : {t : TS // PSs (cxOf CX0 P w K mg base ["_law_old", "_law_new", "_law_made", "_law_moves", "_law_row", "_law_single", "_law_count", "_law_edit", "_law_both"] "_law_well" (defScope sLWell) T.fLWell cdv A outer s H E).nox (defBody sLWell) t} :=
 ⟨_, (pss_cons (ps_if (pt_not (pt_val (pe_callB (r := rIsi K) call_isi (by rfl) T.n_isinstance boot_isinstance (pa_cons (pv 2) (pa_cons (pe_bltn (v := .ty "list") (by rfl) T.n_list boot_list rfl) pa_nil)))))
 (pss_one (ps_ret pe_bl))
 pss_nil)
 (pss_cons (ps_set (i := 4) scLWell.nd rfl (.inl rfl) (pe_callTy (r := qListOf K) c_list (by rfl) T.n_list boot_list (pa_cons (pv 0) pa_nil)))
 (pss_cons (ps_set (i := 5) scLWell.nd rfl (.inl rfl) (pe_lst pa_nil))
 (pss_cons (ps_set (i := 6) scLWell.nd rfl (.inl rfl) pe_int)
 (pss_cons (ps_for PassesOwn.never rfl (pi_list (pv 2)) (pg_name (i := 7) scLWell.nd rfl (.inl rfl))
 (pss_cons (ps_set (i := 4) scLWell.nd rfl (.inl rfl) (pe_call GLDone (hr.mono (by decide)) (by rfl) T.gLDone T.FLDone.kp T.bLDone .nil pass0 (pa_cons (pv 4) (pa_cons (pv 7) pa_nil))))
 (pss_cons (ps_if (pt_cmpR op_isN (pv 4) pe_non (nomark _))
 (pss_one (ps_ret pe_bl))
 pss_nil)
 (pss_one (ps_if (pt_cmpR op_eq (pe_ix (r := rIxT K) ix_tup (pv 7) pe_int (fun _ _ => rfl)) pe_str (nomark _))
 (pss_one (ps_set (i := 6) scLWell.nd rfl (.inl rfl) (pe_op op_add (pv 6) pe_int)))
 (pss_cons (ps_set (i := 8) scLWell.nd rfl (.inl rfl) (pe_and (pe_cmpR op_ge (pe_call GLPlace (hr.mono (by decide)) (by rfl) T.gLPlace T.FLPlace.kp T.bLPlace .nil pass0 (pa_cons (pv 0) (pa_cons (pe_ix (r := rIxT K) ix_tup (pv 7) pe_int (fun _ _ => rfl)) pa_nil))) pe_int (nomark _)) (pe_one (pe_cmpR op_ge (pe_call GLPlace (hr.mono (by decide)) (by rfl) T.gLPlace T.FLPlace.kp T.bLPlace .nil pass0 (pa_cons (pv 1) (pa_cons (pe_ix (r := rIxT K) ix_tup (pv 7) pe_int (fun _ _ => rfl)) pa_nil))) pe_int (nomark _)))))
 (pss_cons (ps_if (PW.pt (pw_or (pt_val (pv 8)) (pw_or1 (pt_cmpR op_ge (pe_call GLPlace (hr.mono (by decide)) (by rfl) T.gLPlace T.FLPlace.kp T.bLPlace .nil pass0 (pa_cons (pv 5) (pa_cons (pe_ix (r := rIxT K) ix_tup (pv 7) pe_int (fun _ _ => rfl)) pa_nil))) pe_int (nomark _)))))
 (pss_one (ps_ret pe_bl))
 pss_nil)
 (pss_one (ps_expr (pe_bm PySem.F.plainAttrs_list PySem.F.slot_list_append PySem.F.type_list_append mt_append (pv 5) (pa_cons (pe_ix (r := rIxT K) ix_tup (pv 7) pe_int (fun _ _ => rfl)) pa_nil)))))))))))
 (pss_one (ps_ret (pe_and (pe_cmpR (r := rEqD K) (op_eqD hr.units) (pv 4) (pv 1) (nomark _)) (pe_one (pe_cmpR op_eq (pv 6) (pv 3) (nomark _)))))))))))⟩
noncomputable def derLaw (T : TX K mg) {spEdited : Sp} (GEdited : FnOk P w K mg base CX0 4 T.fEdited T.dEdited ["old", "edits"] spEdited) {spLWell : Sp} (GLWell : FnOk P w K mg base CX0 3 T.fLWell T.dLWell ["_law_old", "_law_new", "_law_made", "_law_moves"] spLWell) {spEdits : Sp} (GEdits : FnOk P w K mg base CX0 4 T.fEdits T.dEdits ["old", "new"] spEdits) {spLeastMoves : Sp} (GLeastMoves : FnOk P w K mg base CX0 5 T.fLeastMoves T.dLeastMoves ["old", "new"] spLeastMoves) {spLLongest : Sp} (GLLongest : FnOk P w K mg base CX0 2 T.fLLongest T.dLLongest ["_law_old", "_law_new"] spLLongest) {spLTake : Sp} (GLTake : FnOk P w K mg base CX0 1 T.fLTake T.dLTake ["_law_bag", "_law_many"] spLTake) {spLRows : Sp} (GLRows : FnOk P w K mg base CX0 3 T.fLRows T.dLRows ["_law_bag"] spLRows) (hr : Room 5 (A.deeper (envOfC "law" (defScope sLaw) s.heap.objs.size T.fLaw cdv))) : {t : TS // PSs (cxOf CX0 P w K mg base ["_law_script", "_law_bag", "_law_rows_here", "_law_old", "_law_new", "_law_longest_here", "_law_moves", "_law_turn", "_law_passed", "_law_told", "_law_made", "_law_kept", "_law_back", "_law_other"] "law" (defScope sLaw) T.fLaw cdv A outer s H E).nox (defBody sLaw) t} :=
 ⟨_, (pss_cons (ps_set (i := 1) scLaw.nd rfl (.inl rfl) (pe_lst (pa_cons (pe_callTy (r := qListOf K) c_list (by rfl) T.n_list boot_list (pa_cons (pv 0) pa_nil)) (pa_cons pe_int (pa_cons pe_int (pa_cons pe_int pa_nil))))))
 (pss_cons (ps_set (i := 2) scLaw.nd rfl (.inl rfl) (pe_call GLRows (hr.mono (by decide)) (by rfl) T.gLRows T.FLRows.kp T.bLRows .nil pass0 (pa_cons (pv 1) pa_nil)))
 (pss_cons (ps_set (i := 3) scLaw.nd rfl (.inl rfl) (pe_ix (r := rIxL K) ix_list (pv 2) pe_int (fun _ _ => rfl)))
 (pss_cons (ps_set (i := 4) scLaw.nd rfl (.inl rfl) (pe_ix (r := rIxL K) ix_list (pv 2) pe_int (fun _ _ => rfl)))
 (pss_cons (ps_if (pt_cmpR op_gt (pe_call GLTake (hr.mono (by decide)) (by rfl) T.gLTake T.FLTake.kp T.bLTake .nil pass0 (pa_cons (pv 1) (pa_cons pe_int pa_nil))) pe_int (nomark _))
 (pss_cons (ps_set (i := 3) scLaw.nd rfl (.inl rfl) (pe_ix (r := rIxL K) ix_list (pv 2) pe_int (fun _ _ => rfl)))
 (pss_one (ps_set (i := 4) scLaw.nd rfl (.inl rfl) (pe_ix (r := rIxL K) ix_list (pv 2) pe_int (fun _ _ => rfl)))))
 pss_nil)
 (pss_cons (ps_set (i := 5) scLaw.nd rfl (.inl rfl) (pe_call GLLongest (hr.mono (by decide)) (by rfl) T.gLLongest T.FLLongest.kp T.bLLongest .nil pass0 (pa_cons (pv 3) (pa_cons (pv 4) pa_nil))))
 (pss_cons (ps_set (i := 6) scLaw.nd rfl (.inl rfl) (pe_op op_sub (pe_ix (r := rIxT K) ix_tup (pv 5) pe_int (fun _ _ => rfl)) (pe_ix (r := rIxT K) ix_tup (pv 5) pe_int (fun _ _ => rfl))))
 (pss_cons (ps_for PassesOwn.never rfl (pi_range1 (by rfl) T.n_range (pa_cons pe_int pa_nil)) (pg_name (i := 7) scLaw.nd rfl (.inl rfl))
 (pss_cons (ps_set (i := 8) scLaw.nd rfl (.inl rfl) (pe_lst (pa_cons (pe_callTy (r := qListOf K) c_list (by rfl) T.n_list boot_list (pa_cons (pv 3) pa_nil)) (pa_cons (pe_callTy (r := qListOf K) c_list (by rfl) T.n_list boot_list (pa_cons (pv 4) pa_nil)) pa_nil))))
 (pss_cons (ps_set (i := 9) scLaw.nd rfl (.inl rfl) (pe_call GLeastMoves (hr.mono (by decide)) (by rfl) T.gLeastMoves T.FLeastMoves.kp T.bLeastMoves .nil pass0 (pa_cons (pe_ix (r := rIxL K) ix_list (pv 8) pe_int (fun _ _ => rfl)) (pa_cons (pe_ix (r := rIxL K) ix_list (pv 8) pe_int (fun _ _ => rfl)) pa_nil))))
 (pss_cons (ps_if (PW.pt (pw_or (pt_not (pt_val (pe_callB (r := rIsi K) call_isi (by rfl) T.n_isinstance boot_isinstance (pa_cons (pv 9) (pa_cons (pe_bltn (v := .ty "int") (by rfl) T.n_int boot_int rfl) pa_nil))))) (pw_or (pt_val (pe_callB (r := rIsi K) call_isi (by rfl) T.n_isinstance boot_isinstance (pa_cons (pv 9) (pa_cons (pe_bltn (v := .ty "bool") (by rfl) T.n_bool boot_bool rfl) pa_nil)))) (pw_or1 (pt_cmpR op_ne (pv 9) (pv 6) (nomark _))))))
 (pss_one (ps_ret pe_bl))
 pss_nil)
 (pss_cons (ps_set (i := 10) scLaw.nd rfl (.inl rfl) (pe_call GEdits (hr.mono (by decide)) (by rfl) T.gEdits T.FEdits.kp T.bEdits .nil pass0 (pa_cons (pe_ix (r := rIxL K) ix_list (pv 8) pe_int (fun _ _ => rfl)) (pa_cons (pe_ix (r := rIxL K) ix_list (pv 8) pe_int (fun _ _ => rfl)) pa_nil))))
 (pss_cons (ps_if (pt_not (pt_val (pe_call GLWell (hr.mono (by decide)) (by rfl) T.gLWell T.FLWell.kp T.bLWell .nil pass0 (pa_cons (pv 3) (pa_cons (pv 4) (pa_cons (pv 10) (pa_cons (pv 6) pa_nil)))))))
 (pss_one (ps_ret pe_bl))
 pss_nil)
 (pss_cons (ps_set (i := 11) scLaw.nd rfl (.inl rfl) (pe_callTy (r := qListOf K) c_list (by rfl) T.n_list boot_list (pa_cons (pv 10) pa_nil)))
 (pss_cons (ps_set (i := 12) scLaw.nd rfl (.inl rfl) (pe_call GEdited (hr.mono (by decide)) (by rfl) T.gEdited T.FEdited.kp T.bEdited .nil pass0 (pa_cons (pe_ix (r := rIxL K) ix_list (pv 8) pe_int (fun _ _ => rfl)) (pa_cons (pv 10) pa_nil))))
 (pss_cons (ps_if (PW.pt (pw_or (pt_not (pt_val (pe_callB (r := rIsi K) call_isi (by rfl) T.n_isinstance boot_isinstance (pa_cons (pv 12) (pa_cons (pe_bltn (v := .ty "list") (by rfl) T.n_list boot_list rfl) pa_nil))))) (pw_or1 (pt_cmpR (r := rNeD K) (op_neD hr.units) (pv 12) (pv 4) (nomark _)))))
 (pss_one (ps_ret pe_bl))
 pss_nil)
 (pss_cons (ps_expr (pe_bm PySem.F.plainAttrs_list PySem.F.slot_list_append PySem.F.type_list_append mt_append (pv 12) (pa_cons pe_str pa_nil)))
 (pss_cons (ps_set (i := 13) scLaw.nd rfl (.inl rfl) (pe_call GEdited (hr.mono (by decide)) (by rfl) T.gEdited T.FEdited.kp T.bEdited .nil pass0 (pa_cons (pe_ix (r := rIxL K) ix_list (pv 8) pe_int (fun _ _ => rfl)) (pa_cons (pe_callTy call_tuple_of (by rfl) T.n_tuple boot_tuple (pa_cons (pv 11) pa_nil)) pa_nil))))
 (pss_cons (ps_if (PW.pt (pw_or (pt_cmpR (r := rNeD K) (op_neD hr.units) (pv 13) (pv 4) (nomark _)) (pw_or (pt_cmpR (r := rNeD K) (op_neD hr.units) (pv 10) (pv 11) (nomark _)) (pw_or1 (pt_cmpR (r := rNeD K) (op_neD hr.units) (pv 8) (pe_lst (pa_cons (pv 3) (pa_cons (pv 4) pa_nil))) (nomark _))))))
 (pss_one (ps_ret pe_bl))
 pss_nil)
 (pss_one (ps_expr (pe_bm PySem.F.plainAttrs_list PySem.F.slot_list_append PySem.F.type_list_append mt_append (pv 10) (pa_cons (pe_tup (pa_cons pe_str (pa_cons pe_str pa_nil))) pa_nil))))))))))))))))
 (pss_one (ps_ret pe_bl))))))))))⟩
end
end Ki

/-! the mathematics of the falling lists: plain Lean -/
namespace M41
variable {α : Type} [DecidableEq α]

def Cons (R : α → α → Prop) (l : List α) : Prop := ∀ i x y, l[i]? = some x → l[i + 1]? = some y → R x y
theorem Cons.nil {R : α → α → Prop} : Cons R [] := fun i x y h _ => by simp at h
theorem Cons.one {R : α → α → Prop} (a : α) : Cons R [a] := fun i x y h h' => by simp at h'
theorem Cons.snoc {R : α → α → Prop} {l : List α} {v : α} (h : Cons R l) (hv : ∀ z, l.getLast? = some z → R z v) : Cons R (l ++ [v]) := fun i x y hx hy => by
  by_cases h1 : i + 1 < l.length
  · rw [List.getElem?_append_left (by omega)] at hx
    rw [List.getElem?_append_left h1] at hy
    exact h i x y hx hy
  · have h2 : i + 1 = l.length := by
      have := (List.getElem?_eq_some_iff.mp hy).1
      simp at this
      omega
    rw [List.getElem?_append_left (by omega)] at hx
    rw [List.getElem?_append_right (by omega), h2, Nat.sub_self] at hy
    have e : v = y := by simpa using hy
    subst e
    refine hv x ?_
    rw [List.getLast?_eq_getElem?, ← hx]
    congr 1
    omega
theorem Cons.rev {R : α → α → Prop} {l : List α} (h : Cons R l) : Cons (fun a b => R b a) l.reverse := fun i x y hx hy => by
  have h1 : i + 1 < l.length := by
    have := (List.getElem?_eq_some_iff.mp hy).1
    simpa using this
  rw [List.getElem?_reverse (by omega)] at hx hy
  refine h (l.length - 1 - (i + 1)) y x hy ?_
  rw [← hx]
  congr 1
  omega
theorem Cons.mono {R S : α → α → Prop} {l : List α} (h : Cons R l) (f : ∀ a b, R a b → S a b) : Cons S l := fun i x y hx hy => f _ _ (h i x y hx hy)

theorem mem_flat {ls : List (List α)} {x : α} : x ∈ ls.flatten ↔ ∃ (j : Nat) (r : List α), ls[j]? = some r ∧ x ∈ r := by
  constructor
  · intro h
    obtain ⟨r, hr, hx⟩ := List.mem_flatten.mp h
    obtain ⟨j, hj⟩ := List.mem_iff_getElem?.mp hr
    exact ⟨j, r, hj, hx⟩
  · rintro ⟨j, r, hj, hx⟩
    exact List.mem_flatten.mpr ⟨r, List.mem_iff_getElem?.mpr ⟨j, hj⟩, hx⟩

theorem flat_set : ∀ {ls : List (List α)} {j : Nat} {r : List α} (v : α), ls[j]? = some r → (ls.set j (r ++ [v])).flatten.Perm (v :: ls.flatten)
  | [], j, r, v, h => by simp at h
  | a :: ls, 0, r, v, h => by
    have e : a = r := by simpa using h
    subst e
    simp only [List.set_cons_zero, List.flatten_cons]
    rw [List.append_assoc]
    exact List.perm_middle
  | a :: ls, j + 1, r, v, h => by
    have h' : ls[j]? = some r := by simpa using h
    simp only [List.set_cons_succ, List.flatten_cons]
    exact ((flat_set v h').append_left a).trans List.perm_middle

/-- the falling lists behind the items `done` of the first list: q, p the places in the first and the second list; C: stands in the second list -/
structure PI (p q : α → Nat) (C : α → Bool) (done : List α) (piles : List (List α)) (bef : α → Option (Option α)) : Prop where
  mem : ∀ x, x ∈ piles.flatten ↔ x ∈ done ∧ C x = true
  nd : piles.flatten.Nodup
  len : piles.flatten.length = (done.filter C).length
  ne : ∀ r, r ∈ piles → r ≠ []
  ord : ∀ r, r ∈ piles → Cons (fun a b => q a < q b ∧ p b < p a) r
  bef : ∀ (j : Nat) r x, piles[j]? = some r → x ∈ r → (j = 0 ∧ bef x = some none) ∨ ∃ (i : Nat) (u : α) (r' : List α), j = i + 1 ∧ piles[i]? = some r' ∧ u ∈ r' ∧ bef x = some (some u) ∧ p u < p x ∧ q u < q x

theorem PI.start (p q : α → Nat) (C : α → Bool) : PI p q C [] [] (fun _ => none) :=
  ⟨fun x => by simp, by simp, by simp, fun r h => by simp at h, fun r h => by simp at h, fun j r x h => by simp at h⟩

theorem PI.skip {p q : α → Nat} {C : α → Bool} {done : List α} {piles : List (List α)} {bef : α → Option (Option α)} (I : PI p q C done piles bef) {v : α} (hv : C v = false) : PI p q C (done ++ [v]) piles bef :=
  ⟨fun x => by
    rw [I.mem]
    constructor
    · rintro ⟨a, b⟩
      exact ⟨List.mem_append_left _ a, b⟩
    · rintro ⟨a, b⟩
      rcases List.mem_append.mp a with a | a
      · exact ⟨a, b⟩
      · simp at a
        subst a
        rw [hv] at b
        exact absurd b Bool.false_ne_true, I.nd, by rw [List.filter_append, List.length_append, I.len]; simp [hv], I.ne, I.ord, I.bef⟩

/-- the turn's new lists -/
def put (piles : List (List α)) (at_ : Nat) (v : α) : List (List α) :=
  match piles[at_]? with
  | none => piles ++ [[v]]
  | some r => piles.set at_ (r ++ [v])

theorem put_len {piles : List (List α)} {at_ : Nat} {v : α} (ha : at_ ≤ piles.length) (j : Nat) (r : List α) (h : (put piles at_ v)[j]? = some r) :
    (j ≠ at_ ∧ piles[j]? = some r) ∨ (j = at_ ∧ ((piles[at_]? = none ∧ r = [v]) ∨ ∃ r0, piles[at_]? = some r0 ∧ r = r0 ++ [v])) := by
  unfold put at h
  cases e : piles[at_]? with
  | none =>
    rw [e] at h
    have hl : piles.length = at_ := by
      have := List.getElem?_eq_none_iff.mp e
      omega
    by_cases hj : j < piles.length
    · simp only [List.getElem?_append_left hj] at h
      exact .inl ⟨by omega, h⟩
    · simp only [List.getElem?_append_right (show piles.length ≤ j by omega)] at h
      have hz : j - piles.length = 0 := by
        have := (List.getElem?_eq_some_iff.mp h).1
        simp at this
        omega
      rw [hz] at h
      simp at h
      exact .inr ⟨by omega, .inl ⟨rfl, h.symm⟩⟩
  | some r0 =>
    rw [e] at h
    simp only at h
    have hlt := (List.getElem?_eq_some_iff.mp e).1
    by_cases hj : j = at_
    · subst hj
      rw [List.getElem?_set_self hlt] at h
      exact .inr ⟨rfl, .inr ⟨r0, rfl, (Option.some.inj h).symm⟩⟩
    · rw [List.getElem?_set_ne (Ne.symm hj)] at h
      exact .inl ⟨hj, h⟩
theorem put_old {piles : List (List α)} {at_ : Nat} {v : α} {j : Nat} {r : List α} (h : piles[j]? = some r) : ∃ r', (put piles at_ v)[j]? = some r' ∧ (∀ x, x ∈ r → x ∈ r') ∧ (j ≠ at_ → r' = r) := by
  unfold put
  have hlt := (List.getElem?_eq_some_iff.mp h).1
  cases e : piles[at_]? with
  | none => exact ⟨r, by simp only [List.getElem?_append_left hlt]; exact h, fun _ z => z, fun _ => rfl⟩
  | some r0 =>
    simp only
    by_cases hj : j = at_
    · subst hj
      rw [h] at e
      cases e
      exact ⟨r ++ [v], by rw [List.getElem?_set_self hlt], fun x z => List.mem_append_left _ z, fun z => absurd rfl z⟩
    · exact ⟨r, by rw [List.getElem?_set_ne (Ne.symm hj)]; exact h, fun _ z => z, fun _ => rfl⟩
theorem put_perm {piles : List (List α)} {at_ : Nat} {v : α} : (put piles at_ v).flatten.Perm (v :: piles.flatten) := by
  unfold put
  cases e : piles[at_]? with
  | none =>
    simp only [List.flatten_append, List.flatten_cons, List.flatten_nil, List.append_nil]
    exact List.perm_append_comm.trans (List.Perm.refl _)
  | some r0 => exact flat_set v e

theorem PI.turn {p q : α → Nat} {C : α → Bool} {done : List α} {piles : List (List α)} {bef bef' : α → Option (Option α)} (I : PI p q C done piles bef) {v : α} {at_ : Nat} (hC : C v = true) (hn : v ∉ done) (hq : ∀ x, x ∈ done → q x < q v)
    (hp : ∀ x, C x = true → p x = p v → x = v) (ha : at_ ≤ piles.length)
    (hs : ∀ r l, piles[at_]? = some r → r.getLast? = some l → ¬ p l < p v)
    (hb : (at_ = 0 ∧ bef' v = some none) ∨ ∃ i r u, at_ = i + 1 ∧ piles[i]? = some r ∧ r.getLast? = some u ∧ p u < p v ∧ bef' v = some (some u)) (hb' : ∀ x, x ≠ v → bef' x = bef x) :
    PI p q C (done ++ [v]) (put piles at_ v) bef' := by
  have nv : v ∉ piles.flatten := fun z => hn ((I.mem v).mp z).1
  refine ⟨fun x => ?_, ?_, ?_, fun r hr => ?_, fun r hr => ?_, fun j r x hj hx => ?_⟩
  · rw [put_perm.mem_iff, List.mem_cons, I.mem, List.mem_append, List.mem_singleton]
    constructor
    · rintro (rfl | ⟨a, b⟩)
      · exact ⟨.inr rfl, hC⟩
      · exact ⟨.inl a, b⟩
    · rintro ⟨a | a, b⟩
      · exact .inr ⟨a, b⟩
      · exact .inl a
  · exact put_perm.nodup_iff.mpr (List.nodup_cons.mpr ⟨nv, I.nd⟩)
  · rw [put_perm.length_eq, List.length_cons, I.len, List.filter_append, List.length_append]
    simp [hC]
  · obtain ⟨j, hj⟩ := List.mem_iff_getElem?.mp hr
    rcases put_len ha j r hj with ⟨_, h⟩ | ⟨_, ⟨_, rfl⟩ | ⟨r0, _, rfl⟩⟩
    · exact I.ne r (List.mem_iff_getElem?.mpr ⟨j, h⟩)
    · simp
    · simp
  · obtain ⟨j, hj⟩ := List.mem_iff_getElem?.mp hr
    rcases put_len ha j r hj with ⟨_, h⟩ | ⟨_, ⟨_, rfl⟩ | ⟨r0, h0, rfl⟩⟩
    · exact I.ord r (List.mem_iff_getElem?.mpr ⟨j, h⟩)
    · exact Cons.one v
    · refine (I.ord r0 (List.mem_iff_getElem?.mpr ⟨_, h0⟩)).snoc fun z hz => ?_
      have zm : z ∈ r0 := List.mem_of_getLast? hz
      have zf := (I.mem z).mp (mem_flat.mpr ⟨_, r0, h0, zm⟩)
      have h1 := hs r0 z h0 hz
      have h2 : p z ≠ p v := fun e => by
        have := hp z zf.2 e
        subst this
        exact hn zf.1
      exact ⟨hq z zf.1, by omega⟩
  · have old : ∀ {j : Nat} {r0 : List α}, piles[j]? = some r0 → x ∈ r0 → (j = 0 ∧ bef' x = some none) ∨ ∃ (i : Nat) (u : α) (r' : List α), j = i + 1 ∧ (put piles at_ v)[i]? = some r' ∧ u ∈ r' ∧ bef' x = some (some u) ∧ p u < p x ∧ q u < q x := fun {j r0} h hx => by
      have xv : x ≠ v := fun e => by
        subst e
        exact nv (mem_flat.mpr ⟨j, r0, h, hx⟩)
      rw [hb' x xv]
      rcases I.bef j r0 x h hx with z | ⟨i, u, r', e1, e2, e3, e4, e5, e6⟩
      · exact .inl z
      · obtain ⟨r2, h2, h3, _⟩ := put_old (at_ := at_) (v := v) e2
        exact .inr ⟨i, u, r2, e1, h2, h3 _ e3, e4, e5, e6⟩
    rcases put_len ha j r hj with ⟨_, h⟩ | ⟨rfl, h⟩
    · exact old h hx
    · have new : x = v → (j = 0 ∧ bef' x = some none) ∨ ∃ (i : Nat) (u : α) (r' : List α), j = i + 1 ∧ (put piles j v)[i]? = some r' ∧ u ∈ r' ∧ bef' x = some (some u) ∧ p u < p x ∧ q u < q x := fun e => by
        subst e
        rcases hb with z | ⟨i, r', u, e1, e2, e3, e4, e5⟩
        · exact .inl z
        · obtain ⟨r2, h2, h3, _⟩ := put_old (at_ := j) (v := x) e2
          have um : u ∈ r' := List.mem_of_getLast? e3
          have uf := (I.mem u).mp (mem_flat.mpr ⟨_, r', e2, um⟩)
          exact .inr ⟨i, u, r2, e1, h2, h3 _ um, e5, e4, hq u uf.1⟩
      rcases h with ⟨_, rfl⟩ | ⟨r0, h0, rfl⟩
      · exact new (by simpa using hx)
      · rcases List.mem_append.mp hx with hx | hx
        · exact old h0 hx
        · exact new (by simpa using hx)
end M41
namespace M41
variable {α : Type} [DecidableEq α]
/-- going down from list to list by `bef` -/
structure Ch (p q : α → Nat) (piles : List (List α)) (row : List α) (x : α) (j : Nat) : Prop where
  last : row.getLast? = some x
  inn : ∃ r, piles[j]? = some r ∧ x ∈ r
  len : row.length + j = piles.length
  con : Cons (fun a b => q b < q a ∧ p b < p a) row
  mem : ∀ y, y ∈ row → y ∈ piles.flatten
theorem Ch.start {p q : α → Nat} {piles : List (List α)} {j : Nat} {r : List α} {x : α} (h : piles[j]? = some r) (hj : j + 1 = piles.length) (hx : x ∈ r) : Ch p q piles [x] x j :=
  ⟨rfl, ⟨r, h, hx⟩, by simp; omega, Cons.one x, fun y hy => by
    have e : y = x := by simpa using hy
    subst e
    exact mem_flat.mpr ⟨j, r, h, hx⟩⟩
theorem Ch.next {p q : α → Nat} {C : α → Bool} {done : List α} {piles : List (List α)} {bef : α → Option (Option α)} (I : PI p q C done piles bef) {row : List α} {x u : α} {j : Nat} (c : Ch p q piles row x j) (hu : bef x = some (some u)) :
    ∃ i, j = i + 1 ∧ Ch p q piles (row ++ [u]) u i := by
  obtain ⟨r, hr, hx⟩ := c.inn
  rcases I.bef j r x hr hx with ⟨_, z⟩ | ⟨i, u', r', e, h1, h2, h3, h4, h5⟩
  · rw [hu] at z
    cases z
  · rw [hu] at h3
    cases h3
    refine ⟨i, e, by simp, ⟨r', h1, h2⟩, by have := c.len; simp; omega, c.con.snoc fun z hz => ?_, fun y hy => ?_⟩
    · rw [c.last] at hz
      cases hz
      exact ⟨h5, h4⟩
    · rcases List.mem_append.mp hy with hy | hy
      · exact c.mem y hy
      · have e : y = u := by simpa using hy
        subst e
        exact mem_flat.mpr ⟨i, r', h1, h2⟩
theorem Ch.some {p q : α → Nat} {C : α → Bool} {done : List α} {piles : List (List α)} {bef : α → Option (Option α)} (I : PI p q C done piles bef) {row : List α} {x : α} {j : Nat} (c : Ch p q piles row x j) : ∃ o, bef x = some o ∧ (o = none → j = 0) := by
  obtain ⟨r, hr, hx⟩ := c.inn
  rcases I.bef j r x hr hx with ⟨z, e⟩ | ⟨i, u', r', e, h1, h2, h3, h4, h5⟩
  · exact ⟨_, e, fun _ => z⟩
  · exact ⟨_, h3, fun z => nomatch z⟩
end M41

/-! the mathematics of the edits: plain Lean -/
namespace M43
variable {α : Type} [DecidableEq α]
/-- a stands ahead of b in the row -/
def Bef (row : List α) (a b : α) : Prop := List.Sublist [a, b] row
theorem Bef.mono {r r' : List α} {a b : α} (h : Bef r a b) (s : r.Sublist r') : Bef r' a b := h.trans s
theorem Bef.left {r : List α} {a b : α} (h : Bef r a b) : a ∈ r := h.subset (by simp)
theorem Bef.right {r : List α} {a b : α} (h : Bef r a b) : b ∈ r := h.subset (by simp)
theorem split_bef {A B : List α} {u a b : α} (h : Bef (A ++ u :: B) a b) (nd : (A ++ u :: B).Nodup) : (b = u → a ∈ A) ∧ (a = u → b ∈ B) := by
  have nd1 := List.nodup_append.mp nd
  have nd2 := List.nodup_cons.mp nd1.2.1
  obtain ⟨l1, l2, e, h1, h2⟩ := List.sublist_append_iff.mp h
  constructor
  · intro eb
    subst eb
    match l1, l2, e, h1, h2 with
    | [], [x, y], e, h1, h2 =>
      simp only [List.nil_append, List.cons.injEq, and_true] at e
      obtain ⟨rfl, rfl⟩ := e
      exfalso
      cases h2 with
      | cons _ h2 => exact nd2.1 (h2.subset (by simp))
      | cons_cons _ h2 => exact nd2.1 (h2.subset (by simp))
    | [x], [y], e, h1, h2 =>
      simp only [List.cons_append, List.nil_append, List.cons.injEq, and_true] at e
      obtain ⟨rfl, rfl⟩ := e
      exact h1.subset (by simp)
    | [x, y], [], e, h1, h2 =>
      simp only [List.append_nil, List.cons.injEq, and_true] at e
      obtain ⟨rfl, rfl⟩ := e
      exact h1.subset (by simp)
    | [], [], e, _, _ => simp at e
    | [], [x], e, _, _ => simp at e
    | [x], [], e, _, _ => simp at e
    | [], x :: y :: z :: r, e, _, _ => simp at e
    | [x], y :: z :: r, e, _, _ => simp at e
    | [x, y], z :: r, e, _, _ => simp at e
    | x :: y :: z :: r, _, e, _, _ => simp at e
  · intro ea
    subst ea
    match l1, l2, e, h1, h2 with
    | [], [x, y], e, h1, h2 =>
      simp only [List.nil_append, List.cons.injEq, and_true] at e
      obtain ⟨rfl, rfl⟩ := e
      cases h2 with
      | cons _ h2 => exact absurd (h2.subset (by simp)) nd2.1
      | cons_cons _ h2 => exact h2.subset (by simp)
    | [x], [y], e, h1, h2 =>
      simp only [List.cons_append, List.nil_append, List.cons.injEq, and_true] at e
      obtain ⟨rfl, rfl⟩ := e
      have ha : a ∈ A := h1.subset (by simp)
      exact absurd rfl (nd1.2.2 a ha a (by simp))
    | [x, y], [], e, h1, h2 =>
      simp only [List.append_nil, List.cons.injEq, and_true] at e
      obtain ⟨rfl, rfl⟩ := e
      have ha : a ∈ A := h1.subset (by simp)
      exact absurd rfl (nd1.2.2 a ha a (by simp))
    | [], [], e, _, _ => simp at e
    | [], [x], e, _, _ => simp at e
    | [x], [], e, _, _ => simp at e
    | [], x :: y :: z :: r, e, _, _ => simp at e
    | [x], y :: z :: r, e, _, _ => simp at e
    | [x, y], z :: r, e, _, _ => simp at e
    | x :: y :: z :: r, _, e, _, _ => simp at e
theorem bef_of {A B : List α} {a b : α} (ha : a ∈ A) (hb : b ∈ B) : Bef (A ++ B) a b := by
  have h1 : List.Sublist [a] A := List.singleton_sublist.mpr ha
  have h2 : List.Sublist [b] B := List.singleton_sublist.mpr hb
  exact h1.append h2
theorem Bef.erase {r : List α} {a b v : α} (h : Bef r a b) (nd : r.Nodup) (ha : a ≠ v) (hb : b ≠ v) : Bef (r.erase v) a b := by
  rw [List.Nodup.erase_eq_filter nd v]
  have := h.filter (fun x => x != v)
  have e : [a, b].filter (fun x => x != v) = [a, b] := by simp [ha, hb]
  rw [e] at this
  exact this
/-- the row with v put ahead of its target -/
def ins (row : List α) (v : α) : Option α → List α
  | none => row ++ [v]
  | some u => row.take (row.idxOf u) ++ [v] ++ row.drop (row.idxOf u)
/-- the state: S is done -/
structure St (old new kept S row : List α) (pre : List α) : Prop where
  nd : row.Nodup
  mem : ∀ x, x ∈ row ↔ (x ∈ old ∧ x ∈ new) ∨ x ∈ S
  ord : S.Pairwise (Bef row)
  kep : kept.Pairwise (Bef row)
  ahead : ∀ w, w ∈ kept → w ∈ pre → ∀ s, s ∈ S → Bef row w s
theorem St.put {old new kept S row pre : List α} {v : α} (nd : row.Nodup) (vr : v ∉ row) (mem : ∀ x, x ∈ row ↔ ((x ∈ old ∧ x ∈ new) ∧ x ≠ v) ∨ x ∈ S) (ord : S.Pairwise (Bef row)) (kep : kept.Pairwise (Bef row))
    (ahead : ∀ w, w ∈ kept → w ∈ pre → ∀ s, s ∈ S → Bef row w s) (kr : ∀ w, w ∈ kept → w ∈ row) (vn : v ∈ old → v ∈ new) : St old new kept (v :: S) (ins row v S.head?) pre := by
  cases S with
  | nil =>
    show St old new kept [v] (row ++ [v]) pre
    refine ⟨?_, fun x => ?_, List.pairwise_singleton _ _, kep.imp fun h => h.mono (List.sublist_append_left _ _), fun w hw hp s hs => ?_⟩
    · rw [List.nodup_append]
      exact ⟨nd, by simp, fun a ha b hb => by
        rw [List.mem_singleton] at hb
        subst hb
        exact fun z => vr (z ▸ ha)⟩
    · rw [List.mem_append, List.mem_singleton, mem x]
      constructor
      · rintro ((⟨h, _⟩ | h) | rfl)
        · exact .inl h
        · simp at h
        · exact .inr rfl
      · rintro (h | h)
        · by_cases e : x = v
          · exact .inr e
          · exact .inl (.inl ⟨h, e⟩)
        · exact .inr h
    · rw [List.mem_singleton] at hs
      subst hs
      exact bef_of (kr w hw) (by simp)
  | cons u S2 =>
    have ur : u ∈ row := (mem u).mpr (.inr (by simp))
    show St old new kept (v :: u :: S2) (row.take (row.idxOf u) ++ [v] ++ row.drop (row.idxOf u)) pre
    have hlt := List.idxOf_lt_length_of_mem ur
    have hd : row.drop (row.idxOf u) = u :: row.drop (row.idxOf u + 1) := by
      rw [List.drop_eq_getElem_cons hlt]
      congr 1
      exact List.getElem_idxOf hlt
    generalize hA : row.take (row.idxOf u) = A
    rw [hd]
    generalize hB : row.drop (row.idxOf u + 1) = B
    have er : row = A ++ u :: B := by rw [← hA, ← hB, ← hd, List.take_append_drop]
    rw [er] at nd vr mem ord kep ahead kr
    have sub : (A ++ u :: B).Sublist (A ++ [v] ++ u :: B) := by
      rw [List.append_assoc]
      exact (List.Sublist.refl A).append (List.sublist_cons_self v _)
    have perm : (A ++ [v] ++ u :: B).Perm (v :: (A ++ u :: B)) := by
      rw [List.append_assoc]
      exact List.perm_middle
    have ordc := List.pairwise_cons.mp ord
    refine ⟨perm.nodup_iff.mpr (List.nodup_cons.mpr ⟨vr, nd⟩), fun x => ?_, ?_, kep.imp fun h => h.mono sub, fun w hw hp s hs => ?_⟩
    · rw [perm.mem_iff, List.mem_cons, mem x, List.mem_cons (l := u :: S2)]
      constructor
      · rintro (rfl | ⟨h, _⟩ | h)
        · exact .inr (.inl rfl)
        · exact .inl h
        · exact .inr (.inr h)
      · rintro (h | h | h)
        · by_cases e : x = v
          · exact .inl e
          · exact .inr (.inl ⟨h, e⟩)
        · exact .inl h
        · exact .inr (.inr h)
    · refine List.pairwise_cons.mpr ⟨fun s hs => ?_, ord.imp fun h => h.mono sub⟩
      rcases List.mem_cons.mp hs with rfl | hs
      · rw [List.append_assoc]
        exact (bef_of (A := [v]) (B := s :: B) (by simp) (by simp)).mono (List.sublist_append_right _ _)
      · have hb := (split_bef (ordc.1 s hs) nd).2 rfl
        rw [List.append_assoc]
        exact (bef_of (A := [v]) (B := u :: B) (by simp) (by simp [hb])).mono (List.sublist_append_right _ _)
    · rcases List.mem_cons.mp hs with rfl | hs
      · have ha := (split_bef (ahead w hw hp u (by simp)) nd).1 rfl
        rw [List.append_assoc]
        exact bef_of ha (by simp)
      · exact (ahead w hw hp s hs).mono sub
/-- a value that is kept: nothing is done -/
theorem St.keep {old new kept S row pre : List α} {v : α} (h : St old new kept S row (pre ++ [v])) (hk : v ∈ kept) (hv : v ∈ old ∧ v ∈ new) (hb : ∀ w, w ∈ kept → w ∈ pre → Bef row w v) : St old new kept (v :: S) row pre := by
  refine ⟨h.nd, fun x => ?_, ?_, h.kep, fun w hw hp s hs => ?_⟩
  · rw [h.mem x, List.mem_cons]
    constructor
    · rintro (z | z)
      · exact .inl z
      · exact .inr (.inr z)
    · rintro (z | rfl | z)
      · exact .inl z
      · exact .inl hv
      · exact .inr z
  · exact List.pairwise_cons.mpr ⟨fun s hs => h.ahead v hk (by simp) s hs, h.ord⟩
  · rcases List.mem_cons.mp hs with rfl | hs
    · exact hb w hw hp
    · exact h.ahead w hw (by simp [hp]) s hs
/-- the end -/
theorem St.done {old new kept row : List α} (h : St old new kept new row []) (hn : new.Nodup) : row = new := by
  have perm : row.Perm new := by
    refine (List.perm_ext_iff_of_nodup h.nd hn).mpr fun x => ?_
    rw [h.mem x]
    constructor
    · rintro (z | z)
      · exact z.2
      · exact z
    · exact .inr
  have self : row.Pairwise (Bef row) := by
    have : ∀ (l : List α), l.Pairwise (Bef l) := by
      intro l
      induction l with
      | nil => exact List.Pairwise.nil
      | cons a r ih =>
        refine List.pairwise_cons.mpr ⟨fun b hb => ?_, ih.imp fun z => z.mono (List.sublist_cons_self _ _)⟩
        exact bef_of (A := [a]) (B := r) (by simp) hb
    exact this row
  have anti : ∀ a b, Bef row a b → Bef row b a → False := fun a b h1 h2 => by
    obtain ⟨A, B, e⟩ := List.append_of_mem h1.left
    have nd := h.nd
    rw [e] at h1 h2 nd
    have x1 := (split_bef h1 nd).2 rfl
    have x2 := (split_bef h2 nd).1 rfl
    have := (List.nodup_append.mp nd).2.2 b x2 b (by simp [x1])
    exact this rfl
  exact perm.eq_of_pairwise (le := Bef row) (fun a b _ _ h1 h2 => (anti a b h1 h2).elim) self h.ord
end M43

namespace Ki
open PySem PySem.Spec PyProof.Rows L2 Lb
section
variable {P : Program} {w : World} {K : PySem.W.Frag} {mg : Str → Option Value} {base : Heap}

/-- the bag at b: the cells' list at c, n draws done -/
def Bag (K : PySem.W.Frag) (H : Hp) (b c : Addr) (cells : List Int) (n : Int) : Prop :=
  ∃ i r : Int, H b = some (.lst [.ref c, .int i, .int r, .int n]) ∧ SqL K H c (cells.map V.int) ∧ c ≠ b ∧ 0 ≤ i ∧ 0 ≤ n ∧ 0 ≤ r
def spTake (K : PySem.W.Frag) : Sp := fun vs H Q _ => ∃ (b c : Addr) (cells : List Int) (n m : Int), vs = [.ref b, .int m] ∧ Bag K H b c cells n ∧ n < 100000 ∧ 0 < m ∧ m < 2 ^ 90 ∧
  ∀ (d : Int) (H' : Hp), 0 ≤ d → d < m → Keep [b] H H' → Bag K H' b c cells (n + 1) → Q (.int d) H'
theorem okTake (T : TX K mg) : FnOk P w K mg base CX0 1 T.fLTake T.dLTake ["_law_bag", "_law_many"] (spTake K) := by
  refine T.FLTake.ok scLTake (fun vs H Q E h => ?_) (fun cdv A outer s H vs Q E hr h => ?_)
  · obtain ⟨b, c, cells, n, m, rfl, _⟩ := h
    rfl
  · obtain ⟨b, c, cells, n, m, rfl, ⟨i, r, hb, hc, ncb, hi, hin, hr0⟩, hn, hm, hm2, q⟩ := h
    refine ⟨_, (derLTake T hr).2, ?_⟩
    unfold derLTake
    dsimp only
    -- cells = bag[0]; bag[3] = bag[3] + 1
    wtm_at "st"
    wtm_at "st"
    -- if ..: bag[2] = cells[bag[1]]; bag[1] = bag[1] + 1
    refine cut (fun σ' H' => σ' = [some (.ref b), some (.int m), some (.ref c), none, none, none] ∧ Keep [b] H H' ∧ ∃ i r, H' b = some (.lst [.ref c, .int i, .int r, .int (n + 1)]) ∧ 0 ≤ i ∧ 0 ≤ r) (fun N hN => ?_) ?_
    · have no : ∀ i' r' : Int, 0 ≤ i' → 0 ≤ r' → N [some (.ref b), some (.int m), some (.ref c), none, none, none] (upd H b (.lst [.ref c, .int i', .int r', .int (n + 1)])) := fun i' r' h1 h3 =>
        hN _ _ ⟨rfl, by wtm_at "keep", i', r', upd_same, h1, h3⟩
      wtm_at "go"
      wtm_at "if"
      · wtm_at "go"
        wtm_at "if"
        · have hlt : i < (cells.map V.int).length := of_decide_eq_true e
          rw [List.length_map] at hlt
          obtain ⟨j, rfl⟩ : ∃ j : Nat, i = (j : Int) := ⟨i.toNat, by omega⟩
          have hj : (cells.map V.int)[j]? = some (.int cells[j]) := by
            rw [List.getElem?_map, List.getElem?_eq_getElem (by omega)]
            rfl
          wtm_at "go"
          wtm_at "if"
          · have hge : (10 : Int) ^ 18 ≤ cells[j] := of_decide_eq_true e
            wtm_at "st"
            wtm_at "go"
            show N _ (upd (upd (upd H b _) b _) b _)
            rw [upd_upd, upd_upd]
            exact no (j + 1) cells[j] (by omega) (by omega)
          · exact no _ _ hi hr0
        · wtm_at "F"
          exact no _ _ hi hr0
      · wtm_at "F"
        exact no _ _ hi hr0
    · rintro σ' H1 ⟨rfl, k1, i1, r1, hb1, h1, h3⟩
      have hc1 : SqL K H1 c (cells.map V.int) := k1.seq hc (by wtm_at "nin")
      have fin : ∀ (d i' r' : Int) (H2 : Hp), Keep [b] H1 H2 → H2 b = some (.lst [.ref c, .int i', .int r', .int (n + 1)]) → 0 ≤ d → d < m → 0 ≤ i' → 0 ≤ r' → Q (.int d) H2 := fun d i' r' H2 k2 hb2 a1 a2 a3 a5 =>
        q d H2 a1 a2 (k1.trans k2) ⟨i', r', hb2, k2.seq hc1 (by wtm_at "nin"), ncb, a3, by omega, a5⟩
      -- if bag[2] > 0
      refine cut (fun σ' H' => σ' = [some (.ref b), some (.int m), some (.ref c), none, none, none] ∧ H' = H1) (fun N hN => ?_) ?_
      · wtm_at "go"
        wtm_at "if"
        · have hr1 : 0 < r1 := of_decide_eq_true e
          refine Lb.seq1 fun N2 hN2 => ?_
          wtm_at "go"
          refine hN2 _ _ ?_
          refine Lb.seq1 fun N3 hN3 => ?_
          wtm_at "go"
          refine g_rI (wide_div hm (b := 90) (by omega) (by decide) (by decide)) ?_
          wtm_at "go"
          refine hN3 _ _ ?_
          wtm_at "go"
          exact fin _ _ (r1 / m) _ (by wtm_at "keep") upd_same (Int.emod_nonneg _ (by omega)) (Int.emod_lt_of_pos _ hm) h1 (Int.ediv_nonneg h3 (by omega))
        · exact hN _ _ ⟨rfl, rfl⟩
      · rintro σ' H' ⟨rfl, rfl⟩
        wtm_at "st"
        -- if len(cells) > 0: cell = int(cells[int(bag[1]) % len(cells)]); bag[1] = bag[1] + 1
        refine cut (fun σ' H2 => ∃ cell i2, σ' = [some (.ref b), some (.int m), some (.ref c), none, some (.int cell), none] ∧ Keep [b] H' H2 ∧ H2 b = some (.lst [.ref c, .int i2, .int r1, .int (n + 1)]) ∧ 0 ≤ i2) (fun N hN => ?_) ?_
        · wtm_at "go"
          wtm_at "if"
          · have hl : 0 < cells.length := by
              have := of_decide_eq_true e
              rw [List.length_map] at this
              omega
            refine Lb.seq1 fun N2 hN2 => ?_
            wtm_at "go"
            refine g_rI (show (0 : Int) < ((cells.map V.int).length : Int) by rw [List.length_map]; omega) ?_
            obtain ⟨j, hj, hjl⟩ : ∃ j : Nat, i1 % ((cells.map V.int).length : Int) = (j : Int) ∧ j < cells.length := by
              have a1 := Int.emod_nonneg i1 (b := ((cells.map V.int).length : Int)) (by rw [List.length_map]; omega)
              have a2 := Int.emod_lt_of_pos i1 (b := ((cells.map V.int).length : Int)) (by rw [List.length_map]; omega)
              simp only [List.length_map] at a1 a2 ⊢
              exact ⟨(i1 % (cells.length : Int)).toNat, by omega, by omega⟩
            have hjc : (cells.map V.int)[j]? = some (.int cells[j]) := by
              rw [List.getElem?_map, List.getElem?_eq_getElem hjl]
              rfl
            rw [hj]
            wtm_at "go"
            refine hN2 _ _ ?_
            wtm_at "go"
            exact hN _ _ ⟨cells[j], i1 + 1, rfl, by wtm_at "keep", upd_same, by omega⟩
          · exact hN _ _ ⟨0, i1, rfl, Keep.refl _ _, hb1, h1⟩
        · rintro σ' H2 ⟨cell, i2, rfl, k2, hb2, h4⟩
          refine Lb.seq1 fun N2 hN2 => ?_
          wtm_at "go"
          refine hN2 _ _ ?_
          clear hN2 N2
          generalize (cell + 7919 * (n + 1) * (n + 1) + 104729 * (n + 1) + 1) = z
          refine Lb.seq1 fun N2 hN2 => ?_
          wtm_at "go"
          refine hN2 _ _ ?_
          clear hN2 N2
          generalize (z % 2147483647 * (z % 2147483647 / 1009 + 69621)) = z2
          refine Lb.seq1 fun N2 hN2 => ?_
          wtm_at "go"
          refine hN2 _ _ ?_
          clear hN2 N2
          wtm_at "go"
          exact fin _ i2 r1 _ k2 hb2 (Int.emod_nonneg _ (by omega)) (Int.emod_lt_of_pos _ hm) h4 h3
end

end Ki
namespace Ki
open PySem PySem.Spec PyProof.Rows L2 Lb
/-! lists of keys: the place of a key; the mirror of the falling lists -/
def ixK : List Key → Key → Option Nat
  | [], _ => none
  | a :: r, k => if a = k then some 0 else (ixK r k).map (· + 1)
theorem ixK_none {k : Key} : ∀ {l : List Key}, ixK l k = none ↔ k ∉ l
  | [] => by simp [ixK]
  | a :: r => by
    unfold ixK
    by_cases h : a = k
    · simp [h]
    · rw [if_neg h]
      have ih := ixK_none (k := k) (l := r)
      have h' : ¬ k = a := fun z => h z.symm
      simp [ih, h']
theorem ixK_some {k : Key} : ∀ {l : List Key} {i : Nat}, ixK l k = some i → l[i]? = some k
  | [], i, h => by simp [ixK] at h
  | a :: r, i, h => by
    unfold ixK at h
    by_cases e : a = k
    · rw [if_pos e] at h
      cases h
      rw [e]
      rfl
    · rw [if_neg e] at h
      cases h2 : ixK r k with
      | none => rw [h2] at h; cases h
      | some j =>
        rw [h2] at h
        cases h
        show r[j]? = some k
        exact ixK_some h2
theorem ixK_at {k : Key} : ∀ {l : List Key} {i : Nat}, l.Nodup → l[i]? = some k → ixK l k = some i
  | [], i, _, h => by simp at h
  | a :: r, 0, _, h => by
    have e : a = k := by simpa using h
    unfold ixK
    rw [if_pos e]
  | a :: r, i + 1, nd, h => by
    have h' : r[i]? = some k := by simpa using h
    have km : k ∈ r := List.mem_of_getElem? h'
    have nd' := List.nodup_cons.mp nd
    have e : ¬ a = k := fun z => nd'.1 (z ▸ km)
    unfold ixK
    rw [if_neg e, ixK_at nd'.2 h']
    rfl
theorem ixK_snoc (a k : Key) : ∀ l : List Key, ixK (l ++ [a]) k = (ixK l k).or (if a = k then some l.length else none)
  | [] => by
    show (if a = k then some 0 else (ixK [] k).map (· + 1)) = _
    by_cases h : a = k
    · rw [if_pos h, if_pos h]; rfl
    · rw [if_neg h, if_neg h]; rfl
  | b :: l => by
    show (if b = k then some 0 else (ixK (l ++ [a]) k).map (· + 1)) = (if b = k then some 0 else (ixK l k).map (· + 1)).or (if a = k then some (l.length + 1) else none)
    by_cases h : b = k
    · rw [if_pos h, if_pos h]; rfl
    · rw [if_neg h, if_neg h, ixK_snoc a k l]
      cases ixK l k with
      | some j => rfl
      | none =>
        by_cases h2 : a = k
        · rw [if_pos h2, if_pos h2]; rfl
        · rw [if_neg h2, if_neg h2]; rfl
/-- the place of a key, as a number -/
def pl (l : List Key) (k : Key) : Nat := (ixK l k).getD 0
theorem pl_at {l : List Key} {i : Nat} {k : Key} (nd : l.Nodup) (h : l[i]? = some k) : pl l k = i := by unfold pl; rw [ixK_at nd h]; rfl
theorem pl_some {l : List Key} {k : Key} (h : k ∈ l) : ixK l k = some (pl l k) := by
  cases e : ixK l k with
  | none => exact absurd h (ixK_none.mp e)
  | some i => unfold pl; rw [e]; rfl
theorem pl_get {l : List Key} {k : Key} (h : k ∈ l) : l[pl l k]? = some k := ixK_some (pl_some h)
theorem pl_inj {l : List Key} {a b : Key} (ha : a ∈ l) (hb : b ∈ l) (e : pl l a = pl l b) : a = b := by
  have h1 := pl_get ha
  have h2 := pl_get hb
  rw [e, h2] at h1
  exact (Option.some.inj h1).symm
theorem pl_lt {l : List Key} {k : Key} (h : k ∈ l) : pl l k < l.length := (List.getElem?_eq_some_iff.mp (pl_get h)).1
/-- the dict of the places of ks -/
def PlD (ks : List Key) (kvs : List (Key × V)) : Prop := kvs.length ≤ ks.length ∧ ∀ k, valV kvs k = (ixK ks k).map fun i : Nat => V.int (i : Int)
theorem PlD.nil : PlD [] [] := ⟨Nat.le_refl _, fun _ => rfl⟩
theorem PlD.snoc {ks : List Key} {kvs : List (Key × V)} {a : Key} (h : PlD ks kvs) (n : a ∉ ks) : PlD (ks ++ [a]) (putK kvs a (V.int (ks.length : Nat))) := by
  refine ⟨?_, fun k => ?_⟩
  · have := length_putK kvs a (V.int (ks.length : Nat))
    rw [List.length_append, List.length_singleton]
    exact Nat.le_trans this (Nat.add_le_add_right h.1 1)
  · rw [valV_put, ixK_snoc, h.2 k]
    by_cases e : k = a
    · subst e
      rw [if_pos rfl, ixK_none.mpr n, if_pos rfl]
      rfl
    · rw [if_neg e, if_neg (fun z => e z.symm)]
      cases ixK ks k <;> rfl
theorem PlD.get {ks : List Key} {kvs : List (Key × V)} (h : PlD ks kvs) {k : Key} (m : k ∈ ks) : valV kvs k = some (V.int (pl ks k : Nat)) := by rw [h.2, pl_some m]; rfl
theorem PlD.isSome {ks : List Key} {kvs : List (Key × V)} (h : PlD ks kvs) (k : Key) : (valV kvs k).isSome = kIn k ks := by
  rw [h.2]
  cases e : ixK ks k with
  | none =>
    have := kIn_no.mpr (ixK_none.mp e)
    rw [this]; rfl
  | some i =>
    have := kIn_iff.mpr (List.mem_of_getElem? (ixK_some e))
    rw [this]; rfl
theorem take_snoc {α : Type} {l : List α} {i : Nat} {x : α} (h : l[i]? = some x) : l.take (i + 1) = l.take i ++ [x] := by
  rw [List.take_add_one, h]
  rfl
theorem nodup_take {l : List Key} {i : Nat} {x : Key} (nd : l.Nodup) (h : l[i]? = some x) : x ∉ l.take i := fun m => by
  obtain ⟨j, hj⟩ := List.mem_iff_getElem?.mp m
  have hlt := (List.getElem?_eq_some_iff.mp hj).1
  rw [List.length_take] at hlt
  rw [List.getElem?_take_of_lt (by omega)] at hj
  have := ixK_at nd h
  rw [ixK_at nd hj] at this
  have := Option.some.inj this
  omega
/-! the mirror of piles_of -/
def atP (p : Key → Nat) (v : Key) : List (List Key) → Nat
  | [] => 0
  | r :: rs => if p ((r.getLast?).getD v) < p v then atP p v rs + 1 else 0
theorem atP_eq {p : Key → Nat} {v : Key} : ∀ {ls : List (List Key)} {n : Nat}, n ≤ ls.length → (∀ (j : Nat) r, j < n → ls[j]? = some r → p ((r.getLast?).getD v) < p v) → (∀ r, ls[n]? = some r → ¬ p ((r.getLast?).getD v) < p v) → atP p v ls = n
  | [], n, h, _, _ => by
    have : n = 0 := by simpa using h
    rw [this]; rfl
  | r :: rs, 0, _, _, h2 => by
    show (if p ((r.getLast?).getD v) < p v then _ else 0) = 0
    rw [if_neg (h2 r rfl)]
  | r :: rs, n + 1, h, h1, h2 => by
    show (if p ((r.getLast?).getD v) < p v then atP p v rs + 1 else 0) = n + 1
    rw [if_pos (h1 0 r (by omega) rfl), atP_eq (ls := rs) (n := n) (by simpa using h) (fun j r' hj hr => h1 (j + 1) r' (by omega) hr) fun r' hr => h2 r' hr]
def stepF (new : List Key) (piles : List (List Key)) (v : Key) : List (List Key) := if kIn v new = true then M41.put piles (atP (pl new) v piles) v else piles
def pilesF (new done : List Key) : List (List Key) := done.foldl (stepF new) []
theorem pilesF_snoc (new done : List Key) (v : Key) : pilesF new (done ++ [v]) = stepF new (pilesF new done) v := by unfold pilesF; rw [List.foldl_append]; rfl
theorem pilesF_le (new : List Key) : ∀ (done : List Key) (acc : List (List Key)), (done.foldl (stepF new) acc).length ≤ acc.length + done.length
  | [], acc => by simp
  | v :: r, acc => by
    have h1 : (stepF new acc v).length ≤ acc.length + 1 := by
      unfold stepF M41.put
      split
      · split
        · simp
        · simp
      · omega
    have := pilesF_le new r (stepF new acc v)
    rw [List.foldl_cons, List.length_cons]
    omega

end Ki
namespace Ki
open PySem PySem.Spec PyProof.Rows L2 Lb
section
variable {P : Program} {w : World} {K : PySem.W.Frag} {mg : Str → Option Value} {base : Heap}
def spIsValue : Sp := fun vs H Q _ => ∃ k : Key, vs = [kV k] ∧ Q (.bl true) H
theorem okIsValue (T : TX K mg) : FnOk P w K mg base CX0 1 T.fIsValue T.dIsValue ["thing"] spIsValue := by
  refine T.FIsValue.ok scIsValue (fun vs H Q E h => ?_) (fun cdv A outer s H vs Q E hr h => ?_)
  · obtain ⟨k, rfl, _⟩ := h
    rfl
  · obtain ⟨k, rfl, q⟩ := h
    refine ⟨_, (derIsValue T hr).2, ?_⟩
    unfold derIsValue
    dsimp only
    wtm_at "go"
    cases k with
    | inl i =>
      refine g_isi (t := "int") (b := false) (.base (.int i)) (by decide +kernel) ?_
      wtm_at "go"
      refine ifbF rfl ?_
      wtm_at "go"
      refine g_isi (t := "int") (b := true) (.base (.int i)) (by decide +kernel) ?_
      wtm_at "go"
      refine ifbT rfl ?_
      wtm_at "go"
      refine g_isi (t := "int") (b := false) (.base (.int i)) (by decide +kernel) ?_
      wtm_at "go"
      exact q
    | inr x =>
      refine g_isi (t := "str") (b := true) (.base (.str x)) (by decide +kernel) ?_
      wtm_at "go"
      refine ifbT rfl ?_
      exact q
def spLIsValue : Sp := spIsValue
theorem okLIsValue (T : TX K mg) : FnOk P w K mg base CX0 1 T.fLIsValue T.dLIsValue ["_law_value_here"] spLIsValue := by
  refine T.FLIsValue.ok scLIsValue (fun vs H Q E h => ?_) (fun cdv A outer s H vs Q E hr h => ?_)
  · obtain ⟨k, rfl, _⟩ := h
    rfl
  · obtain ⟨k, rfl, q⟩ := h
    refine ⟨_, (derLIsValue T hr).2, ?_⟩
    unfold derLIsValue
    dsimp only
    wtm_at "go"
    cases k with
    | inl i =>
      refine g_isi (t := "int") (b := false) (.base (.int i)) (by decide +kernel) ?_
      wtm_at "go"
      refine ifbF rfl ?_
      wtm_at "go"
      refine g_isi (t := "int") (b := true) (.base (.int i)) (by decide +kernel) ?_
      wtm_at "go"
      refine ifbT rfl ?_
      wtm_at "go"
      refine g_isi (t := "int") (b := false) (.base (.int i)) (by decide +kernel) ?_
      wtm_at "go"
      exact q
    | inr x =>
      refine g_isi (t := "str") (b := true) (.base (.str x)) (by decide +kernel) ?_
      wtm_at "go"
      refine ifbT rfl ?_
      exact q
end

end Ki
namespace Ki
open PySem PySem.Spec PyProof.Rows L2 Lb
section
variable {P : Program} {w : World} {K : PySem.W.Frag} {mg : Str → Option Value} {base : Heap}
def spPlacesOf (K : PySem.W.Frag) : Sp := fun vs H Q _ => ∃ (a : Addr) (ks : List Key), vs = [.ref a] ∧ SqL K H a (ks.map kV) ∧ ks.Nodup ∧ ks.length ≤ 1000 ∧
  ∀ (p : Addr) (kvs : List (Key × V)) (H' : Hp), H p = none → Keep [] H H' → H' p = some (.dK kvs) → PlD ks kvs → Q (.ref p) H'
theorem okPlacesOf (T : TX K mg) : FnOk P w K mg base CX0 1 T.fPlacesOf T.dPlacesOf ["row"] (spPlacesOf K) := by
  refine T.FPlacesOf.ok scPlacesOf (fun vs H Q E h => ?_) (fun cdv A outer s H vs Q E hr h => ?_)
  · obtain ⟨a, ks, rfl, _⟩ := h
    rfl
  · obtain ⟨a, ks, rfl, hs, nd, hl, q⟩ := h
    refine ⟨_, (derPlacesOf T hr).2, ?_⟩
    unfold derPlacesOf
    dsimp only
    wtm_at "go"
    refine ⟨_, rfl, a, _, rfl, hs, fun D hD => ?_⟩
    refine ⟨fun i m H1 => i + m = ks.length ∧ Keep [] H H1 ∧ ∃ kvs, H1 D = some (.dK kvs) ∧ PlD (ks.take i) kvs, ⟨ks.length, by omega, by wtm_at "keep", [], upd_same, PlD.nil⟩, ?_⟩
    rintro i m H1 ⟨hm, k1, kvs, hd, pd⟩
    by_cases hi : i < ks.length
    · have hx : (ks.map kV)[i]? = some (kV ks[i]) := by rw [List.getElem?_map, List.getElem?_eq_getElem hi]; rfl
      have hs1 : SqL K H1 a (ks.map kV) := by wtm_at "sq"
      refine .inr ⟨⟨_, _, hs1, hx⟩, fun H2 => Keep [] H H2 ∧ ∃ kvs, H2 D = some (.dK kvs) ∧ PlD (ks.take (i + 1)) kvs, fun H2 h2 => ⟨m - 1, by omega, by omega, h2⟩, fun x H2 hy => ?_⟩
      obtain ⟨T1, x1, rfl, nT, rfl, f1⟩ := hy
      have ex : x1 = kV ks[i] := Option.some.inj ((f1 _ hs1).symm.trans hx)
      subst ex
      have nTD : D ≠ T1 := ne_of_none hd nT
      have nDH : H D = none := hD
      refine ⟨T1, _, rfl, .inl (.inl upd_same), rfl, _, _, rfl, _, _, rfl, rfl, rfl, ?_⟩
      wtm_at "go"
      refine ifbT rfl ?_
      wtm_at "go"
      have e2 : ks[i]? = some ks[i] := List.getElem?_eq_getElem hi
      refine ⟨kvs, ks[i], rfl, by wtm_at "fact", ?_, ?_, _, upd_same, ?_⟩
      · exact Nat.lt_of_le_of_lt pd.1 (by rw [List.length_take]; exact Nat.lt_of_le_of_lt (Nat.min_le_left _ _) (small1000 (by omega)))
      · wtm_at "keep"
      · have hk := pd.snoc (nodup_take nd e2)
        rw [take_snoc e2]
        rw [List.length_take, Nat.min_eq_left (by omega)] at hk
        exact hk
    · have e : i = ks.length := by omega
      subst e
      rw [List.take_length] at pd
      exact .inl ⟨⟨_, k1.seq hs List.not_mem_nil, by rw [List.length_map]; omega⟩, q D kvs H1 hD k1 hd pd⟩
end

end Ki
namespace Ki
open PySem PySem.Spec PyProof.Rows L2 Lb
/-- the list at P holds the lists at as, which hold the falling lists -/
structure PilesAt (H : Hp) (P : Addr) (as : List Addr) (piles : List (List Key)) : Prop where
  top : H P = some (.lst (as.map V.ref))
  len : as.length = piles.length
  nd : as.Nodup
  out : P ∉ as
  row : ∀ (i : Nat) a r, as[i]? = some a → piles[i]? = some r → H a = some (.lst (r.map kV))
def befV : Option Key → V
  | none => .non
  | some u => kV u
def BefD (kvs : List (Key × V)) (bef : Key → Option (Option Key)) : Prop := ∀ k o, bef k = some o → valV kvs k = some (befV o)
theorem BefD.nil : BefD [] (fun _ => none) := fun k o h => nomatch h
theorem PilesAt.keep {H H' : Hp} {P : Addr} {as : List Addr} {piles : List (List Key)} {f : List Addr} (h : PilesAt H P as piles) (k : Keep f H H') (nP : P ∉ f) (na : ∀ a, a ∈ as → a ∉ f) : PilesAt H' P as piles :=
  ⟨k.at h.top nP, h.len, h.nd, h.out, fun i a r ha hr => k.at (h.row i a r ha hr) (na a (List.mem_of_getElem? ha))⟩
theorem PilesAt.set {H : Hp} {P : Addr} {as : List Addr} {piles : List (List Key)} (h : PilesAt H P as piles) {n : Nat} {x : Addr} {r : List Key} (hx : as[n]? = some x) (hr : piles[n]? = some r) (v : Key) :
    PilesAt (upd H x (.lst (r.map kV ++ [kV v]))) P as (piles.set n (r ++ [v])) := by
  have xP : P ≠ x := fun e => h.out (e ▸ List.mem_of_getElem? hx)
  refine ⟨fact_ne xP h.top, by rw [List.length_set]; exact h.len, h.nd, h.out, fun i a r' ha hr' => ?_⟩
  have hlt := (List.getElem?_eq_some_iff.mp hr).1
  by_cases e : i = n
  · subst e
    rw [hx] at ha
    cases ha
    rw [List.getElem?_set_self hlt] at hr'
    cases hr'
    rw [upd_same, List.map_append]
    rfl
  · rw [List.getElem?_set_ne (Ne.symm e)] at hr'
    have ax : a ≠ x := fun z => e (nd_ix h.nd (z ▸ ha) hx)
    exact fact_ne ax (h.row i a r' ha hr')
theorem PilesAt.push {H : Hp} {P x : Addr} {as : List Addr} {piles : List (List Key)} (h : PilesAt H P as piles) (hx : H x = none) (v : Key) :
    PilesAt (upd (upd H x (.lst [kV v])) P (.lst (as.map V.ref ++ [.ref x]))) P (as ++ [x]) (piles ++ [[v]]) := by
  have xP : x ≠ P := fun e => ne_of_none h.top hx e.symm
  have xa : ∀ a, a ∈ as → a ≠ x := fun a ha e => by
    obtain ⟨i, hi⟩ := List.mem_iff_getElem?.mp ha
    have hil : i < piles.length := by rw [← h.len]; exact (List.getElem?_eq_some_iff.mp hi).1
    exact ne_of_none (h.row i a _ hi (List.getElem?_eq_getElem hil)) hx e
  refine ⟨by rw [upd_same, List.map_append]; rfl, by rw [List.length_append, List.length_append, h.len]; rfl, ?_, fun m => ?_, fun i a r ha hr => ?_⟩
  · rw [List.nodup_append]
    exact ⟨h.nd, by simp, fun a ha b hb => by
      rw [List.mem_singleton] at hb
      subst hb
      exact xa a ha⟩
  · rcases List.mem_append.mp m with m | m
    · exact h.out m
    · rw [List.mem_singleton] at m
      exact xP m.symm
  · by_cases hi : i < as.length
    · rw [List.getElem?_append_left hi] at ha
      rw [List.getElem?_append_left (by rw [← h.len]; exact hi)] at hr
      have am := List.mem_of_getElem? ha
      have aP : a ≠ P := fun e => h.out (e ▸ am)
      exact fact_ne aP (fact_ne (xa a am) (h.row i a r ha hr))
    · rw [List.getElem?_append_right (by omega)] at ha
      rw [List.getElem?_append_right (by rw [← h.len]; omega), ← h.len] at hr
      have h0 : i - as.length = 0 := by
        have := (List.getElem?_eq_some_iff.mp ha).1
        simp at this
        omega
      rw [h0] at ha hr
      have e1 : x = a := by simpa using ha
      have e2 : [v] = r := by simpa using hr
      subst e1 e2
      rw [upd_ne xP, upd_same]
      rfl
theorem atI_lastk {r : List Key} {l : Key} (h : r.getLast? = some l) : atI (r.map kV) (-1) = some (kV l) := by
  obtain ⟨r', rfl⟩ := List.getLast?_eq_some_iff.mp h
  rw [List.map_append]
  exact atI_last _ _
theorem last_of {r : List Key} (h : r ≠ []) : ∃ l, r.getLast? = some l := by
  cases e : r.getLast? with
  | none => exact absurd (List.getLast?_eq_none_iff.mp e) h
  | some l => exact ⟨l, rfl⟩
section
variable {P : Program} {w : World} {K : PySem.W.Frag} {mg : Str → Option Value} {base : Heap}
def spPilesOf (K : PySem.W.Frag) : Sp := fun vs H Q _ => ∃ (a b : Addr) (old new : List Key), vs = [.ref a, .ref b] ∧ SqL K H a (old.map kV) ∧ SqL K H b (new.map kV) ∧ old.Nodup ∧ new.Nodup ∧ old.length ≤ 1000 ∧ new.length ≤ 1000 ∧
  ∀ (t P B : Addr) (as : List Addr) (kvs : List (Key × V)) (bef : Key → Option (Option Key)) (H' : Hp), Keep [] H H' → H' t = some (.tup [.ref P, .ref B]) → H P = none → (∀ x, x ∈ as → H x = none) → PilesAt H' P as (pilesF new old) →
    H' B = some (.dK kvs) → BefD kvs bef → M41.PI (pl new) (pl old) (fun k => kIn k new) old (pilesF new old) bef → Q (.ref t) H'
theorem okPilesOf (T : TX K mg) : FnOk P w K mg base CX0 2 T.fPilesOf T.dPilesOf ["old", "new"] (spPilesOf K) := by
  have GP : FnOk P w K mg base CX0 1 T.fPlacesOf T.dPlacesOf ["row"] (spPlacesOf K) := okPlacesOf T
  refine T.FPilesOf.ok scPilesOf (fun vs H Q E h => ?_) (fun cdv A outer s H vs Q E hr h => ?_)
  · obtain ⟨a, b, old, new, rfl, _⟩ := h
    rfl
  · obtain ⟨a, b, old, new, rfl, ha, hb, ndo, ndn, lo, ln, q⟩ := h
    refine ⟨_, (derPilesOf T GP hr).2, ?_⟩
    unfold derPilesOf
    dsimp only [cxOf, Cx.nox]
    refine Lb.seq1 fun N hN => ?_
    wtm_at "go"
    refine ⟨b, new, rfl, hb, ndn, ln, fun D kvD H1 nD k1 hD pd => ?_⟩
    refine hN _ _ ?_
    clear hN N
    refine Lb.seq1 fun N hN => ?_
    wtm_at "go"
    refine ⟨Nat.zero_le _, fun P nP => ?_⟩
    refine hN _ _ ?_
    clear hN N
    refine Lb.seq1 fun N hN => ?_
    refine fun B nB => hN _ _ ?_
    clear hN N
    refine Lb.seq1 fun N hN => ?_
    have nP0 : H P = none := k1.free nP List.not_mem_nil
    have kPB : Keep [] H (upd (upd H1 P (.lst [])) B (.dK [])) := by wtm_at "keep"
    have nB0 : H B = none := (by wtm_at "keep" : Keep [] H (upd H1 P (.lst []))).free nB List.not_mem_nil
    have DB : D ≠ B := ne_of_none (by wtm_at "fact" : upd H1 P (.lst []) D = some (.dK kvD)) nB
    have PB : P ≠ B := ne_of_none (upd_same : upd H1 P (.lst []) P = some (.lst [])) nB
    have sA : SqL K (upd (upd H1 P (.lst [])) B (.dK [])) a (old.map kV) := kPB.seq ha List.not_mem_nil
    have sD : upd (upd H1 P (.lst [])) B (.dK []) D = some (.dK kvD) := by wtm_at "fact"
    have sP : upd (upd H1 P (.lst [])) B (.dK []) P = some (.lst []) := by wtm_at "fact"
    have sB : upd (upd H1 P (.lst [])) B (.dK []) B = some (.dK []) := upd_same
    refine ⟨.ref a, rfl, a, rfl, ⟨_, sA⟩, for_list (K := K) (a := a) (xs := old.map kV)
      (fun i σ H2 => ∃ as kvB bef v5 v6, σ = [some (.ref a), some (.ref b), some (.ref D), some (.ref P), some (.ref B), v5, v6] ∧ Keep [] H H2 ∧ H2 D = some (.dK kvD) ∧ H2 B = some (.dK kvB) ∧
        PilesAt H2 P as (pilesF new (old.take i)) ∧ (∀ x, x ∈ as → H x = none) ∧ BefD kvB bef ∧ kvB.length ≤ i ∧ M41.PI (pl new) (pl old) (fun k => kIn k new) (old.take i) (pilesF new (old.take i)) bef)
      ⟨[], [], fun _ => none, none, none, rfl, kPB, sD, sB, ⟨sP, rfl, List.nodup_nil, by simp, fun i a r h => by simp at h⟩, fun x h => by simp at h, BefD.nil, Nat.le_refl _, M41.PI.start _ _ _⟩
      (fun i σ H2 _ h => by obtain ⟨as, kvB, bef, v5, v6, _, k2, _⟩ := h; exact k2.seq ha List.not_mem_nil) ?_ ?_⟩
    · rintro i y σ H2 hy ⟨as, kvB, bef, v5, v6, rfl, k2, hD2, hB2, hP, hfr, hbd, hbl, I⟩
      obtain ⟨v, hv, rfl⟩ := getk hy
      have vn : v ∉ old.take i := nodup_take ndo hv
      have il : i < old.length := (List.getElem?_eq_some_iff.mp hv).1
      have et := take_snoc hv
      wtm_at "go"
      -- if value not in places: continue
      refine Lb.seq1 fun N2 hN2 => ?_
      wtm_at "go"
      refine g_di (.inl hD2) ?_
      rw [pd.isSome]
      wtm_at "go"
      wtm_at "if"
      · wtm_at "go"
        have hc : kIn v new = false := by simpa using e
        refine ⟨as, kvB, bef, _, _, rfl, k2, hD2, hB2, ?_, hfr, hbd, by omega, ?_⟩
        · rw [et, pilesF_snoc]
          unfold stepF
          rw [if_neg (by rw [hc]; exact Bool.false_ne_true)]
          exact hP
        · rw [et, pilesF_snoc]
          unfold stepF
          rw [if_neg (by rw [hc]; exact Bool.false_ne_true)]
          exact I.skip hc
      · wtm_at "go"
        refine hN2 _ _ ?_
        clear hN2 N2
        have hc : kIn v new = true := by simpa using e
        have hcm : v ∈ new := kIn_iff.mp hc
        wtm_at "st"
        -- while at < len(piles) and places[piles[at][-1]] < places[value]: at += 1
        generalize hpi : pilesF new (old.take i) = piles at hP I
        have hlast : ∀ (n : Nat) r, piles[n]? = some r → ∃ l, r.getLast? = some l ∧ l ∈ r ∧ kIn l new = true ∧ l ∈ old.take i := fun n r hr => by
          obtain ⟨l, hl⟩ := last_of (I.ne r (List.mem_of_getElem? hr))
          have lm : l ∈ r := List.mem_of_getLast? hl
          have := (I.mem l).mp (M41.mem_flat.mpr ⟨n, r, hr, lm⟩)
          exact ⟨l, hl, lm, this.2, this.1⟩
        have hpl : piles.length ≤ i := by
          have h1 := pilesF_le new (old.take i) []
          have h2 : (pilesF new (old.take i)).length ≤ ([] : List (List Key)).length + (old.take i).length := h1
          rw [hpi] at h2
          simp only [List.length_nil, List.length_take] at h2
          omega
        have idx : ∀ (n : Nat), n < piles.length → ∃ x r l, as[n]? = some x ∧ (as.map V.ref)[n]? = some (.ref x) ∧ piles[n]? = some r ∧ r.getLast? = some l ∧ l ∈ r ∧ kIn l new = true ∧ SqL K H2 x (r.map kV) ∧ atI (r.map kV) (-1) = some (kV l) := fun n hn => by
          have hn' : n < as.length := by rw [hP.len]; exact hn
          have hx : as[n]? = some as[n] := List.getElem?_eq_getElem hn'
          have hr := List.getElem?_eq_getElem hn
          obtain ⟨l, hl, lm, ln, _⟩ := hlast n _ hr
          exact ⟨_, _, l, hx, by rw [List.getElem?_map, hx]; rfl, hr, hl, lm, ln, SqL.of (hP.row n _ _ hx hr), atI_lastk hl⟩
        have hPs : SqL K H2 P (as.map V.ref) := SqL.of hP.top
        refine Lb.seq1 fun N2 hN2 => ?_
        refine ⟨fun m σ' H' => H' = H2 ∧ ∃ n : Nat, σ' = [some (.ref a), some (.ref b), some (.ref D), some (.ref P), some (.ref B), some (kV v), some (.int (n : Int))] ∧ n + m = piles.length ∧ ∀ (j : Nat) r, j < n → piles[j]? = some r → pl new ((r.getLast?).getD v) < pl new v, ⟨piles.length, rfl, 0, rfl, by omega, fun j r h => absurd h (by omega)⟩, ?_⟩
        rintro m σ' H' ⟨rfl, n, rfl, hnm, hlow⟩
        have exit_ : (∀ r, piles[n]? = some r → ¬ pl new ((r.getLast?).getD v) < pl new v) → N2 [some (.ref a), some (.ref b), some (.ref D), some (.ref P), some (.ref B), some (kV v), some (.int (n : Int))] H' := fun hhi => by
          refine hN2 _ _ ?_
          refine Lb.seq1 fun N3 hN3 => ?_
          have asn : ∀ x, x ∈ as → x ≠ D ∧ x ≠ B := fun x hx => by
            obtain ⟨j, hj⟩ := List.mem_iff_getElem?.mp hx
            have jl : j < piles.length := by rw [← hP.len]; exact (List.getElem?_eq_some_iff.mp hj).1
            have hxl := hP.row j x _ hj (List.getElem?_eq_getElem jl)
            exact ⟨ne_of hxl hD2 (by intro z; cases z), ne_of hxl hB2 (by intro z; cases z)⟩
          have DP : D ≠ P := ne_of hD2 hP.top (by intro z; cases z)
          have nle : n ≤ piles.length := by omega
          have hat : atP (pl new) v piles = n := atP_eq nle hlow hhi
          have hstep : pilesF new (old.take (i + 1)) = M41.put piles n v := by
            rw [et, pilesF_snoc, hpi]
            unfold stepF
            rw [if_pos hc, hat]
          have post : ∀ o : Option Key, ((n = 0 ∧ o = none) ∨ ∃ (k : Nat) (r : List Key) (u : Key), n = k + 1 ∧ piles[k]? = some r ∧ r.getLast? = some u ∧ pl new u < pl new v ∧ o = some u) →
              N3 [some (.ref a), some (.ref b), some (.ref D), some (.ref P), some (.ref B), some (kV v), some (.int (n : Int))] (upd H' B (.dK (putK kvB v (befV o)))) := fun o ho => by
            refine hN3 _ _ ?_
            have kB : Keep [] H (upd H' B (.dK (putK kvB v (befV o)))) := by wtm_at "keep"
            have hP3 : PilesAt (upd H' B (.dK (putK kvB v (befV o)))) P as piles := ⟨fact_ne PB hP.top, hP.len, hP.nd, hP.out, fun i a r ha hr => fact_ne (asn a (List.mem_of_getElem? ha)).2 (hP.row i a r ha hr)⟩
            have hD3 : upd H' B (.dK (putK kvB v (befV o))) D = some (.dK kvD) := fact_ne DB hD2
            have hB3 : upd H' B (.dK (putK kvB v (befV o))) B = some (.dK (putK kvB v (befV o))) := upd_same
            generalize upd H' B (.dK (putK kvB v (befV o))) = H3 at kB hP3 hD3 hB3
            have hbd' : BefD (putK kvB v (befV o)) (fun k => if k = v then some o else bef k) := fun k o' hk => by
              have hk : (if k = v then some o else bef k) = some o' := hk
              rw [valV_put]
              by_cases ek : k = v
              · rw [if_pos ek] at hk ⊢
                cases hk
                rfl
              · rw [if_neg ek] at hk ⊢
                exact hbd k o' hk
            have hl' : (putK kvB v (befV o)).length ≤ i + 1 := Nat.le_trans (length_putK _ _ _) (by omega)
            have I' : M41.PI (pl new) (pl old) (fun k => kIn k new) (old.take (i + 1)) (pilesF new (old.take (i + 1))) (fun k => if k = v then some o else bef k) := by
              rw [hstep, et]
              refine I.turn hc vn (fun x hx => ?_) (fun x hx he => pl_inj (kIn_iff.mp hx) hcm he) nle (fun r l hr hl => ?_) ?_ (fun x hx => if_neg hx)
              · obtain ⟨j, hj⟩ := List.mem_iff_getElem?.mp hx
                have jl := (List.getElem?_eq_some_iff.mp hj).1
                rw [List.length_take] at jl
                rw [List.getElem?_take_of_lt (by omega)] at hj
                rw [pl_at ndo hj, pl_at ndo hv]
                omega
              · have := hhi r hr
                rw [hl] at this
                exact this
              · rcases ho with ⟨h0, rfl⟩ | ⟨k, r, u, h1, h2, h3, h4, rfl⟩
                · exact .inl ⟨h0, if_pos rfl⟩
                · exact .inr ⟨k, r, u, h1, h2, h3, h4, if_pos rfl⟩
            have hPs3 : SqL K H3 P (as.map V.ref) := SqL.of hP3.top
            wtm_at "go"
            wtm_at "if"
            · have hnl : n = piles.length := by
                have := V.int.inj (of_decide_eq_true e)
                rw [List.length_map, hP.len] at this
                omega
              wtm_at "go"
              refine ⟨tyl (SqL.of hP3.top), ?_⟩
              wtm_at "go"
              refine ⟨by show 1 ≤ sizeLine; decide, fun x nx => ?_⟩
              wtm_at "go"
              have nx0 : H x = none := kB.free nx List.not_mem_nil
              have hPx : upd H3 x (.lst [kV v]) P = some (.lst (as.map V.ref)) := fact_new nx hP3.top
              refine g_append hPx (by rw [List.length_map, hP.len]; exact small1000 (by omega)) ?_
              have xD : D ≠ x := ne_of_none hD3 nx
              have xB : B ≠ x := ne_of_none hB3 nx
              refine ⟨as ++ [x], _, _, _, _, rfl, by wtm_at "keep", by wtm_at "fact", by wtm_at "fact", ?_, fun z hz => ?_, hbd', hl', I'⟩
              · have ep : M41.put piles n v = piles ++ [[v]] := by
                  unfold M41.put
                  rw [List.getElem?_eq_none (by omega)]
                rw [hstep, ep]
                exact hP3.push nx v
              · rcases List.mem_append.mp hz with hz | hz
                · exact hfr z hz
                · rw [List.mem_singleton] at hz
                  rw [hz]
                  exact nx0
            · have hnl : n < piles.length := by
                have : ¬ (n : Int) = ((as.map V.ref).length : Int) := fun z => ofF e (by rw [z])
                rw [List.length_map, hP.len] at this
                omega
              obtain ⟨x, r, l, hx, hxr, hr, _⟩ := idx n hnl
              have xm := List.mem_of_getElem? hx
              have hx3 := hP3.row n x r hx hr
              wtm_at "go"
              refine ⟨tyl (SqL.of hx3), ?_⟩
              wtm_at "go"
              refine g_append hx3 ?_ ?_
              · have h1 : r.length ≤ piles.flatten.length := (List.sublist_flatten_of_mem (List.mem_of_getElem? hr)).length_le
                have h2 := I.len
                have h3 := List.length_filter_le (fun k => kIn k new) (old.take i)
                rw [List.length_map]
                refine small1000 ?_
                rw [List.length_take] at h3
                omega
              · have xD := (asn x xm).1
                have xB := (asn x xm).2
                have hx0 := hfr x xm
                refine ⟨as, _, _, _, _, rfl, by wtm_at "keep", by wtm_at "fact", by wtm_at "fact", ?_, hfr, hbd', hl', I'⟩
                have ep : M41.put piles n v = piles.set n (r ++ [v]) := by
                  unfold M41.put
                  rw [hr]
                rw [hstep, ep]
                exact hP3.set hx hr v
          wtm_at "go"
          wtm_at "if"
          · have hn0 : n = 0 := by
              have := V.int.inj (of_decide_eq_true e)
              omega
            wtm_at "go"
            refine g_dp hB2 (small1000 (by omega)) ?_
            exact post none (.inl ⟨hn0, rfl⟩)
          · have hn0 : n ≠ 0 := fun z => ofF e (by rw [z]; rfl)
            obtain ⟨k, rfl⟩ : ∃ k, n = k + 1 := ⟨n - 1, by omega⟩
            obtain ⟨x, r, l, hx, hxr, hr, hl, lm, lnw, hsx, hatx⟩ := idx k (by omega)
            have hatk : atI (as.map V.ref) (((k + 1 : Nat) : Int) - 1) = some (.ref x) := at_of (by omega) hxr
            wtm_at "go"
            refine g_dp hB2 (small1000 (by omega)) ?_
            refine post (some l) (.inr ⟨k, r, l, rfl, hr, hl, ?_, rfl⟩)
            have := hlow k r (by omega) hr
            rw [hl] at this
            exact this
        wtm_at "go"
        wtm_at "if"
        · have hn : n < piles.length := by
            have := of_decide_eq_true e
            rw [List.length_map, hP.len] at this
            omega
          obtain ⟨x, r, l, hx, hxr, hr, hl, lm, lnw, hsx, hat⟩ := idx n hn
          wtm_at "go"
          refine g_dg (.inl hD2) (pd.get (kIn_iff.mp lnw)) ?_
          wtm_at "go"
          refine g_dg (.inl hD2) (pd.get hcm) ?_
          wtm_at "go"
          wtm_at "if"
          · refine ⟨_, fun σ' H' h => h, ?_⟩
            wtm_at "go"
            refine ⟨_, _, rfl, rfl, ?_⟩
            have hlt := of_decide_eq_true e
            refine ⟨m - 1, by omega, rfl, n + 1, rfl, by omega, fun j r' hj hr' => ?_⟩
            by_cases ej : j = n
            · subst ej
              rw [hr] at hr'
              cases hr'
              rw [hl]
              show pl new l < pl new v
              omega
            · exact hlow j r' (by omega) hr'
          · refine exit_ fun r' hr' => ?_
            rw [hr] at hr'
            cases hr'
            rw [hl]
            have := ofF e
            show ¬ pl new l < pl new v
            omega
        · wtm_at "F"
          refine exit_ fun r' hr' => ?_
          have h1 := (List.getElem?_eq_some_iff.mp hr').1
          have := ofF e
          rw [List.length_map, hP.len] at this
          omega
    · rintro σ H2 ⟨as, kvB, bef, v5, v6, rfl, k2, hD2, hB2, hP, hfr, hbd, hbl, I⟩
      rw [List.length_map, List.take_length] at hP I
      refine hN _ _ ?_
      wtm_at "go"
      refine ⟨by show 2 ≤ sizeLine; decide, fun t nt => ?_⟩
      refine q t P B as kvB bef _ (by wtm_at "keep") upd_same nP0 hfr (hP.keep (Keep.new nt) List.not_mem_nil fun _ _ => List.not_mem_nil) (by wtm_at "fact") hbd I
end

end Ki
namespace Ki
open PySem PySem.Spec PyProof.Rows L2 Lb
/-- a row of common values in the order of both lists -/
structure UpOk (old new up : List Key) : Prop where
  mem : ∀ x, x ∈ up → x ∈ old ∧ x ∈ new
  ord : M41.Cons (fun a b => pl old a < pl old b ∧ pl new a < pl new b) up

end Ki
namespace Ki
open PySem PySem.Spec PyProof.Rows L2 Lb
theorem PilesAt.last {H : Hp} {P : Addr} {as : List Addr} {piles : List (List Key)} (h : PilesAt H P as piles) {r : List Key} {j : Nat} (hj : j + 1 = piles.length) (hr : piles[j]? = some r) : ∃ x, as[j]? = some x ∧ atI (as.map V.ref) (-1) = some (.ref x) ∧ H x = some (.lst (r.map kV)) := by
  have hl : j < as.length := by rw [h.len]; omega
  refine ⟨as[j], List.getElem?_eq_getElem hl, ?_, h.row j _ r (List.getElem?_eq_getElem hl) hr⟩
  have hne : as ≠ [] := fun z => by rw [z] at hl; simp at hl
  have e : as = as.dropLast ++ [as[j]] := by
    have e1 := (List.dropLast_concat_getLast hne).symm
    have e2 : as.getLast hne = as[j] := by
      rw [List.getLast_eq_getElem]
      congr 1
      have := h.len
      omega
    rw [e2] at e1
    exact e1
  have e3 : as.map V.ref = as.dropLast.map V.ref ++ [V.ref as[j]] := by
    conv => lhs; rw [e]
    rw [List.map_append]
    rfl
  rw [e3]
  exact atI_last _ _
section
variable {P : Program} {w : World} {K : PySem.W.Frag} {mg : Str → Option Value} {base : Heap}
def spRising (K : PySem.W.Frag) : Sp := fun vs H Q _ => ∃ (a b : Addr) (old new : List Key), vs = [.ref a, .ref b] ∧ SqL K H a (old.map kV) ∧ SqL K H b (new.map kV) ∧ old.Nodup ∧ new.Nodup ∧ old.length ≤ 1000 ∧ new.length ≤ 1000 ∧
  ∀ (p : Addr) (up : List Key) (H' : Hp), Keep [] H H' → H p = none → H' p = some (.lst (up.map kV)) → UpOk old new up → up.length = (pilesF new old).length → Q (.ref p) H'
theorem okRising (T : TX K mg) : FnOk P w K mg base CX0 3 T.fRising T.dRising ["old", "new"] (spRising K) := by
  have GP : FnOk P w K mg base CX0 2 T.fPilesOf T.dPilesOf ["old", "new"] (spPilesOf K) := okPilesOf T
  refine T.FRising.ok scRising (fun vs H Q E h => ?_) (fun cdv A outer s H vs Q E hr h => ?_)
  · obtain ⟨a, b, old, new, rfl, _⟩ := h
    rfl
  · obtain ⟨a, b, old, new, rfl, ha, hb, ndo, ndn, lo, ln, q⟩ := h
    refine ⟨_, (derRising T GP hr).2, ?_⟩
    unfold derRising
    dsimp only [cxOf, Cx.nox]
    refine Lb.seq1 fun N hN => ?_
    wtm_at "go"
    refine ⟨a, b, old, new, rfl, ha, hb, ndo, ndn, lo, ln, fun t P B as kvs bef H' k1 ht nP nas hP hB hbd I => ?_⟩
    refine ⟨t, _, rfl, SqT.of ht, rfl, _, _, rfl, _, _, rfl, rfl, ?_⟩
    refine hN _ _ ?_
    clear hN N
    generalize hpi : pilesF new old = piles at hP I
    rw [hpi] at q
    have hPs : SqL K H' P (as.map V.ref) := SqL.of hP.top
    refine Lb.seq1 fun N hN => ?_
    wtm_at "go"
    refine ⟨_, .inl ⟨_, hPs, rfl⟩, ?_⟩
    wtm_at "go"
    wtm_at "if"
    · wtm_at "go"
      refine ⟨Nat.zero_le _, fun p np => ?_⟩
      have hz : piles = [] := by
        have h1 : as.map V.ref = [] := by
          cases hh : as.map V.ref with
          | nil => rfl
          | cons x r => rw [hh] at e; simp at e
        have h2 : as.length = 0 := by
          have := congrArg List.length h1
          simpa using this
        have := hP.len
        exact List.eq_nil_of_length_eq_zero (by omega)
      refine q p [] _ (by wtm_at "keep") (k1.free np List.not_mem_nil) upd_same ⟨fun x h => by simp at h, M41.Cons.nil⟩ (by rw [hz]; rfl)
    · wtm_at "go"
      refine hN _ _ ?_
      clear hN N
      have hz : 0 < piles.length := by
        rw [← hP.len]
        cases has : as with
        | nil => rw [has] at e; simp at e
        | cons x r => simp
      obtain ⟨j, hj⟩ : ∃ j, j + 1 = piles.length := ⟨piles.length - 1, by omega⟩
      have hr := List.getElem?_eq_getElem (show j < piles.length by omega)
      generalize piles[j] = r at hr
      obtain ⟨l, hl⟩ := last_of (I.ne r (List.mem_of_getElem? hr))
      obtain ⟨x, hx, hax, hxr⟩ := hP.last hj hr
      have hxs : SqL K H' x (r.map kV) := SqL.of hxr
      have hal := atI_lastk hl
      refine Lb.seq1 fun N hN => ?_
      wtm_at "go"
      refine ⟨by show 1 ≤ sizeLine; decide, fun R nR => ?_⟩
      refine hN _ _ ?_
      clear hN N
      have nR0 : H R = none := k1.free nR List.not_mem_nil
      have BR : B ≠ R := ne_of_none hB nR
      have hB1 : upd H' R (.lst [kV l]) B = some (.dK kvs) := fact_ne BR hB
      have kR : Keep [] H (upd H' R (.lst [kV l])) := by wtm_at "keep"
      refine Lb.seq1 fun N hN => ?_
      refine ⟨fun m σ' H2 => ∃ row x, σ' = [some (.ref a), some (.ref b), some (.ref P), some (.ref B), some (.ref R)] ∧ Keep [] H H2 ∧ H2 B = some (.dK kvs) ∧ H2 R = some (.lst (row.map kV)) ∧ M41.Ch (pl new) (pl old) piles row x m,
        ⟨j, [l], l, rfl, kR, hB1, upd_same, M41.Ch.start hr hj (List.mem_of_getLast? hl)⟩, ?_⟩
      rintro m σ' H2 ⟨row, y, rfl, k2, hB2, hR2, c⟩
      have hRs : SqL K H2 R (row.map kV) := SqL.of hR2
      have hay := atI_lastk c.last
      obtain ⟨o, ho, ho0⟩ := c.some I
      have hval := hbd y o ho
      wtm_at "go"
      refine g_dg (.inl hB2) hval ?_
      refine ⟨rfl, ?_⟩
      wtm_at "go"
      cases o with
      | none =>
        refine ifbF rfl ?_
        refine hN _ _ ?_
        wtm_at "go"
        refine ⟨R, _, rfl, hRs, fun p np => ?_⟩
        have hm := ho0 rfl
        subst hm
        refine q p row.reverse _ (by wtm_at "keep") (k2.free np List.not_mem_nil) (by rw [upd_same, List.map_reverse]) ⟨fun z hz => ?_, ?_⟩ (by have := c.len; rw [List.length_reverse]; omega)
        · have h1 := (I.mem z).mp (c.mem z (List.mem_reverse.mp hz))
          exact ⟨h1.1, kIn_iff.mp h1.2⟩
        · exact c.con.rev.mono fun a b h => h
      | some u =>
        refine ifbT (by cases u <;> rfl) ?_
        refine ⟨_, fun σ' H3 h => h, ?_⟩
        wtm_at "go"
        refine ⟨tyl hRs, ?_⟩
        wtm_at "go"
        refine g_dg (.inl hB2) hval ?_
        wtm_at "go"
        obtain ⟨i, hi, c'⟩ := c.next I ho
        have hlen : row.length ≤ 1000 := by
          have h1 := c.len
          have h2 := pilesF_le new old []
          have h3 : (pilesF new old).length ≤ 0 + old.length := h2
          rw [hpi] at h3
          omega
        refine g_append hR2 (by rw [List.length_map]; exact small1000 hlen) ?_
        refine ⟨i, by omega, row ++ [u], u, rfl, by wtm_at "keep", fact_ne BR hB2, ?_, c'⟩
        rw [upd_same, List.map_append]
        rfl
end

end Ki
namespace Ki
open PySem PySem.Spec PyProof.Rows L2 Lb
/-! the greatest number of rising values is the number of falling lists -/
theorem atP_spec (p : Key → Nat) (v : Key) : ∀ ls : List (List Key), atP p v ls ≤ ls.length ∧ (∀ (j : Nat) r, j < atP p v ls → ls[j]? = some r → p ((r.getLast?).getD v) < p v) ∧ (∀ r, ls[atP p v ls]? = some r → ¬ p ((r.getLast?).getD v) < p v)
  | [] => ⟨Nat.le_refl _, fun j r h => absurd h (Nat.not_lt_zero _), fun r h => by simp [atP] at h⟩
  | r :: rs => by
    have ih := atP_spec p v rs
    by_cases h : p ((r.getLast?).getD v) < p v
    · have e : atP p v (r :: rs) = atP p v rs + 1 := by
        show (if p ((r.getLast?).getD v) < p v then _ else _) = _
        rw [if_pos h]
      rw [e]
      refine ⟨by rw [List.length_cons]; omega, fun j r' hj hr => ?_, fun r' hr => ih.2.2 r' (by simpa using hr)⟩
      cases j with
      | zero =>
        have e2 : r = r' := by simpa using hr
        rw [← e2]
        exact h
      | succ j => exact ih.2.1 j r' (by omega) (by simpa using hr)
    · have e : atP p v (r :: rs) = 0 := by
        show (if p ((r.getLast?).getD v) < p v then _ else _) = _
        rw [if_neg h]
      rw [e]
      refine ⟨Nat.zero_le _, fun j r' hj => absurd hj (Nat.not_lt_zero _), fun r' hr => ?_⟩
      have e2 : r = r' := by simpa using hr
      rw [← e2]
      exact h
/-- the last one of a falling list is its least -/
theorem last_least {p : Key → Nat} {r : List Key} {l : Key} (h : M41.Cons (fun a b => p b < p a) r) (hl : r.getLast? = some l) : ∀ x, x ∈ r → p l ≤ p x := by
  have key : ∀ (d i : Nat) (x : Key), i + d + 1 = r.length → r[i]? = some x → p l ≤ p x := by
    intro d
    induction d with
    | zero =>
      intro i x hi hx
      have e : r.getLast? = some x := by rw [List.getLast?_eq_getElem?, ← hx]; congr 1; omega
      rw [hl] at e
      cases e
      exact Nat.le_refl _
    | succ d ih =>
      intro i x hi hx
      have hlt : i + 1 < r.length := by omega
      have hy := List.getElem?_eq_getElem hlt
      have h1 := ih (i + 1) _ (by omega) hy
      have h2 := h i x _ hx hy
      omega
  intro x hx
  obtain ⟨i, hi⟩ := List.mem_iff_getElem?.mp hx
  have hlt := (List.getElem?_eq_some_iff.mp hi).1
  exact key (r.length - 1 - i) i x (by omega) hi
/-- the k-th one of the numbers: its best is one more than the best below it, ahead of it -/
def BestAt (ps bs : List Nat) (k : Nat) : Prop := ∃ m : Nat, bs[k]? = some (m + 1) ∧ (∀ (j x y b : Nat), j < k → ps[j]? = some x → ps[k]? = some y → x < y → bs[j]? = some b → b ≤ m) ∧
  (m = 0 ∨ ∃ (j x y : Nat), j < k ∧ ps[j]? = some x ∧ ps[k]? = some y ∧ x < y ∧ bs[j]? = some m)
structure LX (p : Key → Nat) (cs : List Key) (bs : List Nat) (piles : List (List Key)) : Prop where
  inc : ∀ (i j : Nat) ri rj li lj, i < j → piles[i]? = some ri → piles[j]? = some rj → ri.getLast? = some li → rj.getLast? = some lj → p li < p lj
  best : ∀ (j : Nat) r x (k : Nat), piles[j]? = some r → x ∈ r → cs[k]? = some x → bs[k]? = some (j + 1)
theorem filter_take_at {old : List Key} {C : Key → Bool} {i : Nat} {v : Key} (h : old[i]? = some v) (hc : C v = true) : (old.filter C)[((old.take i).filter C).length]? = some v := by
  have e : old = old.take i ++ v :: old.drop (i + 1) := by
    have h0 := (List.take_append_drop i old).symm
    have hlt := (List.getElem?_eq_some_iff.mp h).1
    have h2 : old.drop i = v :: old.drop (i + 1) := by
      rw [List.drop_eq_getElem_cons hlt]
      congr 1
      exact (List.getElem?_eq_some_iff.mp h).2
    rw [h2] at h0
    exact h0
  have e2 : old.filter C = (old.take i).filter C ++ v :: (old.drop (i + 1)).filter C := by
    conv => lhs; rw [e]
    rw [List.filter_append, List.filter_cons_of_pos hc]
  rw [e2, List.getElem?_append_right (Nat.le_refl _), Nat.sub_self]
  rfl
theorem piles_best {old new : List Key} (ndo : old.Nodup) (ndn : new.Nodup) {bs : List Nat} (hb : ∀ k, k < (old.filter fun k => kIn k new).length → BestAt ((old.filter fun k => kIn k new).map (pl new)) bs k) :
    ∀ i, i ≤ old.length → (∃ bef, M41.PI (pl new) (pl old) (fun k => kIn k new) (old.take i) (pilesF new (old.take i)) bef) ∧ LX (pl new) (old.filter fun k => kIn k new) bs (pilesF new (old.take i)) := by
  intro i
  induction i with
  | zero => exact fun _ => ⟨⟨_, M41.PI.start _ _ _⟩, ⟨fun i j ri rj li lj h h1 => by simp [pilesF] at h1, fun j r x k h => by simp [pilesF] at h⟩⟩
  | succ i ih =>
    intro hi
    obtain ⟨⟨bef, I⟩, X⟩ := ih (by omega)
    have hv := List.getElem?_eq_getElem (show i < old.length by omega)
    generalize old[i] = v at hv
    rw [take_snoc hv, pilesF_snoc]
    unfold stepF
    by_cases hc : kIn v new = true
    · rw [if_pos hc]
      have hcm := kIn_iff.mp hc
      obtain ⟨s1, s2, s3⟩ := atP_spec (pl new) v (pilesF new (old.take i))
      generalize hpi : pilesF new (old.take i) = piles at I X s1 s2 s3
      generalize hat : atP (pl new) v piles = n at s1 s2 s3
      have vn : v ∉ old.take i := nodup_take ndo hv
      have hq : ∀ x, x ∈ old.take i → pl old x < pl old v := fun x hx => by
        obtain ⟨j, hj⟩ := List.mem_iff_getElem?.mp hx
        have jl := (List.getElem?_eq_some_iff.mp hj).1
        rw [List.length_take] at jl
        rw [List.getElem?_take_of_lt (by omega)] at hj
        rw [pl_at ndo hj, pl_at ndo hv]
        omega
      have hl : ∀ (j : Nat) r, piles[j]? = some r → ∃ l, r.getLast? = some l ∧ l ∈ r := fun j r hr => by
        have hne := I.ne r (List.mem_of_getElem? hr)
        cases e : r.getLast? with
        | none => exact absurd (List.getLast?_eq_none_iff.mp e) hne
        | some l => exact ⟨l, rfl, List.mem_of_getLast? e⟩
      have lowest : ∀ (j : Nat) r l, piles[j]? = some r → r.getLast? = some l → ∀ x, x ∈ r → pl new l ≤ pl new x := fun j r l hr e => last_least ((I.ord r (List.mem_of_getElem? hr)).mono fun a b h => h.2) e
      have inP : ∀ (j : Nat) r x, piles[j]? = some r → x ∈ r → x ∈ old.take i ∧ kIn x new = true := fun j r x hr hx => (I.mem x).mp (M41.mem_flat.mpr ⟨j, r, hr, hx⟩)
      have low : ∀ (j : Nat) r l, j < n → piles[j]? = some r → r.getLast? = some l → pl new l < pl new v := fun j r l hj hr e => by
        have := s2 j r hj hr
        rw [e] at this
        exact this
      have high : ∀ r l, piles[n]? = some r → r.getLast? = some l → pl new v < pl new l := fun r l hr e => by
        have h1 := s3 r hr
        rw [e] at h1
        have h1' : ¬ pl new l < pl new v := h1
        have lm := List.mem_of_getLast? e
        have h2 := inP n r l hr lm
        have h3 : pl new l ≠ pl new v := fun z => vn (pl_inj (kIn_iff.mp h2.2) hcm z ▸ h2.1)
        omega
      refine ⟨⟨fun k => if k = v then some (match n with | 0 => none | m + 1 => (piles[m]?).bind List.getLast?) else bef k, I.turn hc vn hq (fun x hx he => pl_inj (kIn_iff.mp hx) hcm he) s1 (fun r l hr e => by have := high r l hr e; omega) ?_ (fun x hx => if_neg hx)⟩, ?_, ?_⟩
      · cases n with
        | zero => exact .inl ⟨rfl, if_pos rfl⟩
        | succ m =>
          have hml : m < piles.length := by omega
          have hr := List.getElem?_eq_getElem hml
          obtain ⟨l, e, lm⟩ := hl m _ hr
          refine .inr ⟨m, _, l, rfl, hr, e, low m _ l (by omega) hr e, ?_⟩
          show (if v = v then some ((piles[m]?).bind List.getLast?) else bef v) = some (some l)
          rw [if_pos rfl, hr]
          show some (piles[m].getLast?) = some (some l)
          rw [e]
      · -- the lasts rise
        have lastof : ∀ (j : Nat) r l, (M41.put piles n v)[j]? = some r → r.getLast? = some l → (j ≠ n ∧ ∃ r0, piles[j]? = some r0 ∧ r0.getLast? = some l) ∨ (j = n ∧ l = v) := fun j r l hj e => by
          rcases M41.put_len s1 j r hj with ⟨a, b⟩ | ⟨rfl, ⟨_, rfl⟩ | ⟨r0, _, rfl⟩⟩
          · exact .inl ⟨a, r, b, e⟩
          · refine .inr ⟨rfl, ?_⟩
            simpa using e.symm
          · refine .inr ⟨rfl, ?_⟩
            simpa using e.symm
        intro a b ra rb la lb hab ha hb' ea eb
        rcases lastof a ra la ha ea with ⟨na, r0, h0, e0⟩ | ⟨rfl, rfl⟩
        · rcases lastof b rb lb hb' eb with ⟨nb, r1, h1, e1⟩ | ⟨rfl, rfl⟩
          · exact X.inc a b r0 r1 la lb hab h0 h1 e0 e1
          · exact low a r0 la hab h0 e0
        · rcases lastof b rb lb hb' eb with ⟨nb, r1, h1, e1⟩ | ⟨rfl, rfl⟩
          · -- a = n < b: piles[n] is there
            have hnl : a < piles.length := by
              have := (List.getElem?_eq_some_iff.mp h1).1
              omega
            have hr := List.getElem?_eq_getElem hnl
            obtain ⟨l, e, _⟩ := hl a _ hr
            have h2 := high _ l hr e
            have h3 := X.inc a b _ r1 l lb hab hr h1 e e1
            omega
          · omega
      · -- the bests
        have old_best : ∀ (j : Nat) r x (k : Nat), piles[j]? = some r → x ∈ r → (old.filter fun k => kIn k new)[k]? = some x → bs[k]? = some (j + 1) := X.best
        have hk := filter_take_at (C := fun k => kIn k new) hv hc
        have new_best : bs[((old.take i).filter fun k => kIn k new).length]? = some (n + 1) := by
          generalize hK : ((old.take i).filter fun k => kIn k new).length = kk at hk
          have hkl := (List.getElem?_eq_some_iff.mp hk).1
          obtain ⟨m, h1, h2, h3⟩ := hb kk hkl
          have pk : ((old.filter fun k => kIn k new).map (pl new))[kk]? = some (pl new v) := by rw [List.getElem?_map, hk]; rfl
          have before : ∀ (j : Nat) x, j < kk → (old.filter fun k => kIn k new)[j]? = some x → x ∈ old.take i ∧ kIn x new = true := fun j x hj hx => by
            have e : old.filter (fun k => kIn k new) = (old.take i).filter (fun k => kIn k new) ++ (old.drop i).filter (fun k => kIn k new) := by rw [← List.filter_append, List.take_append_drop]
            rw [e, List.getElem?_append_left (by rw [hK]; exact hj)] at hx
            exact List.mem_filter.mp (List.mem_of_getElem? hx)
          have where_ : ∀ x, x ∈ old.take i → kIn x new = true → ∃ (j : Nat) (r : List Key), piles[j]? = some r ∧ x ∈ r := fun x hx hc => M41.mem_flat.mp ((I.mem x).mpr ⟨hx, hc⟩)
          have le1 : m ≤ n := by
            rcases h3 with rfl | ⟨j, px, py, hj, hx, hy, hlt, hbj⟩
            · exact Nat.zero_le _
            · rw [List.getElem?_map] at hx
              obtain ⟨x, hxx, rfl⟩ := Option.map_eq_some_iff.mp hx
              rw [pk] at hy
              cases hy
              obtain ⟨hxo, hxc⟩ := before j x hj hxx
              obtain ⟨jj, r, hr, hxr⟩ := where_ x hxo hxc
              have e1 := old_best jj r x j hr hxr hxx
              rw [hbj] at e1
              have e2 : m = jj + 1 := Option.some.inj e1
              obtain ⟨l, e, lm⟩ := hl jj r hr
              have h4 := lowest jj r l hr e x hxr
              by_cases hjn : jj < n
              · omega
              · exfalso
                have hnl : n < piles.length := by
                  have := (List.getElem?_eq_some_iff.mp hr).1
                  omega
                have hrn := List.getElem?_eq_getElem hnl
                obtain ⟨l2, e3, _⟩ := hl n _ hrn
                have h5 := high _ l2 hrn e3
                by_cases hjj : jj = n
                · subst hjj
                  rw [hr] at hrn
                  cases hrn
                  rw [e] at e3
                  cases e3
                  omega
                · have h6 := X.inc n jj _ r l2 l (by omega) hrn hr e3 e
                  omega
          have le2 : n ≤ m := by
            cases n with
            | zero => exact Nat.zero_le _
            | succ n' =>
              have hml : n' < piles.length := by omega
              have hr := List.getElem?_eq_getElem hml
              obtain ⟨l, e, lm⟩ := hl n' _ hr
              have h4 := low n' _ l (by omega) hr e
              have h5 := inP n' _ l hr lm
              -- l's place among the common ones
              obtain ⟨jl, hjl⟩ := List.mem_iff_getElem?.mp (List.mem_filter (p := fun k => kIn k new).mpr h5)
              have jlt := (List.getElem?_eq_some_iff.mp hjl).1
              have hjl2 : (old.filter fun k => kIn k new)[jl]? = some l := by
                have e : old.filter (fun k => kIn k new) = (old.take i).filter (fun k => kIn k new) ++ (old.drop i).filter (fun k => kIn k new) := by rw [← List.filter_append, List.take_append_drop]
                rw [e, List.getElem?_append_left jlt]
                exact hjl
              have hbl := old_best n' _ l jl hr lm hjl2
              exact h2 jl (pl new l) (pl new v) (n' + 1) (by omega) (by rw [List.getElem?_map, hjl2]; rfl) pk h4 hbl
          rw [h1]
          congr 1
          omega
        intro j r x k hj hx hkx
        rcases M41.put_len s1 j r hj with ⟨_, b⟩ | ⟨rfl, b⟩
        · exact old_best j r x k b hx hkx
        · have isv : x = v → bs[k]? = some (j + 1) := fun e => by
            subst e
            have e2 : k = ((old.take i).filter fun k => kIn k new).length := nd_ix (ndo.filter _) hkx hk
            rw [e2]
            exact new_best
          rcases b with ⟨_, rfl⟩ | ⟨r0, h0, rfl⟩
          · exact isv (by simpa using hx)
          · rcases List.mem_append.mp hx with hx | hx
            · exact old_best j r0 x k h0 hx hkx
            · exact isv (by simpa using hx)
    · rw [if_neg hc]
      have hc' : kIn v new = false := by simpa using hc
      exact ⟨⟨bef, I.skip hc'⟩, X⟩
/-- the greatest of the bests is the number of the falling lists -/
theorem most_piles {old new : List Key} (ndo : old.Nodup) (ndn : new.Nodup) {bs : List Nat} (lb : bs.length = (old.filter fun k => kIn k new).length) (hb : ∀ k, k < (old.filter fun k => kIn k new).length → BestAt ((old.filter fun k => kIn k new).map (pl new)) bs k) {m : Nat}
    (h1 : ∀ b, b ∈ bs → b ≤ m) (h2 : m = 0 ∨ m ∈ bs) : m = (pilesF new old).length := by
  obtain ⟨⟨bef, I⟩, X⟩ := piles_best ndo ndn hb old.length (Nat.le_refl _)
  rw [List.take_length] at I X
  have le1 : m ≤ (pilesF new old).length := by
    rcases h2 with rfl | h2
    · exact Nat.zero_le _
    · obtain ⟨k, hk⟩ := List.mem_iff_getElem?.mp h2
      have hkl := (List.getElem?_eq_some_iff.mp hk).1
      rw [lb] at hkl
      have hx := List.getElem?_eq_getElem hkl
      have hxm := List.mem_filter.mp (List.getElem_mem hkl)
      obtain ⟨j, r, hr, hxr⟩ := M41.mem_flat.mp ((I.mem _).mpr hxm)
      have e := X.best j r _ k hr hxr hx
      rw [hk] at e
      have := Option.some.inj e
      have := (List.getElem?_eq_some_iff.mp hr).1
      omega
  have le2 : (pilesF new old).length ≤ m := by
    cases hl : (pilesF new old).length with
    | zero => exact Nat.zero_le _
    | succ n =>
      have hlt : n < (pilesF new old).length := by omega
      have hr := List.getElem?_eq_getElem hlt
      have hne := I.ne _ (List.getElem_mem hlt)
      obtain ⟨x, hx⟩ := List.exists_mem_of_ne_nil _ hne
      have hxm := (I.mem x).mp (M41.mem_flat.mpr ⟨n, _, hr, hx⟩)
      obtain ⟨k, hk⟩ := List.mem_iff_getElem?.mp (List.mem_filter (p := fun k => kIn k new).mpr hxm)
      have e := X.best n _ x k hr hx hk
      exact h1 _ (List.mem_of_getElem? e)
  omega

end Ki
namespace Ki
open PySem PySem.Spec PyProof.Rows L2 Lb
instance (priority := high) keyBEq : BEq Key := instBEqOfDecidableEq
instance keyLawful : LawfulBEq Key := inferInstanceAs (@LawfulBEq Key instBEqOfDecidableEq)
/-- an edit -/
inductive Ed where
  | drop (v : Key)
  | put (v : Key) (t : Option Key)
  | move (v : Key) (t : Option Key)
def apE (row : List Key) : Ed → List Key
  | .drop v => row.erase v
  | .put v t => M43.ins row v t
  | .move v t => M43.ins (row.erase v) v t
def okT (row : List Key) (v : Key) (t : Option Key) : Prop := ∀ u, t = some u → u ∈ row ∧ u ≠ v
def okE (row : List Key) : Ed → Prop
  | .drop v => v ∈ row
  | .put v t => v ∉ row ∧ okT row v t
  | .move v t => v ∈ row ∧ okT row v t
inductive Run : List Key → List Ed → List Key → Prop where
  | nil (r : List Key) : Run r [] r
  | cons {r r' : List Key} {e : Ed} {es : List Ed} : okE r e → Run (apE r e) es r' → Run r (e :: es) r'
theorem Run.append {a b c : List Key} {es fs : List Ed} (h : Run a es b) (h' : Run b fs c) : Run a (es ++ fs) c := by
  induction h with
  | nil r => exact h'
  | cons o _ ih => exact .cons o (ih h')
def dropsF (old new : List Key) : List Ed := (old.filter fun k => !kIn k new).map .drop
def mkE (old kept : List Key) : List Key → Option Key → List Ed
  | [], _ => []
  | v :: r, t => (if kIn v old = true then (if kIn v kept = true then [] else [.move v t]) else [.put v t]) ++ mkE old kept r (some v)
def editsF (old new kept : List Key) : List Ed := dropsF old new ++ mkE old kept new.reverse none
theorem beq_key (a b : Key) : (a == b) = decide (a = b) := rfl
theorem run_drops : ∀ (ds row : List Key), row.Nodup → ds.Nodup → (∀ d, d ∈ ds → d ∈ row) → Run row (ds.map .drop) (row.filter fun k => !kIn k ds)
  | [], row, _, _, _ => by
    have e : row.filter (fun k => !kIn k []) = row := List.filter_eq_self.mpr fun a _ => rfl
    rw [e]
    exact .nil row
  | d :: ds, row, nr, nd, h => by
    have nd' := List.nodup_cons.mp nd
    refine .cons (h d (by simp)) ?_
    show Run (row.erase d) (ds.map .drop) _
    have h2 := run_drops ds (row.erase d) (nr.erase d) nd'.2 fun x hx => (List.Nodup.mem_erase_iff nr).mpr ⟨fun z => nd'.1 (z ▸ hx), h x (by simp [hx])⟩
    have e : (row.erase d).filter (fun k => !kIn k ds) = row.filter (fun k => !kIn k (d :: ds)) := by
      rw [List.Nodup.erase_eq_filter nr d, List.filter_filter]
      refine List.filter_congr fun x _ => ?_
      show ((!kIn x ds) && (x != d)) = !(decide (d = x) || kIn x ds)
      by_cases hx : d = x
      · subst hx
        have e1 : (d != d) = false := by rw [bne, beq_key, decide_eq_true rfl]; rfl
        rw [e1, decide_eq_true rfl]
        simp
      · have e1 : (x != d) = true := by rw [bne, beq_key, decide_eq_false fun z => hx z.symm]; rfl
        rw [e1, decide_eq_false hx]
        simp
    rw [e] at h2
    exact h2
theorem cons_pw {R : Key → Key → Prop} (tr : ∀ a b c, R a b → R b c → R a c) : ∀ {l : List Key}, M41.Cons R l → l.Pairwise R
  | [], _ => .nil
  | [a], _ => List.pairwise_singleton _ _
  | a :: b :: r, h => by
    have h1 : M41.Cons R (b :: r) := fun i x y hx hy => h (i + 1) x y (by simpa using hx) (by simpa using hy)
    have ih := cons_pw tr h1
    have hab : R a b := h 0 a b rfl rfl
    refine List.pairwise_cons.mpr ⟨fun c hc => ?_, ih⟩
    rcases List.mem_cons.mp hc with rfl | hc
    · exact hab
    · exact tr a b c hab ((List.pairwise_cons.mp ih).1 c hc)
theorem UpOk.pw {old new up : List Key} (h : UpOk old new up) : up.Pairwise fun a b => pl old a < pl old b ∧ pl new a < pl new b := cons_pw (fun a b c h1 h2 => ⟨by omega, by omega⟩) h.ord
theorem bef_pl {l : List Key} {a b : Key} (ha : a ∈ l) (hb : b ∈ l) (h : pl l a < pl l b) : M43.Bef l a b := by
  have h1 := pl_get ha
  have h2 := pl_get hb
  generalize pl l a = i at h h1
  generalize pl l b = j at h h2
  have e := (List.take_append_drop j l)
  have m1 : a ∈ l.take j := List.mem_iff_getElem?.mpr ⟨i, by rw [List.getElem?_take_of_lt h]; exact h1⟩
  have m2 : b ∈ l.drop j := List.mem_iff_getElem?.mpr ⟨0, by rw [List.getElem?_drop, Nat.add_zero]; exact h2⟩
  have := M43.bef_of m1 m2
  rw [e] at this
  exact this
theorem run_mk {old new kept : List Key} (no : old.Nodup) (nn : new.Nodup) (up : UpOk old new kept) : ∀ (r S row : List Key), new = r.reverse ++ S → M43.St old new kept S row r.reverse → Run row (mkE old kept r S.head?) new
  | [], S, row, e, h => by
    have e' : new = S := by simpa using e
    subst e'
    rw [h.done nn]
    exact .nil _
  | v :: r, S, row, e, h => by
    have e2 : new = r.reverse ++ v :: S := by simpa using e
    have er : (v :: r).reverse = r.reverse ++ [v] := by simp
    rw [er] at h
    have vnew : v ∈ new := by rw [e2]; simp
    have nd2 : (r.reverse ++ v :: S).Nodup := e2 ▸ nn
    have nd3 := List.nodup_append.mp nd2
    have vS : v ∉ S := (List.nodup_cons.mp nd3.2.1).1
    have vp : v ∉ r.reverse := fun m => nd3.2.2 v m v (by simp) rfl
    have hd : ∀ u, S.head? = some u → u ∈ S := fun u hu => List.mem_of_head? hu
    have okt : okT row v S.head? := fun u hu => ⟨(h.mem u).mpr (.inr (hd u hu)), fun z => vS (z ▸ hd u hu)⟩
    have hk : ∀ w, w ∈ kept → w ∈ row := fun w hw => (h.mem w).mpr (.inl (up.mem w hw))
    show Run row ((if kIn v old = true then (if kIn v kept = true then [] else [.move v S.head?]) else [.put v S.head?]) ++ mkE old kept r (some v)) new
    by_cases vo : kIn v old = true
    · rw [if_pos vo]
      have vom := kIn_iff.mp vo
      by_cases vk : kIn v kept = true
      · rw [if_pos vk]
        have vkm := kIn_iff.mp vk
        refine run_mk no nn up r (v :: S) row e2 (h.keep vkm ⟨vom, vnew⟩ fun w hw hp => ?_)
        -- w stands ahead of v
        have pw := up.pw
        have ppw := h.kep
        obtain ⟨i, hi⟩ := List.mem_iff_getElem?.mp hw
        obtain ⟨j, hj⟩ := List.mem_iff_getElem?.mp vkm
        have il := (List.getElem?_eq_some_iff.mp hi)
        have jl := (List.getElem?_eq_some_iff.mp hj)
        have hwv : pl new w < pl new v := by
          obtain ⟨a, ha⟩ := List.mem_iff_getElem?.mp hp
          have hal := (List.getElem?_eq_some_iff.mp ha).1
          have h1 : new[a]? = some w := by rw [e2, List.getElem?_append_left hal]; exact ha
          have h2 : new[r.reverse.length]? = some v := by rw [e2, List.getElem?_append_right (Nat.le_refl _), Nat.sub_self]; rfl
          rw [pl_at nn h1, pl_at nn h2]
          exact hal
        rcases Nat.lt_trichotomy i j with hij | hij | hij
        · have := List.pairwise_iff_getElem.mp ppw i j il.1 jl.1 hij
          rw [il.2, jl.2] at this
          exact this
        · subst hij
          rw [hi] at hj
          cases hj
          omega
        · have := List.pairwise_iff_getElem.mp pw j i jl.1 il.1 hij
          rw [il.2, jl.2] at this
          omega
      · rw [if_neg vk]
        have vkm : v ∉ kept := fun m => vk (kIn_iff.mpr m)
        have vrow : v ∈ row := (h.mem v).mpr (.inl ⟨vom, vnew⟩)
        refine .cons ⟨vrow, okt⟩ ?_
        show Run (M43.ins (row.erase v) v S.head?) (mkE old kept r (some v)) new
        refine run_mk no nn up r (v :: S) _ e2 (M43.St.put (h.nd.erase v) (fun m => ((List.Nodup.mem_erase_iff h.nd).mp m).1 rfl) (fun x => ?_) ?_ ?_ ?_ ?_ fun _ => vnew)
        · rw [List.Nodup.mem_erase_iff h.nd, h.mem x]
          constructor
          · rintro ⟨ne, z | z⟩
            · exact .inl ⟨z, ne⟩
            · exact .inr z
          · rintro (⟨z, ne⟩ | z)
            · exact ⟨ne, .inl z⟩
            · exact ⟨fun y => vS (y ▸ z), .inr z⟩
        · refine List.Pairwise.imp_of_mem (fun {a b} ha hb hab => hab.erase h.nd (fun y => vS (by rw [← y]; exact ha)) fun y => vS (by rw [← y]; exact hb)) h.ord
        · refine List.Pairwise.imp_of_mem (fun {a b} ha hb hab => hab.erase h.nd (fun y => vkm (by rw [← y]; exact ha)) fun y => vkm (by rw [← y]; exact hb)) h.kep
        · exact fun w hw hp s hs => (h.ahead w hw (by simp [hp]) s hs).erase h.nd (fun y => vkm (by rw [← y]; exact hw)) fun y => vS (by rw [← y]; exact hs)
        · exact fun w hw => (List.Nodup.mem_erase_iff h.nd).mpr ⟨fun y => vkm (y ▸ hw), hk w hw⟩
    · rw [if_neg vo]
      have vom : v ∉ old := fun m => vo (kIn_iff.mpr m)
      have vrow : v ∉ row := fun m => by
        rcases (h.mem v).mp m with z | z
        · exact vom z.1
        · exact vS z
      refine .cons ⟨vrow, okt⟩ ?_
      show Run (M43.ins row v S.head?) (mkE old kept r (some v)) new
      refine run_mk no nn up r (v :: S) _ e2 (M43.St.put h.nd vrow (fun x => ?_) h.ord h.kep (fun w hw hp s hs => h.ahead w hw (by simp [hp]) s hs) hk fun _ => vnew)
      rw [h.mem x]
      constructor
      · rintro (z | z)
        · exact .inl ⟨z, fun y => vom (y ▸ z.1)⟩
        · exact .inr z
      · rintro (⟨z, _⟩ | z)
        · exact .inl z
        · exact .inr z
theorem run_edits {old new kept : List Key} (no : old.Nodup) (nn : new.Nodup) (up : UpOk old new kept) : Run old (editsF old new kept) new := by
  have h1 := run_drops (old.filter fun k => !kIn k new) old no (no.filter _) fun d hd => (List.mem_filter.mp hd).1
  refine h1.append ?_
  have e1 : old.filter (fun k => !kIn k (old.filter fun k => !kIn k new)) = old.filter fun k => kIn k new := by
    refine List.filter_congr fun x hx => ?_
    cases h : kIn x new with
    | true =>
      have : kIn x (old.filter fun k => !kIn k new) = false := kIn_no.mpr fun m => by
        have := (List.mem_filter.mp m).2
        rw [h] at this
        cases this
      rw [this]
      rfl
    | false =>
      have : kIn x (old.filter fun k => !kIn k new) = true := kIn_iff.mpr (List.mem_filter.mpr ⟨hx, by rw [h]; rfl⟩)
      rw [this]
      rfl
  rw [e1]
  have st : M43.St old new kept [] (old.filter fun k => kIn k new) new.reverse.reverse := by
    refine ⟨no.filter _, fun x => ?_, .nil, ?_, fun w _ _ s hs => by simp at hs⟩
    · rw [List.mem_filter, kIn_iff]
      exact ⟨.inl, fun z => z.elim id fun y => by simp at y⟩
    · refine List.Pairwise.imp_of_mem (fun {a b} ha hb hab => ?_) up.pw
      have h2 := (bef_pl (up.mem a ha).1 (up.mem b hb).1 hab.1).filter (fun k => kIn k new)
      have e2 : [a, b].filter (fun k => kIn k new) = [a, b] := by
        rw [List.filter_eq_self]
        intro x hx
        rcases List.mem_cons.mp hx with rfl | hx
        · exact kIn_iff.mpr (up.mem _ ha).2
        · rw [List.mem_singleton] at hx
          subst hx
          exact kIn_iff.mpr (up.mem _ hb).2
      rw [e2] at h2
      exact h2
  have := run_mk no nn up new.reverse [] _ (by simp) st
  exact this
/-- the values that are dropped or put -/
def soloE : Ed → Option Key
  | .drop v => some v
  | .put v _ => some v
  | .move _ _ => none
def movesE (es : List Ed) : Nat := (es.filter fun e => (soloE e).isNone).length
theorem solo_drops (old new : List Key) : (dropsF old new).filterMap soloE = old.filter fun k => !kIn k new := by
  unfold dropsF
  rw [List.filterMap_map]
  exact List.filterMap_some
theorem moves_drops (old new : List Key) : movesE (dropsF old new) = 0 := by
  unfold movesE dropsF
  rw [List.length_eq_zero_iff, List.filter_eq_nil_iff]
  intro e he
  obtain ⟨v, _, rfl⟩ := List.mem_map.mp he
  simp [soloE]
theorem movesE_append (a b : List Ed) : movesE (a ++ b) = movesE a + movesE b := by unfold movesE; rw [List.filter_append, List.length_append]
theorem solo_mk (old kept : List Key) : ∀ (r : List Key) (t : Option Key), (mkE old kept r t).filterMap soloE = r.filter fun k => !kIn k old
  | [], _ => rfl
  | v :: r, t => by
    show (((if kIn v old = true then (if kIn v kept = true then [] else [Ed.move v t]) else [Ed.put v t]) : List Ed) ++ mkE old kept r (some v)).filterMap soloE = _
    rw [List.filterMap_append, solo_mk old kept r]
    cases h : kIn v old with
    | true =>
      rw [if_pos rfl, List.filter_cons_of_neg (by rw [h]; simp)]
      cases h2 : kIn v kept <;> rfl
    | false =>
      rw [if_neg Bool.false_ne_true, List.filter_cons_of_pos (by rw [h]; rfl)]
      rfl
theorem moves_mk (old kept : List Key) : ∀ (r : List Key) (t : Option Key), movesE (mkE old kept r t) = (r.filter fun k => kIn k old && !kIn k kept).length
  | [], _ => rfl
  | v :: r, t => by
    show movesE ((if kIn v old = true then (if kIn v kept = true then [] else [.move v t]) else [.put v t]) ++ mkE old kept r (some v)) = _
    rw [movesE_append, moves_mk old kept r]
    cases h : kIn v old with
    | true =>
      rw [if_pos rfl]
      cases h2 : kIn v kept with
      | true =>
        rw [if_pos rfl, List.filter_cons_of_neg (by rw [h, h2]; simp)]
        show 0 + _ = _
        omega
      | false =>
        rw [if_neg Bool.false_ne_true, List.filter_cons_of_pos (by rw [h, h2]; rfl), List.length_cons]
        show 1 + _ = _
        omega
    | false =>
      rw [if_neg Bool.false_ne_true, List.filter_cons_of_neg (by rw [h]; simp)]
      show 0 + _ = _
      omega
theorem UpOk.nd {old new up : List Key} (h : UpOk old new up) : up.Nodup := h.pw.imp fun {a b} hab z => by subst z; omega
theorem moves_edits {old new kept : List Key} (no : old.Nodup) (nn : new.Nodup) (up : UpOk old new kept) : movesE (editsF old new kept) + kept.length = (old.filter fun k => kIn k new).length := by
  unfold editsF
  rw [movesE_append, moves_drops, moves_mk, Nat.zero_add]
  have e1 : (new.reverse.filter fun k => kIn k old && !kIn k kept).length + kept.length = (new.filter fun k => kIn k old).length := by
    rw [List.filter_reverse, List.length_reverse]
    have p1 : (new.filter fun k => kIn k old).Perm ((new.filter fun k => kIn k old && !kIn k kept) ++ kept) := by
      refine (List.perm_ext_iff_of_nodup (nn.filter _) ?_).mpr fun x => ?_
      · rw [List.nodup_append]
        exact ⟨nn.filter _, up.nd, fun a ha b hb z => by
          subst z
          have := (List.mem_filter.mp ha).2
          rw [kIn_iff.mpr hb] at this
          simp at this⟩
      · rw [List.mem_append, List.mem_filter, List.mem_filter]
        constructor
        · rintro ⟨a, b⟩
          by_cases hx : x ∈ kept
          · exact .inr hx
          · exact .inl ⟨a, by rw [b, kIn_no.mpr hx]; rfl⟩
        · rintro (⟨a, b⟩ | b)
          · refine ⟨a, ?_⟩
            cases h : kIn x old with
            | true => rfl
            | false => rw [h] at b; simp at b
          · exact ⟨(up.mem x b).2, kIn_iff.mpr (up.mem x b).1⟩
    rw [p1.length_eq, List.length_append]
  rw [e1]
  have p2 : (new.filter fun k => kIn k old).Perm (old.filter fun k => kIn k new) := by
    refine (List.perm_ext_iff_of_nodup (nn.filter _) (no.filter _)).mpr fun x => ?_
    rw [List.mem_filter, List.mem_filter, kIn_iff, kIn_iff]
    exact ⟨fun h => ⟨h.2, h.1⟩, fun h => ⟨h.2, h.1⟩⟩
  exact p2.length_eq
theorem solo_edits {old new kept : List Key} (no : old.Nodup) (nn : new.Nodup) : ((editsF old new kept).filterMap soloE).Nodup ∧ ∀ x, x ∈ (editsF old new kept).filterMap soloE → ¬ (x ∈ old ∧ x ∈ new) := by
  unfold editsF
  rw [List.filterMap_append, solo_drops, solo_mk]
  refine ⟨?_, fun x hx h => ?_⟩
  · rw [List.nodup_append]
    refine ⟨no.filter _, (List.reverse_perm new |>.nodup_iff.mpr nn).filter _, fun a ha b hb z => ?_⟩
    subst z
    have h1 := (List.mem_filter.mp ha).1
    have h2 := (List.mem_filter.mp hb).2
    rw [kIn_iff.mpr h1] at h2
    cases h2
  · rcases List.mem_append.mp hx with m | m
    · have h2 := (List.mem_filter.mp m).2
      rw [kIn_iff.mpr h.2] at h2
      cases h2
    · have h2 := (List.mem_filter.mp m).2
      rw [kIn_iff.mpr h.1] at h2
      cases h2

end Ki
namespace Ki
open PySem PySem.Spec PyProof.Rows L2 Lb
def edV : Ed → List V
  | .drop v => [.str "drop", kV v]
  | .put v t => [.str "put", kV v, befV t]
  | .move v t => [.str "move", kV v, befV t]
/-- the edits es stand as tuples at ts -/
structure EdsAt (H : Hp) (ts : List Addr) (es : List Ed) : Prop where
  len : ts.length = es.length
  at_ : ∀ (i : Nat) t e, ts[i]? = some t → es[i]? = some e → H t = some (.tup (edV e))
theorem EdsAt.keep {H H' : Hp} {ts : List Addr} {es : List Ed} (h : EdsAt H ts es) (k : Keep [] H H') : EdsAt H' ts es := ⟨h.len, fun i t e a b => k.at (h.at_ i t e a b) List.not_mem_nil⟩
theorem tyx_tup {K : PySem.W.Frag} {H : Hp} {a : Addr} {xs : List V} (h : SqT K H a xs) : TyX K H (.ref a) (.type "tuple") := by
  rcases h with (h | ⟨o, h⟩) | ⟨o, _, _, h, c, _⟩
  · exact .base (.tup h)
  · exact .fTuple h
  · exact .kTuple h c
theorem tyx_list {K : PySem.W.Frag} {H : Hp} {a : Addr} {xs : List V} (h : SqL K H a xs) : TyX K H (.ref a) (.type "list") := by
  rcases h with (h | ⟨o, h⟩) | ⟨o, _, _, h, c, _⟩
  · exact .base (.lst h)
  · exact .base (.frz h)
  · exact .kList h c
theorem key_scal (a b : Key) : scal (kV a) (kV b) = true := by cases a <;> cases b <;> rfl
theorem bef_none (t : Option Key) : decide (befV t = V.non) = t.isNone := by
  cases t with
  | none => rfl
  | some u => cases u <;> rfl
section
variable {P : Program} {w : World} {K : PySem.W.Frag} {mg : Str → Option Value} {base : Heap}
def spIsTarget (K : PySem.W.Frag) : Sp := fun vs H Q _ => ∃ (a : Addr) (ks : List Key) (v : Key) (t : Option Key), vs = [.ref a, kV v, befV t] ∧ SqL K H a (ks.map kV) ∧ okT ks v t ∧ Q (.bl true) H
theorem okIsTarget (T : TX K mg) : FnOk P w K mg base CX0 2 T.fIsTarget T.dIsTarget ["row", "value", "target"] (spIsTarget K) := by
  have GV : FnOk P w K mg base CX0 1 T.fIsValue T.dIsValue ["thing"] spIsValue := okIsValue T
  refine T.FIsTarget.ok scIsTarget (fun vs H Q E h => ?_) (fun cdv A outer s H vs Q E hr h => ?_)
  · obtain ⟨a, ks, v, t, rfl, _⟩ := h
    rfl
  · obtain ⟨a, ks, v, t, rfl, hs, ok, q⟩ := h
    refine ⟨_, (derIsTarget T GV hr).2, ?_⟩
    unfold derIsTarget
    dsimp only [cxOf, Cx.nox]
    refine Lb.seq1 fun N hN => ?_
    wtm_at "go"
    refine ⟨rfl, ?_⟩
    rw [bef_none]
    wtm_at "go"
    cases t with
    | none =>
      refine ifbT rfl ?_
      wtm_at "go"
      exact q
    | some u =>
      obtain ⟨um, ne⟩ := ok u rfl
      refine ifbF rfl ?_
      wtm_at "go"
      refine hN _ _ ?_
      wtm_at "go"
      refine ⟨u, rfl, ?_⟩
      wtm_at "go"
      refine ifbT rfl ?_
      wtm_at "go"
      refine g_in (.inl hs) (kV_flat u) (kV_all ks) ?_
      wtm_at "go"
      show if (if false = true then !inV (kV u) (ks.map kV) else inV (kV u) (ks.map kV)) = true then _ else _
      rw [if_neg Bool.false_ne_true, inV_keys, kIn_iff.mpr um]
      refine ifbT rfl ?_
      wtm_at "go"
      refine g_ne (key_scal u v) ?_
      have e1 : (!decide (kV u = kV v)) = true := by rw [decide_eq_false fun z => ne (kV_inj z)]; rfl
      show Q (V.bl (!decide (kV u = kV v))) _
      rw [e1]
      exact q
def spIsEdit (K : PySem.W.Frag) : Sp := fun vs H Q _ => ∃ (a t : Addr) (ks : List Key) (e : Ed), vs = [.ref a, .ref t] ∧ SqL K H a (ks.map kV) ∧ SqT K H t (edV e) ∧ okE ks e ∧ Q (.bl true) H
theorem okIsEdit (T : TX K mg) : FnOk P w K mg base CX0 3 T.fIsEdit T.dIsEdit ["row", "edit"] (spIsEdit K) := by
  have GV : FnOk P w K mg base CX0 1 T.fIsValue T.dIsValue ["thing"] spIsValue := okIsValue T
  have GT : FnOk P w K mg base CX0 2 T.fIsTarget T.dIsTarget ["row", "value", "target"] (spIsTarget K) := okIsTarget T
  refine T.FIsEdit.ok scIsEdit (fun vs H Q E h => ?_) (fun cdv A outer s H vs Q E hr h => ?_)
  · obtain ⟨a, t, ks, e, rfl, _⟩ := h
    rfl
  · obtain ⟨a, t, ks, e, rfl, hs, ht, ok, q⟩ := h
    refine ⟨_, (derIsEdit T GT GV hr).2, ?_⟩
    unfold derIsEdit
    dsimp only [cxOf, Cx.nox]
    refine Lb.seq1 fun N hN => ?_
    wtm_at "go"
    refine g_isi (tyx_tup ht) (b := true) (by decide +kernel) ?_
    wtm_at "go"
    refine ifbF rfl ?_
    wtm_at "go"
    cases e with
    | drop v =>
      have ht : SqT K H t [.str "drop", kV v] := ht
      refine ifbF rfl ?_
      wtm_at "go"
      refine g_isi (t := "str") (b := true) (.base (.str _)) (by decide +kernel) ?_
      wtm_at "go"
      refine ifbF rfl ?_
      wtm_at "go"
      refine ⟨v, rfl, ?_⟩
      wtm_at "go"
      refine ifbF rfl ?_
      wtm_at "go"
      refine hN _ _ ?_
      clear hN N
      refine Lb.seq1 fun N hN => ?_
      wtm_at "go"
      refine g_in (.inl hs) (kV_flat v) (kV_all ks) ?_
      wtm_at "go"
      refine hN _ _ ?_
      clear hN N
      refine Lb.seq1 fun N hN => ?_
      wtm_at "go"
      refine ifbT (by decide) ?_
      wtm_at "go"
      rw [show (if (false : Bool) = true then !inV (kV v) (ks.map kV) else inV (kV v) (ks.map kV)) = true from by rw [if_neg Bool.false_ne_true, inV_keys]; exact kIn_iff.mpr ok]
      refine ifbT (by rfl) ?_
      wtm_at "go"
      exact q
    | put v tt =>
      have ht : SqT K H t [.str "put", kV v, befV tt] := ht
      obtain ⟨om, ot⟩ := ok
      refine ifbF rfl ?_
      wtm_at "go"
      refine g_isi (t := "str") (b := true) (.base (.str _)) (by decide +kernel) ?_
      wtm_at "go"
      refine ifbF rfl ?_
      wtm_at "go"
      refine ⟨v, rfl, ?_⟩
      wtm_at "go"
      refine ifbF rfl ?_
      wtm_at "go"
      refine hN _ _ ?_
      clear hN N
      refine Lb.seq1 fun N hN => ?_
      wtm_at "go"
      refine g_in (.inl hs) (kV_flat v) (kV_all ks) ?_
      wtm_at "go"
      refine hN _ _ ?_
      clear hN N
      rw [show (if (false : Bool) = true then !inV (kV v) (ks.map kV) else inV (kV v) (ks.map kV)) = false from by rw [if_neg Bool.false_ne_true, inV_keys]; exact Bool.eq_false_iff.mpr fun z => om (kIn_iff.mp z)]
      refine Lb.seq1 fun N hN => ?_
      wtm_at "go"
      refine ifbF (by decide) ?_
      wtm_at "go"
      refine hN _ _ ?_
      clear hN N
      refine Lb.seq1 fun N hN => ?_
      wtm_at "go"
      refine ifbF (by rfl) ?_
      wtm_at "go"
      refine ⟨a, ks, v, tt, rfl, hs, ot, ?_⟩
      wtm_at "go"
      refine ifbF rfl ?_
      wtm_at "go"
      refine hN _ _ ?_
      clear hN N
      wtm_at "go"
      refine ifbT (by decide) ?_
      wtm_at "go"
      exact q
    | move v tt =>
      have ht : SqT K H t [.str "move", kV v, befV tt] := ht
      obtain ⟨om, ot⟩ := ok
      refine ifbF rfl ?_
      wtm_at "go"
      refine g_isi (t := "str") (b := true) (.base (.str _)) (by decide +kernel) ?_
      wtm_at "go"
      refine ifbF rfl ?_
      wtm_at "go"
      refine ⟨v, rfl, ?_⟩
      wtm_at "go"
      refine ifbF rfl ?_
      wtm_at "go"
      refine hN _ _ ?_
      clear hN N
      refine Lb.seq1 fun N hN => ?_
      wtm_at "go"
      refine g_in (.inl hs) (kV_flat v) (kV_all ks) ?_
      wtm_at "go"
      refine hN _ _ ?_
      clear hN N
      rw [show (if (false : Bool) = true then !inV (kV v) (ks.map kV) else inV (kV v) (ks.map kV)) = true from by rw [if_neg Bool.false_ne_true, inV_keys]; exact kIn_iff.mpr om]
      refine Lb.seq1 fun N hN => ?_
      wtm_at "go"
      refine ifbF (by decide) ?_
      wtm_at "go"
      refine hN _ _ ?_
      clear hN N
      refine Lb.seq1 fun N hN => ?_
      wtm_at "go"
      refine ifbF (by rfl) ?_
      wtm_at "go"
      refine ⟨a, ks, v, tt, rfl, hs, ot, ?_⟩
      wtm_at "go"
      refine ifbF rfl ?_
      wtm_at "go"
      refine hN _ _ ?_
      clear hN N
      wtm_at "go"
      refine ifbF (by decide) ?_
      wtm_at "go"
      refine ifbF (by decide) ?_
      wtm_at "go"
      refine ifbT (by decide) ?_
      wtm_at "go"
      exact q
end

end Ki
namespace Ki
open PySem PySem.Spec PyProof.Rows L2 Lb
theorem idx_min (k : Key) : ∀ (l : List Key) (m : Nat) (z : Key), m < l.idxOf k → l[m]? = some z → z ≠ k
  | [], m, z, h, _ => by simp at h
  | a :: r, m, z, h, hz => by
    intro e
    subst e
    by_cases ha : a = z
    · subst ha
      rw [List.idxOf_cons_self] at h
      omega
    · cases m with
      | zero => exact ha (by simpa using hz)
      | succ m =>
        have h2 : (a :: r).idxOf z = r.idxOf z + 1 := by
          rw [List.idxOf_cons]
          have e1 : (a == z) = false := by rw [beq_key, decide_eq_false ha]
          rw [e1]
          rfl
        exact idx_min z r m z (by omega) (by simpa using hz) rfl
theorem idx_get {k : Key} {l : List Key} (h : k ∈ l) : l[l.idxOf k]? = some k := by
  have h1 := List.idxOf_lt_length_of_mem h
  rw [List.getElem?_eq_getElem h1, List.getElem_idxOf h1]
theorem erase_idx {k : Key} : ∀ (l : List Key), l.erase k = l.eraseIdx (l.idxOf k)
  | [] => rfl
  | a :: r => by
    by_cases ha : a = k
    · subst ha
      rw [List.idxOf_cons_self]
      simp
    · have e1 : (a == k) = false := by rw [beq_key, decide_eq_false ha]
      rw [List.erase_cons, e1, List.idxOf_cons, e1]
      simp [erase_idx r]
theorem ins_len (row : List Key) (v : Key) (t : Option Key) : (M43.ins row v t).length = row.length + 1 := by
  cases t with
  | none => simp [M43.ins]
  | some u => simp [M43.ins]; omega
theorem ins_none (row : List Key) (v : Key) {n : Nat} (h : n = (row.map kV).length) : (row.map kV).take n ++ [kV v] ++ (row.map kV).drop n = (M43.ins row v none).map kV := by
  subst h
  rw [List.take_length, List.drop_length, List.append_nil]
  simp [M43.ins]
theorem ins_some (row : List Key) (v u : Key) : (row.map kV).take (row.idxOf u) ++ [kV v] ++ (row.map kV).drop (row.idxOf u) = (M43.ins row v (some u)).map kV := by
  simp [M43.ins, List.map_take, List.map_drop]
section
variable {P : Program} {w : World} {K : PySem.W.Frag} {mg : Str → Option Value} {base : Heap}
theorem g_enumA {i : Nat} {b : Addr} {xs : List V} {σ : L2.St} {H0 H : Hp} {R : It → Hp → Prop} (h : σ[i]? = some (some (.ref b))) (hb : SqL K H0 b xs ∨ SqT K H0 b xs) (hk : Keep [] H0 H) (k : ∀ J, ((J = Ite K b ∧ SqL K H0 b xs) ∨ (J = IteT K b ∧ SqT K H0 b xs)) → R J H) : iEnumA K (tCons (tVar i) tNil) σ H R := by
  refine ⟨_, h, b, xs, rfl, ?_⟩
  rcases hb with hb | hb
  · exact .inl ⟨hk.seq hb List.not_mem_nil, k _ (.inl ⟨rfl, hb⟩)⟩
  · exact .inr ⟨hk.tup hb List.not_mem_nil, k _ (.inr ⟨rfl, hb⟩)⟩
def spEdited (K : PySem.W.Frag) : Sp := fun vs H Q _ => ∃ (a b : Addr) (old : List Key) (ts : List Addr) (es : List Ed) (r : List Key), vs = [.ref a, .ref b] ∧ SqL K H a (old.map kV) ∧ (SqL K H b (ts.map V.ref) ∨ SqT K H b (ts.map V.ref)) ∧ EdsAt H ts es ∧ Run old es r ∧ old.length + es.length ≤ 1000 ∧
  ∀ p H', H p = none → Keep [] H H' → H' p = some (.lst (r.map kV)) → Q (.ref p) H'
theorem okEdited (T : TX K mg) : FnOk P w K mg base CX0 4 T.fEdited T.dEdited ["old", "edits"] (spEdited K) := by
  have GE : FnOk P w K mg base CX0 3 T.fIsEdit T.dIsEdit ["row", "edit"] (spIsEdit K) := okIsEdit T
  refine T.FEdited.ok scEdited (fun vs H Q E h => ?_) (fun cdv A outer s H vs Q E hr h => ?_)
  · obtain ⟨a, b, old, ts, es, r, rfl, _⟩ := h
    rfl
  · obtain ⟨a, b, old, ts, es, r, rfl, ha, hb, ets, run, len, q⟩ := h
    refine ⟨_, (derEdited T GE hr).2, ?_⟩
    unfold derEdited
    dsimp only [cxOf, Cx.nox]
    refine Lb.seq1 fun N hN => ?_
    wtm_at "go"
    refine ⟨by show 2 ≤ sizeLine; decide, fun L nL => ?_⟩
    wtm_at "go"
    have hty : ∃ n, TyX K (upd H L (.tup [.ty "list", .ty "tuple"])) (.ref b) (.type n) ∧ PySem.W.kitAny K (.type n) [.type "list", .type "tuple"] = some true := by
      rcases hb with hb | hb
      · exact ⟨_, tyx_list (show SqL K (upd H L (.tup [.ty "list", .ty "tuple"])) b _ by wtm_at "sq"), by rfl⟩
      · exact ⟨_, tyx_tup (show SqT K (upd H L (.tup [.ty "list", .ty "tuple"])) b _ by wtm_at "sqt"), by rfl⟩
    obtain ⟨n, hn1, hn2⟩ := hty
    refine ⟨.ref b, L, _, .type n, [.type "list", .type "tuple"], true, rfl, upd_same, .cons (.ty _) (.cons (.ty _) .nil), hn1, hn2, ?_⟩
    wtm_at "go"
    refine ifbF rfl ?_
    wtm_at "go"
    refine hN _ _ ?_
    clear hN N
    refine Lb.seq1 fun N hN => ?_
    wtm_at "go"
    have k1 : Keep [] H (upd H L (.tup [.ty "list", .ty "tuple"])) := by wtm_at "keep"
    clear hn1
    generalize upd H L (.tup [.ty "list", .ty "tuple"]) = H1 at k1 ⊢
    refine g_list (k1.seq ha List.not_mem_nil) fun p np => ?_
    wtm_at "go"
    refine hN _ _ ?_
    clear hN N
    have np0 : H p = none := k1.free np List.not_mem_nil
    have k2 : Keep [] H (upd H1 p (.lst (old.map kV))) := by wtm_at "keep"
    have hp0 : (upd H1 p (.lst (old.map kV))) p = some (.lst (old.map kV)) := upd_same
    generalize upd H1 p (.lst (old.map kV)) = H2 at k2 hp0 ⊢
    refine Lb.seq1 fun N hN => ?_
    have tsl := ets.len
    refine g_enumA rfl hb k2 fun J hJ => ?_
    refine for_enumA hJ (fun i σ' H' => ∃ (x y z : Option V) (row : List Key), σ' = [some (.ref a), some (.ref b), some (.ref p), x, y, z] ∧ Keep [] H H'  ∧ H' p = some (.lst (row.map kV)) ∧ Run row (es.drop i) r ∧ row.length + (es.length - i) ≤ 1000) ?_ ?_ ?_ ?_
    · exact ⟨_, _, _, old, rfl, k2, hp0, run, len⟩
    · rintro i σ' H' hi ⟨x, y, z, row, rfl, k3, _⟩
      exact k3
    · rintro i x U σ' H' hx ⟨x1, x2, x3, row, rfl, k3, hp, rn, ln⟩ nU
      have hit : i < ts.length := by
        have := (List.getElem?_eq_some_iff.mp hx).1
        rwa [List.length_map] at this
      have hti := List.getElem?_eq_getElem hit
      have hei := List.getElem?_eq_getElem (show i < es.length by omega)
      generalize ts[i] = t at hti
      generalize es[i]'(by omega) = e at hei
      have ex : x = .ref t := by
        rw [List.getElem?_map, hti] at hx
        exact (Option.some.inj hx).symm
      subst ex
      have eT := ets.at_ i t e hti hei
      have ed : es.drop i = e :: es.drop (i + 1) := by
        have hlt : i < es.length := by omega
        rw [List.drop_eq_getElem_cons hlt]
        congr 1
        rw [List.getElem?_eq_getElem hlt] at hei
        exact Option.some.inj hei
      rw [ed] at rn
      cases rn with
      | cons ok rn =>
      have pU : p ≠ U := ne_of_none hp nU
      have nU0 : H U = none := k3.free nU List.not_mem_nil
      have tU : t ≠ U := ne_of_none (k3.at eT List.not_mem_nil) nU
      have tp : t ≠ p := fun z => by
        rw [z, np0] at eT
        cases eT
      have k4 : Keep [] H (upd H' U (.tup [.int (i : Nat), .ref t])) := by wtm_at "keep"
      refine ⟨U, _, rfl, .inl (.inl upd_same), rfl, _, _, rfl, _, _, rfl, rfl, ?_⟩
      have hp4 : (upd H' U (.tup [.int (i : Nat), .ref t])) p = some (.lst (row.map kV)) := fact_ne pU hp
      generalize upd H' U (.tup [.int (i : Nat), .ref t]) = H4 at k4 hp4 ⊢
      have eT4 : H4 t = some (.tup (edV e)) := k4.at eT List.not_mem_nil
      have sT4 : SqT K H4 t (edV e) := SqT.of eT4
      have sp4 : SqL K H4 p (row.map kV) := SqL.of hp4
      refine Lb.seq1 fun N hN => ?_
      wtm_at "go"
      refine ⟨p, t, row, e, rfl, sp4, sT4, ok, ?_⟩
      wtm_at "go"
      refine ifbF rfl ?_
      wtm_at "go"
      refine hN _ _ ?_
      clear hN N
      refine Lb.seq1 fun N hN => ?_
      cases e with
      | drop v =>
        have sT4 : SqT K H4 t [.str "drop", kV v] := sT4
        wtm_at "go"
        refine ifbT rfl ?_
        wtm_at "go"
        refine ⟨tyl sp4, ?_⟩
        wtm_at "go"
        refine ⟨p, row, v, row.idxOf v, rfl, rfl, hp4, idx_get ok, fun m z hm hz => idx_min v row m z hm hz, ?_⟩
        wtm_at "go"
        rw [← erase_idx row]
        have k5 : Keep [] H (upd H4 p (.lst ((row.erase v).map kV))) := by wtm_at "keep"
        have hp5 : (upd H4 p (.lst ((row.erase v).map kV))) p = some (.lst ((row.erase v).map kV)) := upd_same
        have eT5 : (upd H4 p (.lst ((row.erase v).map kV))) t = some (.tup (edV (.drop v))) := fact_ne tp eT4
        generalize upd H4 p (.lst ((row.erase v).map kV)) = H5 at k5 hp5 eT5 ⊢
        have le5 : (row.erase v).length ≤ row.length := List.length_erase_le ..
        refine hN _ _ ?_
        clear hN N
        wtm_at "go"
        refine ifbF rfl ?_
        wtm_at "go"
        exact ⟨_, _, _, row.erase v, rfl, k5, hp5, rn, by omega⟩
      | put v tt =>
        have sT4 : SqT K H4 t [.str "put", kV v, befV tt] := sT4
        obtain ⟨vn, ot⟩ := ok
        wtm_at "go"
        refine ifbF rfl ?_
        wtm_at "go"
        refine hN _ _ ?_
        clear hN N
        have sp : SqL K H4 p (row.map kV) := SqL.of hp4
        have sT5 : SqT K H4 t [.str "put", kV v, befV tt] := sT4
        wtm_at "go"
        refine ifbT rfl ?_
        refine Lb.seq1 fun N hN => ?_
        wtm_at "go"
        refine ⟨rfl, ?_⟩
        rw [bef_none]
        wtm_at "go"
        cases tt with
        | none =>
          refine ifbT rfl ?_
          wtm_at "go"
          refine hN _ _ ?_
          clear hN N
          wtm_at "go"
          refine ⟨tyl sp, ?_⟩
          wtm_at "go"
          refine ⟨p, row.map kV, _, kV v, rfl, rfl, hp4, by rw [List.length_map]; exact small1000 (by omega), by omega, by rw [List.length_map]; omega, ?_⟩
          rw [ins_none row v (Int.toNat_natCast _)]
          wtm_at "go"
          exact ⟨_, _, _, M43.ins row v none, rfl, by wtm_at "keep", upd_same, rn, by rw [ins_len]; omega⟩
        | some u =>
          refine ifbF rfl ?_
          wtm_at "go"
          obtain ⟨um, ne⟩ := ot u rfl
          have ui : u ∈ row := um
          refine ⟨tyl sp, ?_⟩
          wtm_at "go"
          refine ⟨p, row.map kV, kV u, row.idxOf u, kV u, rfl, rfl, sp, kV_flat u, kV_all _, by rw [List.getElem?_map, idx_get ui]; rfl, by rw [kV_eq, decide_eq_true rfl], fun m z' hm hz => ?_, ?_⟩
          · rw [List.getElem?_map] at hz
            obtain ⟨z, hz1, rfl⟩ := Option.map_eq_some_iff.mp hz
            rw [kV_eq, decide_eq_false (idx_min u row m z hm hz1)]
          have il := List.idxOf_le_length (a := u) (l := row)
          wtm_at "go"
          refine hN _ _ ?_
          clear hN N
          wtm_at "go"
          refine ⟨tyl sp, ?_⟩
          wtm_at "go"
          refine ⟨p, row.map kV, ((row.idxOf u : Nat) : Int), kV v, rfl, rfl, hp4, by rw [List.length_map]; exact small1000 (by omega), by omega, by omega, ?_⟩
          rw [Int.toNat_natCast, ins_some row v u]
          wtm_at "go"
          exact ⟨_, _, _, M43.ins row v (some u), rfl, by wtm_at "keep", upd_same, rn, by rw [ins_len]; omega⟩
      | move v tt =>
        have sT4 : SqT K H4 t [.str "move", kV v, befV tt] := sT4
        obtain ⟨vm, ot⟩ := ok
        wtm_at "go"
        refine ifbT rfl ?_
        wtm_at "go"
        refine ⟨tyl sp4, ?_⟩
        wtm_at "go"
        refine ⟨p, row, v, row.idxOf v, rfl, rfl, hp4, idx_get vm, fun m z hm hz => idx_min v row m z hm hz, ?_⟩
        wtm_at "go"
        rw [← erase_idx row]
        have k5 : Keep [] H (upd H4 p (.lst ((row.erase v).map kV))) := by wtm_at "keep"
        have hp5 : (upd H4 p (.lst ((row.erase v).map kV))) p = some (.lst ((row.erase v).map kV)) := upd_same
        have eT5 : (upd H4 p (.lst ((row.erase v).map kV))) t = some (.tup (edV (.move v tt))) := fact_ne tp eT4
        generalize upd H4 p (.lst ((row.erase v).map kV)) = H5 at k5 hp5 eT5 ⊢
        have le5 : (row.erase v).length ≤ row.length := List.length_erase_le ..
        refine hN _ _ ?_
        clear hN N
        have sp : SqL K H5 p ((row.erase v).map kV) := SqL.of hp5
        have sT5 : SqT K H5 t [.str "move", kV v, befV tt] := SqT.of eT5
        wtm_at "go"
        refine ifbT rfl ?_
        refine Lb.seq1 fun N hN => ?_
        wtm_at "go"
        refine ⟨rfl, ?_⟩
        rw [bef_none]
        wtm_at "go"
        cases tt with
        | none =>
          refine ifbT rfl ?_
          wtm_at "go"
          refine hN _ _ ?_
          clear hN N
          wtm_at "go"
          refine ⟨tyl sp, ?_⟩
          wtm_at "go"
          refine ⟨p, (row.erase v).map kV, _, kV v, rfl, rfl, hp5, by rw [List.length_map]; exact small1000 (by omega), by omega, by rw [List.length_map]; omega, ?_⟩
          rw [ins_none (row.erase v) v (Int.toNat_natCast _)]
          wtm_at "go"
          exact ⟨_, _, _, M43.ins (row.erase v) v none, rfl, by wtm_at "keep", upd_same, rn, by rw [ins_len]; omega⟩
        | some u =>
          refine ifbF rfl ?_
          wtm_at "go"
          obtain ⟨um, ne⟩ := ot u rfl
          have ui : u ∈ (row.erase v) := (List.mem_erase_of_ne ne).mpr um
          refine ⟨tyl sp, ?_⟩
          wtm_at "go"
          refine ⟨p, (row.erase v).map kV, kV u, (row.erase v).idxOf u, kV u, rfl, rfl, sp, kV_flat u, kV_all _, by rw [List.getElem?_map, idx_get ui]; rfl, by rw [kV_eq, decide_eq_true rfl], fun m z' hm hz => ?_, ?_⟩
          · rw [List.getElem?_map] at hz
            obtain ⟨z, hz1, rfl⟩ := Option.map_eq_some_iff.mp hz
            rw [kV_eq, decide_eq_false (idx_min u (row.erase v) m z hm hz1)]
          have il := List.idxOf_le_length (a := u) (l := (row.erase v))
          wtm_at "go"
          refine hN _ _ ?_
          clear hN N
          wtm_at "go"
          refine ⟨tyl sp, ?_⟩
          wtm_at "go"
          refine ⟨p, (row.erase v).map kV, (((row.erase v).idxOf u : Nat) : Int), kV v, rfl, rfl, hp5, by rw [List.length_map]; exact small1000 (by omega), by omega, by omega, ?_⟩
          rw [Int.toNat_natCast, ins_some (row.erase v) v u]
          wtm_at "go"
          exact ⟨_, _, _, M43.ins (row.erase v) v (some u), rfl, by wtm_at "keep", upd_same, rn, by rw [ins_len]; omega⟩
    · rintro σ' H' ⟨x1, x2, x3, row, rfl, k3, hp, rn, ln⟩
      rw [List.length_map, tsl, List.drop_length] at rn
      cases rn
      refine hN _ _ ?_
      wtm_at "go"
      exact q p H' np0 k3 hp
end

end Ki
namespace Ki
open PySem PySem.Spec PyProof.Rows L2 Lb
theorem EdsAt.put {H : Hp} {M : Addr} {xs : List V} {o : HO} {ts : List Addr} {es : List Ed} (h : EdsAt H ts es) (hM : H M = some (.lst xs)) : EdsAt (upd H M o) ts es :=
  ⟨h.len, fun i t e a b => fact_ne (fun z => by have := h.at_ i t e a b; rw [z, hM] at this; cases this) (h.at_ i t e a b)⟩
theorem EdsAt.snoc {H : Hp} {U : Addr} {ts : List Addr} {es : List Ed} {e : Ed} (h : EdsAt H ts es) (hU : H U = some (.tup (edV e))) : EdsAt H (ts ++ [U]) (es ++ [e]) := by
  refine ⟨by simp [h.len], fun i t e' a b => ?_⟩
  by_cases hi : i < ts.length
  · rw [List.getElem?_append_left hi] at a
    rw [List.getElem?_append_left (by rw [← h.len]; exact hi)] at b
    exact h.at_ i t e' a b
  · have hl := (List.getElem?_eq_some_iff.mp a).1
    rw [List.length_append] at hl
    have ei : i = ts.length := by simp at hl; omega
    subst ei
    rw [List.getElem?_append_right (Nat.le_refl _), Nat.sub_self] at a
    rw [h.len, List.getElem?_append_right (Nat.le_refl _), Nat.sub_self] at b
    have e1 : U = t := by simpa using a
    have e2 : e = e' := by simpa using b
    subst e1 e2
    exact hU
theorem EdsAt.add {H : Hp} {M U : Addr} {ts : List Addr} {es : List Ed} {e : Ed} (h : EdsAt H ts es) (hM : H M = some (.lst (ts.map V.ref))) (hU : H U = none) :
    EdsAt (upd (upd H U (.tup (edV e))) M (.lst ((ts ++ [U]).map V.ref))) (ts ++ [U]) (es ++ [e]) := by
  have h1 : EdsAt (upd H U (.tup (edV e))) ts es := h.keep (Keep.new hU)
  exact (h1.snoc upd_same).put (fact_ne (ne_of_none hM hU) hM)
def stepE (old kept : List Key) (v : Key) (t : Option Key) : List Ed := if kIn v old = true then (if kIn v kept = true then [] else [.move v t]) else [.put v t]
theorem mkE_snoc (old kept : List Key) (v : Key) : ∀ (l : List Key) (t : Option Key), mkE old kept (l ++ [v]) t = mkE old kept l t ++ stepE old kept v ((l.getLast?).or t)
  | [], t => by
    show stepE old kept v t ++ [] = [] ++ stepE old kept v _
    simp
  | a :: l, t => by
    have ih := mkE_snoc old kept v l (some a)
    show stepE old kept a t ++ mkE old kept (l ++ [v]) (some a) = (stepE old kept a t ++ mkE old kept l (some a)) ++ _
    rw [ih, List.append_assoc, List.getLast?_cons]
    cases l.getLast? <;> rfl
theorem mkE_len (old kept : List Key) : ∀ (l : List Key) (t : Option Key), (mkE old kept l t).length ≤ l.length
  | [], _ => Nat.le_refl _
  | a :: l, t => by
    have ih := mkE_len old kept l (some a)
    have h1 : (stepE old kept a t).length ≤ 1 := by unfold stepE; split <;> (try split) <;> simp
    show (stepE old kept a t ++ mkE old kept l (some a)).length ≤ l.length + 1
    rw [List.length_append]
    omega
section
variable {P : Program} {w : World} {K : PySem.W.Frag} {mg : Str → Option Value} {base : Heap}
def spEdits (K : PySem.W.Frag) : Sp := fun vs H Q _ => ∃ (a b : Addr) (old new : List Key), vs = [.ref a, .ref b] ∧ SqL K H a (old.map kV) ∧ SqL K H b (new.map kV) ∧ old.Nodup ∧ new.Nodup ∧ old.length ≤ 500 ∧ new.length ≤ 500 ∧
  ∀ (p : Addr) (ts : List Addr) (kept : List Key) (H' : Hp), H p = none → Keep [] H H' → H' p = some (.lst (ts.map V.ref)) → EdsAt H' ts (editsF old new kept) → UpOk old new kept → kept.length = (pilesF new old).length → Q (.ref p) H'
theorem okEdits (T : TX K mg) : FnOk P w K mg base CX0 4 T.fEdits T.dEdits ["old", "new"] (spEdits K) := by
  have GP : FnOk P w K mg base CX0 1 T.fPlacesOf T.dPlacesOf ["row"] (spPlacesOf K) := okPlacesOf T
  have GR : FnOk P w K mg base CX0 3 T.fRising T.dRising ["old", "new"] (spRising K) := okRising T
  refine T.FEdits.ok scEdits (fun vs H Q E h => ?_) (fun cdv A outer s H vs Q E hr h => ?_)
  · obtain ⟨a, b, old, new, rfl, _⟩ := h
    rfl
  · obtain ⟨a, b, old, new, rfl, ha, hb, ndo, ndn, lo, ln, q⟩ := h
    refine ⟨_, (derEdits T GP GR hr).2, ?_⟩
    unfold derEdits
    dsimp only [cxOf, Cx.nox]
    refine Lb.seq1 fun N hN => ?_
    wtm_at "go"
    refine ⟨a, old, rfl, ha, ndo, by omega, fun D1 kv1 H1 nD1 k1 hD1 p1 => ?_⟩
    wtm_at "go"
    refine hN _ _ ?_
    clear hN N
    refine Lb.seq1 fun N hN => ?_
    wtm_at "go"
    refine ⟨b, new, rfl, k1.seq hb List.not_mem_nil, ndn, by omega, fun D2 kv2 H2 nD2 k2 hD2 p2 => ?_⟩
    wtm_at "go"
    refine hN _ _ ?_
    clear hN N
    have k02 : Keep [] H H2 := k1.trans k2
    refine Lb.seq1 fun N hN => ?_
    wtm_at "go"
    refine ⟨a, b, old, new, rfl, k02.seq ha List.not_mem_nil, k02.seq hb List.not_mem_nil, ndo, ndn, by omega, by omega, fun R kept H3 k3 nR hR up klen => ?_⟩
    have kpl : kept.length ≤ old.length := by
      have h3 : (pilesF new old).length ≤ 0 + old.length := pilesF_le new old []
      omega
    wtm_at "go"
    refine ⟨R, kept, rfl, SqL.of hR, up.nd, by omega, fun D3 kv3 H4 nD3 k4 hD3 p3 => ?_⟩
    wtm_at "go"
    refine hN _ _ ?_
    clear hN N
    have k24 : Keep [] H2 H4 := k3.trans k4
    have k04 : Keep [] H H4 := k02.trans k24
    have hD14 : H4 D1 = some (.dK kv1) := k24.at (k2.at hD1 List.not_mem_nil) List.not_mem_nil
    have hD24 : H4 D2 = some (.dK kv2) := k24.at hD2 List.not_mem_nil
    have hD34 : H4 D3 = some (.dK kv3) := hD3
    clear hD3 hD1 hD2 hR k1 k2 k3 k4 k24 k02 nD1 nD2 nD3 nR
    refine Lb.seq1 fun N hN => ?_
    wtm_at "go"
    refine ⟨_, rfl, a, rfl, ⟨_, k04.seq ha List.not_mem_nil⟩, fun M nM => ?_⟩
    have nM0 : H M = none := k04.free nM List.not_mem_nil
    have kM : Keep [] H (upd H4 M (.lst [])) := by wtm_at "keep"
    have kM4 : Keep [] H4 (upd H4 M (.lst [])) := Keep.new nM
    refine lc_list (K := K) (a := a) (xs := old.map kV) (fun i H5 => Keep [] H H5 ∧ Keep [] H4 H5 ∧ ∃ ts, H5 M = some (.lst (ts.map V.ref)) ∧ EdsAt H5 ts (((old.take i).filter fun k => !kIn k new).map .drop)) ⟨kM, kM4, [], upd_same, ⟨rfl, fun i t e h => by simp at h⟩⟩ (fun i H5 _ h => h.1.seq ha List.not_mem_nil) ?_ ?_
    · rintro i y H5 hy ⟨k5, k45, ts, hM5, ea⟩
      obtain ⟨v, hv, rfl⟩ := getk hy
      refine ⟨rfl, ?_⟩
      have hD25 : H5 D2 = some (.dK kv2) := k45.at hD24 List.not_mem_nil
      wtm_at "go"
      refine g_di (.inl hD25) ?_
      rw [p2.isSome]
      wtm_at "go"
      rw [take_snoc hv, List.filter_append]
      wtm_at "if"
      · wtm_at "go"
        refine ⟨by show 2 ≤ sizeLine; decide, fun U nU => ⟨ts.map V.ref, fact_new nU hM5, ?_, by wtm_at "keep", by wtm_at "keep", ts ++ [U], by rw [upd_same, List.map_append]; rfl, ?_⟩⟩
        · have l1 := ea.len
          rw [List.length_map] at l1
          have l2 := List.length_filter_le (fun k => !kIn k new) (old.take i)
          have l3 : (old.take i).length ≤ old.length := by rw [List.length_take]; omega
          rw [List.length_map]
          exact small1000 (by omega)
        · have e1 : ([v].filter fun k => !kIn k new) = [v] := by simp [List.filter, e]
          rw [e1, List.map_append]
          have h5 := ea.add (e := .drop v) hM5 nU
          rw [List.map_append] at h5
          exact h5
      · refine ⟨k5, k45, ts, hM5, ?_⟩
        have e1 : ([v].filter fun k => !kIn k new) = [] := by simp [List.filter, e]
        rw [e1, List.append_nil]
        exact ea
    · rintro H5 ⟨k5, k45, ts, hM5, ea⟩
      rw [List.length_map, List.take_length] at ea
      wtm_at "go"
      refine hN _ _ ?_
      clear hN N
      have ea0 : EdsAt H5 ts (dropsF old new) := ea
      have hD15 := k45.at hD14 List.not_mem_nil
      have hD35 := k45.at hD34 List.not_mem_nil
      clear ea k45 hD14 hD24 hD34 kM kM4 k04 nM
      refine Lb.seq1 fun N hN => ?_
      wtm_at "go"
      refine hN _ _ ?_
      clear hN N
      refine Lb.seq1 fun N hN => ?_
      wtm_at "go"
      refine ⟨.ref b, rfl, b, _, rfl, k5.seq hb List.not_mem_nil, fun L nL => ?_⟩
      have nL0 : H L = none := k5.free nL List.not_mem_nil
      rw [← List.map_reverse]
      have rlen : new.reverse.length = new.length := List.length_reverse
      generalize hrn : new.reverse = rn at rlen ⊢
      have LM : L ≠ M := (ne_of_none hM5 nL).symm
      have hL6 : (upd H5 L (.lst (rn.map kV))) L = some (.lst (rn.map kV)) := upd_same
      have k6 : Keep [] H (upd H5 L (.lst (rn.map kV))) := by wtm_at "keep"
      have k56 : Keep [] H5 (upd H5 L (.lst (rn.map kV))) := Keep.new nL
      generalize upd H5 L (.lst (rn.map kV)) = H6 at hL6 k6 k56 ⊢
      have ea6 := ea0.keep k56
      have hM6 := k56.at hM5 List.not_mem_nil
      have hD16 := k56.at hD15 List.not_mem_nil
      have hD36 := k56.at hD35 List.not_mem_nil
      clear k56 hD15 hD35 hM5 ea0 k5
      refine ⟨L, rfl, ⟨_, SqL.of hL6⟩, for_list (K := K) (a := L) (xs := rn.map kV)
        (fun i σ' H7 => ∃ (ts : List Addr) (x : Option V), σ' = [some (.ref a), some (.ref b), some (.ref D1), some (.ref D2), some (.ref D3), some (.ref M), some (befV (rn.take i).getLast?), x] ∧ Keep [] H H7 ∧ H7 L = some (.lst (rn.map kV)) ∧ H7 D1 = some (.dK kv1) ∧ H7 D3 = some (.dK kv3) ∧
          H7 M = some (.lst (ts.map V.ref)) ∧ EdsAt H7 ts (dropsF old new ++ mkE old kept (rn.take i) none))
        ⟨ts, _, rfl, k6, hL6, hD16, hD36, hM6, by rw [List.take_zero]; show EdsAt H6 ts (dropsF old new ++ []); rw [List.append_nil]; exact ea6⟩
        (fun i σ' H7 _ h => by obtain ⟨ts, x, _, _, h7, _⟩ := h; exact SqL.of h7) ?_ ?_⟩
      · rintro i y σ' H7 hy ⟨ts, x, rfl, k7, hL7, hD17, hD37, hM7, ea7⟩
        obtain ⟨v, hv, rfl⟩ := getk hy
        refine Lb.seq1 fun N hN => ?_
        wtm_at "go"
        have il := (List.getElem?_eq_some_iff.mp hv).1
        have gl : (rn.take (i + 1)).getLast? = some v := by rw [take_snoc hv, List.getLast?_concat]
        have mk : dropsF old new ++ mkE old kept (rn.take (i + 1)) none = (dropsF old new ++ mkE old kept (rn.take i) none) ++ stepE old kept v (rn.take i).getLast? := by
          rw [take_snoc hv, mkE_snoc, Option.or_none, List.append_assoc]
        have D1M : D1 ≠ M := fun z => by
          rw [z, hM7] at hD17
          cases hD17
        have D3M : D3 ≠ M := fun z => by
          rw [z, hM7] at hD37
          cases hD37
        have tl : (ts.map V.ref).length < sizeLine := by
          have l1 := ea7.len
          rw [List.length_append] at l1
          have l2 := mkE_len old kept (rn.take i) none
          have l3 : (rn.take i).length ≤ rn.length := by rw [List.length_take]; omega
          have l4 : (dropsF old new).length ≤ old.length := by
            unfold dropsF
            rw [List.length_map]
            exact List.length_filter_le _ _
          rw [List.length_map]
          exact small1000 (by omega)
        refine g_di (.inl hD17) ?_
        rw [p1.isSome]
        wtm_at "go"
        wtm_at "if"
        · wtm_at "go"
          refine ⟨tyl (SqL.of hM7), ?_⟩
          wtm_at "go"
          refine ⟨by show 3 ≤ sizeLine; decide, fun U nU => ?_⟩
          wtm_at "go"
          refine g_append (fact_new nU hM7) tl ?_
          refine hN _ _ ?_
          wtm_at "go"
          have h8 := ea7.add (e := .put v (rn.take i).getLast?) hM7 nU
          have se : stepE old kept v (rn.take i).getLast? = [.put v (rn.take i).getLast?] := by unfold stepE; rw [if_neg]; simpa using e
          rw [List.map_append] at h8
          exact ⟨ts ++ [U], _, by rw [gl]; rfl, by wtm_at "keep", fact_ne LM (fact_new nU hL7), fact_ne D1M (fact_new nU hD17), fact_ne D3M (fact_new nU hD37), by rw [upd_same, List.map_append]; rfl, by rw [mk, se]; exact h8⟩
        · wtm_at "go"
          refine g_di (.inl hD37) ?_
          rw [p3.isSome]
          wtm_at "go"
          have e0 : kIn v old = true := by simpa using e
          cases e2 : kIn v kept with
          | false =>
            refine ifbT rfl ?_
            wtm_at "go"
            refine ⟨tyl (SqL.of hM7), ?_⟩
            wtm_at "go"
            refine ⟨by show 3 ≤ sizeLine; decide, fun U nU => ?_⟩
            wtm_at "go"
            refine g_append (fact_new nU hM7) tl ?_
            refine hN _ _ ?_
            wtm_at "go"
            have h8 := ea7.add (e := .move v (rn.take i).getLast?) hM7 nU
            have se : stepE old kept v (rn.take i).getLast? = [.move v (rn.take i).getLast?] := by unfold stepE; rw [if_pos e0, e2, if_neg Bool.false_ne_true]
            rw [List.map_append] at h8
            exact ⟨ts ++ [U], _, by rw [gl]; rfl, by wtm_at "keep", fact_ne LM (fact_new nU hL7), fact_ne D1M (fact_new nU hD17), fact_ne D3M (fact_new nU hD37), by rw [upd_same, List.map_append]; rfl, by rw [mk, se]; exact h8⟩
          | true =>
            refine ifbF rfl ?_
            wtm_at "go"
            refine hN _ _ ?_
            wtm_at "go"
            have se : stepE old kept v (rn.take i).getLast? = [] := by unfold stepE; rw [if_pos e0, e2, if_pos rfl]
            exact ⟨ts, _, by rw [gl]; rfl, k7, hL7, hD17, hD37, hM7, by rw [mk, se, List.append_nil]; exact ea7⟩
      · rintro σ' H7 ⟨ts, x, rfl, k7, hL7, hD17, hD37, hM7, ea7⟩
        rw [List.length_map, List.take_length] at ea7
        refine hN _ _ ?_
        wtm_at "go"
        subst hrn
        exact q M ts kept H7 nM0 k7 hM7 ea7 up klen
end

end Ki
namespace Ki
open PySem PySem.Spec PyProof.Rows L2 Lb
def isMv (e : Ed) : Bool := (soloE e).isNone
theorem movesE_take {es : List Ed} {i : Nat} {e : Ed} (h : es[i]? = some e) : movesE (es.take (i + 1)) = movesE (es.take i) + (if isMv e = true then 1 else 0) := by
  have h1 : es.take (i + 1) = es.take i ++ [e] := take_snoc h
  rw [h1]
  unfold movesE
  rw [List.filter_append, List.length_append]
  congr 1
  show ([e].filter fun e => isMv e).length = _
  cases hm : isMv e <;> simp [List.filter, hm]
theorem movesE_le (es : List Ed) : movesE es ≤ es.length := List.length_filter_le _ _
theorem edV_at (e : Ed) : atI (edV e) 0 = some (.str (match e with | .drop _ => "drop" | .put _ _ => "put" | .move _ _ => "move")) := by cases e <;> rfl
section
variable {P : Program} {w : World} {K : PySem.W.Frag} {mg : Str → Option Value} {base : Heap}
def spLeastMoves (K : PySem.W.Frag) : Sp := fun vs H Q _ => ∃ (a b : Addr) (old new : List Key), vs = [.ref a, .ref b] ∧ SqL K H a (old.map kV) ∧ SqL K H b (new.map kV) ∧ old.Nodup ∧ new.Nodup ∧ old.length ≤ 500 ∧ new.length ≤ 500 ∧
  ∀ (kept : List Key) (H' : Hp), Keep [] H H' → UpOk old new kept → kept.length = (pilesF new old).length → Q (.int (movesE (editsF old new kept) : Nat)) H'
theorem okLeastMoves (T : TX K mg) : FnOk P w K mg base CX0 5 T.fLeastMoves T.dLeastMoves ["old", "new"] (spLeastMoves K) := by
  have GE : FnOk P w K mg base CX0 4 T.fEdits T.dEdits ["old", "new"] (spEdits K) := okEdits T
  refine T.FLeastMoves.ok scLeastMoves (fun vs H Q E h => ?_) (fun cdv A outer s H vs Q E hr h => ?_)
  · obtain ⟨a, b, old, new, rfl, _⟩ := h
    rfl
  · obtain ⟨a, b, old, new, rfl, ha, hb, ndo, ndn, lo, ln, q⟩ := h
    refine ⟨_, (derLeastMoves T GE hr).2, ?_⟩
    unfold derLeastMoves
    dsimp only [cxOf, Cx.nox]
    wtm_at "go"
    refine g_call ?_
    wtm_at "go"
    refine ⟨a, b, old, new, rfl, ha, hb, ndo, ndn, lo, ln, fun M ts kept H1 nM k1 hM ea up kl => ?_⟩
    have hl : (editsF old new kept).length ≤ 1000 := by
      have h2 := mkE_len old kept new.reverse none
      rw [List.length_reverse] at h2
      have h4 : (dropsF old new).length ≤ old.length := by
        unfold dropsF
        rw [List.length_map]
        exact List.length_filter_le _ _
      show (dropsF old new ++ mkE old kept new.reverse none).length ≤ 1000
      rw [List.length_append]
      omega
    generalize hes : editsF old new kept = es at ea hl
    have tl := ea.len
    refine ⟨M, rfl, ⟨_, SqL.of hM⟩, fun D hD => ?_⟩
    have kD : Keep [] H1 (upd H1 D (.lst [])) := Keep.new hD
    refine lc_list (K := K) (a := M) (xs := ts.map V.ref) (fun i H5 => Keep [] H1 H5 ∧ ∃ ys : List V, H5 D = some (.lst ys) ∧ ys.length = movesE (es.take i)) ⟨kD, [], upd_same, rfl⟩ (fun i H5 _ h => h.1.seq (SqL.of hM) List.not_mem_nil) ?_ ?_
    · rintro i y H5 hy ⟨k5, ys, hD5, yl⟩
      have hit : i < ts.length := by
        have := (List.getElem?_eq_some_iff.mp hy).1
        rwa [List.length_map] at this
      have hti := List.getElem?_eq_getElem hit
      have hei := List.getElem?_eq_getElem (show i < es.length by omega)
      generalize ts[i] = t at hti
      generalize es[i]'(by omega) = e at hei
      have ex : y = .ref t := by
        rw [List.getElem?_map, hti] at hy
        exact (Option.some.inj hy).symm
      subst ex
      have sT : SqT K H5 t (edV e) := SqT.of (k5.at (ea.at_ i t e hti hei) List.not_mem_nil)
      have mt := movesE_take hei
      have ml := movesE_le (es.take i)
      rw [List.length_take] at ml
      refine ⟨rfl, ?_⟩
      cases e with
      | drop v =>
        have sT : SqT K H5 t [.str "drop", kV v] := sT
        wtm_at "go"
        refine ifbF rfl ?_
        exact ⟨k5, ys, hD5, by rw [mt, yl]; rfl⟩
      | put v tt =>
        have sT : SqT K H5 t [.str "put", kV v, befV tt] := sT
        wtm_at "go"
        refine ifbF rfl ?_
        exact ⟨k5, ys, hD5, by rw [mt, yl]; rfl⟩
      | move v tt =>
        have sT : SqT K H5 t [.str "move", kV v, befV tt] := sT
        wtm_at "go"
        refine ifbT rfl ?_
        wtm_at "go"
        exact ⟨ys, hD5, small1000 (by omega), by wtm_at "keep", _, upd_same, by rw [mt, List.length_append, yl]; rfl⟩
    · rintro H5 ⟨k5, ys, hD5, yl⟩
      rw [List.length_map, tl, List.take_length] at yl
      wtm_at "go"
      rw [yl, ← hes]
      exact q kept H5 (k1.trans k5) up kl
end

end Ki
namespace Ki
open PySem PySem.Spec PyProof.Rows L2 Lb
/-- the place of a key, as the law tells it -/
def plI (l : List Key) (k : Key) : Int := match ixK l k with
  | some i => (i : Int)
  | none => -1
theorem plI_mem {l : List Key} {k : Key} (h : k ∈ l) : plI l k = (pl l k : Int) := by unfold plI; rw [pl_some h]
theorem plI_out {l : List Key} {k : Key} (h : k ∉ l) : plI l k = -1 := by unfold plI; rw [ixK_none.mpr h]
theorem ixK_first {l : List Key} {k : Key} {i : Nat} (h : l[i]? = some k) (hn : k ∉ l.take i) : ixK l k = some i := by
  have e : l.take (i + 1) = l.take i ++ [k] := take_snoc h
  have h2 : l = (l.take i ++ [k]) ++ l.drop (i + 1) := by rw [← e, List.take_append_drop]
  have hlt := (List.getElem?_eq_some_iff.mp h).1
  have gen : ∀ (a b : List Key) (j : Nat), ixK a k = some j → ixK (a ++ b) k = some j := by
    intro a
    induction a with
    | nil => intro b j hj; simp [ixK] at hj
    | cons c r ih =>
      intro b j hj
      show (if c = k then some 0 else (ixK (r ++ b) k).map (· + 1)) = some j
      have hj' : (if c = k then some 0 else (ixK r k).map (· + 1)) = some j := hj
      by_cases ec : c = k
      · rw [if_pos ec] at hj' ⊢
        exact hj'
      · rw [if_neg ec] at hj' ⊢
        cases e2 : ixK r k with
        | none => rw [e2] at hj'; cases hj'
        | some m =>
          rw [e2] at hj'
          rw [ih b m e2]
          exact hj'
  rw [h2]
  refine gen _ _ _ ?_
  rw [ixK_snoc, ixK_none.mpr hn, if_pos rfl, List.length_take, Nat.min_eq_left (by omega)]
  rfl
def isS : Key → Bool
  | .inl _ => false
  | .inr _ => true
theorem tyk (K : PySem.W.Frag) (H : Hp) (k : Key) : ∃ t, TyX K H (kV k) (.type t) ∧ kitB t "str" = some (isS k) := by
  cases k with
  | inl i => exact ⟨"int", .base (.int i), (by decide +kernel : kitB "int" "str" = some false)⟩
  | inr x => exact ⟨"str", .base (.str x), (by decide +kernel : kitB "str" "str" = some true)⟩
theorem key_dec (x y : Key) : decide (kV x = kV y) = decide (x = y) := by
  by_cases h : x = y
  · rw [h, decide_eq_true rfl, decide_eq_true rfl]
  · rw [decide_eq_false h, decide_eq_false fun z => h (kV_inj z)]
section
variable {P : Program} {w : World} {K : PySem.W.Frag} {mg : Str → Option Value} {base : Heap}
def spLPlace (K : PySem.W.Frag) : Sp := fun vs H Q _ => ∃ (a : Addr) (ks : List Key) (k : Key), vs = [.ref a, kV k] ∧ SqL K H a (ks.map kV) ∧ ks.length ≤ 1000 ∧ Q (.int (plI ks k)) H
theorem okLPlace (T : TX K mg) : FnOk P w K mg base CX0 1 T.fLPlace T.dLPlace ["_law_row", "_law_value_here"] (spLPlace K) := by
  refine T.FLPlace.ok scLPlace (fun vs H Q E h => ?_) (fun cdv A outer s H vs Q E hr h => ?_)
  · obtain ⟨a, ks, k, rfl, _⟩ := h
    rfl
  · obtain ⟨a, ks, k, rfl, hs, hl, q⟩ := h
    refine ⟨_, (derLPlace T hr).2, ?_⟩
    unfold derLPlace
    dsimp only [cxOf, Cx.nox]
    refine Lb.seq1 fun N hN => ?_
    refine ⟨.ref a, rfl, a, _, rfl, .inl hs, ((ks.map kV).length : Int), rfl, by omega, by rw [List.length_map]; omega, ?_⟩
    refine for_range (lo := 0) (n := ((ks.map kV).length : Int).toNat) (fun i σ H1 => ∃ v2, σ = [some (.ref a), some (kV k), v2] ∧ H1 = H ∧ k ∉ ks.take i) ⟨none, rfl, rfl, by simp⟩ ?_ ?_
    · rintro i σ H1 hi ⟨v2, rfl, rfl, hn⟩
      have hi' : i < ks.length := by rw [List.length_map] at hi; omega
      have hx := List.getElem?_eq_getElem hi'
      generalize ks[i] = x at hx
      have hxv : (ks.map kV)[i]? = some (kV x) := by rw [List.getElem?_map, hx]; rfl
      have hat : atI (ks.map kV) (0 + (i : Int)) = some (kV x) := at_of (by omega) hxv
      obtain ⟨tx, tyx, bx⟩ := tyk K H1 x
      obtain ⟨tk, tyk, bk⟩ := tyk K H1 k
      wtm_at "go"
      refine g_isi tyx bx ?_
      wtm_at "go"
      refine g_isi tyk bk ?_
      wtm_at "go"
      have go_on : ¬ x = k → k ∉ ks.take (i + 1) := fun ne m => by
        rw [take_snoc hx] at m
        rcases List.mem_append.mp m with m | m
        · exact hn m
        · rw [List.mem_singleton] at m
          exact ne m.symm
      wtm_at "if"
      · wtm_at "go"
        refine ⟨by cases x <;> cases k <;> rfl, ?_⟩
        rw [key_dec]
        wtm_at "go"
        have h1 := e
        wtm_at "if"
        · have exk := of_decide_eq_true e
          subst exk
          wtm_at "go"
          have e2 : V.int (plI ks x) = V.int (0 + (i : Int)) := by
            unfold plI
            rw [ixK_first hx hn]
            show V.int (i : Int) = _
            congr 1
            omega
          rw [e2] at q
          exact q
        · wtm_at "go"
          exact ⟨_, rfl, rfl, go_on (ofF e)⟩
      · wtm_at "F"
        wtm_at "go"
        exact ⟨_, rfl, rfl, go_on fun z => ofF e (by rw [z])⟩
    · rintro σ H1 ⟨v2, rfl, rfl, hn⟩
      have hn' : k ∉ ks := by
        have e : ((ks.map kV).length : Int).toNat = ks.length := by rw [List.length_map]; omega
        rw [e, List.take_length] at hn
        exact hn
      refine hN _ _ ?_
      wtm_at "go"
      have e2 : V.int (plI ks k) = V.int (-1) := by rw [plI_out hn']
      rw [e2] at q
      exact q
end

end Ki
namespace Ki
open PySem PySem.Spec PyProof.Rows L2 Lb
def nV (n : Nat) : V := .int (n : Nat)
theorem nV_at {l : List Nat} {i : Nat} {x : Nat} {j : Int} (h : l[i]? = some x) (e : j = (i : Int)) : atI (l.map nV) j = some (nV x) := at_of e (by rw [List.getElem?_map, h]; rfl)
theorem BestAt.snoc {ps bs : List Nat} {k x : Nat} (h : BestAt ps bs k) : BestAt ps (bs ++ [x]) k := by
  obtain ⟨m, h1, h2, h3⟩ := h
  have lt := (List.getElem?_eq_some_iff.mp h1).1
  have up : ∀ {j : Nat}, j < bs.length → (bs ++ [x])[j]? = bs[j]? := fun hj => List.getElem?_append_left hj
  refine ⟨m, (up lt).trans h1, fun j a b c hj ha hb hab hc => h2 j a b c hj ha hb hab ((up (by omega)).symm.trans hc), h3.imp id ?_⟩
  rintro ⟨j, a, b, hj, ha, hb, hab, hc⟩
  exact ⟨j, a, b, hj, ha, hb, hab, (up (by omega)).trans hc⟩
/-- the greatest of the bests below the k-th one, ahead of i -/
structure MB (ps bs : List Nat) (k i m : Nat) : Prop where
  up : ∀ (j x y b : Nat), j < i → ps[j]? = some x → ps[k]? = some y → x < y → bs[j]? = some b → b ≤ m
  at_ : m = 0 ∨ ∃ (j x y : Nat), j < i ∧ ps[j]? = some x ∧ ps[k]? = some y ∧ x < y ∧ bs[j]? = some m
theorem MB.skip {ps bs : List Nat} {k i m x y : Nat} (h : MB ps bs k i m) (hx : ps[i]? = some x) (hy : ps[k]? = some y) (n : ¬ x < y) : MB ps bs k (i + 1) m := by
  refine ⟨fun j x' y' b hj h1 h2 h3 h4 => ?_, h.at_.imp id fun ⟨j, a, b, hj, r⟩ => ⟨j, a, b, by omega, r⟩⟩
  by_cases e : j = i
  · subst e
    rw [hx] at h1
    rw [hy] at h2
    cases h1
    cases h2
    exact absurd h3 n
  · exact h.up j x' y' b (by omega) h1 h2 h3 h4
theorem MB.take {ps bs : List Nat} {k i m x y c : Nat} (h : MB ps bs k i m) (hx : ps[i]? = some x) (hy : ps[k]? = some y) (l : x < y) (hc : bs[i]? = some c) : MB ps bs k (i + 1) (if c > m then c else m) := by
  refine ⟨fun j x' y' b hj h1 h2 h3 h4 => ?_, ?_⟩
  · by_cases e : j = i
    · subst e
      rw [hc] at h4
      cases h4
      split <;> omega
    · have := h.up j x' y' b (by omega) h1 h2 h3 h4
      split <;> omega
  · by_cases g : c > m
    · rw [if_pos g]
      exact .inr ⟨i, x, y, by omega, hx, hy, l, hc⟩
    · rw [if_neg g]
      exact h.at_.imp id fun ⟨j, a, b, hj, r⟩ => ⟨j, a, b, by omega, r⟩
theorem MB.best {ps bs : List Nat} {m : Nat} (h : MB ps bs bs.length bs.length m) : BestAt ps (bs ++ [m + 1]) bs.length := by
  refine ⟨m, by rw [List.getElem?_append_right (Nat.le_refl _), Nat.sub_self]; rfl, fun j a b c hj ha hb hab hc => ?_, h.at_.imp id ?_⟩
  · rw [List.getElem?_append_left hj] at hc
    exact h.up j a b c hj ha hb hab hc
  · rintro ⟨j, a, b, hj, ha, hb, hab, hc⟩
    exact ⟨j, a, b, hj, ha, hb, hab, by rw [List.getElem?_append_left hj]; exact hc⟩
theorem maxN (c m : Nat) : (if (c : Int) > (m : Int) then (c : Int) else (m : Int)) = ((if c > m then c else m : Nat) : Int) := by
  by_cases h : c > m
  · rw [if_pos h, if_pos (by omega)]
  · rw [if_neg h, if_neg (by omega)]
section
variable {P : Program} {w : World} {K : PySem.W.Frag} {mg : Str → Option Value} {base : Heap}
def spLLongest (K : PySem.W.Frag) : Sp := fun vs H Q _ => ∃ (a b : Addr) (old new : List Key), vs = [.ref a, .ref b] ∧ SqL K H a (old.map kV) ∧ SqL K H b (new.map kV) ∧ old.Nodup ∧ new.Nodup ∧ old.length ≤ 500 ∧ new.length ≤ 500 ∧
  ∀ (t : Addr) (H' : Hp), Keep [] H H' → H' t = some (.tup [nV (old.filter fun k => kIn k new).length, nV (pilesF new old).length]) → Q (.ref t) H'
theorem okLLongest (T : TX K mg) : FnOk P w K mg base CX0 2 T.fLLongest T.dLLongest ["_law_old", "_law_new"] (spLLongest K) := by
  have GP : FnOk P w K mg base CX0 1 T.fLPlace T.dLPlace ["_law_row", "_law_value_here"] (spLPlace K) := okLPlace T
  refine T.FLLongest.ok scLLongest (fun vs H Q E h => ?_) (fun cdv A outer s H vs Q E hr h => ?_)
  · obtain ⟨a, b, old, new, rfl, _⟩ := h
    rfl
  · obtain ⟨a, b, old, new, rfl, ha, hb, ndo, ndn, lo, ln, q⟩ := h
    refine ⟨_, (derLLongest T GP hr).2, ?_⟩
    unfold derLLongest
    dsimp only [cxOf, Cx.nox]
    refine Lb.seq1 fun N hN => ?_
    wtm_at "go"
    refine ⟨_, rfl, a, rfl, ⟨_, ha⟩, fun D hD => ?_⟩
    have kD : Keep [] H (upd H D (.lst [])) := Keep.new hD
    refine lc_list (K := K) (a := a) (xs := old.map kV) (fun i H5 => Keep [] H H5 ∧ H5 D = some (.lst ((((old.take i).filter fun k => kIn k new).map (pl new)).map nV))) ⟨kD, upd_same⟩ (fun i H5 _ h => h.1.seq ha List.not_mem_nil) ?_ ?_
    · rintro i y H5 hy ⟨k5, hD5⟩
      obtain ⟨v, hv, rfl⟩ := getk hy
      refine ⟨rfl, ?_⟩
      wtm_at "go"
      refine ⟨b, new, v, rfl, k5.seq hb List.not_mem_nil, by omega, ?_⟩
      wtm_at "go"
      rw [take_snoc hv, List.filter_append, List.map_append, List.map_append]
      by_cases m : v ∈ new
      · have e1 : ([v].filter fun k => kIn k new) = [v] := by simp [List.filter, kIn_iff.mpr m]
        rw [plI_mem m]
        refine ifbT (decide_eq_true (by omega)) ?_
        wtm_at "go"
        refine ⟨b, new, v, rfl, k5.seq hb List.not_mem_nil, by omega, ?_⟩
        refine ⟨_, hD5, ?_, by wtm_at "keep", ?_⟩
        · rw [List.length_map, List.length_map]
          have h3 := List.length_filter_le (fun k => kIn k new) (old.take i)
          have h4 : (old.take i).length ≤ old.length := by rw [List.length_take]; omega
          exact small1000 (by omega)
        · rw [upd_same, e1, plI_mem m]
          rfl
      · have e1 : ([v].filter fun k => kIn k new) = [] := by simp [List.filter, kIn_no.mpr m]
        rw [plI_out m]
        refine ifbF (decide_eq_false (by omega)) ?_
        refine ⟨k5, ?_⟩
        rw [hD5, e1]
        simp
    · rintro H5 ⟨k5, hD5⟩
      rw [List.length_map, List.take_length] at hD5
      have pl0 : ((old.filter fun k => kIn k new).map (pl new)).length = (old.filter fun k => kIn k new).length := List.length_map ..
      have pll := List.length_filter_le (fun k => kIn k new) old
      have BS := fun (bs : List Nat) => most_piles (old := old) (new := new) ndo ndn (bs := bs)
      generalize (old.filter fun k => kIn k new).map (pl new) = ps at hD5 pl0 BS
      wtm_at "go"
      refine hN _ _ ?_
      clear hN N
      refine Lb.seq1 fun N hN => ?_
      wtm_at "go"
      refine ⟨Nat.zero_le _, fun B nB => ?_⟩
      wtm_at "go"
      refine hN _ _ ?_
      clear hN N
      have DB : D ≠ B := ne_of_none hD5 nB
      have k6 : Keep [] H (upd H5 B (.lst [])) := by wtm_at "keep"
      have hD6 : (upd H5 B (.lst [])) D = _ := fact_ne DB hD5
      have hB6 : (upd H5 B (.lst [])) B = some (.lst (([] : List Nat).map nV)) := upd_same
      have nB0 : H B = none := k5.free nB List.not_mem_nil
      generalize upd H5 B (.lst []) = H6 at k6 hD6 hB6 ⊢
      refine Lb.seq1 fun N hN => ?_
      refine ⟨.ref D, rfl, D, _, rfl, .inl (SqL.of hD6), (((ps.map nV).length : Nat) : Int), rfl, by omega, by rw [List.length_map]; omega, ?_⟩
      refine for_range (lo := 0) (n := (((ps.map nV).length : Nat) : Int).toNat) (fun i σ' H7 => ∃ (x y z : Option V) (bs : List Nat), σ' = [some (.ref a), some (.ref b), some (.ref D), some (.ref B), x, y, z, none, none] ∧ Keep [] H H7 ∧ H7 D = some (.lst (ps.map nV)) ∧ H7 B = some (.lst (bs.map nV)) ∧ bs.length = i ∧ ∀ k, k < i → BestAt ps bs k)
        ⟨none, none, none, [], rfl, k6, hD6, hB6, rfl, fun k h => absurd h (Nat.not_lt_zero _)⟩ ?_ ?_
      · rintro i σ' H7 hi ⟨x, y, z, bs, rfl, k7, hD7, hB7, bl, ba⟩
        have hi' : i < ps.length := by rw [List.length_map] at hi; omega
        have hpi := List.getElem?_eq_getElem hi'
        generalize ps[i] = u at hpi
        rw [show (0 : Int) + (i : Int) = (i : Int) by omega]
        wtm_at "go"
        refine Lb.seq1 fun N2 hN2 => ?_
        wtm_at "go"
        refine hN2 _ _ ?_
        clear hN2 N2
        refine Lb.seq1 fun N2 hN2 => ?_
        refine ⟨.int (i : Nat), rfl, ((i : Nat) : Int), rfl, by omega, by omega, ?_⟩
        refine for_range (lo := 0) (n := ((i : Nat) : Int).toNat) (fun j σ2 H8 => ∃ (z : Option V) (m : Nat), σ2 = [some (.ref a), some (.ref b), some (.ref D), some (.ref B), some (.int (i : Nat)), some (.int (m : Nat)), z, none, none] ∧ H8 = H7 ∧ MB ps bs i j m)
          ⟨z, 0, rfl, rfl, fun j x y b h => absurd h (Nat.not_lt_zero _), .inl rfl⟩ ?_ ?_
        · rintro j σ2 H8 hj ⟨z, m, rfl, rfl, mb⟩
          have hj' : j < i := by omega
          have hpj := List.getElem?_eq_getElem (show j < ps.length by omega)
          generalize ps[j]'(by omega) = v at hpj
          have hbj := List.getElem?_eq_getElem (show j < bs.length by omega)
          generalize bs[j]'(by omega) = c at hbj
          rw [show (0 : Int) + (j : Int) = (j : Int) by omega]
          have a1 : atI (ps.map nV) ((j : Nat) : Int) = some (.int (v : Nat)) := nV_at hpj rfl
          have a2 : atI (ps.map nV) ((i : Nat) : Int) = some (.int (u : Nat)) := nV_at hpi rfl
          have a3 : atI (bs.map nV) ((j : Nat) : Int) = some (.int (c : Nat)) := nV_at hbj rfl
          have sD : SqL K H8 D (ps.map nV) := SqL.of hD7
          have sB : SqL K H8 B (bs.map nV) := SqL.of hB7
          wtm_at "go"
          by_cases l : v < u
          · refine ifbT (decide_eq_true (by omega)) ?_
            wtm_at "go"
            refine ⟨_, _, rfl, ?_⟩
            rw [maxN]
            wtm_at "go"
            exact ⟨_, _, rfl, rfl, mb.take hpj hpi l hbj⟩
          · refine ifbF (decide_eq_false (by omega)) ?_
            wtm_at "go"
            exact ⟨_, _, rfl, rfl, mb.skip hpj hpi l⟩
        · rintro σ2 H8 ⟨z, m, rfl, rfl, mb⟩
          refine hN2 _ _ ?_
          clear hN2 N2
          wtm_at "go"
          rw [Int.toNat_natCast] at mb
          refine ⟨tyl (SqL.of hB7), ?_⟩
          wtm_at "go"
          refine g_append hB7 (by rw [List.length_map]; exact small1000 (by omega)) ?_
          subst bl
          refine ⟨_, _, _, bs ++ [m + 1], rfl, by wtm_at "keep", fact_ne DB hD7, by rw [upd_same, List.map_append]; rfl, by simp, fun k hk => ?_⟩
          by_cases e : k < bs.length
          · exact (ba k e).snoc
          · have e2 : k = bs.length := by omega
            subst e2
            exact mb.best
      · rintro σ' H7 ⟨x, y, z, bs, rfl, k7, hD7, hB7, bl, ba⟩
        refine hN _ _ ?_
        clear hN N
        refine Lb.seq1 fun N hN => ?_
        wtm_at "go"
        refine hN _ _ ?_
        clear hN N
        refine Lb.seq1 fun N hN => ?_
        wtm_at "go"
        refine ⟨.ref B, rfl, B, rfl, ⟨_, SqL.of hB7⟩, for_list (K := K) (a := B) (xs := bs.map nV)
          (fun i σ' H8 => ∃ (x y z : Option V) (m : Nat), σ' = [some (.ref a), some (.ref b), some (.ref D), some (.ref B), x, y, z, some (.int (m : Nat)), none] ∧ H8 = H7 ∧ (∀ c, c ∈ bs.take i → c ≤ m) ∧ (m = 0 ∨ m ∈ bs))
          ⟨_, _, _, 0, rfl, rfl, fun c h => by simp at h, .inl rfl⟩
          (fun i σ' H8 _ h => by obtain ⟨_, _, _, _, _, rfl, _⟩ := h; exact SqL.of hB7) ?_ ?_⟩
        · rintro i w' σ' H8 hw ⟨x, y, z, m, rfl, rfl, h1, h2⟩
          rw [List.getElem?_map] at hw
          obtain ⟨c, hc, rfl⟩ := Option.map_eq_some_iff.mp hw
          show gName 5 (.int (c : Nat)) _ _ _
          wtm_at "go"
          refine ⟨_, _, rfl, ?_⟩
          rw [maxN]
          wtm_at "go"
          refine ⟨_, _, _, _, rfl, rfl, fun c' hc' => ?_, ?_⟩
          · rw [take_snoc hc] at hc'
            rcases List.mem_append.mp hc' with h | h
            · have := h1 c' h
              split <;> omega
            · have : c' = c := by simpa using h
              subst this
              split <;> omega
          · split
            · exact .inr (List.mem_of_getElem? hc)
            · exact h2
        · rintro σ' H8 ⟨x, y, z, m, rfl, rfl, h1, h2⟩
          rw [List.length_map, List.take_length] at h1
          refine hN _ _ ?_
          rw [List.length_map, Int.toNat_natCast] at bl
          have em := BS bs (by omega) (fun k hk => ba k (by rw [List.length_map]; omega)) h1 h2
          have sD : SqL K H8 D (ps.map nV) := SqL.of hD7
          wtm_at "go"
          refine ⟨by show 2 ≤ sizeLine; decide, fun t nt => ?_⟩
          refine q t _ (by wtm_at "keep") ?_
          rw [upd_same, em, List.length_map, pl0]
          rfl
end

end Ki
namespace Ki
open PySem PySem.Spec PyProof.Rows L2 Lb
theorem plI_idx {l : List Key} {k : Key} (h : k ∈ l) : plI l k = (l.idxOf k : Nat) := by
  unfold plI
  rw [ixK_first (idx_get h) fun m => by
    obtain ⟨i, hi⟩ := List.mem_iff_getElem?.mp m
    have il := (List.getElem?_eq_some_iff.mp hi).1
    rw [List.length_take] at il
    rw [List.getElem?_take_of_lt (by omega)] at hi
    exact idx_min k l i k (by omega) hi rfl]
theorem cut_take (xs : List V) {n : Nat} (h : n ≤ xs.length) : cutV xs none (some (n : Int)) = xs.take n := by
  unfold cutV
  rw [HT.sIx_nat, HT.sIx_none, List.drop_zero, Nat.sub_zero, Nat.min_eq_left h]
theorem cut_drop (xs : List V) {n : Nat} {j : Int} (e : j = (n : Int)) (h : n ≤ xs.length) : cutV xs (some j) none = xs.drop n := by
  subst e
  unfold cutV
  rw [HT.sIx_nat, HT.sIx_none, Nat.min_eq_left h]
  exact List.take_of_length_le (by rw [List.length_drop]; omega)
theorem cut_erase (row : List Key) (v : Key) : (row.map kV).take (row.idxOf v) ++ (row.map kV).drop (row.idxOf v + 1) = (row.erase v).map kV := by
  rw [erase_idx, List.eraseIdx_eq_take_drop_succ, List.map_append, List.map_take, List.map_drop]
section
variable {P : Program} {w : World} {K : PySem.W.Frag} {mg : Str → Option Value} {base : Heap}
def spLDone (K : PySem.W.Frag) : Sp := fun vs H Q _ => ∃ (a t : Addr) (row : List Key) (e : Ed), vs = [.ref a, .ref t] ∧ H a = some (.lst (row.map kV)) ∧ SqT K H t (edV e) ∧ okE row e ∧ row.length ≤ 990 ∧
  ∀ (p : Addr) (H' : Hp), H p = none → Keep [] H H' → H' p = some (.lst ((apE row e).map kV)) → Q (.ref p) H'
theorem okLDone (T : TX K mg) : FnOk P w K mg base CX0 2 T.fLDone T.dLDone ["_law_row", "_law_edit"] (spLDone K) := by
  have GP : FnOk P w K mg base CX0 1 T.fLPlace T.dLPlace ["_law_row", "_law_value_here"] (spLPlace K) := okLPlace T
  have GV : FnOk P w K mg base CX0 1 T.fLIsValue T.dLIsValue ["_law_value_here"] spLIsValue := okLIsValue T
  refine T.FLDone.ok scLDone (fun vs H Q E h => ?_) (fun cdv A outer s H vs Q E hr h => ?_)
  · obtain ⟨a, t, row, e, rfl, _⟩ := h
    rfl
  · obtain ⟨a, t, row, e, rfl, ha, ht, ok, ln, q⟩ := h
    refine ⟨_, (derLDone T GP GV hr).2, ?_⟩
    unfold derLDone
    dsimp only [cxOf, Cx.nox]
    have sa : SqL K H a (row.map kV) := SqL.of ha
    cases e with
    | drop v =>
      have ht : SqT K H t [.str "drop", kV v] := ht
      refine Lb.seq1 fun N hN => ?_
      wtm_at "go"
      refine g_isi (tyx_tup ht) (b := true) (by decide +kernel) ?_
      wtm_at "go"
      refine ifbF rfl ?_
      wtm_at "go"
      refine ifbF (by rfl) ?_
      wtm_at "go"
      refine ⟨by show 3 ≤ sizeLine; decide, fun L nL => ?_⟩
      have k1 : Keep [] H (upd H L (.tup [.str "drop", .str "put", .str "move"])) := by wtm_at "keep"
      have sL : SqT K (upd H L (.tup [.str "drop", .str "put", .str "move"])) L _ := SqT.of upd_same
      have ht1 : SqT K (upd H L (.tup [.str "drop", .str "put", .str "move"])) t [.str "drop", kV v] := k1.tup ht List.not_mem_nil
      have ha1 : (upd H L (.tup [.str "drop", .str "put", .str "move"])) a = some (.lst (row.map kV)) := k1.at ha List.not_mem_nil
      have sa1 : SqL K (upd H L (.tup [.str "drop", .str "put", .str "move"])) a (row.map kV) := SqL.of ha1
      generalize upd H L (.tup [.str "drop", .str "put", .str "move"]) = H1 at k1 sL ht1 ha1 sa1 ⊢
      clear ht sa
      wtm_at "go"
      refine g_in (.inr sL) rfl rfl ?_
      refine ⟨false, by rfl, ?_⟩
      refine ifbF rfl ?_
      wtm_at "go"
      refine hN _ _ ?_
      clear hN N
      refine Lb.seq1 fun N hN => ?_
      wtm_at "go"
      refine ⟨v, rfl, ?_⟩
      wtm_at "go"
      refine ifbF rfl ?_
      wtm_at "go"
      refine g_intB ?_
      wtm_at "go"
      refine ifbF (by rfl) ?_
      wtm_at "go"
      refine hN _ _ ?_
      clear hN N
      refine Lb.seq1 fun N hN => ?_
      wtm_at "go"
      refine ⟨a, row, v, rfl, sa1, by omega, ?_⟩
      wtm_at "go"
      refine hN _ _ ?_
      clear hN N
      refine Lb.seq1 fun N hN => ?_
      wtm_at "go"
      have vm : v ∈ row := ok
      have il := List.idxOf_lt_length_of_mem vm
      have il2 : row.idxOf v < (row.map kV).length := by rw [List.length_map]; exact il
      rw [plI_idx vm, decide_eq_false (show ¬ ((row.idxOf v : Nat) : Int) < 0 by omega)]
      refine ifbF (by rfl) ?_
      wtm_at "go"
      refine hN _ _ ?_
      clear hN N
      refine Lb.seq1 fun N hN => ?_
      wtm_at "go"
      refine ifbT (decide_eq_true (by omega)) ?_
      wtm_at "go"
      refine ⟨a, _, rfl, sa1, fun p1 np1 => ?_⟩
      rw [cut_take _ (Nat.le_of_lt il2)]
      have s2 : SqL K (upd H1 p1 (.lst ((row.map kV).take (row.idxOf v)))) a (row.map kV) := sq_new np1 sa1
      wtm_at "go"
      refine ⟨a, _, rfl, s2, fun p2 np2 => ?_⟩
      rw [cut_drop (n := row.idxOf v + 1) _ (by omega) (by omega)]
      refine ⟨p1, p2, _, _, rfl, rfl, fact_new np2 upd_same, upd_same, Nat.le_of_lt (small1000 (by rw [List.length_take, List.length_drop, List.length_map]; omega)), fun p np => ?_⟩
      rw [cut_erase]
      wtm_at "go"
      refine hN _ _ ?_
      clear hN N
      have k2 : Keep [] H (upd (upd (upd H1 p1 (.lst ((row.map kV).take (row.idxOf v)))) p2 (.lst ((row.map kV).drop (row.idxOf v + 1)))) p (.lst ((row.erase v).map kV))) := by wtm_at "keep"
      have k12 : Keep [] H1 (upd (upd (upd H1 p1 (.lst ((row.map kV).take (row.idxOf v)))) p2 (.lst ((row.map kV).drop (row.idxOf v + 1)))) p (.lst ((row.erase v).map kV))) := ((Keep.new np1).trans (Keep.new np2)).trans (Keep.new np)
      have hp : (upd (upd (upd H1 p1 (.lst ((row.map kV).take (row.idxOf v)))) p2 (.lst ((row.map kV).drop (row.idxOf v + 1)))) p (.lst ((row.erase v).map kV))) p = some (.lst ((row.erase v).map kV)) := upd_same
      have np0 : H p = none := k1.free (((Keep.new np1).trans (Keep.new np2)).free np List.not_mem_nil) List.not_mem_nil
      generalize upd (upd (upd H1 p1 (.lst ((row.map kV).take (row.idxOf v)))) p2 (.lst ((row.map kV).drop (row.idxOf v + 1)))) p (.lst ((row.erase v).map kV)) = H2 at k2 k12 hp ⊢
      have ht2 := k12.tup ht1 List.not_mem_nil
      clear np np1 np2 s2 k12
      refine Lb.seq1 fun N hN => ?_
      wtm_at "go"
      refine ifbT (by rfl) ?_
      wtm_at "go"
      exact q p H2 np0 k2 hp
    | put v tt =>
      have ht : SqT K H t [.str "put", kV v, befV tt] := ht
      refine Lb.seq1 fun N hN => ?_
      wtm_at "go"
      refine g_isi (tyx_tup ht) (b := true) (by decide +kernel) ?_
      wtm_at "go"
      refine ifbF rfl ?_
      wtm_at "go"
      refine ifbF (by rfl) ?_
      wtm_at "go"
      refine ⟨by show 3 ≤ sizeLine; decide, fun L nL => ?_⟩
      have k1 : Keep [] H (upd H L (.tup [.str "drop", .str "put", .str "move"])) := by wtm_at "keep"
      have sL : SqT K (upd H L (.tup [.str "drop", .str "put", .str "move"])) L _ := SqT.of upd_same
      have ht1 : SqT K (upd H L (.tup [.str "drop", .str "put", .str "move"])) t [.str "put", kV v, befV tt] := k1.tup ht List.not_mem_nil
      have ha1 : (upd H L (.tup [.str "drop", .str "put", .str "move"])) a = some (.lst (row.map kV)) := k1.at ha List.not_mem_nil
      have sa1 : SqL K (upd H L (.tup [.str "drop", .str "put", .str "move"])) a (row.map kV) := SqL.of ha1
      generalize upd H L (.tup [.str "drop", .str "put", .str "move"]) = H1 at k1 sL ht1 ha1 sa1 ⊢
      clear ht sa
      wtm_at "go"
      refine g_in (.inr sL) rfl rfl ?_
      refine ⟨false, by rfl, ?_⟩
      refine ifbF rfl ?_
      wtm_at "go"
      refine hN _ _ ?_
      clear hN N
      refine Lb.seq1 fun N hN => ?_
      wtm_at "go"
      refine ⟨v, rfl, ?_⟩
      wtm_at "go"
      refine ifbF rfl ?_
      wtm_at "go"
      refine g_intB ?_
      wtm_at "go"
      refine ifbF (by rfl) ?_
      wtm_at "go"
      refine hN _ _ ?_
      clear hN N
      refine Lb.seq1 fun N hN => ?_
      wtm_at "go"
      refine ⟨a, row, v, rfl, sa1, by omega, ?_⟩
      wtm_at "go"
      refine hN _ _ ?_
      clear hN N
      refine Lb.seq1 fun N hN => ?_
      wtm_at "go"
      obtain ⟨vn, ot⟩ := ok
      rw [plI_out vn]
      refine ifbF (by rfl) ?_
      wtm_at "go"
      refine hN _ _ ?_
      clear hN N
      refine Lb.seq1 fun N hN => ?_
      wtm_at "go"
      refine ifbF (by rfl) ?_
      wtm_at "go"
      refine hN _ _ ?_
      clear hN N
      have sr : SqL K H1 a (row.map kV) := SqL.of ha1
      refine Lb.seq1 fun N hN => ?_
      wtm_at "go"
      refine ifbF (by rfl) ?_
      wtm_at "go"
      refine hN _ _ ?_
      clear hN N
      refine Lb.seq1 fun N hN => ?_
      wtm_at "go"
      refine ⟨rfl, ?_⟩
      rw [bef_none]
      wtm_at "go"
      cases tt with
      | none =>
        refine ifbT rfl ?_
        wtm_at "go"
        refine ⟨by show 1 ≤ sizeLine; decide, fun x nx => ?_⟩
        refine ⟨a, x, _, _, rfl, rfl, fact_new nx ha1, upd_same, Nat.le_of_lt (small1000 (by rw [List.length_map]; show _ + 1 ≤ _; omega)), fun p np => ?_⟩
        refine q p _ (k1.free ((Keep.new nx).free np List.not_mem_nil) List.not_mem_nil) (by wtm_at "keep") ?_
        rw [upd_same]
        show some (HO.lst (row.map kV ++ [kV v])) = some (HO.lst ((row ++ [v]).map kV))
        rw [List.map_append]
        rfl
      | some u =>
        obtain ⟨um, ne⟩ := ot u rfl
        have ui : u ∈ row := um
        have il3 := List.idxOf_lt_length_of_mem ui
        refine ifbF rfl ?_
        wtm_at "go"
        refine hN _ _ ?_
        clear hN N
        refine Lb.seq1 fun N hN => ?_
        wtm_at "go"
        refine ⟨u, rfl, ?_⟩
        wtm_at "go"
        refine ifbF rfl ?_
        wtm_at "go"
        refine hN _ _ ?_
        clear hN N
        refine Lb.seq1 fun N hN => ?_
        wtm_at "go"
        refine ⟨a, row, u, rfl, sr, by omega, ?_⟩
        wtm_at "go"
        refine hN _ _ ?_
        clear hN N
        rw [plI_idx ui]
        refine Lb.seq1 fun N hN => ?_
        wtm_at "go"
        refine ifbF (decide_eq_false (by omega)) ?_
        wtm_at "go"
        refine hN _ _ ?_
        clear hN N
        wtm_at "go"
        have il4 : row.idxOf u ≤ (row.map kV).length := by rw [List.length_map]; omega
        refine ⟨a, _, rfl, sr, fun q1 nq1 => ?_⟩
        rw [cut_take _ il4]
        wtm_at "go"
        refine ⟨by show 1 ≤ sizeLine; decide, fun x nx => ?_⟩
        refine ⟨q1, x, _, _, rfl, rfl, fact_new nx upd_same, upd_same, Nat.le_of_lt (small1000 (by rw [List.length_take, List.length_map]; show _ + 1 ≤ _; omega)), fun y ny => ?_⟩
        wtm_at "go"
        refine ⟨a, _, rfl, sq_new ny (sq_new nx (sq_new nq1 sr)), fun z nz => ?_⟩
        rw [cut_drop (n := row.idxOf u) _ rfl il4]
        refine ⟨y, z, _, _, rfl, rfl, fact_new nz upd_same, upd_same, Nat.le_of_lt (small1000 (by rw [List.length_append, List.length_take, List.length_drop, List.length_map]; show _ + 1 + _ ≤ _; omega)), fun p4 np4 => ?_⟩
        have kk := ((((k1.trans (Keep.new nq1)).trans (Keep.new nx)).trans (Keep.new ny)).trans (Keep.new (o := .lst ((row.map kV).drop (row.idxOf u))) nz))
        refine q p4 _ (kk.free np4 List.not_mem_nil) (kk.trans (Keep.new np4)) ?_
        rw [upd_same, ins_some]
        rfl
    | move v tt =>
      have ht : SqT K H t [.str "move", kV v, befV tt] := ht
      refine Lb.seq1 fun N hN => ?_
      wtm_at "go"
      refine g_isi (tyx_tup ht) (b := true) (by decide +kernel) ?_
      wtm_at "go"
      refine ifbF rfl ?_
      wtm_at "go"
      refine ifbF (by rfl) ?_
      wtm_at "go"
      refine ⟨by show 3 ≤ sizeLine; decide, fun L nL => ?_⟩
      have k1 : Keep [] H (upd H L (.tup [.str "drop", .str "put", .str "move"])) := by wtm_at "keep"
      have sL : SqT K (upd H L (.tup [.str "drop", .str "put", .str "move"])) L _ := SqT.of upd_same
      have ht1 : SqT K (upd H L (.tup [.str "drop", .str "put", .str "move"])) t [.str "move", kV v, befV tt] := k1.tup ht List.not_mem_nil
      have ha1 : (upd H L (.tup [.str "drop", .str "put", .str "move"])) a = some (.lst (row.map kV)) := k1.at ha List.not_mem_nil
      have sa1 : SqL K (upd H L (.tup [.str "drop", .str "put", .str "move"])) a (row.map kV) := SqL.of ha1
      generalize upd H L (.tup [.str "drop", .str "put", .str "move"]) = H1 at k1 sL ht1 ha1 sa1 ⊢
      clear ht sa
      wtm_at "go"
      refine g_in (.inr sL) rfl rfl ?_
      refine ⟨false, by rfl, ?_⟩
      refine ifbF rfl ?_
      wtm_at "go"
      refine hN _ _ ?_
      clear hN N
      refine Lb.seq1 fun N hN => ?_
      wtm_at "go"
      refine ⟨v, rfl, ?_⟩
      wtm_at "go"
      refine ifbF rfl ?_
      wtm_at "go"
      refine g_intB ?_
      wtm_at "go"
      refine ifbF (by rfl) ?_
      wtm_at "go"
      refine hN _ _ ?_
      clear hN N
      refine Lb.seq1 fun N hN => ?_
      wtm_at "go"
      refine ⟨a, row, v, rfl, sa1, by omega, ?_⟩
      wtm_at "go"
      refine hN _ _ ?_
      clear hN N
      refine Lb.seq1 fun N hN => ?_
      wtm_at "go"
      obtain ⟨vm, ot⟩ := ok
      have il := List.idxOf_lt_length_of_mem vm
      have il2 : row.idxOf v < (row.map kV).length := by rw [List.length_map]; exact il
      rw [plI_idx vm, decide_eq_false (show ¬ ((row.idxOf v : Nat) : Int) < 0 by omega)]
      refine ifbF (by rfl) ?_
      wtm_at "go"
      refine hN _ _ ?_
      clear hN N
      refine Lb.seq1 fun N hN => ?_
      wtm_at "go"
      refine ifbT (decide_eq_true (by omega)) ?_
      wtm_at "go"
      refine ⟨a, _, rfl, sa1, fun p1 np1 => ?_⟩
      rw [cut_take _ (Nat.le_of_lt il2)]
      have s2 : SqL K (upd H1 p1 (.lst ((row.map kV).take (row.idxOf v)))) a (row.map kV) := sq_new np1 sa1
      wtm_at "go"
      refine ⟨a, _, rfl, s2, fun p2 np2 => ?_⟩
      rw [cut_drop (n := row.idxOf v + 1) _ (by omega) (by omega)]
      refine ⟨p1, p2, _, _, rfl, rfl, fact_new np2 upd_same, upd_same, Nat.le_of_lt (small1000 (by rw [List.length_take, List.length_drop, List.length_map]; omega)), fun p np => ?_⟩
      rw [cut_erase]
      wtm_at "go"
      refine hN _ _ ?_
      clear hN N
      have k2 : Keep [] H (upd (upd (upd H1 p1 (.lst ((row.map kV).take (row.idxOf v)))) p2 (.lst ((row.map kV).drop (row.idxOf v + 1)))) p (.lst ((row.erase v).map kV))) := by wtm_at "keep"
      have k12 : Keep [] H1 (upd (upd (upd H1 p1 (.lst ((row.map kV).take (row.idxOf v)))) p2 (.lst ((row.map kV).drop (row.idxOf v + 1)))) p (.lst ((row.erase v).map kV))) := ((Keep.new np1).trans (Keep.new np2)).trans (Keep.new np)
      have hp : (upd (upd (upd H1 p1 (.lst ((row.map kV).take (row.idxOf v)))) p2 (.lst ((row.map kV).drop (row.idxOf v + 1)))) p (.lst ((row.erase v).map kV))) p = some (.lst ((row.erase v).map kV)) := upd_same
      have np0 : H p = none := k1.free (((Keep.new np1).trans (Keep.new np2)).free np List.not_mem_nil) List.not_mem_nil
      generalize upd (upd (upd H1 p1 (.lst ((row.map kV).take (row.idxOf v)))) p2 (.lst ((row.map kV).drop (row.idxOf v + 1)))) p (.lst ((row.erase v).map kV)) = H2 at k2 k12 hp ⊢
      have ht2 := k12.tup ht1 List.not_mem_nil
      clear np np1 np2 s2 k12
      have le := List.length_erase_le (a := v) (l := row)
      have sr : SqL K H2 p ((row.erase v).map kV) := SqL.of hp
      refine Lb.seq1 fun N hN => ?_
      wtm_at "go"
      refine ifbF (by rfl) ?_
      wtm_at "go"
      refine hN _ _ ?_
      clear hN N
      refine Lb.seq1 fun N hN => ?_
      wtm_at "go"
      refine ⟨rfl, ?_⟩
      rw [bef_none]
      wtm_at "go"
      cases tt with
      | none =>
        refine ifbT rfl ?_
        wtm_at "go"
        refine ⟨by show 1 ≤ sizeLine; decide, fun x nx => ?_⟩
        refine ⟨p, x, _, _, rfl, rfl, fact_new nx hp, upd_same, Nat.le_of_lt (small1000 (by rw [List.length_map]; show _ + 1 ≤ _; omega)), fun p3 np3 => ?_⟩
        refine q p3 _ (k2.free ((Keep.new nx).free np3 List.not_mem_nil) List.not_mem_nil) (by wtm_at "keep") ?_
        rw [upd_same]
        show some (HO.lst ((row.erase v).map kV ++ [kV v])) = some (HO.lst (((row.erase v) ++ [v]).map kV))
        rw [List.map_append]
        rfl
      | some u =>
        obtain ⟨um, ne⟩ := ot u rfl
        have ui : u ∈ (row.erase v) := (List.mem_erase_of_ne ne).mpr um
        have il3 := List.idxOf_lt_length_of_mem ui
        refine ifbF rfl ?_
        wtm_at "go"
        refine hN _ _ ?_
        clear hN N
        refine Lb.seq1 fun N hN => ?_
        wtm_at "go"
        refine ⟨u, rfl, ?_⟩
        wtm_at "go"
        refine ifbF rfl ?_
        wtm_at "go"
        refine hN _ _ ?_
        clear hN N
        refine Lb.seq1 fun N hN => ?_
        wtm_at "go"
        refine ⟨p, (row.erase v), u, rfl, sr, by omega, ?_⟩
        wtm_at "go"
        refine hN _ _ ?_
        clear hN N
        rw [plI_idx ui]
        refine Lb.seq1 fun N hN => ?_
        wtm_at "go"
        refine ifbF (decide_eq_false (by omega)) ?_
        wtm_at "go"
        refine hN _ _ ?_
        clear hN N
        wtm_at "go"
        have il4 : (row.erase v).idxOf u ≤ ((row.erase v).map kV).length := by rw [List.length_map]; omega
        refine ⟨p, _, rfl, sr, fun q1 nq1 => ?_⟩
        rw [cut_take _ il4]
        wtm_at "go"
        refine ⟨by show 1 ≤ sizeLine; decide, fun x nx => ?_⟩
        refine ⟨q1, x, _, _, rfl, rfl, fact_new nx upd_same, upd_same, Nat.le_of_lt (small1000 (by rw [List.length_take, List.length_map]; show _ + 1 ≤ _; omega)), fun y ny => ?_⟩
        wtm_at "go"
        refine ⟨p, _, rfl, sq_new ny (sq_new nx (sq_new nq1 sr)), fun z nz => ?_⟩
        rw [cut_drop (n := (row.erase v).idxOf u) _ rfl il4]
        refine ⟨y, z, _, _, rfl, rfl, fact_new nz upd_same, upd_same, Nat.le_of_lt (small1000 (by rw [List.length_append, List.length_take, List.length_drop, List.length_map]; show _ + 1 + _ ≤ _; omega)), fun p4 np4 => ?_⟩
        have kk := ((((k2.trans (Keep.new nq1)).trans (Keep.new nx)).trans (Keep.new ny)).trans (Keep.new (o := .lst (((row.erase v).map kV).drop ((row.erase v).idxOf u))) nz))
        refine q p4 _ (kk.free np4 List.not_mem_nil) (kk.trans (Keep.new np4)) ?_
        rw [upd_same, ins_some]
        rfl
end

end Ki
namespace Ki
open PySem PySem.Spec PyProof.Rows L2 Lb
theorem ofS_inj {s t : String} (h : Str.ofString s = Str.ofString t) : s = t := by
  have h1 : (Str.ofString s).cps.toList = (Str.ofString t).cps.toList := by rw [h]
  rw [signs_ofString, signs_ofString] at h1
  have h2 : s.toList = t.toList := by
    have inj : ∀ (a b : List Char), a.map Char.toNat = b.map Char.toNat → a = b := by
      intro a
      induction a with
      | nil => intro b hb; cases b with | nil => rfl | cons _ _ => cases hb
      | cons x r ih =>
        intro b hb
        cases b with
        | nil => cases hb
        | cons y r' =>
          simp only [List.map_cons, List.cons.injEq] at hb
          rw [Char.toNat_inj.mp hb.1, ih r' hb.2]
    exact inj _ _ h1
  exact String.toList_inj.mp h2
theorem strI_inj {i j : Int} (h : Str.ofString (toString i) = Str.ofString (toString j)) : i = j := Int.repr_inj.mp (ofS_inj h)
theorem strOk_of (s : String) : PyData.strOk (Str.ofString s) = true := by
  unfold PyData.strOk
  rw [← Array.all_toList, signs_ofString, List.all_eq_true]
  intro x hx
  obtain ⟨c, _, rfl⟩ := List.mem_map.mp hx
  refine decide_eq_true ?_
  have := c.valid
  unfold UInt32.isValidChar Nat.isValidChar at this
  show c.toNat < _
  have e : c.toNat = c.val.toNat := rfl
  omega
/-- a value that the n-th draw makes -/
def KeyT (n : Nat) (k : Key) : Prop := ∃ i : Int, i.natAbs % 100 = n ∧ i.natAbs < 10 ^ 27 ∧ (k = .inl i ∨ k = .inr (Str.ofString (toString i)))
theorem KeyT.one {m n : Nat} {k : Key} (h : KeyT m k) (h' : KeyT n k) : m = n := by
  obtain ⟨i, a1, _, a3⟩ := h
  obtain ⟨j, b1, _, b3⟩ := h'
  have e : i = j := by
    rcases a3 with rfl | rfl
    · rcases b3 with b | b
      · exact Sum.inl.inj b
      · cases b
    · rcases b3 with b | b
      · cases b
      · exact strI_inj (Sum.inr.inj b)
  rw [e] at a1
  omega
/-- a row behind n draws -/
structure RowN (n : Nat) (ks : List Key) : Prop where
  nd : ks.Nodup
  tag : ∀ k, k ∈ ks → ∃ m, m < n ∧ KeyT m k
  len : ks.length ≤ 2 * n
theorem RowN.mono {n m : Nat} {ks : List Key} (h : RowN n ks) (l : n ≤ m) : RowN m ks := ⟨h.nd, fun k hk => by obtain ⟨j, h1, h2⟩ := h.tag k hk; exact ⟨j, by omega, h2⟩, by have := h.len; omega⟩
def insK (ks : List Key) (i : Nat) (k : Key) : List Key := ks.take i ++ [k] ++ ks.drop i
theorem insK_perm (ks : List Key) (i : Nat) (k : Key) : (insK ks i k).Perm (k :: ks) := by
  unfold insK
  rw [List.append_assoc]
  have h : (ks.take i ++ ([k] ++ ks.drop i)).Perm (k :: (ks.take i ++ ks.drop i)) := List.perm_middle
  rw [List.take_append_drop] at h
  exact h
/-- a row in the midst of the n-th turn: its new items are of n -/
structure RowM (n j : Nat) (ks : List Key) : Prop where
  nd : ks.Nodup
  tag : ∀ k, k ∈ ks → ∃ m, m ≤ n ∧ KeyT m k
  len : ks.length ≤ 2 * n + j
theorem insK_map (ks : List Key) (i : Nat) (k : Key) : (ks.map kV).take i ++ [kV k] ++ (ks.map kV).drop i = (insK ks i k).map kV := by
  unfold insK
  rw [List.map_append, List.map_append, List.map_take, List.map_drop]
  rfl
theorem insK_mem {ks : List Key} {i : Nat} {k z : Key} (h : z ∈ insK ks i k) : z ∈ ks ∨ z = k := by
  rcases List.mem_cons.mp ((insK_perm ks i k).mem_iff.mp h) with h | h
  · exact .inr h
  · exact .inl h
theorem RowN.m {n : Nat} {ks : List Key} (h : RowN n ks) : RowM n 0 ks := ⟨h.nd, fun k hk => by obtain ⟨m, h1, h2⟩ := h.tag k hk; exact ⟨m, by omega, h2⟩, h.len⟩
theorem RowM.n {n j : Nat} {ks : List Key} (h : RowM n j ks) (hj : j ≤ 2) : RowN (n + 1) ks := ⟨h.nd, fun k hk => by obtain ⟨m, h1, h2⟩ := h.tag k hk; exact ⟨m, by omega, h2⟩, by have := h.len; omega⟩
theorem RowM.mono {n j i : Nat} {ks : List Key} (h : RowM n j ks) (l : j ≤ i) : RowM n i ks := ⟨h.nd, h.tag, by have := h.len; omega⟩
theorem RowN.no {n : Nat} {ks : List Key} (h : RowN n ks) {k : Key} (t : KeyT n k) : k ∉ ks := fun m => by
  obtain ⟨j, h1, h2⟩ := h.tag k m
  have := h2.one t
  omega
theorem RowM.ins {n j : Nat} {ks : List Key} (h : RowM n j ks) {k : Key} (t : KeyT n k) (no : k ∉ ks) (i : Nat) : RowM n (j + 1) (insK ks i k) :=
  ⟨(insK_perm ks i k).nodup_iff.mpr (List.nodup_cons.mpr ⟨no, h.nd⟩), fun x hx => by
    rcases List.mem_cons.mp ((insK_perm ks i k).mem_iff.mp hx) with rfl | hx
    · exact ⟨n, Nat.le_refl _, t⟩
    · exact h.tag x hx, by rw [(insK_perm ks i k).length_eq, List.length_cons]; have := h.len; omega⟩
theorem Keep_fresh {b x : Addr} {H H1 H2 : Hp} (h : Keep [b] H H1) (h' : Keep [b, x] H1 H2) (n : H x = none) : Keep [b] H H2 := fun z o e nz => by
  refine h' z o (h z o e nz) fun m => ?_
  rcases List.mem_cons.mp m with rfl | m
  · exact nz List.mem_cons_self
  · rw [List.mem_singleton] at m
    rw [m, n] at e
    cases e
section
variable {P : Program} {w : World} {K : PySem.W.Frag} {mg : Str → Option Value} {base : Heap}
def spLValue (K : PySem.W.Frag) : Sp := fun vs H Q _ => ∃ (b c : Addr) (cells : List Int) (n : Int) (k : Nat), vs = [.ref b, .int (k : Int)] ∧ Bag K H b c cells n ∧ n + 3 < 100000 ∧ k < 100 ∧
  ∀ (key : Key) (H' : Hp), Keep [b] H H' → Bag K H' b c cells (n + 3) → KeyT k key → Q (kV key) H'
theorem okLValue (T : TX K mg) : FnOk P w K mg base CX0 2 T.fLValue T.dLValue ["_law_bag", "_law_k"] (spLValue K) := by
  have GT : FnOk P w K mg base CX0 1 T.fLTake T.dLTake ["_law_bag", "_law_many"] (spTake K) := okTake T
  refine T.FLValue.ok scLValue (fun vs H Q E h => ?_) (fun cdv A outer s H vs Q E hr h => ?_)
  · obtain ⟨b, c, cells, n, k, rfl, _⟩ := h
    rfl
  · obtain ⟨b, c, cells, n, k, rfl, hB, hn, hk, q⟩ := h
    refine ⟨_, (derLValue T GT hr).2, ?_⟩
    unfold derLValue
    dsimp only [cxOf, Cx.nox]
    refine Lb.seq1 fun N hN => ?_
    wtm_at "go"
    refine ⟨b, c, cells, n, _, rfl, hB, by omega, by decide, by decide, fun d H1 h0 h1 k1 hB1 => ?_⟩
    have h1' : d < 10 ^ 24 := h1
    wtm_at "go"
    refine hN _ _ ?_
    clear hN N
    refine cut (fun σ' H2 => ∃ z : Int, σ' = [some (.ref b), some (.int (k : Int)), some (.int z)] ∧ z.natAbs % 100 = k ∧ z.natAbs < 10 ^ 27 ∧ Keep [b] H H2 ∧ Bag K H2 b c cells (n + 2)) (fun N hN => ?_) ?_
    · wtm_at "go"
      refine ⟨b, c, cells, n + 1, 2, rfl, hB1, by omega, by decide, by decide, fun d2 H2 a0 a1 k2 hB2 => ?_⟩
      have hB2' : Bag K H2 b c cells (n + 2) := by rw [show n + 2 = n + 1 + 1 by omega]; exact hB2
      wtm_at "go"
      wtm_at "if"
      · wtm_at "go"
        exact hN _ _ ⟨-(d * 100 + k), rfl, by omega, by omega, k1.trans k2, hB2'⟩
      · wtm_at "go"
        exact hN _ _ ⟨d * 100 + k, rfl, by omega, by omega, k1.trans k2, hB2'⟩
    · rintro σ' H2 ⟨z, rfl, hz1, hz2, k2, hB2⟩
      refine Lb.seq1 fun N hN => ?_
      wtm_at "go"
      refine ⟨b, c, cells, n + 2, 3, rfl, hB2, by omega, by decide, by decide, fun d2 H3 a0 a1 k3 hB3 => ?_⟩
      have hB3' : Bag K H3 b c cells (n + 3) := by rw [show n + 3 = n + 2 + 1 by omega]; exact hB3
      wtm_at "go"
      wtm_at "if"
      · wtm_at "go"
        refine ⟨z, rfl, ?_, ?_⟩
        · have h3 : z.natAbs < 2 ^ 1920 := Nat.lt_of_lt_of_le hz2 (by decide +kernel)
          by_cases hz0 : z.natAbs = 0
          · rw [hz0]; decide
          · exact (Nat.log2_lt hz0).mpr h3
        · exact q (.inr (Str.ofString (toString z))) H3 (k2.trans k3) hB3' ⟨z, hz1, hz2, .inr rfl⟩
      · wtm_at "go"
        refine hN _ _ ?_
        wtm_at "go"
        exact q (.inl z) H3 (k2.trans k3) hB3' ⟨z, hz1, hz2, .inl rfl⟩
def spLPutIn (K : PySem.W.Frag) : Sp := fun vs H Q _ => ∃ (b c r : Addr) (cells : List Int) (n sh : Int) (xs : List V) (v : V), vs = [.ref b, .ref r, v, .int sh] ∧ Bag K H b c cells n ∧ n + 1 < 100000 ∧ H r = some (.lst xs) ∧ r ≠ b ∧ c ≠ r ∧ xs.length ≤ 1000 ∧
  ∀ (i : Nat) (H' : Hp), Keep [b, r] H H' → Bag K H' b c cells (n + 1) → H' r = some (.lst (xs.take i ++ [v] ++ xs.drop i)) → Q .non H'
theorem okLPutIn (T : TX K mg) : FnOk P w K mg base CX0 2 T.fLPutIn T.dLPutIn ["_law_bag", "_law_row", "_law_value_here", "_law_shape"] (spLPutIn K) := by
  have GT : FnOk P w K mg base CX0 1 T.fLTake T.dLTake ["_law_bag", "_law_many"] (spTake K) := okTake T
  refine T.FLPutIn.ok scLPutIn (fun vs H Q E h => ?_) (fun cdv A outer s H vs Q E hr h => ?_)
  · obtain ⟨b, c, r, cells, n, sh, xs, v, rfl, _⟩ := h
    rfl
  · obtain ⟨b, c, r, cells, n, sh, xs, v, rfl, hB, hn, hR, rb, cr, hl, q⟩ := h
    refine ⟨_, (derLPutIn T GT hr).2, ?_⟩
    unfold derLPutIn
    dsimp only [cxOf, Cx.nox]
    have hRs : SqL K H r xs := SqL.of hR
    refine Lb.seq1 fun N hN => ?_
    wtm_at "go"
    refine ⟨b, c, cells, n, _, rfl, hB, by omega, by omega, by omega, fun d H1 h0 h1 k1 hB1 => ?_⟩
    refine hN _ _ ?_
    clear hN N
    have hR1 : H1 r = some (.lst xs) := k1.at hR (by wtm_at "nin")
    have hR1s : SqL K H1 r xs := SqL.of hR1
    refine cut (fun σ' H2 => H2 = H1 ∧ ∃ i : Nat, i ≤ xs.length ∧ σ' = [some (.ref b), some (.ref r), some v, some (.int sh), some (.int (i : Int))]) (fun N hN => ?_) ?_
    · obtain ⟨j, rfl⟩ : ∃ j : Nat, d = (j : Int) := ⟨d.toNat, by omega⟩
      wtm_at "go"
      wtm_at "if"
      · wtm_at "go"
        exact hN _ _ ⟨rfl, xs.length, Nat.le_refl _, rfl⟩
      · wtm_at "go"
        exact hN _ _ ⟨rfl, j, by omega, rfl⟩
    · rintro σ' H2 ⟨rfl, i, hi, rfl⟩
      refine cut (fun σ' H3 => H3 = H2 ∧ ∃ i : Nat, i ≤ xs.length ∧ σ' = [some (.ref b), some (.ref r), some v, some (.int sh), some (.int (i : Int))]) (fun N hN => ?_) ?_
      · wtm_at "go"
        wtm_at "if"
        · wtm_at "go"
          exact hN _ _ ⟨rfl, 0, Nat.zero_le _, rfl⟩
        · wtm_at "go"
          exact hN _ _ ⟨rfl, i, hi, rfl⟩
      · rintro σ' H3 ⟨rfl, i, hi, rfl⟩
        wtm_at "go"
        refine ⟨tyl hR1s, ?_⟩
        wtm_at "go"
        refine ⟨r, xs, (i : Int), v, rfl, rfl, hR1, small1000 hl, by omega, by omega, ?_⟩
        have hbr : b ≠ r := fun z => rb z.symm
        obtain ⟨i1, r1, hb1, hc1, ncb, g1, g2, g3⟩ := hB1
        refine q i _ ?_ ⟨i1, r1, fact_ne hbr hb1, sq_ne cr hc1, ncb, g1, g2, g3⟩ ?_
        · exact (k1.mono (fun x hx => by simp at hx; simp [hx])).uput (by simp)
        · rw [upd_same]
          rfl
def spLRows (K : PySem.W.Frag) : Sp := fun vs H Q _ => ∃ (b c : Addr) (cells : List Int) (o : HO), vs = [.ref b] ∧ Bag K H b c cells 0 ∧ H c = some o ∧
  ∀ (R x y : Addr) (old new : List Key) (n : Int) (H' : Hp), Keep [b] H H' → H R = none → H x = none → H y = none → x ≠ y → R ≠ x → R ≠ y → Bag K H' b c cells n → n < 1000 → H' R = some (.lst [.ref x, .ref y]) → H' x = some (.lst (old.map kV)) → H' y = some (.lst (new.map kV)) → RowN 30 old → RowN 30 new → Q (.ref R) H'
theorem okLRows (T : TX K mg) : FnOk P w K mg base CX0 3 T.fLRows T.dLRows ["_law_bag"] (spLRows K) := by
  have GT : FnOk P w K mg base CX0 1 T.fLTake T.dLTake ["_law_bag", "_law_many"] (spTake K) := okTake T
  have GV : FnOk P w K mg base CX0 2 T.fLValue T.dLValue ["_law_bag", "_law_k"] (spLValue K) := okLValue T
  have GI : FnOk P w K mg base CX0 2 T.fLPutIn T.dLPutIn ["_law_bag", "_law_row", "_law_value_here", "_law_shape"] (spLPutIn K) := okLPutIn T
  refine T.FLRows.ok scLRows (fun vs H Q E h => ?_) (fun cdv A outer s H vs Q E hr h => ?_)
  · obtain ⟨b, c, cells, o, rfl, _⟩ := h
    rfl
  · obtain ⟨b, c, cells, o, rfl, hB, hco, q⟩ := h
    refine ⟨_, (derLRows T GI GT GV hr).2, ?_⟩
    unfold derLRows
    dsimp only [cxOf, Cx.nox]
    refine Lb.seq1 fun N hN => ?_
    wtm_at "go"
    refine ⟨b, c, cells, 0, 9, rfl, hB, by decide, by decide, by decide, fun d H1 h0 h1 k1 hB1 => ?_⟩
    refine hN _ _ ?_
    clear hN N
    refine cut (fun σ' H2 => Keep [b] H H2 ∧ Bag K H2 b c cells 2 ∧ ∃ m : Nat, m ≤ 28 ∧ σ' = [some (.ref b), some (.int (m : Int)), none, none, none, none, none, none]) (fun N hN => ?_) ?_
    · obtain ⟨j, rfl⟩ : ∃ j : Nat, d = (j : Int) := ⟨d.toNat, by omega⟩
      wtm_at "go"
      refine ⟨b, c, cells, 1, 8, rfl, hB1, by decide, by decide, by decide, fun d2 H2 a0 a1 k2 hB2 => ?_⟩
      wtm_at "go"
      wtm_at "if"
      · wtm_at "go"
        exact hN _ _ ⟨k1.trans k2, hB2, j + 20, by omega, rfl⟩
      · wtm_at "go"
        exact hN _ _ ⟨k1.trans k2, hB2, j, by omega, rfl⟩
    · rintro σ' H2 ⟨k2, hB2, m, hm, rfl⟩
      refine Lb.seq1 fun N hN => ?_
      wtm_at "go"
      refine ⟨b, c, cells, 2, 4, rfl, hB2, by decide, by decide, by decide, fun sh H3 s0 s1 k3 hB3 => ?_⟩
      refine hN _ _ ?_
      clear hN N
      refine Lb.seq1 fun N hN => ?_
      wtm_at "go"
      refine ⟨b, c, cells, 3, 3, rfl, hB3, by decide, by decide, by decide, fun tw H4 t0 t1 k4 hB4 => ?_⟩
      refine hN _ _ ?_
      clear hN N
      have k04 := (k2.trans k3).trans k4
      obtain ⟨i4, r4, hb4, hc4, ncb, f1, f2, f3⟩ := id hB4
      have hco4 : H4 c = some o := k04.at hco (by wtm_at "nin")
      refine Lb.seq1 fun N hN => ?_
      wtm_at "go"
      refine ⟨Nat.zero_le _, fun x nx => ?_⟩
      wtm_at "go"
      refine ⟨Nat.zero_le _, fun y ny => ?_⟩
      wtm_at "go"
      refine ⟨by show 2 ≤ sizeLine; decide, fun R nR => ?_⟩
      refine hN _ _ ?_
      clear hN N
      have xb : x ≠ b := fun z => ne_of_none hb4 nx z.symm
      have xc : c ≠ x := ne_of_none hco4 nx
      have hb5 : upd H4 x (.lst []) b = some (.lst [.ref c, .int i4, .int r4, .int (3 + 1)]) := fact_new nx hb4
      have hco5 : upd H4 x (.lst []) c = some o := fact_new nx hco4
      have hx5 : upd H4 x (.lst []) x = some (.lst []) := upd_same
      have yb : y ≠ b := fun z => ne_of_none hb5 ny z.symm
      have yc : c ≠ y := ne_of_none hco5 ny
      have xy : x ≠ y := ne_of_none hx5 ny
      have hb6 := fact_new (o := .lst []) ny hb5
      have hco6 := fact_new (o := .lst []) ny hco5
      have hx6 := fact_new (o := .lst []) ny hx5
      have hy6 : upd (upd H4 x (.lst [])) y (.lst []) y = some (.lst []) := upd_same
      have Rb : R ≠ b := fun z => ne_of_none hb6 nR z.symm
      have Rx : R ≠ x := fun z => ne_of_none hx6 nR z.symm
      have Ry : R ≠ y := fun z => ne_of_none hy6 nR z.symm
      have nx0 : H x = none := k04.free nx (by wtm_at "nin")
      have k5 : Keep [b] H (upd H4 x (.lst [])) := k04.unew nx
      have ny0 : H y = none := k5.free ny (by wtm_at "nin")
      have k6 := k5.unew (o := .lst []) ny
      have nR0 : H R = none := k6.free nR (by wtm_at "nin")
      have k7 := k6.unew (o := .lst [.ref x, .ref y]) nR
      have hB7 : Bag K (upd (upd (upd H4 x (.lst [])) y (.lst [])) R (.lst [.ref x, .ref y])) b c cells 4 := ⟨i4, r4, fact_new nR hb6, sq_new nR (sq_new ny (sq_new nx hc4)), ncb, f1, f2, f3⟩
      have hx7 := fact_new (o := .lst [.ref x, .ref y]) nR hx6
      have hy7 := fact_new (o := .lst [.ref x, .ref y]) nR hy6
      have hR7 : upd (upd (upd H4 x (.lst [])) y (.lst [])) R (.lst [.ref x, .ref y]) R = some (.lst [.ref x, .ref y]) := upd_same
      generalize upd (upd (upd H4 x (.lst [])) y (.lst [])) R (.lst [.ref x, .ref y]) = H7 at k7 hB7 hx7 hy7 hR7
      refine Lb.seq1 fun N hN => ?_
      refine ⟨_, rfl, (m : Int), rfl, by omega, by omega, ?_⟩
      refine for_range (lo := 0) (n := (m : Int).toNat) (fun i σ H8 => ∃ old new v5 v6 v7, ∃ n : Int, σ = [some (.ref b), some (.int (m : Int)), some (.int sh), some (.int tw), some (.ref R), v5, v6, v7] ∧ Keep [b] H H8 ∧ Bag K H8 b c cells n ∧ n ≤ 4 + 10 * i ∧ H8 R = some (.lst [.ref x, .ref y]) ∧ H8 x = some (.lst (old.map kV)) ∧ H8 y = some (.lst (new.map kV)) ∧ RowN i old ∧ RowN i new)
        ⟨[], [], none, none, none, 4, rfl, k7, hB7, by omega, hR7, hx7, hy7, ⟨List.nodup_nil, fun k h => by simp at h, by simp⟩, ⟨List.nodup_nil, fun k h => by simp at h, by simp⟩⟩ ?_ ?_
      · rintro i σ H8 hi ⟨old, new, v5, v6, v7, n, rfl, k8, hB8, hn8, hR8, hx8, hy8, ro, rn⟩
        have hi' : i < m := by omega
        rw [show (0 : Int) + (i : Int) = (i : Int) by omega]
        have xc8 : c ≠ x := xc
        wtm_at "go"
        refine Lb.seq1 fun N2 hN2 => ?_
        wtm_at "go"
        refine ⟨b, c, cells, n, i, rfl, hB8, by omega, by omega, fun key H9 k9 hB9 kt => ?_⟩
        refine hN2 _ _ ?_
        clear hN2 N2
        have hR9 := k9.at hR8 (by wtm_at "nin")
        have hx9 := k9.at hx8 (by wtm_at "nin")
        have hy9 := k9.at hy8 (by wtm_at "nin")
        have k09 := k8.trans k9
        refine Lb.seq1 fun N2 hN2 => ?_
        wtm_at "go"
        refine ⟨b, c, cells, n + 3, 5, rfl, hB9, by omega, by decide, by decide, fun wh H10 w0 w1 k10 hB10 => ?_⟩
        refine hN2 _ _ ?_
        clear hN2 N2
        have hR10 := k10.at hR9 (by wtm_at "nin")
        have hx10 := k10.at hx9 (by wtm_at "nin")
        have hy10 := k10.at hy9 (by wtm_at "nin")
        have k010 := k09.trans k10
        have ol : (old.map kV).length ≤ 1000 := by rw [List.length_map]; have := ro.len; omega
        have nl : (new.map kV).length ≤ 1000 := by rw [List.length_map]; have := rn.len; omega
        -- if where != 1
        refine cut (fun σ' H' => ∃ (old' : List Key) (n' : Int), σ' = [some (.ref b), some (.int (m : Int)), some (.int sh), some (.int tw), some (.ref R), some (.int (i : Int)), some (kV key), some (.int wh)] ∧ Keep [b] H H' ∧ Bag K H' b c cells n' ∧ n' ≤ n + 5 ∧ H' R = some (.lst [.ref x, .ref y]) ∧ H' x = some (.lst (old'.map kV)) ∧ H' y = some (.lst (new.map kV)) ∧ RowM i 1 old' ∧ (∀ k, k ∈ old' → k ∈ old ∨ k = key)) (fun N2 hN2 => ?_) ?_
        · wtm_at "go"
          wtm_at "if"
          · wtm_at "go"
            refine ⟨b, c, x, cells, n + 3 + 1, 1, old.map kV, kV key, rfl, hB10, by omega, hx10, xb, xc, ol, fun p H11 k11 hB11 hx11 => ?_⟩
            refine hN2 _ _ ⟨insK old p key, n + 3 + 1 + 1, rfl, Keep_fresh k010 k11 nx0, hB11, by omega, k11.at hR10 (by wtm_at "nin"), by rw [hx11, insK_map], k11.at hy10 (by wtm_at "nin"), ro.m.ins kt (ro.no kt) p, fun k hk => insK_mem hk⟩
          · wtm_at "go"
            exact hN2 _ _ ⟨old, n + 3 + 1, rfl, k010, hB10, by omega, hR10, hx10, hy10, ro.m.mono (by omega), fun k hk => .inl hk⟩
        · rintro σ' H11 ⟨old', n', rfl, k11, hB11, hn11, hR11, hx11, hy11, ro', mo'⟩
          -- if where != 0
          refine cut (fun σ' H' => ∃ (new' : List Key) (n' : Int), σ' = [some (.ref b), some (.int (m : Int)), some (.int sh), some (.int tw), some (.ref R), some (.int (i : Int)), some (kV key), some (.int wh)] ∧ Keep [b] H H' ∧ Bag K H' b c cells n' ∧ n' ≤ n + 6 ∧ H' R = some (.lst [.ref x, .ref y]) ∧ H' x = some (.lst (old'.map kV)) ∧ H' y = some (.lst (new'.map kV)) ∧ RowM i 1 new' ∧ (∀ k, k ∈ new' → k ∈ new ∨ k = key)) (fun N2 hN2 => ?_) ?_
          · wtm_at "go"
            wtm_at "if"
            · wtm_at "go"
              refine ⟨b, c, y, cells, n', sh, new.map kV, kV key, rfl, hB11, by omega, hy11, yb, yc, nl, fun p H12 k12 hB12 hy12 => ?_⟩
              refine hN2 _ _ ⟨insK new p key, n' + 1, rfl, Keep_fresh k11 k12 ny0, hB12, by omega, k12.at hR11 (by wtm_at "nin"), k12.at hx11 (by wtm_at "nin"), by rw [hy12, insK_map], rn.m.ins kt (rn.no kt) p, fun k hk => insK_mem hk⟩
            · wtm_at "go"
              exact hN2 _ _ ⟨new, n', rfl, k11, hB11, by omega, hR11, hx11, hy11, rn.m.mono (by omega), fun k hk => .inl hk⟩
          · rintro σ' H12 ⟨new', n2, rfl, k12, hB12, hn12, hR12, hx12, hy12, rn', mn'⟩
            have stay : ∀ σ', σ' = [some (.ref b), some (.int (m : Int)), some (.int sh), some (.int tw), some (.ref R), some (.int (i : Int)), some (kV key), some (.int wh)] → ∃ old new v5 v6 v7, ∃ n : Int, σ' = [some (.ref b), some (.int (m : Int)), some (.int sh), some (.int tw), some (.ref R), v5, v6, v7] ∧ Keep [b] H H12 ∧ Bag K H12 b c cells n ∧ n ≤ 4 + 10 * ((i + 1 : Nat) : Int) ∧ H12 R = some (.lst [.ref x, .ref y]) ∧ H12 x = some (.lst (old.map kV)) ∧ H12 y = some (.lst (new.map kV)) ∧ RowN (i + 1) old ∧ RowN (i + 1) new :=
              fun σ' e => ⟨old', new', _, _, _, n2, e, k12, hB12, by omega, hR12, hx12, hy12, ro'.n (by omega), rn'.n (by omega)⟩
            have ol' : (old'.map kV).length ≤ 1000 := by rw [List.length_map]; have := ro'.len; omega
            have nl' : (new'.map kV).length ≤ 1000 := by rw [List.length_map]; have := rn'.len; omega
            wtm_at "go"
            wtm_at "if"
            · wtm_at "go"
              wtm_at "if"
              · wtm_at "go"
                cases key with
                | inr s =>
                  refine g_isi (t := "str") (b := true) (.base (.str s)) (by decide +kernel) ?_
                  wtm_at "go"
                  refine ifbF rfl ?_
                  wtm_at "go"
                  exact stay _ rfl
                | inl z =>
                  refine g_isi (t := "int") (b := false) (.base (.int z)) (by decide +kernel) ?_
                  wtm_at "go"
                  refine ifbT rfl ?_
                  have kt2 : KeyT i (.inr (Str.ofString (toString z))) := by
                    obtain ⟨z', h1, h2, h3⟩ := kt
                    rcases h3 with h3 | h3
                    · cases h3
                      exact ⟨z, h1, h2, .inr rfl⟩
                    · cases h3
                  have lg : z.natAbs.log2 < 1920 := by
                    obtain ⟨z', h1, h2, h3⟩ := kt
                    have ez : z = z' := by
                      rcases h3 with h3 | h3
                      · exact Sum.inl.inj h3
                      · cases h3
                    rw [ez]
                    have h3 : z'.natAbs < 2 ^ 1920 := Nat.lt_of_lt_of_le h2 (by decide +kernel)
                    by_cases hz0 : z'.natAbs = 0
                    · rw [hz0]; decide
                    · exact (Nat.log2_lt hz0).mpr h3
                  have wm : wh % 2 = 0 ∨ wh % 2 = 1 := by omega
                  wtm_at "go"
                  rcases wm with wm | wm
                  · rw [wm]
                    wtm_at "go"
                    refine ⟨z, rfl, lg, ?_⟩
                    wtm_at "go"
                    have no : (.inr (Str.ofString (toString z)) : Key) ∉ old' := fun mm => by
                      rcases mo' _ mm with h | h
                      · exact ro.no kt2 h
                      · cases h
                    refine ⟨b, c, x, cells, n2, 0, old'.map kV, kV (.inr (Str.ofString (toString z))), rfl, hB12, by omega, hx12, xb, xc, ol', fun p H13 k13 hB13 hx13 => ?_⟩
                    exact ⟨insK old' p _, new', _, _, _, n2 + 1, rfl, Keep_fresh k12 k13 nx0, hB13, by omega, k13.at hR12 (by wtm_at "nin"), by rw [hx13, insK_map], k13.at hy12 (by wtm_at "nin"), (ro'.ins kt2 no p).n (by omega), rn'.n (by omega)⟩
                  · rw [wm]
                    wtm_at "go"
                    refine ⟨z, rfl, lg, ?_⟩
                    wtm_at "go"
                    have no : (.inr (Str.ofString (toString z)) : Key) ∉ new' := fun mm => by
                      rcases mn' _ mm with h | h
                      · exact rn.no kt2 h
                      · cases h
                    refine ⟨b, c, y, cells, n2, 0, new'.map kV, kV (.inr (Str.ofString (toString z))), rfl, hB12, by omega, hy12, yb, yc, nl', fun p H13 k13 hB13 hy13 => ?_⟩
                    exact ⟨old', insK new' p _, _, _, _, n2 + 1, rfl, Keep_fresh k12 k13 ny0, hB13, by omega, k13.at hR12 (by wtm_at "nin"), k13.at hx12 (by wtm_at "nin"), by rw [hy13, insK_map], ro'.n (by omega), (rn'.ins kt2 no p).n (by omega)⟩
              · wtm_at "F"
                wtm_at "go"
                exact stay _ rfl
            · wtm_at "F"
              wtm_at "go"
              exact stay _ rfl
      · rintro σ H8 ⟨old, new, v5, v6, v7, n, rfl, k8, hB8, hn8, hR8, hx8, hy8, ro, rn⟩
        refine hN _ _ ?_
        wtm_at "go"
        exact q R x y old new n H8 k8 nR0 nx0 ny0 xy Rx Ry hB8 (by omega) hR8 hx8 hy8 (ro.mono (by omega)) (rn.mono (by omega))
end

end Ki
namespace Ki
open PySem PySem.Spec PyProof.Rows L2 Lb
def dK : Key → PyData
  | .inl i => .int i
  | .inr s => .str s
theorem dp_k (K : PySem.W.Frag) (H : Hp) (k : Key) : Dp K H (kV k) (dK k) := by
  cases k with
  | inl i => exact .int i
  | inr s => exact .str s
theorem dp_ks (K : PySem.W.Frag) (H : Hp) : ∀ ks : List Key, DpAll K H (ks.map kV) (ks.map dK)
  | [] => .nil
  | k :: r => .cons (dp_k K H k) (dp_ks K H r)
theorem lay_k {n : Nat} {k : Key} (h : KeyT n k) : PyData.canLay0 (dK k) = true := by
  obtain ⟨i, _, _, rfl | rfl⟩ := h
  · rfl
  · exact strOk_of _
theorem lay_ks {n : Nat} {ks : List Key} (h : ∀ k, k ∈ ks → ∃ m, m < n ∧ KeyT m k) : PyData.canLayAll0 (ks.map dK) = true := by
  induction ks with
  | nil => rfl
  | cons k r ih =>
    obtain ⟨m, _, hk⟩ := h k List.mem_cons_self
    show (PyData.canLay0 (dK k) && PyData.canLayAll0 (r.map dK)) = true
    rw [lay_k hk, ih fun k hk => h k (List.mem_cons_of_mem _ hk)]
    rfl
theorem depth_ks (ks : List Key) : PyData.depthAll (ks.map dK) = 0 := by
  induction ks with
  | nil => rfl
  | cons k r ih =>
    show max (PyData.depth (dK k)) (PyData.depthAll (r.map dK)) = 0
    rw [ih]
    cases k <;> rfl
theorem shaped_2 {n : Nat} {old new : List Key} (ro : RowN n old) (rn : RowN n new) : SeqAt.shaped (.list [.list (old.map dK), .list (new.map dK)]) = true := by
  show ((PyData.canLayAll0 (old.map dK) && (PyData.canLayAll0 (new.map dK) && true)) && decide (max (PyData.depthAll (old.map dK) + 1) (max (PyData.depthAll (new.map dK) + 1) 0) + 1 ≤ 64)) = true
  rw [lay_ks ro.tag, lay_ks rn.tag, depth_ks, depth_ks]
  rfl
theorem shaped_1 {n : Nat} {ks : List Key} (r : RowN n ks) : SeqAt.shaped (.list (ks.map dK)) = true := by
  show (PyData.canLayAll0 (ks.map dK) && decide (PyData.depthAll (ks.map dK) + 1 ≤ 64)) = true
  rw [lay_ks r.tag, depth_ks]
  rfl

end Ki
namespace Ki
open PySem PySem.Spec PyProof.Rows L2 Lb
def soloK (es : List Ed) : List Key := es.filterMap soloE
section
variable {P : Program} {w : World} {K : PySem.W.Frag} {mg : Str → Option Value} {base : Heap}
def spLWell (K : PySem.W.Frag) : Sp := fun vs H Q _ => ∃ (a b M : Addr) (old new : List Key) (ts : List Addr) (es : List Ed), vs = [.ref a, .ref b, .ref M, .int (movesE es : Nat)] ∧ SqL K H a (old.map kV) ∧ SqL K H b (new.map kV) ∧ SqL K H M (ts.map V.ref) ∧ EdsAt H ts es ∧ Run old es new ∧
  (es.filterMap soloE).Nodup ∧ (∀ x, x ∈ es.filterMap soloE → ¬ (x ∈ old ∧ x ∈ new)) ∧ old.length + es.length ≤ 990 ∧ new.length ≤ 990 ∧ SeqAt.shaped (.list (new.map dK)) = true ∧ ∀ H', Keep [] H H' → Q (.bl true) H'
theorem okLWell (T : TX K mg) : FnOk P w K mg base CX0 3 T.fLWell T.dLWell ["_law_old", "_law_new", "_law_made", "_law_moves"] (spLWell K) := by
  have GP : FnOk P w K mg base CX0 1 T.fLPlace T.dLPlace ["_law_row", "_law_value_here"] (spLPlace K) := okLPlace T
  have GD : FnOk P w K mg base CX0 2 T.fLDone T.dLDone ["_law_row", "_law_edit"] (spLDone K) := okLDone T
  refine T.FLWell.ok scLWell (fun vs H Q E h => ?_) (fun cdv A outer s H vs Q E hr h => ?_)
  · obtain ⟨a, b, M, old, new, ts, es, rfl, _⟩ := h
    rfl
  · obtain ⟨a, b, M, old, new, ts, es, rfl, ha, hb, hM, ea, run, snd, sno, ln, ln2, sh, q⟩ := h
    refine ⟨_, (derLWell T GP GD hr).2, ?_⟩
    unfold derLWell
    dsimp only [cxOf, Cx.nox]
    have tsl := ea.len
    refine Lb.seq1 fun N hN => ?_
    wtm_at "go"
    refine g_isi (tyx_list hM) (b := true) (by decide +kernel) ?_
    wtm_at "go"
    refine ifbF rfl ?_
    wtm_at "go"
    refine hN _ _ ?_
    clear hN N
    refine Lb.seq1 fun N hN => ?_
    wtm_at "go"
    refine g_list ha fun R nR => ?_
    wtm_at "go"
    refine hN _ _ ?_
    clear hN N
    have k1 : Keep [] H (upd H R (.lst (old.map kV))) := Keep.new nR
    have hR1 : (upd H R (.lst (old.map kV))) R = some (.lst (old.map kV)) := upd_same
    generalize upd H R (.lst (old.map kV)) = H1 at k1 hR1 ⊢
    refine Lb.seq1 fun N hN => ?_
    wtm_at "go"
    refine ⟨Nat.zero_le _, fun S nS => ?_⟩
    wtm_at "go"
    refine hN _ _ ?_
    clear hN N
    have nS0 : H S = none := k1.free nS List.not_mem_nil
    have RS : R ≠ S := ne_of_none hR1 nS
    have k2 : Keep [] H (upd H1 S (.lst [])) := by wtm_at "keep"
    have hR2 : (upd H1 S (.lst [])) R = some (.lst (old.map kV)) := fact_ne RS hR1
    have hS2 : (upd H1 S (.lst [])) S = some (.lst ([].map kV)) := upd_same
    generalize upd H1 S (.lst []) = H2 at k2 hR2 hS2 ⊢
    clear k1 hR1 nS
    refine Lb.seq1 fun N hN => ?_
    wtm_at "go"
    refine hN _ _ ?_
    clear hN N
    refine Lb.seq1 fun N hN => ?_
    wtm_at "go"
    refine ⟨.ref M, rfl, M, rfl, ⟨_, k2.seq hM List.not_mem_nil⟩, for_list (K := K) (a := M) (xs := ts.map V.ref)
      (fun i σ' H3 => ∃ (r : Addr) (row : List Key) (x y : Option V), σ' = [some (.ref a), some (.ref b), some (.ref M), some (.int (movesE es : Nat)), some (.ref r), some (.ref S), some (.int (movesE (es.take i) : Nat)), x, y] ∧
        Keep [] H H3 ∧ r ≠ S ∧ H3 r = some (.lst (row.map kV)) ∧ H3 S = some (.lst (((es.take i).filterMap soloE).map kV)) ∧ Run row (es.drop i) new ∧ row.length ≤ old.length + i)
      ⟨R, old, none, none, rfl, k2, RS, hR2, hS2, run, Nat.le_refl _⟩
      (fun i σ' H3 _ h => by obtain ⟨_, _, _, _, _, k3, _⟩ := h; exact k3.seq hM List.not_mem_nil) ?_ ?_⟩
    · rintro i y0 σ' H3 hy ⟨r, row, x, y, rfl, k3, rS, hr3, hS3, rn, rl⟩
      have hit : i < ts.length := by
        have := (List.getElem?_eq_some_iff.mp hy).1
        rwa [List.length_map] at this
      have hti := List.getElem?_eq_getElem hit
      have hei := List.getElem?_eq_getElem (show i < es.length by omega)
      generalize ts[i] = t at hti
      generalize es[i]'(by omega) = e at hei
      have ex : y0 = .ref t := by
        rw [List.getElem?_map, hti] at hy
        exact (Option.some.inj hy).symm
      subst ex
      have ed : es.drop i = e :: es.drop (i + 1) := by
        have hlt : i < es.length := by omega
        rw [List.drop_eq_getElem_cons hlt]
        congr 1
        rw [List.getElem?_eq_getElem hlt] at hei
        exact Option.some.inj hei
      rw [ed] at rn
      cases rn with
      | cons ok rn =>
      have mt := movesE_take hei
      have tk : es.take (i + 1) = es.take i ++ [e] := take_snoc hei
      have eT := ea.at_ i t e hti hei
      refine Lb.seq1 fun N hN => ?_
      wtm_at "go"
      refine ⟨r, t, row, e, rfl, hr3, SqT.of (k3.at eT List.not_mem_nil), ok, by omega, fun p H4 np k4 hp => ?_⟩
      wtm_at "go"
      refine hN _ _ ?_
      clear hN N
      refine Lb.seq1 fun N hN => ?_
      wtm_at "go"
      refine ⟨rfl, ?_⟩
      wtm_at "go"
      refine ifbF (by rfl) ?_
      wtm_at "go"
      refine hN _ _ ?_
      clear hN N
      have hS4 := k4.at hS3 List.not_mem_nil
      have k04 := k3.trans k4
      have pS : p ≠ S := (ne_of_none hS3 np).symm
      have al : (apE row e).length ≤ old.length + (i + 1) := by
        cases e with
        | drop v =>
          have := List.length_erase_le (a := v) (l := row)
          show (row.erase v).length ≤ _
          omega
        | put v tt =>
          show (M43.ins row v tt).length ≤ _
          rw [ins_len]
          omega
        | move v tt =>
          have := List.length_erase_le (a := v) (l := row)
          show (M43.ins (row.erase v) v tt).length ≤ _
          rw [ins_len]
          omega
      cases e with
      | drop v =>
        have sT : SqT K H4 t [.str "drop", kV v] := SqT.of (k4.at (k3.at eT List.not_mem_nil) List.not_mem_nil)
        have es_eq : es.filterMap soloE = (es.take i).filterMap soloE ++ v :: (es.drop (i + 1)).filterMap soloE := by
          conv => lhs; rw [← List.take_append_drop i es, ed, List.filterMap_append]
          rfl
        have vn : v ∉ (es.take i).filterMap soloE := fun h => by
          rw [es_eq] at snd
          exact (List.nodup_append.mp snd).2.2 v h v (by simp) rfl
        have nb := sno v (by rw [es_eq]; simp)
        have sl : ((es.take i).filterMap soloE).length ≤ 990 := by
          have h1 := List.length_filterMap_le soloE (es.take i)
          rw [List.length_take] at h1
          omega
        have fm : (es.take (i + 1)).filterMap soloE = (es.take i).filterMap soloE ++ [v] := by
          rw [tk, List.filterMap_append]
          rfl
        wtm_at "go"
        refine ifbF (by rfl) ?_
        refine Lb.cut (fun σ' H' => σ' = [some (.ref a), some (.ref b), some (.ref M), some (.int (movesE es : Nat)), some (.ref p), some (.ref S), some (.int (movesE (es.take i) : Nat)), some (.ref t), some (.bl false)] ∧ H' = H4) (fun N hN => ?_) ?_
        · wtm_at "go"
          refine ⟨a, old, v, rfl, k04.seq ha List.not_mem_nil, by omega, ?_⟩
          wtm_at "go"
          by_cases mo : v ∈ old
          · rw [plI_mem mo]
            refine ifbT (decide_eq_true (by omega)) ?_
            wtm_at "go"
            refine ⟨b, new, v, rfl, k04.seq hb List.not_mem_nil, by omega, ?_⟩
            rw [plI_out fun m => nb ⟨mo, m⟩]
            wtm_at "go"
            exact hN _ _ ⟨rfl, rfl⟩
          · rw [plI_out mo]
            refine ifbF (by rfl) ?_
            wtm_at "go"
            exact hN _ _ ⟨rfl, rfl⟩
        · rintro σ' H' ⟨rfl, rfl⟩
          refine Lb.seq1 fun N hN => ?_
          wtm_at "go"
          refine ifbF (by rfl) ?_
          wtm_at "go"
          refine ⟨S, _, v, rfl, SqL.of hS4, by omega, ?_⟩
          rw [plI_out vn]
          wtm_at "go"
          refine ifbF (by rfl) ?_
          wtm_at "go"
          refine hN _ _ ?_
          clear hN N
          wtm_at "go"
          refine ⟨tyl (SqL.of hS4), ?_⟩
          wtm_at "go"
          refine g_append hS4 (by rw [List.length_map]; exact small1000 (by omega)) ?_
          refine ⟨p, _, _, _, by rw [mt]; rfl, k04.umut nS0, pS, fact_ne pS hp, ?_, rn, al⟩
          rw [upd_same, fm, List.map_append]
          rfl
      | put v tt =>
        have sT : SqT K H4 t [.str "put", kV v, befV tt] := SqT.of (k4.at (k3.at eT List.not_mem_nil) List.not_mem_nil)
        have es_eq : es.filterMap soloE = (es.take i).filterMap soloE ++ v :: (es.drop (i + 1)).filterMap soloE := by
          conv => lhs; rw [← List.take_append_drop i es, ed, List.filterMap_append]
          rfl
        have vn : v ∉ (es.take i).filterMap soloE := fun h => by
          rw [es_eq] at snd
          exact (List.nodup_append.mp snd).2.2 v h v (by simp) rfl
        have nb := sno v (by rw [es_eq]; simp)
        have sl : ((es.take i).filterMap soloE).length ≤ 990 := by
          have h1 := List.length_filterMap_le soloE (es.take i)
          rw [List.length_take] at h1
          omega
        have fm : (es.take (i + 1)).filterMap soloE = (es.take i).filterMap soloE ++ [v] := by
          rw [tk, List.filterMap_append]
          rfl
        wtm_at "go"
        refine ifbF (by rfl) ?_
        refine Lb.cut (fun σ' H' => σ' = [some (.ref a), some (.ref b), some (.ref M), some (.int (movesE es : Nat)), some (.ref p), some (.ref S), some (.int (movesE (es.take i) : Nat)), some (.ref t), some (.bl false)] ∧ H' = H4) (fun N hN => ?_) ?_
        · wtm_at "go"
          refine ⟨a, old, v, rfl, k04.seq ha List.not_mem_nil, by omega, ?_⟩
          wtm_at "go"
          by_cases mo : v ∈ old
          · rw [plI_mem mo]
            refine ifbT (decide_eq_true (by omega)) ?_
            wtm_at "go"
            refine ⟨b, new, v, rfl, k04.seq hb List.not_mem_nil, by omega, ?_⟩
            rw [plI_out fun m => nb ⟨mo, m⟩]
            wtm_at "go"
            exact hN _ _ ⟨rfl, rfl⟩
          · rw [plI_out mo]
            refine ifbF (by rfl) ?_
            wtm_at "go"
            exact hN _ _ ⟨rfl, rfl⟩
        · rintro σ' H' ⟨rfl, rfl⟩
          refine Lb.seq1 fun N hN => ?_
          wtm_at "go"
          refine ifbF (by rfl) ?_
          wtm_at "go"
          refine ⟨S, _, v, rfl, SqL.of hS4, by omega, ?_⟩
          rw [plI_out vn]
          wtm_at "go"
          refine ifbF (by rfl) ?_
          wtm_at "go"
          refine hN _ _ ?_
          clear hN N
          wtm_at "go"
          refine ⟨tyl (SqL.of hS4), ?_⟩
          wtm_at "go"
          refine g_append hS4 (by rw [List.length_map]; exact small1000 (by omega)) ?_
          refine ⟨p, _, _, _, by rw [mt]; rfl, k04.umut nS0, pS, fact_ne pS hp, ?_, rn, al⟩
          rw [upd_same, fm, List.map_append]
          rfl
      | move v tt =>
        have sT : SqT K H4 t [.str "move", kV v, befV tt] := SqT.of (k4.at (k3.at eT List.not_mem_nil) List.not_mem_nil)
        wtm_at "go"
        refine ifbT (by rfl) ?_
        wtm_at "go"
        refine ⟨p, apE row (.move v tt), _, _, by rw [mt]; rfl, k04, pS, hp, ?_, rn, al⟩
        have e1 : [Ed.move v tt].filterMap soloE = [] := rfl
        rw [hS4, tk, List.filterMap_append, e1, List.append_nil]
    · rintro σ' H3 ⟨r, row, x, y, rfl, k3, rS, hr3, hS3, rn, rl⟩
      rw [List.length_map, tsl] at rn
      rw [List.length_map, tsl, List.take_length] at hS3
      rw [List.drop_length] at rn
      cases rn
      refine hN _ _ ?_
      wtm_at "go"
      refine ⟨_, _, .lst (SqL.of hr3) (dp_ks K H3 new), .lst (k3.seq hb List.not_mem_nil) (dp_ks K H3 new), sh, sh, ?_⟩
      rw [SeqAt.eqv_refl _ (SeqAt.canLay_of_shaped sh)]
      wtm_at "go"
      refine ifbT rfl ?_
      wtm_at "go"
      have e9 : es.take (ts.map V.ref).length = es := by rw [List.length_map, tsl, List.take_length]
      rw [e9, decide_eq_true rfl]
      exact q H3 k3
end

end Ki
namespace Ki
open PySem PySem.Spec PyProof.Rows L2 Lb
def dB : Option Key → PyData
  | none => .none
  | some k => dK k
def dE : Ed → PyData
  | .drop v => .tuple [.str "drop", dK v]
  | .put v t => .tuple [.str "put", dK v, dB t]
  | .move v t => .tuple [.str "move", dK v, dB t]
theorem dp_b (K : PySem.W.Frag) (H : Hp) (t : Option Key) : Dp K H (befV t) (dB t) := by
  cases t with
  | none => exact .non
  | some k => exact dp_k K H k
theorem dp_e {K : PySem.W.Frag} {H : Hp} {t : Addr} {e : Ed} (h : SqT K H t (edV e)) : Dp K H (.ref t) (dE e) := by
  cases e with
  | drop v => exact .tup h (.cons (.str _) (.cons (dp_k K H v) .nil))
  | put v b => exact .tup h (.cons (.str _) (.cons (dp_k K H v) (.cons (dp_b K H b) .nil)))
  | move v b => exact .tup h (.cons (.str _) (.cons (dp_k K H v) (.cons (dp_b K H b) .nil)))
theorem dp_es {K : PySem.W.Frag} {H : Hp} : ∀ {ts : List Addr} {es : List Ed}, EdsAt H ts es → DpAll K H (ts.map V.ref) (es.map dE)
  | [], [], _ => .nil
  | [], e :: es, h => by have := h.len; simp at this
  | t :: ts, [], h => by have := h.len; simp at this
  | t :: ts, e :: es, h => .cons (dp_e (SqT.of (h.at_ 0 t e rfl rfl))) (dp_es ⟨by have := h.len; simpa using this, fun i a b ha hb => h.at_ (i + 1) a b (by simpa using ha) (by simpa using hb)⟩)
def LayK (k : Key) : Prop := PyData.canLay0 (dK k) = true
def LayE : Ed → Prop
  | .drop v => LayK v
  | .put v t => LayK v ∧ ∀ u, t = some u → LayK u
  | .move v t => LayK v ∧ ∀ u, t = some u → LayK u
theorem lay_b {t : Option Key} (h : ∀ u, t = some u → LayK u) : PyData.canLay0 (dB t) = true := by
  cases t with
  | none => rfl
  | some u => exact h u rfl
theorem lay_3 {a : Str} {v : Key} {t : Option Key} (ha : PyData.canLay0 (.str a) = true) (hv : LayK v) (ht : ∀ u, t = some u → LayK u) : PyData.canLay0 (.tuple [.str a, dK v, dB t]) = true := by
  show (PyData.canLay0 (.str a) && (PyData.canLay0 (dK v) && (PyData.canLay0 (dB t) && true))) = true
  rw [ha, hv, lay_b ht]
  rfl
theorem lay_e {e : Ed} (h : LayE e) : PyData.canLay0 (dE e) = true := by
  cases e with
  | drop v =>
    have hv : PyData.canLay0 (dK v) = true := h
    show (PyData.canLay0 (.str "drop") && (PyData.canLay0 (dK v) && true)) = true
    rw [hv, show PyData.canLay0 (.str "drop") = true from strOk_of _]
    rfl
  | put v t => exact lay_3 (strOk_of _) h.1 h.2
  | move v t => exact lay_3 (strOk_of _) h.1 h.2
theorem depth_k (k : Key) : PyData.depth (dK k) = 0 := by cases k <;> rfl
theorem depth_b (t : Option Key) : PyData.depth (dB t) = 0 := by
  cases t with
  | none => rfl
  | some u => exact depth_k u
theorem depth_3 (a : Str) (v : Key) (t : Option Key) : PyData.depth (.tuple [.str a, dK v, dB t]) = 1 := by
  show max (PyData.depth (.str a)) (max (PyData.depth (dK v)) (max (PyData.depth (dB t)) 0)) + 1 = 1
  rw [depth_k, depth_b]
  rfl
theorem depth_e (e : Ed) : PyData.depth (dE e) = 1 := by
  cases e with
  | drop v =>
    show max (PyData.depth (.str "drop")) (max (PyData.depth (dK v)) 0) + 1 = 1
    rw [depth_k]
    rfl
  | put v t => exact depth_3 _ v t
  | move v t => exact depth_3 _ v t
theorem lay_es : ∀ {es : List Ed}, (∀ e, e ∈ es → LayE e) → PyData.canLayAll0 (es.map dE) = true
  | [], _ => rfl
  | e :: es, h => by
    show (PyData.canLay0 (dE e) && PyData.canLayAll0 (es.map dE)) = true
    rw [lay_e (h e List.mem_cons_self), lay_es fun x hx => h x (List.mem_cons_of_mem _ hx)]
    rfl
theorem depth_es : ∀ (es : List Ed), PyData.depthAll (es.map dE) ≤ 1
  | [] => Nat.zero_le _
  | e :: es => by
    have ih := depth_es es
    show max (PyData.depth (dE e)) (PyData.depthAll (es.map dE)) ≤ 1
    rw [depth_e]
    omega
theorem shaped_es {es : List Ed} (h : ∀ e, e ∈ es → LayE e) : SeqAt.shaped (.list (es.map dE)) = true := by
  show (PyData.canLayAll0 (es.map dE) && decide (PyData.depthAll (es.map dE) + 1 ≤ 64)) = true
  have := depth_es es
  rw [lay_es h, decide_eq_true (by omega)]
  rfl
theorem mkE_lay {old kept : List Key} : ∀ (l : List Key) (t : Option Key), (∀ x, x ∈ l → LayK x) → (∀ u, t = some u → LayK u) → ∀ e, e ∈ mkE old kept l t → LayE e
  | [], _, _, _, e, he => by simp [mkE] at he
  | v :: r, t, h, ht, e, he => by
    have hv := h v List.mem_cons_self
    rcases List.mem_append.mp (show e ∈ stepE old kept v t ++ mkE old kept r (some v) from he) with h1 | h1
    · unfold stepE at h1
      split at h1
      · split at h1
        · simp at h1
        · have : e = .move v t := by simpa using h1
          subst this
          exact ⟨hv, ht⟩
      · have : e = .put v t := by simpa using h1
        subst this
        exact ⟨hv, ht⟩
    · exact mkE_lay r (some v) (fun x hx => h x (List.mem_cons_of_mem _ hx)) (fun u hu => by cases hu; exact hv) e h1
theorem edits_lay {old new kept : List Key} (ho : ∀ x, x ∈ old → LayK x) (hn : ∀ x, x ∈ new → LayK x) : ∀ e, e ∈ editsF old new kept → LayE e := fun e he => by
  rcases List.mem_append.mp (show e ∈ dropsF old new ++ mkE old kept new.reverse none from he) with h1 | h1
  · obtain ⟨v, hv, rfl⟩ := List.mem_map.mp h1
    exact ho v (List.mem_filter.mp hv).1
  · exact mkE_lay new.reverse none (fun x hx => hn x (List.mem_reverse.mp hx)) (fun u hu => by cases hu) e h1
theorem RowN.lay {n : Nat} {ks : List Key} (r : RowN n ks) : ∀ x, x ∈ ks → LayK x := fun x hx => by
  obtain ⟨m, _, h⟩ := r.tag x hx
  exact lay_k h

end Ki
namespace Ki
open PySem PySem.Spec PyProof.Rows L2 Lb
section
variable {P : Program} {w : World} {K : PySem.W.Frag} {mg : Str → Option Value} {base : Heap}
def spLaw (K : PySem.W.Frag) : Sp := fun vs H Q _ => ∃ (a : Addr) (ns : List Int), vs = [.ref a] ∧ SqL K H a (ns.map V.int) ∧ ns.length ≤ 63 ∧ ∀ H', Q (.bl true) H'
theorem spLaw_of {K : PySem.W.Frag} {H : Hp} {a : Addr} {ns : List Int} {E : XK} (hl : ns.length ≤ 63) (hS : SqL K H a (ns.map V.int)) : spLaw K [.ref a] H (fun v _ => v = .bl true) E := ⟨a, ns, rfl, hS, hl, fun _ => rfl⟩
theorem okEnd (T : TX K mg) : FnOk P w K mg base CX0 6 T.fLaw T.dLaw ["_law_script"] (spLaw K) := by
  have GE : FnOk P w K mg base CX0 4 T.fEdited T.dEdited ["old", "edits"] (spEdited K) := okEdited T
  have GW : FnOk P w K mg base CX0 3 T.fLWell T.dLWell ["_law_old", "_law_new", "_law_made", "_law_moves"] (spLWell K) := okLWell T
  have GS : FnOk P w K mg base CX0 4 T.fEdits T.dEdits ["old", "new"] (spEdits K) := okEdits T
  have GM : FnOk P w K mg base CX0 5 T.fLeastMoves T.dLeastMoves ["old", "new"] (spLeastMoves K) := okLeastMoves T
  have GL : FnOk P w K mg base CX0 2 T.fLLongest T.dLLongest ["_law_old", "_law_new"] (spLLongest K) := okLLongest T
  have GT : FnOk P w K mg base CX0 1 T.fLTake T.dLTake ["_law_bag", "_law_many"] (spTake K) := okTake T
  have GR : FnOk P w K mg base CX0 3 T.fLRows T.dLRows ["_law_bag"] (spLRows K) := okLRows T
  refine T.FLaw.ok scLaw (fun vs H Q E h => ?_) (fun cdv A outer s H vs Q E hr h => ?_)
  · obtain ⟨a, ns, rfl, _⟩ := h
    rfl
  · obtain ⟨a, ns, rfl, ha, hl, q⟩ := h
    refine ⟨_, (derLaw T GE GW GS GM GL GT GR hr).2, ?_⟩
    unfold derLaw
    dsimp only [cxOf, Cx.nox]
    refine Lb.seq1 fun N hN => ?_
    wtm_at "go"
    refine g_list ha fun c nc => ?_
    wtm_at "go"
    refine ⟨by show 4 ≤ sizeLine; decide, fun b nb => ?_⟩
    refine hN _ _ ?_
    clear hN N
    have hc1 : upd H c (.lst (ns.map V.int)) c = some (.lst (ns.map V.int)) := upd_same
    have cb : c ≠ b := ne_of_none hc1 nb
    have hc2 := fact_new (o := .lst [.ref c, .int 0, .int 0, .int 0]) nb hc1
    have hB2 : Bag K (upd (upd H c (.lst (ns.map V.int))) b (.lst [.ref c, .int 0, .int 0, .int 0])) b c ns 0 := ⟨0, 0, upd_same, SqL.of hc2, cb, by decide, by decide, by decide⟩
    generalize upd (upd H c (.lst (ns.map V.int))) b (.lst [.ref c, .int 0, .int 0, .int 0]) = H2 at hc2 hB2
    refine Lb.seq1 fun N hN => ?_
    wtm_at "go"
    refine ⟨b, c, ns, _, rfl, hB2, hc2, fun R x y old new n H3 k3 nR nx ny xy Rx Ry hB3 hn hR3 hx3 hy3 ro rn => ?_⟩
    refine hN _ _ ?_
    clear hN N
    have hR3s : SqL K H3 R [.ref x, .ref y] := SqL.of hR3
    wtm_at "st"
    wtm_at "st"
    obtain ⟨i2, r2, hb2, _⟩ := id hB2
    have bx : b ≠ x := ne_of_none hb2 nx
    have bY : b ≠ y := ne_of_none hb2 ny
    have bR : b ≠ R := ne_of_none hb2 nR
    refine Lb.cut (fun σ' H' => ∃ (x y : Addr) (old new : List Key), σ' = [some (.ref a), some (.ref b), some (.ref R), some (.ref x), some (.ref y), none, none, none, none, none, none, none, none, none] ∧ H' x = some (.lst (old.map kV)) ∧ H' y = some (.lst (new.map kV)) ∧ RowN 30 old ∧ RowN 30 new) (fun N hN => ?_) ?_
    · wtm_at "go"
      refine ⟨b, c, ns, n, 2, rfl, hB3, by omega, by decide, by decide, fun d H4 d0 d2 k4 hB4 => ?_⟩
      have hR4 : SqL K H4 R [.ref x, .ref y] := SqL.of (k4.at hR3 (by simp; exact fun z => bR z.symm))
      have hx4 := k4.at hx3 (show x ∉ [b] by simp; exact fun z => bx z.symm)
      have hy4 := k4.at hy3 (show y ∉ [b] by simp; exact fun z => bY z.symm)
      wtm_at "go"
      by_cases hd : 0 < d
      · refine ifbT (decide_eq_true hd) ?_
        wtm_at "st"
        wtm_at "go"
        exact hN _ _ ⟨y, x, new, old, rfl, hy4, hx4, rn, ro⟩
      · refine ifbF (decide_eq_false hd) ?_
        wtm_at "go"
        exact hN _ _ ⟨x, y, old, new, rfl, hx4, hy4, ro, rn⟩
    rintro σ' H3 ⟨x, y, old, new, rfl, hx3, hy3, ro, rn⟩
    have hx3s : SqL K H3 x (old.map kV) := SqL.of hx3
    have hy3s : SqL K H3 y (new.map kV) := SqL.of hy3
    have lo := ro.len
    have ln := rn.len
    refine Lb.seq1 fun N hN => ?_
    wtm_at "go"
    refine ⟨x, y, old, new, rfl, hx3s, hy3s, ro.nd, rn.nd, by omega, by omega, fun L H5 k5 hL => ?_⟩
    wtm_at "go"
    refine hN _ _ ?_
    clear hN N
    have hx5 := k5.at hx3 List.not_mem_nil
    have hy5 := k5.at hy3 List.not_mem_nil
    have hLs : SqT K H5 L [.int ((old.filter fun k => kIn k new).length : Nat), .int ((pilesF new old).length : Nat)] := SqT.of hL
    refine Lb.seq1 fun N hN => ?_
    wtm_at "go"
    refine hN _ _ ?_
    clear hN N
    generalize hmv : (((old.filter fun k => kIn k new).length : Nat) : Int) - (((pilesF new old).length : Nat) : Int) = mv
    have emv : ∀ kept, UpOk old new kept → kept.length = (pilesF new old).length → mv = (movesE (editsF old new kept) : Nat) := fun kept up kl => by
      have := moves_edits ro.nd rn.nd up
      omega
    refine Lb.seq1 fun N hN => ?_
    refine ⟨2, rfl, by decide, by decide, ?_⟩
    refine for_range (lo := 0) (n := 2) (fun i σ H7 => ∃ v7 v8 v9 v10 v11 v12 v13, σ = [some (.ref a), some (.ref b), some (.ref R), some (.ref x), some (.ref y), some (.ref L), some (.int mv), v7, v8, v9, v10, v11, v12, v13] ∧ Keep [] H5 H7)
      ⟨none, none, none, none, none, none, none, rfl, Keep.refl _ _⟩ ?_ ?_
    · rintro i σ H6 hi ⟨v7, v8, v9, v10, v11, v12, v13, rfl, k6⟩
      have hx6 := k6.at hx5 List.not_mem_nil
      have hy6 := k6.at hy5 List.not_mem_nil
      wtm_at "go"
      refine Lb.seq1 fun N2 hN2 => ?_
      wtm_at "go"
      refine g_list (SqL.of hx6) fun p1 np1 => ?_
      wtm_at "go"
      refine g_list (sq_new np1 (SqL.of hy6)) fun p2 np2 => ?_
      wtm_at "go"
      refine ⟨by show 2 ≤ sizeLine; decide, fun Z nZ => ?_⟩
      refine hN2 _ _ ?_
      clear hN2 N2
      have hp1 : upd (upd (upd H6 p1 (.lst (old.map kV))) p2 (.lst (new.map kV))) Z (.lst [.ref p1, .ref p2]) p1 = some (.lst (old.map kV)) := fact_new nZ (fact_new np2 upd_same)
      have hp2 : upd (upd (upd H6 p1 (.lst (old.map kV))) p2 (.lst (new.map kV))) Z (.lst [.ref p1, .ref p2]) p2 = some (.lst (new.map kV)) := fact_new nZ upd_same
      have hZ : upd (upd (upd H6 p1 (.lst (old.map kV))) p2 (.lst (new.map kV))) Z (.lst [.ref p1, .ref p2]) Z = some (.lst [.ref p1, .ref p2]) := upd_same
      have k7 : Keep [] H6 (upd (upd (upd H6 p1 (.lst (old.map kV))) p2 (.lst (new.map kV))) Z (.lst [.ref p1, .ref p2])) := ((Keep.new np1).trans (Keep.new np2)).trans (Keep.new nZ)
      generalize upd (upd (upd H6 p1 (.lst (old.map kV))) p2 (.lst (new.map kV))) Z (.lst [.ref p1, .ref p2]) = H7 at hp1 hp2 hZ k7 ⊢
      have st : ∀ {H8 : Hp}, Keep [] H7 H8 → SqL K H8 Z [.ref p1, .ref p2] ∧ SqL K H8 p1 (old.map kV) ∧ SqL K H8 p2 (new.map kV) ∧ SqL K H8 x (old.map kV) ∧ SqL K H8 y (new.map kV) := fun {H8} k =>
        ⟨SqL.of (k.at hZ List.not_mem_nil), SqL.of (k.at hp1 List.not_mem_nil), SqL.of (k.at hp2 List.not_mem_nil), SqL.of ((k7.trans k).at hx6 List.not_mem_nil), SqL.of ((k7.trans k).at hy6 List.not_mem_nil)⟩
      have k07 := k6.trans k7
      clear np1 np2 nZ
      -- least_moves
      refine Lb.seq1 fun N2 hN2 => ?_
      obtain ⟨sZ, s1, s2, sx, sy⟩ := st (Keep.refl _ _)
      wtm_at "go"
      refine ⟨p1, p2, old, new, rfl, s1, s2, ro.nd, rn.nd, by omega, by omega, fun kept H8 k8 up kl => ?_⟩
      rw [← emv kept up kl]
      wtm_at "go"
      refine hN2 _ _ ?_
      clear hN2 N2
      refine Lb.seq1 fun N2 hN2 => ?_
      wtm_at "go"
      refine g_isi (t := "int") (b := true) (.base (.int _)) (by decide +kernel) ?_
      wtm_at "go"
      refine ifbF rfl ?_
      wtm_at "go"
      refine g_isi (t := "int") (b := false) (.base (.int _)) (by decide +kernel) ?_
      wtm_at "go"
      refine ifbF rfl ?_
      wtm_at "go"
      rw [decide_eq_true (show V.int mv = V.int mv from rfl)]
      refine ifbF rfl ?_
      wtm_at "go"
      refine hN2 _ _ ?_
      clear hN2 N2
      obtain ⟨sZ8, s18, s28, sx8, sy8⟩ := st k8
      refine Lb.seq1 fun N2 hN2 => ?_
      wtm_at "go"
      refine ⟨p1, p2, old, new, rfl, s18, s28, ro.nd, rn.nd, by omega, by omega, fun M ts kept2 H9 nM k9 hM ea up2 kl2 => ?_⟩
      wtm_at "go"
      refine hN2 _ _ ?_
      clear hN2 N2
      have em := emv kept2 up2 kl2
      have run := run_edits ro.nd rn.nd up2
      have sol := solo_edits (kept := kept2) ro.nd rn.nd
      have lay := edits_lay (kept := kept2) ro.lay rn.lay
      have el : (editsF old new kept2).length ≤ 120 := by
        have h2 := mkE_len old kept2 new.reverse none
        rw [List.length_reverse] at h2
        have h4 : (dropsF old new).length ≤ old.length := by
          unfold dropsF
          rw [List.length_map]
          exact List.length_filter_le _ _
        show (dropsF old new ++ mkE old kept2 new.reverse none).length ≤ 120
        rw [List.length_append]
        omega
      generalize editsF old new kept2 = es at ea em run sol lay el
      have tsl := ea.len
      have k79 := k8.trans k9
      have nM7 : H7 M = none := k8.free nM List.not_mem_nil
      obtain ⟨sZ9, s19, s29, sx9, sy9⟩ := st k79
      have she := shaped_es lay
      have shn := shaped_1 rn
      -- law_well
      refine Lb.seq1 fun N2 hN2 => ?_
      wtm_at "go"
      refine ⟨x, y, M, old, new, ts, es, by rw [em]; rfl, sx9, sy9, SqL.of hM, ea, run, sol.1, sol.2, by omega, by omega, shn, fun H10 k10 => ?_⟩
      wtm_at "go"
      refine ifbF rfl ?_
      wtm_at "go"
      refine hN2 _ _ ?_
      clear hN2 N2
      have k710 := k79.trans k10
      have hM10 := k10.at hM List.not_mem_nil
      have ea10 := ea.keep k10
      -- kept = list(made)
      refine Lb.seq1 fun N2 hN2 => ?_
      wtm_at "go"
      refine g_list (SqL.of hM10) fun W nW => ?_
      wtm_at "go"
      refine hN2 _ _ ?_
      clear hN2 N2
      have k711 : Keep [] H7 (upd H10 W (.lst (ts.map V.ref))) := k710.unew nW
      have hM11 : (upd H10 W (.lst (ts.map V.ref))) M = some (.lst (ts.map V.ref)) := fact_new nW hM10
      have hW11 : (upd H10 W (.lst (ts.map V.ref))) W = some (.lst (ts.map V.ref)) := upd_same
      have ea11 := ea10.keep (Keep.new (o := .lst (ts.map V.ref)) nW)
      have MW : M ≠ W := ne_of_none hM10 nW
      generalize upd H10 W (.lst (ts.map V.ref)) = H11 at k711 hM11 hW11 ea11 ⊢
      obtain ⟨sZ11, s111, s211, sx11, sy11⟩ := st k711
      -- back = edited(..)
      refine Lb.seq1 fun N2 hN2 => ?_
      wtm_at "go"
      refine ⟨p1, M, old, ts, es, new, rfl, s111, .inl (SqL.of hM11), ea11, run, by omega, fun B H12 nB k12 hB => ?_⟩
      wtm_at "go"
      refine hN2 _ _ ?_
      clear hN2 N2
      have k712 := k711.trans k12
      have nB7 : H7 B = none := k711.free nB List.not_mem_nil
      have MB' : M ≠ B := ne_of_none hM11 nB
      have WB : W ≠ B := ne_of_none hW11 nB
      have hM12 := k12.at hM11 List.not_mem_nil
      have hW12 := k12.at hW11 List.not_mem_nil
      have ea12 := ea11.keep k12
      obtain ⟨sZ12, s112, s212, sx12, sy12⟩ := st k712
      refine Lb.seq1 fun N2 hN2 => ?_
      wtm_at "go"
      refine g_isi (tyx_list (SqL.of hB)) (b := true) (by decide +kernel) ?_
      wtm_at "go"
      refine ifbF rfl ?_
      wtm_at "go"
      refine ⟨_, _, .lst (SqL.of hB) (dp_ks K H12 new), .lst sy12 (dp_ks K H12 new), shn, shn, ?_⟩
      rw [SeqAt.eqv_refl _ (SeqAt.canLay_of_shaped shn)]
      wtm_at "go"
      refine ifbF rfl ?_
      wtm_at "go"
      refine hN2 _ _ ?_
      clear hN2 N2
      -- back.append
      refine Lb.seq1 fun N2 hN2 => ?_
      wtm_at "go"
      refine ⟨tyl (SqL.of hB), ?_⟩
      wtm_at "go"
      refine g_append hB (by rw [List.length_map]; exact small1000 (by omega)) ?_
      refine hN2 _ _ ?_
      clear hN2 N2
      have k713 := k712.umut (o := .lst (new.map kV ++ [.str "x"])) nB7
      have hM13 : (upd H12 B (.lst (new.map kV ++ [.str "x"]))) M = some (.lst (ts.map V.ref)) := fact_ne MB' hM12
      have hW13 : (upd H12 B (.lst (new.map kV ++ [.str "x"]))) W = some (.lst (ts.map V.ref)) := fact_ne WB hW12
      have ea13 := ea12.put (o := .lst (new.map kV ++ [.str "x"])) hB
      generalize upd H12 B (.lst (new.map kV ++ [.str "x"])) = H13 at k713 hM13 hW13 ea13 ⊢
      obtain ⟨sZ13, s113, s213, sx13, sy13⟩ := st k713
      -- other = edited(.., tuple(kept))
      refine Lb.seq1 fun N2 hN2 => ?_
      wtm_at "go"
      refine ⟨W, _, rfl, .inl ⟨SqL.of hW13, fun tt ntt => ?_⟩⟩
      wtm_at "go"
      have k714 : Keep [] H7 (upd H13 tt (.tup (ts.map V.ref))) := k713.unew ntt
      have k1314 : Keep [] H13 (upd H13 tt (.tup (ts.map V.ref))) := Keep.new ntt
      have htt : (upd H13 tt (.tup (ts.map V.ref))) tt = some (.tup (ts.map V.ref)) := upd_same
      generalize upd H13 tt (.tup (ts.map V.ref)) = H14 at k714 k1314 htt ⊢
      obtain ⟨sZ14, s114, s214, sx14, sy14⟩ := st k714
      refine ⟨p1, tt, old, ts, es, new, rfl, s114, .inr (SqT.of htt), ea13.keep k1314, run, by omega, fun O H15 nO k15 hO => ?_⟩
      wtm_at "go"
      refine hN2 _ _ ?_
      clear hN2 N2
      have k1315 := k1314.trans k15
      have k715 := k714.trans k15
      have hM15 := k1315.at hM13 List.not_mem_nil
      have hW15 := k1315.at hW13 List.not_mem_nil
      have ea15 := ea13.keep k1315
      obtain ⟨sZ15, s115, s215, sx15, sy15⟩ := st k715
      refine Lb.seq1 fun N2 hN2 => ?_
      wtm_at "go"
      refine ⟨_, _, .lst (SqL.of hO) (dp_ks K H15 new), .lst sy15 (dp_ks K H15 new), shn, shn, ?_⟩
      rw [SeqAt.eqv_refl _ (SeqAt.canLay_of_shaped shn)]
      wtm_at "go"
      refine ifbF rfl ?_
      wtm_at "go"
      refine ⟨_, _, .lst (SqL.of hM15) (dp_es ea15), .lst (SqL.of hW15) (dp_es ea15), she, she, ?_⟩
      rw [SeqAt.eqv_refl _ (SeqAt.canLay_of_shaped she)]
      wtm_at "go"
      refine ifbF rfl ?_
      wtm_at "go"
      refine ⟨by show 2 ≤ sizeLine; decide, fun G nG => ?_⟩
      have k716 := k715.unew (o := .lst [.ref x, .ref y]) nG
      have hM16 := fact_new (o := .lst [.ref x, .ref y]) nG hM15
      have hG : upd H15 G (.lst [.ref x, .ref y]) G = some (.lst [.ref x, .ref y]) := upd_same
      generalize upd H15 G (.lst [.ref x, .ref y]) = H16 at k716 hM16 hG ⊢
      obtain ⟨sZ16, s116, s216, sx16, sy16⟩ := st k716
      refine ⟨_, _, .lst sZ16 (.cons (.lst s116 (dp_ks K H16 old)) (.cons (.lst s216 (dp_ks K H16 new)) .nil)), .lst (SqL.of hG) (.cons (.lst sx16 (dp_ks K H16 old)) (.cons (.lst sy16 (dp_ks K H16 new)) .nil)), shaped_2 ro rn, shaped_2 ro rn, ?_⟩
      rw [SeqAt.eqv_refl _ (SeqAt.canLay_of_shaped (shaped_2 ro rn))]
      wtm_at "go"
      refine ifbF rfl ?_
      wtm_at "go"
      refine hN2 _ _ ?_
      clear hN2 N2
      wtm_at "go"
      refine ⟨tyl (SqL.of hM16), ?_⟩
      wtm_at "go"
      refine ⟨by show 2 ≤ sizeLine; decide, fun G2 nG2 => ?_⟩
      wtm_at "go"
      refine g_append (fact_new nG2 hM16) (by rw [List.length_map]; exact small1000 (by omega)) ?_
      exact ⟨_, _, _, _, _, _, _, rfl, k07.trans ((k716.unew nG2).umut nM7)⟩
    · rintro σ H7 ⟨v7, v8, v9, v10, v11, v12, v13, rfl, k7⟩
      refine hN _ _ ?_
      wtm_at "go"
      exact q _
end

end Ki
namespace Ki
open PySem PySem.Spec PyProof.Rows L2 Lb
theorem all_mk {l : PySem.W.OpenLaw} {w : World} {K : PySem.W.Frag} {h : Heap} {mg : Str → Option Value} {fa : Addr} (X : K.In h) (G : h.Ns mainGlobals mg) (hfa : mg "law" = some (.ref fa))
    {f0 f1 f2 f3 f4 f5 f6 f7 f8 f9 f10 f11 f12 f13 f14 f15 f16 f17 f18 : Addr} {od0 an0 od1 an1 od2 an2 od3 an3 od4 an4 od5 an5 od6 an6 od7 an7 od8 an8 od9 an9 od10 an10 od11 an11 od12 an12 od13 an13 od14 an14 od15 an15 od16 an16 od17 an17 od18 an18 : Option Addr} {sl0 sl1 sl2 sl3 sl4 sl5 sl6 sl7 sl8 sl9 sl10 sl11 sl12 sl13 sl14 sl15 sl16 sl17 sl18 : Array (Option Value)} {oc0 kV0 dc0 pm0 cd0 ct0 oc1 kV1 dc1 pm1 cd1 ct1 oc2 kV2 dc2 pm2 cd2 ct2 oc3 kV3 dc3 pm3 cd3 ct3 oc4 kV4 dc4 pm4 cd4 ct4 oc5 kV5 dc5 pm5 cd5 ct5 oc6 kV6 dc6 pm6 cd6 ct6 oc7 kV7 dc7 pm7 cd7 ct7 oc8 kV8 dc8 pm8 cd8 ct8 oc9 kV9 dc9 pm9 cd9 ct9 oc10 kV10 dc10 pm10 cd10 ct10 oc11 kV11 dc11 pm11 cd11 ct11 oc12 kV12 dc12 pm12 cd12 ct12 oc13 kV13 dc13 pm13 cd13 ct13 oc14 kV14 dc14 pm14 cd14 ct14 oc15 kV15 dc15 pm15 cd15 ct15 oc16 kV16 dc16 pm16 cd16 ct16 oc17 kV17 dc17 pm17 cd17 ct17 oc18 kV18 dc18 pm18 cd18 ct18 : Value}
    (a0 : PySem.W.nsIn K mainGlobals "is_value" = some (some (.ref f0))) (l0 : K.lookup f0 = some ⟨oc0, od0, .func (PySem.W.fnOf "is_value" "is_value" (defArgs sIsValue) (defBody sIsValue) (defScope sIsValue) .none kV0 dc0 pm0 an0 cd0 ct0), sl0⟩) (c0 : PySem.W.codeIn K cd0 "is_value" = true) (k0 : PySem.W.keepIn K (.ref f0) = true)
    (a1 : PySem.W.nsIn K mainGlobals "places_of" = some (some (.ref f1))) (l1 : K.lookup f1 = some ⟨oc1, od1, .func (PySem.W.fnOf "places_of" "places_of" (defArgs sPlacesOf) (defBody sPlacesOf) (defScope sPlacesOf) .none kV1 dc1 pm1 an1 cd1 ct1), sl1⟩) (c1 : PySem.W.codeIn K cd1 "places_of" = true) (k1 : PySem.W.keepIn K (.ref f1) = true)
    (a2 : PySem.W.nsIn K mainGlobals "piles_of" = some (some (.ref f2))) (l2 : K.lookup f2 = some ⟨oc2, od2, .func (PySem.W.fnOf "piles_of" "piles_of" (defArgs sPilesOf) (defBody sPilesOf) (defScope sPilesOf) .none kV2 dc2 pm2 an2 cd2 ct2), sl2⟩) (c2 : PySem.W.codeIn K cd2 "piles_of" = true) (k2 : PySem.W.keepIn K (.ref f2) = true)
    (a3 : PySem.W.nsIn K mainGlobals "rising" = some (some (.ref f3))) (l3 : K.lookup f3 = some ⟨oc3, od3, .func (PySem.W.fnOf "rising" "rising" (defArgs sRising) (defBody sRising) (defScope sRising) .none kV3 dc3 pm3 an3 cd3 ct3), sl3⟩) (c3 : PySem.W.codeIn K cd3 "rising" = true) (k3 : PySem.W.keepIn K (.ref f3) = true)
    (a4 : PySem.W.nsIn K mainGlobals "is_target" = some (some (.ref f4))) (l4 : K.lookup f4 = some ⟨oc4, od4, .func (PySem.W.fnOf "is_target" "is_target" (defArgs sIsTarget) (defBody sIsTarget) (defScope sIsTarget) .none kV4 dc4 pm4 an4 cd4 ct4), sl4⟩) (c4 : PySem.W.codeIn K cd4 "is_target" = true) (k4 : PySem.W.keepIn K (.ref f4) = true)
    (a5 : PySem.W.nsIn K mainGlobals "is_edit" = some (some (.ref f5))) (l5 : K.lookup f5 = some ⟨oc5, od5, .func (PySem.W.fnOf "is_edit" "is_edit" (defArgs sIsEdit) (defBody sIsEdit) (defScope sIsEdit) .none kV5 dc5 pm5 an5 cd5 ct5), sl5⟩) (c5 : PySem.W.codeIn K cd5 "is_edit" = true) (k5 : PySem.W.keepIn K (.ref f5) = true)
    (a6 : PySem.W.nsIn K mainGlobals "edited" = some (some (.ref f6))) (l6 : K.lookup f6 = some ⟨oc6, od6, .func (PySem.W.fnOf "edited" "edited" (defArgs sEdited) (defBody sEdited) (defScope sEdited) .none kV6 dc6 pm6 an6 cd6 ct6), sl6⟩) (c6 : PySem.W.codeIn K cd6 "edited" = true) (k6 : PySem.W.keepIn K (.ref f6) = true)
    (a7 : PySem.W.nsIn K mainGlobals "edits" = some (some (.ref f7))) (l7 : K.lookup f7 = some ⟨oc7, od7, .func (PySem.W.fnOf "edits" "edits" (defArgs sEdits) (defBody sEdits) (defScope sEdits) .none kV7 dc7 pm7 an7 cd7 ct7), sl7⟩) (c7 : PySem.W.codeIn K cd7 "edits" = true) (k7 : PySem.W.keepIn K (.ref f7) = true)
    (a8 : PySem.W.nsIn K mainGlobals "least_moves" = some (some (.ref f8))) (l8 : K.lookup f8 = some ⟨oc8, od8, .func (PySem.W.fnOf "least_moves" "least_moves" (defArgs sLeastMoves) (defBody sLeastMoves) (defScope sLeastMoves) .none kV8 dc8 pm8 an8 cd8 ct8), sl8⟩) (c8 : PySem.W.codeIn K cd8 "least_moves" = true) (k8 : PySem.W.keepIn K (.ref f8) = true)
    (a9 : PySem.W.nsIn K mainGlobals "_law_take" = some (some (.ref f9))) (l9 : K.lookup f9 = some ⟨oc9, od9, .func (PySem.W.fnOf "_law_take" "_law_take" (defArgs sLTake) (defBody sLTake) (defScope sLTake) .none kV9 dc9 pm9 an9 cd9 ct9), sl9⟩) (c9 : PySem.W.codeIn K cd9 "_law_take" = true) (k9 : PySem.W.keepIn K (.ref f9) = true)
    (a10 : PySem.W.nsIn K mainGlobals "_law_value" = some (some (.ref f10))) (l10 : K.lookup f10 = some ⟨oc10, od10, .func (PySem.W.fnOf "_law_value" "_law_value" (defArgs sLValue) (defBody sLValue) (defScope sLValue) .none kV10 dc10 pm10 an10 cd10 ct10), sl10⟩) (c10 : PySem.W.codeIn K cd10 "_law_value" = true) (k10 : PySem.W.keepIn K (.ref f10) = true)
    (a11 : PySem.W.nsIn K mainGlobals "_law_put_in" = some (some (.ref f11))) (l11 : K.lookup f11 = some ⟨oc11, od11, .func (PySem.W.fnOf "_law_put_in" "_law_put_in" (defArgs sLPutIn) (defBody sLPutIn) (defScope sLPutIn) .none kV11 dc11 pm11 an11 cd11 ct11), sl11⟩) (c11 : PySem.W.codeIn K cd11 "_law_put_in" = true) (k11 : PySem.W.keepIn K (.ref f11) = true)
    (a12 : PySem.W.nsIn K mainGlobals "_law_rows" = some (some (.ref f12))) (l12 : K.lookup f12 = some ⟨oc12, od12, .func (PySem.W.fnOf "_law_rows" "_law_rows" (defArgs sLRows) (defBody sLRows) (defScope sLRows) .none kV12 dc12 pm12 an12 cd12 ct12), sl12⟩) (c12 : PySem.W.codeIn K cd12 "_law_rows" = true) (k12 : PySem.W.keepIn K (.ref f12) = true)
    (a13 : PySem.W.nsIn K mainGlobals "_law_place" = some (some (.ref f13))) (l13 : K.lookup f13 = some ⟨oc13, od13, .func (PySem.W.fnOf "_law_place" "_law_place" (defArgs sLPlace) (defBody sLPlace) (defScope sLPlace) .none kV13 dc13 pm13 an13 cd13 ct13), sl13⟩) (c13 : PySem.W.codeIn K cd13 "_law_place" = true) (k13 : PySem.W.keepIn K (.ref f13) = true)
    (a14 : PySem.W.nsIn K mainGlobals "_law_longest" = some (some (.ref f14))) (l14 : K.lookup f14 = some ⟨oc14, od14, .func (PySem.W.fnOf "_law_longest" "_law_longest" (defArgs sLLongest) (defBody sLLongest) (defScope sLLongest) .none kV14 dc14 pm14 an14 cd14 ct14), sl14⟩) (c14 : PySem.W.codeIn K cd14 "_law_longest" = true) (k14 : PySem.W.keepIn K (.ref f14) = true)
    (a15 : PySem.W.nsIn K mainGlobals "_law_is_value" = some (some (.ref f15))) (l15 : K.lookup f15 = some ⟨oc15, od15, .func (PySem.W.fnOf "_law_is_value" "_law_is_value" (defArgs sLIsValue) (defBody sLIsValue) (defScope sLIsValue) .none kV15 dc15 pm15 an15 cd15 ct15), sl15⟩) (c15 : PySem.W.codeIn K cd15 "_law_is_value" = true) (k15 : PySem.W.keepIn K (.ref f15) = true)
    (a16 : PySem.W.nsIn K mainGlobals "_law_done" = some (some (.ref f16))) (l16 : K.lookup f16 = some ⟨oc16, od16, .func (PySem.W.fnOf "_law_done" "_law_done" (defArgs sLDone) (defBody sLDone) (defScope sLDone) .none kV16 dc16 pm16 an16 cd16 ct16), sl16⟩) (c16 : PySem.W.codeIn K cd16 "_law_done" = true) (k16 : PySem.W.keepIn K (.ref f16) = true)
    (a17 : PySem.W.nsIn K mainGlobals "_law_well" = some (some (.ref f17))) (l17 : K.lookup f17 = some ⟨oc17, od17, .func (PySem.W.fnOf "_law_well" "_law_well" (defArgs sLWell) (defBody sLWell) (defScope sLWell) .none kV17 dc17 pm17 an17 cd17 ct17), sl17⟩) (c17 : PySem.W.codeIn K cd17 "_law_well" = true) (k17 : PySem.W.keepIn K (.ref f17) = true)
    (a18 : PySem.W.nsIn K mainGlobals "law" = some (some (.ref f18))) (l18 : K.lookup f18 = some ⟨oc18, od18, .func (PySem.W.fnOf "law" "law" (defArgs sLaw) (defBody sLaw) (defScope sLaw) .none kV18 dc18 pm18 an18 cd18 ct18), sl18⟩) (c18 : PySem.W.codeIn K cd18 "law" = true) (k18 : PySem.W.keepIn K (.ref f18) = true)
    (z_bool : PySem.W.nsIn K mainGlobals "bool" = some none)
    (z_enumerate : PySem.W.nsIn K mainGlobals "enumerate" = some none)
    (z_int : PySem.W.nsIn K mainGlobals "int" = some none)
    (z_isinstance : PySem.W.nsIn K mainGlobals "isinstance" = some none)
    (z_len : PySem.W.nsIn K mainGlobals "len" = some none)
    (z_list : PySem.W.nsIn K mainGlobals "list" = some none)
    (z_max : PySem.W.nsIn K mainGlobals "max" = some none)
    (z_range : PySem.W.nsIn K mainGlobals "range" = some none)
    (z_str : PySem.W.nsIn K mainGlobals "str" = some none)
    (z_tuple : PySem.W.nsIn K mainGlobals "tuple" = some none)
    : ∃ fd : FuncData, (∀ (s : Shared) (v : Value), BindsTo s fd ⟨[v], []⟩ [("_law_script", v)]) ∧ ∀ base : Heap, K.In base → base.Ns mainGlobals mg → FnOk l.prog w K mg base CX0 6 fa fd ["_law_script"] (spLaw K) := by
  have e := hfa.symm.trans (PySem.W.mg_of X G a18)
  cases e
  have F0 := fun_mk (st := sIsValue) l0 c0 k0
  have b0 := F0.binds (ps := ["thing"]) fun _ _ _ _ _ _ us hl => match us, hl with | [_], _ => rfl
  have F1 := fun_mk (st := sPlacesOf) l1 c1 k1
  have b1 := F1.binds (ps := ["row"]) fun _ _ _ _ _ _ us hl => match us, hl with | [_], _ => rfl
  have F2 := fun_mk (st := sPilesOf) l2 c2 k2
  have b2 := F2.binds (ps := ["old", "new"]) fun _ _ _ _ _ _ us hl => match us, hl with | [_, _], _ => rfl
  have F3 := fun_mk (st := sRising) l3 c3 k3
  have b3 := F3.binds (ps := ["old", "new"]) fun _ _ _ _ _ _ us hl => match us, hl with | [_, _], _ => rfl
  have F4 := fun_mk (st := sIsTarget) l4 c4 k4
  have b4 := F4.binds (ps := ["row", "value", "target"]) fun _ _ _ _ _ _ us hl => match us, hl with | [_, _, _], _ => rfl
  have F5 := fun_mk (st := sIsEdit) l5 c5 k5
  have b5 := F5.binds (ps := ["row", "edit"]) fun _ _ _ _ _ _ us hl => match us, hl with | [_, _], _ => rfl
  have F6 := fun_mk (st := sEdited) l6 c6 k6
  have b6 := F6.binds (ps := ["old", "edits"]) fun _ _ _ _ _ _ us hl => match us, hl with | [_, _], _ => rfl
  have F7 := fun_mk (st := sEdits) l7 c7 k7
  have b7 := F7.binds (ps := ["old", "new"]) fun _ _ _ _ _ _ us hl => match us, hl with | [_, _], _ => rfl
  have F8 := fun_mk (st := sLeastMoves) l8 c8 k8
  have b8 := F8.binds (ps := ["old", "new"]) fun _ _ _ _ _ _ us hl => match us, hl with | [_, _], _ => rfl
  have F9 := fun_mk (st := sLTake) l9 c9 k9
  have b9 := F9.binds (ps := ["_law_bag", "_law_many"]) fun _ _ _ _ _ _ us hl => match us, hl with | [_, _], _ => rfl
  have F10 := fun_mk (st := sLValue) l10 c10 k10
  have b10 := F10.binds (ps := ["_law_bag", "_law_k"]) fun _ _ _ _ _ _ us hl => match us, hl with | [_, _], _ => rfl
  have F11 := fun_mk (st := sLPutIn) l11 c11 k11
  have b11 := F11.binds (ps := ["_law_bag", "_law_row", "_law_value_here", "_law_shape"]) fun _ _ _ _ _ _ us hl => match us, hl with | [_, _, _, _], _ => rfl
  have F12 := fun_mk (st := sLRows) l12 c12 k12
  have b12 := F12.binds (ps := ["_law_bag"]) fun _ _ _ _ _ _ us hl => match us, hl with | [_], _ => rfl
  have F13 := fun_mk (st := sLPlace) l13 c13 k13
  have b13 := F13.binds (ps := ["_law_row", "_law_value_here"]) fun _ _ _ _ _ _ us hl => match us, hl with | [_, _], _ => rfl
  have F14 := fun_mk (st := sLLongest) l14 c14 k14
  have b14 := F14.binds (ps := ["_law_old", "_law_new"]) fun _ _ _ _ _ _ us hl => match us, hl with | [_, _], _ => rfl
  have F15 := fun_mk (st := sLIsValue) l15 c15 k15
  have b15 := F15.binds (ps := ["_law_value_here"]) fun _ _ _ _ _ _ us hl => match us, hl with | [_], _ => rfl
  have F16 := fun_mk (st := sLDone) l16 c16 k16
  have b16 := F16.binds (ps := ["_law_row", "_law_edit"]) fun _ _ _ _ _ _ us hl => match us, hl with | [_, _], _ => rfl
  have F17 := fun_mk (st := sLWell) l17 c17 k17
  have b17 := F17.binds (ps := ["_law_old", "_law_new", "_law_made", "_law_moves"]) fun _ _ _ _ _ _ us hl => match us, hl with | [_, _, _, _], _ => rfl
  have F18 := fun_mk (st := sLaw) l18 c18 k18
  have b18 := F18.binds (ps := ["_law_script"]) fun _ _ _ _ _ _ us hl => match us, hl with | [_], _ => rfl
  exact ⟨PySem.W.fnOf "law" "law" (defArgs sLaw) (defBody sLaw) (defScope sLaw) .none kV18 dc18 pm18 an18 cd18 ct18, fun s v => .of_eq rfl, fun base _ _ => okEnd (P := l.prog) (w := w) (base := base) ({
    n_bool := PySem.W.mg_none_of X G z_bool,
    n_enumerate := PySem.W.mg_none_of X G z_enumerate,
    n_int := PySem.W.mg_none_of X G z_int,
    n_isinstance := PySem.W.mg_none_of X G z_isinstance,
    n_len := PySem.W.mg_none_of X G z_len,
    n_list := PySem.W.mg_none_of X G z_list,
    n_max := PySem.W.mg_none_of X G z_max,
    n_range := PySem.W.mg_none_of X G z_range,
    n_str := PySem.W.mg_none_of X G z_str,
    n_tuple := PySem.W.mg_none_of X G z_tuple,
    fIsValue := _, dIsValue := _, FIsValue := F0, gIsValue := PySem.W.mg_of X G a0, bIsValue := b0,
    fPlacesOf := _, dPlacesOf := _, FPlacesOf := F1, gPlacesOf := PySem.W.mg_of X G a1, bPlacesOf := b1,
    fPilesOf := _, dPilesOf := _, FPilesOf := F2, gPilesOf := PySem.W.mg_of X G a2, bPilesOf := b2,
    fRising := _, dRising := _, FRising := F3, gRising := PySem.W.mg_of X G a3, bRising := b3,
    fIsTarget := _, dIsTarget := _, FIsTarget := F4, gIsTarget := PySem.W.mg_of X G a4, bIsTarget := b4,
    fIsEdit := _, dIsEdit := _, FIsEdit := F5, gIsEdit := PySem.W.mg_of X G a5, bIsEdit := b5,
    fEdited := _, dEdited := _, FEdited := F6, gEdited := PySem.W.mg_of X G a6, bEdited := b6,
    fEdits := _, dEdits := _, FEdits := F7, gEdits := PySem.W.mg_of X G a7, bEdits := b7,
    fLeastMoves := _, dLeastMoves := _, FLeastMoves := F8, gLeastMoves := PySem.W.mg_of X G a8, bLeastMoves := b8,
    fLTake := _, dLTake := _, FLTake := F9, gLTake := PySem.W.mg_of X G a9, bLTake := b9,
    fLValue := _, dLValue := _, FLValue := F10, gLValue := PySem.W.mg_of X G a10, bLValue := b10,
    fLPutIn := _, dLPutIn := _, FLPutIn := F11, gLPutIn := PySem.W.mg_of X G a11, bLPutIn := b11,
    fLRows := _, dLRows := _, FLRows := F12, gLRows := PySem.W.mg_of X G a12, bLRows := b12,
    fLPlace := _, dLPlace := _, FLPlace := F13, gLPlace := PySem.W.mg_of X G a13, bLPlace := b13,
    fLLongest := _, dLLongest := _, FLLongest := F14, gLLongest := PySem.W.mg_of X G a14, bLLongest := b14,
    fLIsValue := _, dLIsValue := _, FLIsValue := F15, gLIsValue := PySem.W.mg_of X G a15, bLIsValue := b15,
    fLDone := _, dLDone := _, FLDone := F16, gLDone := PySem.W.mg_of X G a16, bLDone := b16,
    fLWell := _, dLWell := _, FLWell := F17, gLWell := PySem.W.mg_of X G a17, bLWell := b17,
    fLaw := _, dLaw := _, FLaw := F18, gLaw := PySem.W.mg_of X G a18, bLaw := b18 } : TX K mg)⟩
end Ki
open PySem PySem.W PyProof.Rows
set_option maxHeartbeats 0 in
theorem PySem.Challenge.cw_drawnwhole_k43_whole_fewest_moves_holds : PySem.Challenge.rw_drawnwhole_k43_whole_fewest_moves.Holds := by
  w_on; o_law; k_head; (case hw => w_witness2)
  k_fill
  refine L2.walk_of (l := PySem.Challenge.rw_drawnwhole_k43_whole_fewest_moves) (n := 63) (k := 6) (x := "_law_script") (CX := fun _ => L2.CX0) (sp := fun w => Ki.spLaw _) rfl (by decide) rfl ⟨rfl, by decide, by decide⟩ (fun w h Y => PySem.W.kIn_of Y) ?F (fun _ _ a ns hl ho hS => Ki.spLaw_of hl hS) (fun _ _ _ _ _ h => h)
  case F =>
    intro w mg fa h KX G hmg
    refine' Ki.all_mk KX G hmg ?a0 ?l0 ?c0 ?k0 ?a1 ?l1 ?c1 ?k1 ?a2 ?l2 ?c2 ?k2 ?a3 ?l3 ?c3 ?k3 ?a4 ?l4 ?c4 ?k4 ?a5 ?l5 ?c5 ?k5 ?a6 ?l6 ?c6 ?k6 ?a7 ?l7 ?c7 ?k7 ?a8 ?l8 ?c8 ?k8 ?a9 ?l9 ?c9 ?k9 ?a10 ?l10 ?c10 ?k10 ?a11 ?l11 ?c11 ?k11 ?a12 ?l12 ?c12 ?k12 ?a13 ?l13 ?c13 ?k13 ?a14 ?l14 ?c14 ?k14 ?a15 ?l15 ?c15 ?k15 ?a16 ?l16 ?c16 ?k16 ?a17 ?l17 ?c17 ?k17 ?a18 ?l18 ?c18 ?k18 ?z_bool ?z_enumerate ?z_int ?z_isinstance ?z_len ?z_list ?z_max ?z_range ?z_str ?z_tuple
    (case a0 => k_is); (case l0 => k_is); (case c0 => k_is); (case k0 => k_is); (case a1 => k_is); (case l1 => k_is); (case c1 => k_is); (case k1 => k_is); (case a2 => k_is); (case l2 => k_is); (case c2 => k_is); (case k2 => k_is); (case a3 => k_is); (case l3 => k_is); (case c3 => k_is); (case k3 => k_is); (case a4 => k_is); (case l4 => k_is); (case c4 => k_is); (case k4 => k_is); (case a5 => k_is); (case l5 => k_is); (case c5 => k_is); (case k5 => k_is); (case a6 => k_is); (case l6 => k_is); (case c6 => k_is); (case k6 => k_is); (case a7 => k_is); (case l7 => k_is); (case c7 => k_is); (case k7 => k_is); (case a8 => k_is); (case l8 => k_is); (case c8 => k_is); (case k8 => k_is); (case a9 => k_is); (case l9 => k_is); (case c9 => k_is); (case k9 => k_is); (case a10 => k_is); (case l10 => k_is); (case c10 => k_is); (case k10 => k_is); (case a11 => k_is); (case l11 => k_is); (case c11 => k_is); (case k11 => k_is); (case a12 => k_is); (case l12 => k_is); (case c12 => k_is); (case k12 => k_is); (case a13 => k_is); (case l13 => k_is); (case c13 => k_is); (case k13 => k_is); (case a14 => k_is); (case l14 => k_is); (case c14 => k_is); (case k14 => k_is); (case a15 => k_is); (case l15 => k_is); (case c15 => k_is); (case k15 => k_is); (case a16 => k_is); (case l16 => k_is); (case c16 => k_is); (case k16 => k_is); (case a17 => k_is); (case l17 => k_is); (case c17 => k_is); (case k17 => k_is); (case a18 => k_is); (case l18 => k_is); (case c18 => k_is); (case k18 => k_is); (case z_bool => k_is); (case z_enumerate => k_is); (case z_int => k_is); (case z_isinstance => k_is); (case z_len => k_is); (case z_list => k_is); (case z_max => k_is); (case z_range => k_is); (case z_str => k_is); (case z_tuple => k_is)

