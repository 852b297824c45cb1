import PyProof.Rows.All
import Wide.All
import OpenK.AllK
import Wide.FinOn
import HandS.ForMost
import HandS.IsInst
import HandS.DictComp
import HandS.Style
import HandS.Wide
import HandS.Deep
import HandS.More
import HandS.SetFor
import KE.DataFind
import KE.GoesMore
import HandS.TupAny
import HandS.WordsDict
import HandS.Small
import HandS.RaiseMore
import HandS.Strs
import HandS.Zip
import PySem.Challenge.RW_drawnwhole_k42_papers_judged
set_option Elab.async false
set_option linter.all false
set_option maxRecDepth 100000
set_option maxHeartbeats 4000000
/-! what every proof of ours leans on: heaps kept but for a footprint -/
namespace Lb
open PySem PySem.Spec PyProof.Rows L2

def Keep (fp : List Addr) (H H' : Hp) : Prop := ∀ x o, H x = some o → x ∉ fp → H' x = some o
section
variable {f g : List Addr} {H H1 H2 : Hp} {x p : Addr} {o : HO} {K : PySem.W.Frag} {xs : List V}
theorem Keep.refl (f : List Addr) (H : Hp) : Keep f H H := fun _ _ h _ => h
theorem Keep.trans (a : Keep f H H1) (b : Keep f H1 H2) : Keep f H H2 := fun x o h n => b x o (a x o h n) n
theorem Keep.mono (a : Keep f H H1) (h : ∀ x, x ∈ f → x ∈ g) : Keep g H H1 := fun x o e n => a x o e fun z => n (h x z)
theorem Keep.new (h : H p = none) : Keep f H (upd H p o) := fun x u e _ => by rw [upd_ne (ne_of_none e h)]; exact e
theorem Keep.put (h : p ∈ f) : Keep f H (upd H p o) := fun x u e n => by rw [upd_ne (fun z => n (by rw [z]; exact h))]; exact e
theorem Keep.at (a : Keep f H H1) (e : H x = some o) (n : x ∉ f) : H1 x = some o := a x o e n
theorem Keep.rd (a : Keep f H H1) (e : Rd H x o) (n : x ∉ f) : Rd H1 x o := by
  rcases e with e | ⟨u, e⟩
  · exact .inl (a _ _ e n)
  · exact .inr ⟨u, a _ _ e n⟩
theorem Keep.seq (a : Keep f H H1) (e : SqL K H x xs) (n : x ∉ f) : SqL K H1 x xs := by
  rcases e with e | e
  · exact .inl (a.rd e n)
  · exact .inr e
theorem Keep.tup (a : Keep f H H1) (e : SqT K H x xs) (n : x ∉ f) : SqT K H1 x xs := by
  rcases e with e | e
  · exact .inl (a.rd e n)
  · exact .inr e
/-- free before: a new address was free, if it is none of the footprint -/
theorem Keep.free (a : Keep f H H1) (h : H1 p = none) (n : p ∉ f) : H p = none := by
  cases q : H p with
  | none => rfl
  | some u =>
    rw [a p u q n] at h
    cases h
theorem Keep.same (a : Keep [] H H1) : Same H H1 := fun x o e => a x o e (by simp)
theorem Keep.of_same (a : Same H H1) : Keep f H H1 := fun x o e _ => a x o e
/-- an object that was made since (free in H) may change -/
theorem Keep.mut (a : Keep f H H1) (h : H p = none) : Keep f H (upd H1 p o) := fun x u e n => by
  rw [upd_ne (ne_of_none e h)]
  exact a x u e n
end
theorem nin_cons {α : Type} {x a : α} {l : List α} (h : x ≠ a) (h' : x ∉ l) : x ∉ a :: l := fun z => by
  rcases List.mem_cons.mp z with z | z
  · exact h z
  · exact h' z
section
variable {f : List Addr} {H H1 : Hp} {x p a : Addr} {o u : HO} {K : PySem.W.Frag} {xs : List V}
theorem fact_new (h : H p = none) (e : H a = some u) : upd H p o a = some u := by rw [upd_ne (ne_of_none e h)]; exact e
theorem fact_ne (h : a ≠ p) (e : H a = some u) : upd H p o a = some u := by rw [upd_ne h]; exact e
theorem sq_new (h : H p = none) (e : SqL K H a xs) : SqL K (upd H p o) a xs := by
  rcases e with (e | ⟨v, e⟩) | e
  · exact .inl (.inl (fact_new h e))
  · exact .inl (.inr ⟨v, fact_new h e⟩)
  · exact .inr e
theorem sq_ne (h : a ≠ p) (e : SqL K H a xs) : SqL K (upd H p o) a xs := by
  rcases e with (e | ⟨v, e⟩) | e
  · exact .inl (.inl (fact_ne h e))
  · exact .inl (.inr ⟨v, fact_ne h e⟩)
  · exact .inr e
theorem sqt_new (h : H p = none) (e : SqT K H a xs) : SqT K (upd H p o) a xs := by
  rcases e with (e | ⟨v, e⟩) | e
  · exact .inl (.inl (fact_new h e))
  · exact .inl (.inr ⟨v, fact_new h e⟩)
  · exact .inr e
theorem sqt_ne (h : a ≠ p) (e : SqT K H a xs) : SqT K (upd H p o) a xs := by
  rcases e with (e | ⟨v, e⟩) | e
  · exact .inl (.inl (fact_ne h e))
  · exact .inl (.inr ⟨v, fact_ne h e⟩)
  · exact .inr e
theorem Keep.unew (a : Keep f H H1) (h : H1 p = none) : Keep f H (upd H1 p o) := a.trans (Keep.new h)
theorem Keep.uput (a : Keep f H H1) (h : p ∈ f) : Keep f H (upd H1 p o) := a.trans (Keep.put h)
theorem Keep.umut (a : Keep f H H1) (h : H p = none) : Keep f H (upd H1 p o) := a.mut h
end
/-- a point where the ways of a statement meet: N is what follows -/
theorem cut {t1 t2 : TS} {D : Ends} {σ : L2.St} {H : Hp} (M : L2.St → Hp → Prop) (h1 : ∀ N : L2.St → Hp → Prop, (∀ σ' H', M σ' H' → N σ' H') → t1 { D with nx := N } σ H) (h2 : ∀ σ' H', M σ' H' → t2 D σ' H') : tSeq t1 t2 D σ H := h1 _ h2
/-- one statement: N is what follows -/
theorem seq1 {t1 t2 : TS} {D : Ends} {σ : L2.St} {H : Hp} (h1 : ∀ N : L2.St → Hp → Prop, (∀ σ' H', t2 D σ' H' → N σ' H') → t1 { D with nx := N } σ H) : tSeq t1 t2 D σ H := h1 _ fun _ _ h => h
theorem ifb {b : Bool} {A B : Prop} (h1 : b = true → A) (h2 : b = false → B) : if b = true then A else B := by
  cases b with
  | true => rw [if_pos rfl]; exact h1 rfl
  | false => rw [if_neg Bool.false_ne_true]; exact h2 rfl
theorem ifbT {b : Bool} {A B : Prop} (h : b = true) (h1 : A) : if b = true then A else B := by rw [if_pos h]; exact h1
theorem ifbF {b : Bool} {A B : Prop} (h : b = false) (h1 : B) : if b = true then A else B := by rw [if_neg (by rw [h]; exact Bool.false_ne_true)]; exact h1
theorem ofF {p : Prop} [Decidable p] (h : decide p = false) : ¬ p := of_decide_eq_false h
theorem ne_free {H : Hp} {a b : Addr} {o : HO} (h : H a = some o) (h' : H b = none) : a ≠ b := ne_of_none h h'
theorem kV_flat (k : Key) : flatV (kV k) = true := by cases k <;> rfl
theorem kV_eq (a b : Key) : eqV (kV a) (kV b) = decide (a = b) := by
  cases a with
  | inl i =>
    cases b with
    | inl j =>
      show (i == j) = _
      by_cases h : i = j
      · subst h; simp
      · simp [h]
    | inr j => simp [kV, eqV]
  | inr i =>
    cases b with
    | inl j => simp [kV, eqV]
    | inr j =>
      show (i == j) = _
      by_cases h : i = j
      · subst h; simp
      · simp [h]
theorem kV_all (ks : List Key) : (ks.map kV).all flatV = true := by
  induction ks with
  | nil => rfl
  | cons a r ih => rw [List.map_cons, List.all_cons, ih, kV_flat]; rfl
/-- k stands in the list -/
def kIn (k : Key) (ks : List Key) : Bool := ks.any fun a => decide (a = k)
theorem kIn_iff {k : Key} {ks : List Key} : kIn k ks = true ↔ k ∈ ks := by
  unfold kIn
  rw [List.any_eq_true]
  constructor
  · rintro ⟨a, h, e⟩
    rw [← of_decide_eq_true e]
    exact h
  · intro h
    exact ⟨k, h, decide_eq_true rfl⟩
theorem kIn_no {k : Key} {ks : List Key} : kIn k ks = false ↔ k ∉ ks := by
  rw [← kIn_iff]
  cases kIn k ks <;> simp
theorem inV_keys (k : Key) (ks : List Key) : inV (kV k) (ks.map kV) = kIn k ks := by
  induction ks with
  | nil => rfl
  | cons a r ih =>
    have e : inV (kV k) ((a :: r).map kV) = (eqV (kV a) (kV k) || inV (kV k) (r.map kV)) := rfl
    rw [e, ih, kV_eq]
    rfl
theorem getk {ks : List Key} {i : Nat} {v : V} (h : (ks.map kV)[i]? = some v) : ∃ k, ks[i]? = some k ∧ v = kV k := by
  rw [List.getElem?_map] at h
  cases e : ks[i]? with
  | none => rw [e] at h; cases h
  | some k => rw [e] at h; exact ⟨k, rfl, (Option.some.inj h).symm⟩
/-! rules with their written part told by name -/
def qLen (K : PySem.W.Frag) : List V → Hp → VK → Prop := fun xs H Q => ∃ p ys, xs = [.ref p] ∧ (SqL K H p ys ∨ SqT K H p ys) ∧ Q (.int ys.length) H
def qListOf (K : PySem.W.Frag) : List V → Hp → VK → Prop := fun xs H Q => ∃ p ys, xs = [.ref p] ∧ (SqL K H p ys ∨ SqT K H p ys) ∧ ∀ l, H l = none → Q (.ref l) (upd H l (.lst ys))
def qInt1 : List V → Hp → VK → Prop := fun xs H Q => (∃ i, xs = [.int i] ∧ Q (.int i) H) ∨ ∃ k, xs = [.bl k] ∧ Q (.int (if k then 1 else 0)) H
theorem c_len {X : Cx} : CallR X (.builtin "len") (qLen X.K) := call_len_seq
theorem c_list {X : Cx} : CallR X (.type "list") (qListOf X.K) := call_list_of
theorem c_int {X : Cx} : CallR X (.type "int") qInt1 := call_int1
theorem isWk {a b : String} {r : Bool} (h : kitB a b = some r) {K : PySem.W.Frag} : PySem.W.kitOne K (.type a) (.type b) = some r := h
end Lb

namespace Mm
open PySem PySem.Spec PyProof.Rows L2 Lb
/-! enumerate of a tuple -/
open AutoSeq1 (wpAny_loadPart') in
theorem enumT_new (ta : Addr) (us : Array Value) (nn : Nat) (od : Option Addr) (osl : Array (Option Value)) :
    Meets (Builtin.«enumerate.__new__» ⟨[.type "enumerate", .ref ta], []⟩) (fun _ RR st => st.heap.get? ta = some { cls := .type "tuple", dict := od, data := .seq us nn, slots := osl } ∧
      RR (.ok (.ret (.ref (st.heap.push { cls := .type "tuple_iterator", data := .fields #[.ref ta, .int 0 0] }).objs.size)))
        { st with heap := (st.heap.push { cls := .type "tuple_iterator", data := .fields #[.ref ta, .int 0 0] }).push { cls := .type "enumerate", data := .fields #[.none, .bool false, .ref st.heap.objs.size, rawInt 0, .none, .none] } }) :=
  .of_wp fun pg wd AA RR st hyp => by
    obtain ⟨hp1, g1, d1, tk1, os1⟩ := st
    obtain ⟨hta, hyp⟩ := hyp
    have hsub1 := sub_enumerate
    have hTT : Heap.IsTuple (Shared.heap ⟨hp1, g1, d1, tk1, os1⟩) ta us := ⟨_, hta, rfl, nn, rfl⟩
    wp_walk using wpAny_loadPart' hta
    refine wpAny_stack_any fun _ => wpAny_pure ?_
    split
    · rename_i c0 _ _ _ _ _
      cases (c0 == Value.type "enumerate")
      all_goals
        wp_walk using wpAny_loadPart' hta, wpAny_pyIter_tuple hTT
        exact ⟨_, rfl, hyp⟩
    · wp_walk using wpAny_loadPart' hta, wpAny_pyIter_tuple hTT
      exact ⟨_, rfl, hyp⟩
theorem enumT_call {pg : Program} {wd : World} {AA : Around} {EE : Value → Shared → Prop} {st : Shared} {ta : Addr} {us : Array Value} {QQ : Value → Shared → Prop} (hta : st.heap.IsTuple ta us)
    (hyp : ∀ hh, IsEnum hh (st.heap.objs.size + 1) st.heap.objs.size 0 .none → hh.IsTupleIter st.heap.objs.size ta 0 → hh.objs.size = st.heap.objs.size + 2 →
      (∀ b ob, st.heap.get? b = some ob → hh.get? b = some ob) → QQ (.ref (st.heap.objs.size + 1)) { st with heap := hh }) :
    wpAny (model pg wd) AA (call (.type "enumerate") [.ref ta]) QQ EE st := by
  obtain ⟨⟨c1, od, dt1, osl⟩, h1, h2, nn, h3⟩ := hta
  replace h2 : c1 = .type "tuple" := h2
  replace h3 : dt1 = .seq us nn := h3
  subst h2 h3
  refine callType_new F.called_enumerate (by decide) (F.typeCall_enumerate_1 _) (F.newCall_enumerate_1 _) (fun ob => F.args_object_init_2 ob _) F.entry_enumerate_new (enumT_new ta us nn od osl) ⟨h1, ?_⟩
  have sz : (st.heap.push { cls := .type "tuple_iterator", data := .fields #[.ref ta, .int 0 0] }).objs.size = st.heap.objs.size + 1 := by rw [Heap.size_push]
  show _ ∧ _
  rw [sz]
  have en : IsEnum ((st.heap.push { cls := .type "tuple_iterator", data := .fields #[.ref ta, .int 0 0] }).push { cls := .type "enumerate", data := .fields #[.none, .bool false, .ref st.heap.objs.size, rawInt 0, .none, .none] })
      (st.heap.objs.size + 1) st.heap.objs.size 0 .none := by
    have q := Heap.get?_push_size (st.heap.push { cls := .type "tuple_iterator", data := .fields #[.ref ta, .int 0 0] }) (o := { cls := .type "enumerate", data := .fields #[.none, .bool false, .ref st.heap.objs.size, rawInt 0, .none, .none] }) rfl
    rw [sz] at q
    exact q
  exact ⟨⟨_, en, rfl⟩, hyp _ en ⟨_, Heap.get?_push_of_some _ (Heap.get?_push_size _ rfl), rfl, rfl⟩ (by rw [Heap.size_push, sz]) fun b ob q => Heap.get?_push_of_some _ (Heap.get?_push_of_some _ q)⟩
theorem enumT_end {pg : Program} {wd : World} {AA : Around} {EE : Value → Shared → Prop} {st : Shared} {ee ii ta : Addr} {n : Nat} {us : Array Value} {old : Value} {QQ : Option Value → Shared → Prop} (hh : AA.handled = none) (he : IsEnum st.heap ee ii n old)
    (hit : st.heap.IsTupleIter ii ta n) (hta : st.heap.IsTuple ta us) (hx : us[n]? = none) (hQ : ∀ h1, Heap.ExtBut ii st.heap h1 → QQ none { st with heap := h1 }) : wpAny (model pg wd) AA (pyNext (.ref ee)) QQ EE st := by
  have ty : st.TypeIs (.ref ee) "enumerate" := ⟨_, he, rfl⟩
  unfold pyNext
  refine wpAny_bind (wpAny_attempt (wpAny_callSpecial?_slot (name := Str.ofString "__next__") ty F.slot_enumerate_next (wpAny_call_entry F.slot_enumerate_next ty F.entry_enumerate_next ?_ (F.args_enumerate_next_1 _))))
  show wpAny _ _ (field (.ref ee) 2 >>= _) _ _ _
  refine wpAny_bind (wpAny_field he rfl (x := .ref ii) rfl (wpAny_bind (wpAny_nextOf_tuple_end hh hit hta hx fun h1 x ex ⟨o, ho, hc⟩ => ?_)))
  exact wpAny_bind (wpAny_isInstance (T := "StopIteration") (b := true) ⟨o, ho, hc⟩ isSubtype_stop (wpAny_pure (hQ _ ex)))
/-- the tuple at a, each item in a new pair -/
def IteT (K : PySem.W.Frag) (a : Addr) : It :=
  ⟨fun i H => ∃ (xs : List V) (x : V), SqT K H a xs ∧ xs[i]? = some x,
   fun i H v H' => ∃ T x, v = .ref T ∧ H T = none ∧ H' = upd H T (.tup [.int (i : Nat), x]) ∧ ∀ xs, SqT K H a xs → xs[i]? = some x,
   fun i H => ∃ xs : List V, SqT K H a xs ∧ xs.length ≤ i⟩
theorem turn_enumT {P : Program} {w : World} {K : PySem.W.Frag} {elts : List Expr} {kk : Nat} {tpos : Pos} (a e it : Addr) :
    Turn P w K (.Tuple elts kk tpos) (IteT K a) [e, it] e (fun i h => (∃ old, IsEnum h e it ((i : Nat) : Int) old) ∧ h.IsTupleIter it a i ∧ e ≠ it) where
  mem := by simp
  obj := fun i h st b hb => by
    obtain ⟨⟨old, he⟩, ⟨o, ho, hc, hd⟩, _⟩ := st
    rcases (show b = e ∨ b = it by simpa using hb) with rfl | rfl
    · exact ⟨_, he, fun v q => nomatch q⟩
    · exact ⟨o, ho, fun v q => by rw [hd] at q; cases q⟩
  keep := fun i h h' st k => let ⟨⟨old, he⟩, hi, hne⟩ := st; ⟨⟨old, k e (by simp) _ he⟩, hi.at fun o q => k it (by simp) o q, hne⟩
  item := by
    intro X hP hw hK hc i pins s σ H E I hf st hg
    subst hP hw hK
    obtain ⟨⟨old, he⟩, hit, hne⟩ := st
    obtain ⟨xs, x, hq, hx⟩ := hg
    obtain ⟨its, rv, p, hz⟩ := I.tuple hq
    obtain ⟨u, hu, ru⟩ := rv.get hx
    have hel : e < s.heap.objs.size := Heap.lt_size he
    have hil : it < s.heap.objs.size := by
      obtain ⟨o, q, _⟩ := hit
      exact Heap.lt_size q
    have hT0 : s.heap.IsTuple a its.toArray := p
    have nit : a ≠ it := fun z => by
      obtain ⟨o1, q1, q2, _⟩ := hT0
      obtain ⟨o2, q3, q4, _⟩ := hit
      rw [z, q3] at q1
      cases q1
      rw [q4] at q2
      exact absurd (Value.type.inj q2) (by decide)
    have nea : e ≠ a := fun z => by
      obtain ⟨o1, q1, q2, _⟩ := hT0
      have he2 := he
      unfold IsEnum at he2
      rw [z, q1] at he2
      have e3 : o1 = _ := Option.some.inj he2
      rw [e3] at q2
      exact absurd (Value.type.inj q2) (by decide)
    have hul : i < its.toArray.size := by
      have := (List.getElem?_eq_some_iff.mp hu).1
      simpa using this
    refine wpAny_pyNext_enum_itemD (Draws.tuple (show X.A.in1.handled = none from I.ok.hd hc) it a nit its.toArray) he ⟨hit, hT0⟩ hul hne (by simp [hne, nea]) fun u' h' tk hu' ho hst hT hsz hk => ?_
    obtain ⟨hit', hT1⟩ := hst
    have eu : u' = u := by
      have h1 : its.toArray[i]? = some u := by simpa using hu
      rw [h1] at hu'
      exact (Option.some.inj hu').symm
    subst eu
    refine ⟨_, rfl, wpAny_letOwnedTupleGo_enum (s := { s with heap := h', toks := tk + 1 }) ho fun h'' he' sb => ?_⟩
    have hT2 : h''.get? s.heap.objs.size = some { cls := .type "tuple", data := .seq #[.int i tk, u'] } := (sb.2 _ (Nat.ne_of_gt hel)).trans hT
    have new : ObjOk X.prog X.w (upd H s.heap.objs.size (.tup [.int (i : Nat), x])) h'' s.heap.objs.size (.tup [.int (i : Nat), x]) :=
      ⟨by show 2 ≤ sizeLine; decide, [.int i tk, u'], .cons ⟨_, rfl⟩ (.cons ru .nil), ⟨_, hT2, rfl, _, rfl⟩⟩
    have I1 : Inv X pins σ (upd H s.heap.objs.size (.tup [.int (i : Nat), x])) { s with heap := h'', toks := tk + 1 } :=
      I.turnedNew (ch := [e, it]) (fun b ob hb q => (sb.2 b (fun z => hb (by simp [z]))).trans (hk b ob (fun z => hb (by simp [z])) (fun z => hb (by simp [z])) q)) hf (Nat.le_refl _) new
    refine ⟨.ref s.heap.objs.size, _, I1, rfl, ⟨_, x, rfl, I.hok.fresh (Nat.le_refl _), rfl, fun ys hy => by rw [I.tuple_inj hy hq]; exact hx⟩, ⟨⟨u', ?_⟩, hit'.at fun o q => (sb.2 it (Ne.symm hne)).trans q, hne⟩, fun b hb => ?_⟩
    · have e1 : ((i + 1 : Nat) : Int) = (i : Int) + 1 := by omega
      rw [e1]
      exact he'
    · have hb' : b < s.heap.objs.size := by
        rcases (show b = e ∨ b = it by simpa using hb) with rfl | rfl
        · exact hel
        · exact hil
      rw [upd_ne (Nat.ne_of_lt hb')]
      exact (hf b hb).1
  done := by
    intro X hP hw hK hc i pins s σ H E I hf st hg
    subst hP hw hK
    obtain ⟨⟨old, he⟩, hit, hne⟩ := st
    obtain ⟨xs, hq, hx⟩ := hg
    obtain ⟨its, rv, p, hz⟩ := I.tuple hq
    obtain ⟨f0, f1, f2, f3, f4, f5⟩ := hf it (by simp)
    have hl := rv.length
    have hT0 : s.heap.IsTuple a its.toArray := p
    have nit : a ≠ it := fun z => by
      obtain ⟨o1, q1, q2, _⟩ := hT0
      obtain ⟨o2, q3, q4, _⟩ := hit
      rw [z, q3] at q1
      cases q1
      rw [q4] at q2
      exact absurd (Value.type.inj q2) (by decide)
    exact enumT_end (I.ok.hd hc) he hit hT0 (by simp; omega) fun h' eb => ⟨rfl, I.turned (t' := s.toks) (fun b o hb q => eb b o hb q) f0 f1 f3 f4 f5⟩
  self := fun A i s Q E st h => let ⟨⟨_, he⟩, _⟩ := st; wpAny_pyIter_enum he h

/-- enumerate of a list or a tuple -/
def iEnumA (K : PySem.W.Frag) (ta : TA) : TI := fun σ H R => ta σ H fun vs H1 => ∃ a xs, vs = [.ref a] ∧ ((SqL K H1 a xs ∧ R (Ite K a) H1) ∨ (SqT K H1 a xs ∧ R (IteT K a) H1))
theorem pi_enumA {X : Cx} {e : Expr} {ta : TA} {p pos tpos : Pos} {elts : List Expr} {kk : Nat} (hg : Gl X "enumerate") (hm : X.mg "enumerate" = none) (ha : PA X [e] ta) (hs : starEach [e] X.env = [(false, eval e X.env)] := by rfl) :
    PI X (.Tuple elts kk tpos) (.Call (.Name "enumerate" p) [e] [] pos) (iEnumA X.K ta) := by
  refine ⟨fun pins s σ H R I h => ?_⟩
  refine Call_ (ld_blt I hg hm boot_enumerate (PyProof.Rows.callWith_type1 (thn (ha.run pos pins s σ H _ I h) fun us s1 ⟨vs, H1, I1, r1, q1⟩ => ?_) hs rfl))
  obtain ⟨a, xs, rfl, q⟩ := q1
  cases r1 with
  | cons r rr =>
    cases rr
    cases r
    have fin : ∀ (b : Addr), b = s1.heap.objs.size + 1 ∨ b = s1.heap.objs.size → s1.heap.objs.size ≤ b := fun b hb => by
      rcases hb with rfl | rfl
      · exact Nat.le_add_right _ _
      · exact Nat.le_refl _
    rcases q with ⟨hq, q⟩ | ⟨hq, q⟩
    · obtain ⟨its, rv, p', hz⟩ := I1.list hq
      refine call_enumerate_list p'.isList fun h' he hit hsz hk => wpAny_pyIter_enum he ?_
      have I2 : Inv X pins σ H1 { s1 with heap := h' } := I1.kept (t' := s1.toks) hk
      exact ⟨_, [s1.heap.objs.size + 1, s1.heap.objs.size], _, _, H1, rfl, I2, turn_enum a _ s1.heap.objs.size, ⟨⟨.none, he⟩, hit, Nat.succ_ne_self _⟩, fun b hb => I1.fpOk (fin b (by simpa using hb)) (I1.hok.fresh (fin b (by simpa using hb))), q⟩
    · obtain ⟨its, rv, p', hz⟩ := I1.tuple hq
      refine enumT_call (show s1.heap.IsTuple a its.toArray from p') fun h' he hit hsz hk => wpAny_pyIter_enum he ?_
      have I2 : Inv X pins σ H1 { s1 with heap := h' } := I1.kept (t' := s1.toks) hk
      exact ⟨_, [s1.heap.objs.size + 1, s1.heap.objs.size], _, _, H1, rfl, I2, turn_enumT a _ s1.heap.objs.size, ⟨⟨.none, he⟩, hit, Nat.succ_ne_self _⟩, fun b hb => I1.fpOk (fin b (by simpa using hb)) (I1.hok.fresh (fin b (by simpa using hb))), q⟩
/-- a loop over it: the items xs stand still -/
theorem for_enumA {K : PySem.W.Frag} {a : Addr} {xs : List V} {g : TG} {tb : TS} {D : Ends} {σ : L2.St} {H0 H : Hp} {J : It} (hJ : (J = Ite K a ∧ SqL K H0 a xs) ∨ (J = IteT K a ∧ SqT K H0 a xs)) (Pv : Nat → L2.St → Hp → Prop) (h0 : Pv 0 σ H)
    (hl : ∀ i σ H', i ≤ xs.length → Pv i σ H' → Keep [] H0 H')
    (hs : ∀ i x T σ H', xs[i]? = some x → Pv i σ H' → H' T = none → g (.ref T) σ (upd H' T (.tup [.int (i : Nat), x])) fun σ2 H2 => tb { D with nx := Pv (i + 1), ct := Pv (i + 1), bk := D.nx } σ2 H2)
    (hd : ∀ σ H', Pv xs.length σ H' → D.nx σ H') :
    ∃ W : Nat → Nat → L2.St → Hp → Prop, (∃ m, W 0 m σ H) ∧ ∀ i m σ H, W i m σ H →
      (J.stop i H ∧ D.nx σ H) ∨ (J.go i H ∧ ∃ N : L2.St → Hp → Prop, (∀ σ' H', N σ' H' → ∃ m', m' < m ∧ W (i + 1) m' σ' H') ∧ ∀ x H', J.yld i H x H' → g x σ H' fun σ2 H2 => tb { D with nx := N, ct := N, bk := D.nx } σ2 H2) := by
  refine ⟨fun i m σ H' => i + m = xs.length ∧ Pv i σ H', ⟨xs.length, by omega, h0⟩, ?_⟩
  rintro i m σ H' ⟨hm, pv⟩
  have k := hl i σ H' (by omega) pv
  by_cases hi : i < xs.length
  · have hx := List.getElem?_eq_getElem hi
    refine .inr ⟨?_, Pv (i + 1), fun σ' H2 p => ⟨m - 1, by omega, by omega, p⟩, fun x H2 hy => ?_⟩
    · rcases hJ with ⟨rfl, hq⟩ | ⟨rfl, hq⟩
      · exact ⟨xs, _, k.seq hq List.not_mem_nil, hx⟩
      · exact ⟨xs, _, k.tup hq List.not_mem_nil, hx⟩
    · rcases hJ with ⟨rfl, hq⟩ | ⟨rfl, hq⟩
      · obtain ⟨T, y, rfl, nT, rfl, f⟩ := hy
        have ey := f _ (k.seq hq List.not_mem_nil)
        exact hs i y T σ H' ey pv nT
      · obtain ⟨T, y, rfl, nT, rfl, f⟩ := hy
        have ey := f _ (k.tup hq List.not_mem_nil)
        exact hs i y T σ H' ey pv nT
  · have e : i = xs.length := by omega
    subst e
    refine .inl ⟨?_, hd σ H' pv⟩
    rcases hJ with ⟨rfl, hq⟩ | ⟨rfl, hq⟩
    · exact ⟨xs, k.seq hq List.not_mem_nil, Nat.le_refl _⟩
    · exact ⟨xs, k.tup hq List.not_mem_nil, Nat.le_refl _⟩
end Mm

/-! a mirror machine: each def's own meaning over plain data, shown once for each construct -/
namespace Mm
open PySem PySem.Spec PyProof.Rows L2 Lb

/-- data: tuples by what they hold, lists by their place in the store -/
inductive D where
  | non | bl (b : Bool) | int (i : Int) | str (x : Str) | ty (n : String) | tup (l : List D) | loc (n : Nat) | fl (l : List D)
inductive O where
  | lst (l : List D) | dic (kvs : List (Key × D)) | ins (c : String) (fs : List (Str × D))
abbrev S := List O
abbrev Ev := List (Option D)
/-- what is given: the written part, the classes' places -/
structure Zc where
  K : PySem.W.Frag
  cm : String → Option Addr
/-- a list that nobody changes -/
def FzL (K : PySem.W.Frag) (H : Hp) (a : Addr) (xs : List V) : Prop := (∃ o, H a = some (.frz o (.lst xs))) ∨
  ∃ (o : Obj) (its : Array Value) (n : Nat), K.lookup a = some o ∧ o.cls = .type "list" ∧ o.dict = none ∧ o.data = .seq its n ∧ its.size ≤ sizeLine ∧ Vals xs its.toList
theorem FzL.sq {K : PySem.W.Frag} {H : Hp} {a : Addr} {xs : List V} (h : FzL K H a xs) : SqL K H a xs := h.elim (fun h => .inl (.inr h)) .inr
mutual
def RV (z : Zc) (ρ : List Addr) (H : Hp) : D → V → Prop
  | .non, v => v = .non
  | .bl b, v => v = .bl b
  | .int i, v => v = .int i
  | .str x, v => v = .str x
  | .ty n, v => v = .ty n
  | .tup l, v => ∃ a xs, v = .ref a ∧ SqT z.K H a xs ∧ RVs z ρ H l xs
  | .loc n, v => ∃ a, ρ[n]? = some a ∧ v = .ref a
  | .fl l, v => ∃ a xs, v = .ref a ∧ FzL z.K H a xs ∧ RVs z ρ H l xs
def RVs (z : Zc) (ρ : List Addr) (H : Hp) : List D → List V → Prop
  | [], xs => xs = []
  | d :: l, xs => ∃ x r, xs = x :: r ∧ RV z ρ H d x ∧ RVs z ρ H l r
end
section
variable {z : Zc} {ρ ρ' ρ'' : List Addr} {H H' H'' : Hp} {d : D} {v : V} {l l' : List D} {xs ys : List V}
theorem RVs.cons {x : V} {r : List V} (h : RV z ρ H d x) (t : RVs z ρ H l r) : RVs z ρ H (d :: l) (x :: r) := by
  unfold RVs
  exact ⟨x, r, rfl, h, t⟩
theorem RVs.nil : RVs z ρ H [] [] := by unfold RVs; rfl
theorem RVs.length : ∀ {l : List D} {xs : List V}, RVs z ρ H l xs → l.length = xs.length
  | [], xs, h => by
    unfold RVs at h
    rw [h]
    rfl
  | d :: l, xs, h => by
    unfold RVs at h
    obtain ⟨x, r, rfl, _, t⟩ := h
    rw [List.length_cons, List.length_cons, RVs.length t]
theorem RVs.get : ∀ {l : List D} {xs : List V} {i : Nat} {d : D}, RVs z ρ H l xs → l[i]? = some d → ∃ x, xs[i]? = some x ∧ RV z ρ H d x
  | [], xs, i, d, h, e => by simp at e
  | c :: l, xs, i, d, h, e => by
    unfold RVs at h
    obtain ⟨x, r, rfl, q, t⟩ := h
    cases i with
    | zero =>
      have e' : c = d := by simpa using e
      subst e'
      exact ⟨x, rfl, q⟩
    | succ i =>
      obtain ⟨y, h1, h2⟩ := RVs.get (i := i) t (by simpa using e)
      exact ⟨y, by simpa using h1, h2⟩
theorem RVs.of_get : ∀ {l : List D} {xs : List V}, l.length = xs.length → (∀ (i : Nat) d x, l[i]? = some d → xs[i]? = some x → RV z ρ H d x) → RVs z ρ H l xs
  | [], [], _, _ => RVs.nil
  | [], x :: r, h, _ => by simp at h
  | d :: l, [], h, _ => by simp at h
  | d :: l, x :: r, h, f => RVs.cons (f 0 d x rfl rfl) (RVs.of_get (by simpa using h) fun i d' x' h1 h2 => f (i + 1) d' x' (by simpa using h1) (by simpa using h2))
theorem RVs.at (h : RVs z ρ H l xs) {i : Nat} {x : V} (e : l[i]? = some d) (e' : xs[i]? = some x) : RV z ρ H d x := by
  obtain ⟨y, h1, h2⟩ := h.get e
  rw [h1] at e'
  cases e'
  exact h2
theorem RVs.append (h : RVs z ρ H l xs) (h' : RVs z ρ H l' ys) : RVs z ρ H (l ++ l') (xs ++ ys) := by
  have e1 := h.length
  have e2 := h'.length
  refine RVs.of_get (by simp [e1, e2]) fun i d x a b => ?_
  by_cases hi : i < l.length
  · rw [List.getElem?_append_left hi] at a
    rw [List.getElem?_append_left (by omega)] at b
    exact h.at a b
  · rw [List.getElem?_append_right (by omega)] at a
    rw [List.getElem?_append_right (by omega), ← e1] at b
    exact h'.at a b
theorem RVs.take (n : Nat) (h : RVs z ρ H l xs) : RVs z ρ H (l.take n) (xs.take n) := by
  have e1 := h.length
  refine RVs.of_get (by simp [e1]) fun i d x a b => ?_
  by_cases hi : i < n
  · rw [List.getElem?_take_of_lt hi] at a b
    exact h.at a b
  · rw [List.getElem?_eq_none (by simp; omega)] at a
    cases a
theorem RVs.drop (n : Nat) (h : RVs z ρ H l xs) : RVs z ρ H (l.drop n) (xs.drop n) := by
  have e1 := h.length
  refine RVs.of_get (by simp [e1]) fun i d x a b => ?_
  rw [List.getElem?_drop] at a b
  exact h.at a b
theorem RVs.set (n : Nat) (h : RVs z ρ H l xs) (q : RV z ρ H d v) : RVs z ρ H (l.set n d) (xs.set n v) := by
  have e1 := h.length
  refine RVs.of_get (by simp [e1]) fun i d' x a b => ?_
  by_cases hi : n = i
  · subst hi
    by_cases hn : n < l.length
    · rw [List.getElem?_set_self hn] at a
      rw [List.getElem?_set_self (by omega)] at b
      cases a
      cases b
      exact q
    · rw [List.getElem?_eq_none (by simp; omega)] at a
      cases a
  · rw [List.getElem?_set_ne hi] at a b
    exact h.at a b
theorem RVs.reverse (h : RVs z ρ H l xs) : RVs z ρ H l.reverse xs.reverse := by
  have e1 := h.length
  refine RVs.of_get (by simp [e1]) fun i d' x a b => ?_
  have hi : i < l.length := by
    have := (List.getElem?_eq_some_iff.mp a).1
    simpa using this
  rw [List.getElem?_reverse hi] at a
  rw [List.getElem?_reverse (by omega), ← e1] at b
  exact h.at a b
theorem RVs.eraseIdx (n : Nat) (h : RVs z ρ H l xs) : RVs z ρ H (l.eraseIdx n) (xs.eraseIdx n) := by
  have e1 := h.length
  rw [List.eraseIdx_eq_take_drop_succ, List.eraseIdx_eq_take_drop_succ]
  exact (h.take n).append (h.drop (n + 1))

/-- later: more places are known, the tuples stand -/
structure Ext (z : Zc) (ρ : List Addr) (H : Hp) (ρ' : List Addr) (H' : Hp) : Prop where
  pl : ∀ (n : Nat) a, ρ[n]? = some a → ρ'[n]? = some a
  tp : ∀ a xs, SqT z.K H a xs → SqT z.K H' a xs
  fz : ∀ a xs, FzL z.K H a xs → FzL z.K H' a xs
theorem Ext.refl : Ext z ρ H ρ H := ⟨fun _ _ h => h, fun _ _ h => h, fun _ _ h => h⟩
theorem Ext.trans (a : Ext z ρ H ρ' H') (b : Ext z ρ' H' ρ'' H'') : Ext z ρ H ρ'' H'' := ⟨fun n x h => b.pl n x (a.pl n x h), fun x xs h => b.tp x xs (a.tp x xs h), fun x xs h => b.fz x xs (a.fz x xs h)⟩
mutual
theorem RV.ext (e : Ext z ρ H ρ' H') : ∀ {d : D} {v : V}, RV z ρ H d v → RV z ρ' H' d v
  | .non, v, h => by unfold RV at h ⊢; exact h
  | .bl b, v, h => by unfold RV at h ⊢; exact h
  | .int b, v, h => by unfold RV at h ⊢; exact h
  | .str b, v, h => by unfold RV at h ⊢; exact h
  | .ty b, v, h => by unfold RV at h ⊢; exact h
  | .tup l, v, h => by
    unfold RV at h ⊢
    obtain ⟨a, xs, rfl, q, t⟩ := h
    exact ⟨a, xs, rfl, e.tp a xs q, RVs.ext e t⟩
  | .loc n, v, h => by
    unfold RV at h ⊢
    obtain ⟨a, q, rfl⟩ := h
    exact ⟨a, e.pl n a q, rfl⟩
  | .fl l, v, h => by
    unfold RV at h ⊢
    obtain ⟨a, xs, rfl, q, t⟩ := h
    exact ⟨a, xs, rfl, e.fz a xs q, RVs.ext e t⟩
theorem RVs.ext (e : Ext z ρ H ρ' H') : ∀ {l : List D} {xs : List V}, RVs z ρ H l xs → RVs z ρ' H' l xs
  | [], xs, h => by unfold RVs at h ⊢; exact h
  | d :: l, xs, h => by
    unfold RVs at h ⊢
    obtain ⟨x, r, rfl, q, t⟩ := h
    exact ⟨x, r, rfl, RV.ext e q, RVs.ext e t⟩
end
end
/-- an object of the store and what stands at its address -/
def RO (z : Zc) (ρ : List Addr) (H : Hp) : O → Addr → Prop
  | .lst l, a => ∃ xs, H a = some (.lst xs) ∧ RVs z ρ H l xs
  | .dic kvs, a => ∃ ys : List (Key × V), H a = some (.dK ys) ∧ ys.map (·.1) = kvs.map (·.1) ∧ RVs z ρ H (kvs.map (·.2)) (ys.map (·.2))
  | .ins c fs, a => ∃ (C dx : Addr) (ys : List (Str × V)), z.cm c = some C ∧ H a = some (.ins C dx ys) ∧ H dx = some (.own a) ∧ ys.map (·.1) = fs.map (·.1) ∧ RVs z ρ H (fs.map (·.2)) (ys.map (·.2))
structure RS (z : Zc) (ρ : List Addr) (st : S) (H : Hp) : Prop where
  len : ρ.length = st.length
  inj : ∀ (i j : Nat) a, ρ[i]? = some a → ρ[j]? = some a → i = j
  obj : ∀ (n : Nat) o a, st[n]? = some o → ρ[n]? = some a → RO z ρ H o a
section
variable {z : Zc} {ρ ρ' : List Addr} {st : S} {H H' : Hp} {o : O} {a p : Addr} {n : Nat} {u w : HO} {l : List D} {xs : List V}
theorem RO.some (h : RO z ρ H o a) : ∃ u, H a = Option.some u ∧ (∀ ys, u ≠ .tup ys) ∧ (∀ q ys, u ≠ .frz q ys) ∧ ∀ x, u ≠ .own x := by
  cases o with
  | lst l => obtain ⟨_, e, _⟩ := h; exact ⟨_, e, fun _ z => (nomatch z), fun _ _ z => (nomatch z), fun _ z => (nomatch z)⟩
  | dic l => obtain ⟨_, e, _⟩ := h; exact ⟨_, e, fun _ z => (nomatch z), fun _ _ z => (nomatch z), fun _ z => (nomatch z)⟩
  | ins c f => obtain ⟨_, _, _, _, e, _⟩ := h; exact ⟨_, e, fun _ z => (nomatch z), fun _ _ z => (nomatch z), fun _ z => (nomatch z)⟩
theorem RO.ext (h : RO z ρ H o a) (e : Ext z ρ H ρ' H') (ea : H' a = H a) (eo : ∀ dx, H dx = Option.some (.own a) → H' dx = Option.some (.own a)) : RO z ρ' H' o a := by
  cases o with
  | lst l => obtain ⟨xs, q, r⟩ := h; exact ⟨xs, ea.trans q, r.ext e⟩
  | dic l => obtain ⟨xs, q, k, r⟩ := h; exact ⟨xs, ea.trans q, k, r.ext e⟩
  | ins c f => obtain ⟨C, dx, ys, c1, q, d, k, r⟩ := h; exact ⟨C, dx, ys, c1, ea.trans q, eo dx d, k, r.ext e⟩
theorem RS.addr (h : RS z ρ st H) (e : st[n]? = some o) : ∃ a, ρ[n]? = some a := by
  have hn := (List.getElem?_eq_some_iff.mp e).1
  exact ⟨ρ[n]'(by rw [h.len]; exact hn), List.getElem?_eq_getElem _⟩
theorem RS.has (h : RS z ρ st H) (e : ρ[n]? = some a) : ∃ o, st[n]? = some o := by
  have hn := (List.getElem?_eq_some_iff.mp e).1
  exact ⟨st[n]'(by rw [← h.len]; exact hn), List.getElem?_eq_getElem _⟩
theorem RS.nfree (h : RS z ρ st H) (e : ρ[n]? = some a) (hp : H p = none) : a ≠ p := by
  obtain ⟨o, ho⟩ := h.has e
  obtain ⟨u, hu, _⟩ := (h.obj n o a ho e).some
  exact ne_of_none hu hp
theorem fz_new {K : PySem.W.Frag} (hp : H p = none) {a : Addr} {xs : List V} (h : FzL K H a xs) : FzL K (upd H p u) a xs := by
  rcases h with ⟨o, h⟩ | h
  · exact .inl ⟨o, by rw [upd_ne (ne_of_none h hp)]; exact h⟩
  · exact .inr h
/-- new objects that the store does not tell -/
theorem Ext.new (hp : H p = none) : Ext z ρ H ρ (upd H p u) := ⟨fun _ _ h => h, fun a xs h => sqt_new hp h, fun a xs h => fz_new hp h⟩
theorem RS.tup (h : RS z ρ st H) (hp : H p = none) : RS z ρ st (upd H p u) :=
  ⟨h.len, h.inj, fun n o a e1 e2 => (h.obj n o a e1 e2).ext (Ext.new hp) (upd_ne (h.nfree e2 hp)) fun dx q => by rw [upd_ne (ne_of_none q hp)]; exact q⟩
theorem get_snoc {α : Type} {l : List α} {x y : α} {n : Nat} (h : (l ++ [x])[n]? = some y) : l[n]? = some y ∨ (n = l.length ∧ y = x) := by
  by_cases hn : n < l.length
  · rw [List.getElem?_append_left hn] at h
    exact .inl h
  · rw [List.getElem?_append_right (by omega)] at h
    have : n - l.length = 0 := by
      have := (List.getElem?_eq_some_iff.mp h).1
      simp at this
      omega
    rw [this] at h
    exact .inr ⟨by omega, by simpa using h.symm⟩
/-- a new object of the store -/
theorem Ext.alloc (hp : H p = none) : Ext z ρ H (ρ ++ [p]) (upd H p u) := ⟨fun n a h => by rw [List.getElem?_append_left (List.getElem?_eq_some_iff.mp h).1]; exact h, fun a xs h => sqt_new hp h, fun a xs h => fz_new hp h⟩
theorem RS.alloc (h : RS z ρ st H) (hp : H p = none) (q : RO z (ρ ++ [p]) (upd H p u) o p) : RS z (ρ ++ [p]) (st ++ [o]) (upd H p u) := by
  have e : Ext z ρ H (ρ ++ [p]) (upd H p u) := Ext.alloc hp
  refine ⟨by simp [h.len], fun i j a h1 h2 => ?_, fun n o' a e1 e2 => ?_⟩
  · rcases get_snoc h1 with k1 | ⟨k1, k1'⟩ <;> rcases get_snoc h2 with k2 | ⟨k2, k2'⟩
    · exact h.inj i j a k1 k2
    · exact absurd k2' (h.nfree k1 hp)
    · exact absurd k1' (h.nfree k2 hp)
    · rw [k1, k2]
  · rcases get_snoc e1 with e1 | ⟨e1, e1'⟩ <;> rcases get_snoc e2 with e2 | ⟨e2, e2'⟩
    · exact (h.obj n o' a e1 e2).ext e (upd_ne (h.nfree e2 hp)) fun dx q => by rw [upd_ne (ne_of_none q hp)]; exact q
    · have := (List.getElem?_eq_some_iff.mp e1).1
      have := h.len
      omega
    · have := (List.getElem?_eq_some_iff.mp e2).1
      have := h.len
      omega
    · subst e1' e2'
      exact q
theorem RS.new_lst (h : RS z ρ st H) (hp : H p = none) (r : RVs z ρ H l xs) : RS z (ρ ++ [p]) (st ++ [.lst l]) (upd H p (.lst xs)) := h.alloc hp ⟨xs, upd_same, r.ext (Ext.alloc hp)⟩
theorem last_snoc : (ρ ++ [p])[st.length]? = some p ↔ ρ.length = st.length ∨ (ρ ++ [p])[st.length]? = some p := by
  constructor
  · exact .inr
  · rintro (h | h)
    · rw [← h, List.getElem?_append_right (Nat.le_refl _)]
      simp
    · exact h
theorem RS.last (h : RS z ρ st H) : (ρ ++ [p])[st.length]? = some p := last_snoc.mpr (.inl h.len)
/-- an object that changes -/
theorem Ext.put (he : H a = some w) (hw : (∀ ys, w ≠ .tup ys) ∧ ∀ q ys, w ≠ .frz q ys) : Ext z ρ H ρ (upd H a u) := by
  refine ⟨fun _ _ h => h, fun b xs h => ?_, fun b xs h => h.imp (fun ⟨q, h⟩ => ⟨q, by rw [upd_ne (fun zz => by rw [zz, he] at h; exact hw.2 q _ (Option.some.inj h))]; exact h⟩) id⟩
  rcases h with h | h
  · refine .inl ?_
    have hne : b ≠ a := fun zz => by
      subst zz
      rcases h with h | ⟨q, h⟩
      · rw [he] at h
        exact hw.1 xs (Option.some.inj h)
      · rw [he] at h
        exact hw.2 q _ (Option.some.inj h)
    rcases h with h | ⟨q, h⟩
    · exact .inl (by rw [upd_ne hne]; exact h)
    · exact .inr ⟨q, by rw [upd_ne hne]; exact h⟩
  · exact .inr h
theorem RS.put (h : RS z ρ st H) (e1 : ρ[n]? = some a) (hn : n < st.length) (hne : ∀ (dx : Addr) (m : Nat) (b : Addr), ρ[m]? = some b → H dx = some (.own b) → dx ≠ a) (e : Ext z ρ H ρ (upd H a u)) (q : RO z ρ (upd H a u) o a) : RS z ρ (st.set n o) (upd H a u) := by
  refine ⟨by simp [h.len], h.inj, fun m o' b f1 f2 => ?_⟩
  by_cases hm : n = m
  · subst hm
    rw [List.getElem?_set_self hn] at f1
    cases f1
    rw [e1] at f2
    cases f2
    exact q
  · rw [List.getElem?_set_ne hm] at f1
    have hb : b ≠ a := fun zz => by
      subst zz
      exact hm (h.inj n m b e1 f2)
    exact (h.obj m o' b f1 f2).ext e (upd_ne hb) fun dx q => by rw [upd_ne (hne dx m b f2 q)]; exact q
theorem RS.put_lst {l' : List D} {xs' : List V} (h : RS z ρ st H) (e0 : st[n]? = some (.lst l)) (e1 : ρ[n]? = some a) (he : H a = some (.lst xs)) (r : RVs z ρ H l' xs') :
    Ext z ρ H ρ (upd H a (.lst xs')) ∧ RS z ρ (st.set n (.lst l')) (upd H a (.lst xs')) := by
  have e : Ext z ρ H ρ (upd H a (.lst xs')) := Ext.put he ⟨fun _ z => (nomatch z), fun _ _ z => (nomatch z)⟩
  exact ⟨e, h.put e1 (List.getElem?_eq_some_iff.mp e0).1 (fun dx m b _ q zz => by rw [zz, he] at q; cases q) e ⟨xs', upd_same, r.ext e⟩⟩
theorem RS.put_dic {l l' : List (Key × D)} {xs xs' : List (Key × V)} (h : RS z ρ st H) (e0 : st[n]? = some (.dic l)) (e1 : ρ[n]? = some a) (he : H a = some (.dK xs)) (k : xs'.map (·.1) = l'.map (·.1)) (r : RVs z ρ H (l'.map (·.2)) (xs'.map (·.2))) :
    Ext z ρ H ρ (upd H a (.dK xs')) ∧ RS z ρ (st.set n (.dic l')) (upd H a (.dK xs')) := by
  have e : Ext z ρ H ρ (upd H a (.dK xs')) := Ext.put he ⟨fun _ z => (nomatch z), fun _ _ z => (nomatch z)⟩
  exact ⟨e, h.put e1 (List.getElem?_eq_some_iff.mp e0).1 (fun dx m b _ q zz => by rw [zz, he] at q; cases q) e ⟨xs', upd_same, k, r.ext e⟩⟩
/-- the list at n -/
theorem RS.lst (h : RS z ρ st H) (e0 : st[n]? = some (.lst l)) (e1 : ρ[n]? = some a) : ∃ xs, H a = some (.lst xs) ∧ RVs z ρ H l xs := h.obj n _ a e0 e1
/-- what may be read as a list -/
def rdL (st : S) (n : Nat) : Option (List D) := match st[n]? with
  | some (.lst l) => some l
  | _ => none
theorem RS.rdL (h : RS z ρ st H) (e0 : rdL st n = some l) (e1 : ρ[n]? = some a) : ∃ xs, SqL z.K H a xs ∧ RVs z ρ H l xs := by
  unfold Mm.rdL at e0
  split at e0
  · rename_i l' e
    cases e0
    obtain ⟨xs, h1, h2⟩ := h.obj n _ a e e1
    exact ⟨xs, SqL.of h1, h2⟩
  · cases e0
end
end Mm

namespace Mm
open PySem PySem.Spec PyProof.Rows L2 Lb
/-- how a piece ends: an end, an error (its class, its fields), or «nothing is said» -/
inductive R (α : Type) where
  | ok (a : α) (st : S) | ex (c : String) (fs : List (Str × D)) (st : S) | bad
inductive Rt where
  | nx (env : Ev) (st : S) | rt (d : D) (st : S) | bk (env : Ev) (st : S) | ct (env : Ev) (st : S) | ex (c : String) (fs : List (Str × D)) (env : Ev) (st : S) | bad
@[inline] def R.bind {α β : Type} (r : R α) (k : α → S → R β) : R β := match r with
  | .ok a st => k a st
  | .ex c fs st => .ex c fs st
  | .bad => .bad
@[inline] def R.bindS {α : Type} (r : R α) (env : Ev) (k : α → S → Rt) : Rt := match r with
  | .ok a st => k a st
  | .ex c fs st => .ex c fs env st
  | .bad => .bad
@[inline] def Rt.bindN (r : Rt) (k : Ev → S → Rt) : Rt := match r with
  | .nx env st => k env st
  | r => r
abbrev ME := Ev → S → R D
abbrev MT := Ev → S → R Bool
abbrev MA := Ev → S → R (List D)
abbrev MO := Ev → S → R (Option Int)
abbrev MS := Ev → S → Rt
abbrev MG := D → Ev → S → R Ev
/-- what is wanted of an error -/
abbrev XW := String → List (Str × D) → S → List Addr → Hp → Prop
abbrev WM := Ev → L2.St → XW

section
variable (z : Zc)
def RE (ρ : List Addr) (H : Hp) (env : Ev) (σ : L2.St) : Prop := env.length = σ.length ∧ ∀ (i : Nat) d, env[i]? = some (some d) → ∃ v, σ[i]? = some (some v) ∧ RV z ρ H d v
/-- the end of a piece whose data are b -/
def Post {α β : Type} (rel : List Addr → Hp → α → β → Prop) (ρ : List Addr) (H : Hp) (r : R α) (Q : β → Hp → Prop) (W : XW) : Prop := match r with
  | .ok a st' => ∀ ρ' H' b, Ext z ρ H ρ' H' → RS z ρ' st' H' → rel ρ' H' a b → Q b H'
  | .ex c fs st' => ∀ ρ' H', Ext z ρ H ρ' H' → RS z ρ' st' H' → W c fs st' ρ' H'
  | .bad => False
def PostS (ρ : List Addr) (H : Hp) (r : Rt) (D : Ends) (W : WM) : Prop := match r with
  | .nx env st' => ∀ ρ' H' σ', Ext z ρ H ρ' H' → RS z ρ' st' H' → RE z ρ' H' env σ' → D.nx σ' H'
  | .rt d st' => ∀ ρ' H' v, Ext z ρ H ρ' H' → RS z ρ' st' H' → RV z ρ' H' d v → D.rt v H'
  | .bk env st' => ∀ ρ' H' σ', Ext z ρ H ρ' H' → RS z ρ' st' H' → RE z ρ' H' env σ' → D.bk σ' H'
  | .ct env st' => ∀ ρ' H' σ', Ext z ρ H ρ' H' → RS z ρ' st' H' → RE z ρ' H' env σ' → D.ct σ' H'
  | .ex c fs env st' => ∀ ρ' H' σ', Ext z ρ H ρ' H' → RS z ρ' st' H' → RE z ρ' H' env σ' → W env σ' c fs st' ρ' H'
  | .bad => False
def eqB : List Addr → Hp → Bool → Bool → Prop := fun _ _ a b => a = b
def eqO : List Addr → Hp → Option Int → Option Int → Prop := fun _ _ a b => a = b
/-- the readings of the mirror's pieces -/
def tE (W : WM) (m : ME) : TE := fun σ H Q => ∃ ρ st env, RS z ρ st H ∧ RE z ρ H env σ ∧ Post z (RV z) ρ H (m env st) Q (W env σ)
def tT (W : WM) (m : MT) : TT := fun σ H Q => ∃ ρ st env, RS z ρ st H ∧ RE z ρ H env σ ∧ Post z eqB ρ H (m env st) Q (W env σ)
def tA (W : WM) (m : MA) : TA := fun σ H Q => ∃ ρ st env, RS z ρ st H ∧ RE z ρ H env σ ∧ Post z (RVs z) ρ H (m env st) Q (W env σ)
def tO (W : WM) (m : MO) : TO := fun σ H Q => ∃ ρ st env, RS z ρ st H ∧ RE z ρ H env σ ∧ Post z eqO ρ H (m env st) Q (W env σ)
def tS (W : WM) (m : MS) : TS := fun D σ H => ∃ ρ st env, RS z ρ st H ∧ RE z ρ H env σ ∧ PostS z ρ H (m env st) D W
def tG (m : MG) : TG := fun v σ H Q => ∃ ρ st env d, RS z ρ st H ∧ RE z ρ H env σ ∧ RV z ρ H d v ∧ Post z (RE z) ρ H (m d env st) Q (fun _ _ _ _ _ => False)
end
section
variable {z : Zc} {ρ ρ' : List Addr} {st : S} {H H' : Hp} {env : Ev} {σ : L2.St} {W : WM} {Q : VK} {xw : XW}
theorem RE.ext (h : RE z ρ H env σ) (e : Ext z ρ H ρ' H') : RE z ρ' H' env σ := ⟨h.1, fun i d q => by
  obtain ⟨v, h1, h2⟩ := h.2 i d q
  exact ⟨v, h1, h2.ext e⟩⟩
theorem RE.set (h : RE z ρ H env σ) {d : D} {v : V} (q : RV z ρ H d v) (i : Nat) : RE z ρ H (env.set i (some d)) (σ.set i (some v)) := by
  refine ⟨by simp [h.1], fun j d' e => ?_⟩
  by_cases hj : i = j
  · subst hj
    have hi : i < env.length := by
      have := (List.getElem?_eq_some_iff.mp e).1
      simpa using this
    rw [List.getElem?_set_self hi] at e
    cases e
    exact ⟨v, by rw [List.getElem?_set_self (by rw [← h.1]; exact hi)], q⟩
  · rw [List.getElem?_set_ne hj] at e
    rw [List.getElem?_set_ne hj]
    exact h.2 j d' e
section
variable {α β : Type} {rel : List Addr → Hp → α → β → Prop} {r : R α} {P : β → Hp → Prop}
theorem Post.mono (h : Post z rel ρ H r P xw) (e : Ext z ρ H ρ' H') : Post z rel ρ' H' r P xw := by
  cases r with
  | ok a s => exact fun ρ1 H1 b e1 => h ρ1 H1 b (e.trans e1)
  | ex c f s => exact fun ρ1 H1 e1 => h ρ1 H1 (e.trans e1)
  | bad => exact h
theorem PostS.mono {r : Rt} {D : Ends} (h : PostS z ρ H r D W) (e : Ext z ρ H ρ' H') : PostS z ρ' H' r D W := by
  cases r with
  | nx a s => exact fun ρ1 H1 b e1 => h ρ1 H1 b (e.trans e1)
  | rt a s => exact fun ρ1 H1 b e1 => h ρ1 H1 b (e.trans e1)
  | bk a s => exact fun ρ1 H1 b e1 => h ρ1 H1 b (e.trans e1)
  | ct a s => exact fun ρ1 H1 b e1 => h ρ1 H1 b (e.trans e1)
  | ex c f s => exact fun ρ1 H1 b e1 => h ρ1 H1 b (e.trans e1)
  | bad => exact h
theorem Post.bind {γ δ : Type} {rel2 : List Addr → Hp → γ → δ → Prop} {k : α → S → R γ} {Q : δ → Hp → Prop} (h : Post z rel2 ρ H (r.bind k) Q xw)
    (hk : ∀ a st1 ρ1 H1 b, Ext z ρ H ρ1 H1 → RS z ρ1 st1 H1 → rel ρ1 H1 a b → Post z rel2 ρ1 H1 (k a st1) Q xw → P b H1) : Post z rel ρ H r P xw := by
  cases r with
  | ok a s => exact fun ρ1 H1 b e rs rl => hk a s ρ1 H1 b e rs rl (h.mono e)
  | ex c f s => exact h
  | bad => exact h
theorem Post.bindS {k : α → S → Rt} {D : Ends} (h : PostS z ρ H (r.bindS env k) D W) (re : RE z ρ H env σ)
    (hk : ∀ a st1 ρ1 H1 b, Ext z ρ H ρ1 H1 → RS z ρ1 st1 H1 → rel ρ1 H1 a b → PostS z ρ1 H1 (k a st1) D W → P b H1) : Post z rel ρ H r P (W env σ) := by
  cases r with
  | ok a s => exact fun ρ1 H1 b e rs rl => hk a s ρ1 H1 b e rs rl (h.mono e)
  | ex c f s => exact fun ρ1 H1 e rs => h ρ1 H1 σ e rs (re.ext e)
  | bad => exact h
end
theorem Post.ok {α β : Type} {rel : List Addr → Hp → α → β → Prop} {P : β → Hp → Prop} {a : α} {b : β} (h : Post z rel ρ H (.ok a st) P xw) (rs : RS z ρ st H) (rl : rel ρ H a b) : P b H := h ρ H b Ext.refl rs rl
theorem Post.at {α β : Type} {rel : List Addr → Hp → α → β → Prop} {P : β → Hp → Prop} {a : α} {b : β} (h : Post z rel ρ H (.ok a st) P xw) (e : Ext z ρ H ρ' H') (rs : RS z ρ' st H') (rl : rel ρ' H' a b) : P b H' := h ρ' H' b e rs rl
end
/-! the judgements' readings may be weakened -/
section
variable {X : Cx}
theorem pe_imp {e : Expr} {t t' : TE} (h : PE X e t) (i : ∀ σ H Q, t' σ H Q → t σ H Q) : PE X e t' := ⟨fun pins s σ H Q I q => h.run pins s σ H Q I (i σ H Q q)⟩
theorem pt_imp {e : Expr} {t t' : TT} (h : PT X e t) (i : ∀ σ H Q, t' σ H Q → t σ H Q) : PT X e t' := ⟨fun pins s σ H Q I q => h.run pins s σ H Q I (i σ H Q q)⟩
theorem pw_imp {e : Expr} {t t' : TT} (h : PW X e t) (i : ∀ σ H Q, t' σ H Q → t σ H Q) : PW X e t' := ⟨fun wh pins s σ H Q I q => h.run wh pins s σ H Q I (i σ H Q q)⟩
theorem pa_imp {e : List Expr} {t t' : TA} (h : PA X e t) (i : ∀ σ H Q, t' σ H Q → t σ H Q) : PA X e t' := ⟨fun pos pins s σ H Q I q => h.run pos pins s σ H Q I (i σ H Q q)⟩
theorem ps_imp {e : Stmt} {t t' : TS} (h : PS X e t) (i : ∀ D σ H, t' D σ H → t D σ H) : PS X e t' := ⟨fun pins s σ H D I q => h.run pins s σ H D I (i D σ H q)⟩
theorem pss_imp {e : List Stmt} {t t' : TS} (h : PSs X e t) (i : ∀ D σ H, t' D σ H → t D σ H) : PSs X e t' := ⟨fun pins s σ H D I q => h.run pins s σ H D I (i D σ H q)⟩
theorem pg_imp {e : Expr} {t t' : TG} (h : PG X e t) (i : ∀ v σ H Q, t' v σ H Q → t v σ H Q) : PG X e t' := ⟨fun pins s σ H v u Q I r q => h.run pins s σ H v u Q I r (i v σ H Q q)⟩
end
section
variable {X : Cx} {z : Zc} {W : WM} {a b c : Expr} {ma mb mc : ME} {mt mu : MT} {pos : Pos}
/-! names and constants -/
def mVar (i : Nat) : ME := fun env st => match env[i]? with
  | some (some d) => .ok d st
  | _ => .bad
def mC (d : D) : ME := fun _ st => .ok d st
theorem s_var {i : Nat} : ∀ σ H Q, tE z W (mVar i) σ H Q → tVar i σ H Q := by
  rintro σ H Q ⟨ρ, st, env, rs, re, h⟩
  unfold mVar at h
  split at h
  · rename_i d e
    obtain ⟨v, h1, h2⟩ := re.2 i d e
    exact ⟨v, h1, h.ok rs h2⟩
  · exact h.elim
theorem qv (i : Nat) {x : Str} {pos : Pos} (hN : X.N[i]? = some x := by rfl) (hv : Vis X.env.scope x := by first | exact .inl rfl | exact .inr (.inl rfl) | exact .inr (.inr rfl)) (hd : (x == ("__debug__" : Str)) = false := by decide) (hcd : (x == ("__classdict__" : Str)) = false := by decide) : PE X (.Name x pos) (tE z W (mVar i)) :=
  pe_imp (pe_var hN hv hd hcd) s_var
theorem s_c {d : D} {v : V} (hv : ∀ ρ H, RV z ρ H d v) : ∀ σ H Q, tE z W (mC d) σ H Q → tC v σ H Q := by
  rintro σ H Q ⟨ρ, st, env, rs, re, h⟩
  exact Post.ok (a := d) (st := st) h rs (hv _ _)
theorem rv_int {ρ H i} : RV z ρ H (.int i) (.int i) := by unfold RV; rfl
theorem rv_bl {ρ H i} : RV z ρ H (.bl i) (.bl i) := by unfold RV; rfl
theorem rv_str {ρ H i} : RV z ρ H (.str i) (.str i) := by unfold RV; rfl
theorem rv_ty {ρ H i} : RV z ρ H (.ty i) (.ty i) := by unfold RV; rfl
theorem rv_non {ρ H} : RV z ρ H .non .non := by unfold RV; rfl
theorem qint {i j pos} : PE X (.Constant (.int i) j pos) (tE z W (mC (.int i))) := pe_imp pe_int (s_c fun _ _ => rv_int)
theorem qbl {i j pos} : PE X (.Constant (.bool i) j pos) (tE z W (mC (.bl i))) := pe_imp pe_bl (s_c fun _ _ => rv_bl)
theorem qstr {i j pos} : PE X (.Constant (.str i) j pos) (tE z W (mC (.str i))) := pe_imp pe_str (s_c fun _ _ => rv_str)
theorem qnon {j pos} : PE X (.Constant .none j pos) (tE z W (mC .non)) := pe_imp pe_non (s_c fun _ _ => rv_non)
theorem q_globI {x : Str} {i : Int} {t : Tok} {pos : Pos} (hg : Gl X x) (hm : X.mg x = some (.int i t)) (hd : (x == ("__debug__" : Str)) = false := by decide) : PE X (.Name x pos) (tE z W (mC (.int i))) := pe_imp (pe_glob (v := .int i) hg hm ⟨_, rfl⟩ hd) (s_c fun _ _ => rv_int)
theorem q_globS {x : Str} {i : Str} {t : Tok} {pos : Pos} (hg : Gl X x) (hm : X.mg x = some (.str i t)) (hd : (x == ("__debug__" : Str)) = false := by decide) : PE X (.Name x pos) (tE z W (mC (.str i))) := pe_imp (pe_glob (v := .str i) hg hm ⟨_, rfl⟩ hd) (s_c fun _ _ => rv_str)
theorem q_ty {x : Str} {n : String} {pos : Pos} (hg : Gl X x) (hm : X.mg x = none) (hv : bootBuiltins x = some (.type n)) (hn : x ≠ "__name__" := by decide) (hd : (x == ("__debug__" : Str)) = false := by decide) : PE X (.Name x pos) (tE z W (mC (.ty n))) := pe_imp (pe_bltn (v := .ty n) hg hm hv rfl hn hd) (s_c fun _ _ => rv_ty)
/-! operators by values -/
def m2 (f : D → D → S → R D) (ma mb : ME) : ME := fun env st => (ma env st).bind fun x s1 => (mb env s1).bind fun y s2 => f x y s2
def m1 (f : D → S → R D) (ma : ME) : ME := fun env st => (ma env st).bind fun x s1 => f x s1
def V2 (z : Zc) (r : R2) (f : D → D → S → R D) : Prop := ∀ ρ st H x y d1 d2 Q xw, RS z ρ st H → RV z ρ H d1 x → RV z ρ H d2 y → Post z (RV z) ρ H (f d1 d2 st) Q xw → r x y H Q
def V1 (z : Zc) (r : V → Hp → VK → Prop) (f : D → S → R D) : Prop := ∀ ρ st H x d1 Q xw, RS z ρ st H → RV z ρ H d1 x → Post z (RV z) ρ H (f d1 st) Q xw → r x H Q
def VA (z : Zc) (r : List V → Hp → VK → Prop) (f : List D → S → R D) : Prop := ∀ ρ st H xs ds Q xw, RS z ρ st H → RVs z ρ H ds xs → Post z (RV z) ρ H (f ds st) Q xw → r xs H Q
theorem s_op {r : R2} {f : D → D → S → R D} (hr : V2 z r f) : ∀ σ H Q, tE z W (m2 f ma mb) σ H Q → tOp r (tE z W ma) (tE z W mb) σ H Q := by
  rintro σ H Q ⟨ρ, st, env, rs, re, h⟩
  refine ⟨ρ, st, env, rs, re, h.bind fun d1 s1 ρ1 H1 x e1 rs1 rv1 h1 => ⟨ρ1, s1, env, rs1, re.ext e1, h1.bind fun d2 s2 ρ2 H2 y e2 rs2 rv2 h2 => ?_⟩⟩
  exact hr ρ2 s2 H2 x y d1 d2 Q _ rs2 (rv1.ext e2) rv2 h2
theorem s_un {r : V → Hp → VK → Prop} {f : D → S → R D} (hr : V1 z r f) : ∀ σ H Q, tE z W (m1 f ma) σ H Q → tUn r (tE z W ma) σ H Q := by
  rintro σ H Q ⟨ρ, st, env, rs, re, h⟩
  refine ⟨ρ, st, env, rs, re, h.bind fun d1 s1 ρ1 H1 x e1 rs1 rv1 h1 => ?_⟩
  exact hr ρ1 s1 H1 x d1 Q _ rs1 rv1 h1
theorem q_op {op : Operator} {r : R2} {f : D → D → S → R D} (ho : OpR X (binaryOp op) r) (hr : V2 z r f) (ha : PE X a (tE z W ma)) (hb : PE X b (tE z W mb)) : PE X (.BinOp a op b pos) (tE z W (m2 f ma mb)) := pe_imp (pe_op ho ha hb) (s_op hr)
theorem q_cmp {op : CmpOp} {r : R2} {f : D → D → S → R D} (ho : OpR X (compareOp op) r) (hr : V2 z r f) (ha : PE X a (tE z W ma)) (hb : PE X b (tE z W mb)) (hm : behindInMarks op b = false := by first | exact nobehind _ (by decide) (by decide) | rfl) : PE X (.Compare a [op] [b] pos) (tE z W (m2 f ma mb)) := pe_imp (pe_cmpR ho ha hb hm) (s_op hr)
/-! tests -/
/-- a value whose truth is asked -/
def mB (m : ME) : MT := fun env st => (m env st).bind fun d s1 => match d with
  | .bl b => .ok b s1
  | _ => .bad
theorem s_tB : ∀ σ H Q, tT z W (mB ma) σ H Q → tB (tE z W ma) σ H Q := by
  rintro σ H Q ⟨ρ, st, env, rs, re, h⟩
  refine ⟨ρ, st, env, rs, re, h.bind fun d s1 ρ1 H1 x e1 rs1 rv1 h1 => ?_⟩
  split at h1
  · rename_i b
    unfold RV at rv1
    exact ⟨b, rv1, h1.ok rs1 rfl⟩
  · exact h1.elim
theorem qt_val {e : Expr} (h : PE X e (tE z W ma)) (he : ∀ whole, isTrue e X.env whole = (do let v ← whole; standAt e.pos; holding [v] (truthy v)) := by intro _; rfl) : PT X e (tT z W (mB ma)) := pt_imp (pt_val h he) s_tB
theorem qt_cmp {op : CmpOp} {r : R2} {f : D → D → S → R D} (ho : OpR X (compareOp op) r) (hr : V2 z r f) (ha : PE X a (tE z W ma)) (hb : PE X b (tE z W mb)) (hm : behindInMarks op b = false := by first | exact nobehind _ (by decide) (by decide) | rfl) : PT X (.Compare a [op] [b] pos) (tT z W (mB (m2 f ma mb))) :=
  pt_imp (pt_cmpR ho ha hb hm) (fun σ H Q h => s_tB σ H Q h |> fun q => by
    obtain ⟨ρ, st, env, rs, re, h⟩ := q
    exact s_op hr σ H _ ⟨ρ, st, env, rs, re, h⟩)
def mAnd (t u : MT) : MT := fun env st => (t env st).bind fun b s1 => if b = true then u env s1 else .ok false s1
def mOr (t u : MT) : MT := fun env st => (t env st).bind fun b s1 => if b = true then .ok true s1 else u env s1
def mNot (t : MT) : MT := fun env st => (t env st).bind fun b s1 => .ok (!b) s1
theorem s_and : ∀ σ H Q, tT z W (mAnd mt mu) σ H Q → tAnd (tT z W mt) (tT z W mu) σ H Q := by
  rintro σ H Q ⟨ρ, st, env, rs, re, h⟩
  refine ⟨ρ, st, env, rs, re, h.bind fun d s1 ρ1 H1 x e1 rs1 rv1 h1 => ?_⟩
  cases rv1
  cases d with
  | true => exact ⟨ρ1, s1, env, rs1, re.ext e1, h1⟩
  | false => exact Post.ok (rel := eqB) (a := false) h1 rs1 rfl
theorem s_or : ∀ σ H Q, tT z W (mOr mt mu) σ H Q → tOr (tT z W mt) (tT z W mu) σ H Q := by
  rintro σ H Q ⟨ρ, st, env, rs, re, h⟩
  refine ⟨ρ, st, env, rs, re, h.bind fun d s1 ρ1 H1 x e1 rs1 rv1 h1 => ?_⟩
  cases rv1
  cases d with
  | false => exact ⟨ρ1, s1, env, rs1, re.ext e1, h1⟩
  | true => exact Post.ok (rel := eqB) (a := true) h1 rs1 rfl
theorem s_not : ∀ σ H Q, tT z W (mNot mt) σ H Q → tNot (tT z W mt) σ H Q := by
  rintro σ H Q ⟨ρ, st, env, rs, re, h⟩
  refine ⟨ρ, st, env, rs, re, h.bind fun d s1 ρ1 H1 x e1 rs1 rv1 h1 => ?_⟩
  cases rv1
  exact Post.ok (rel := eqB) (a := !d) h1 rs1 rfl
variable {rest : List Expr}
theorem qw_and1 (ha : PT X a (tT z W mt)) : PW X (.BoolOp .And [a] pos) (tT z W mt) := pw_and1 ha
theorem qw_or1 (ha : PT X a (tT z W mt)) : PW X (.BoolOp .Or [a] pos) (tT z W mt) := pw_or1 ha
theorem qw_and (ha : PT X a (tT z W mt)) (hb : PW X (.BoolOp .And (b :: rest) pos) (tT z W mu)) : PW X (.BoolOp .And (a :: b :: rest) pos) (tT z W (mAnd mt mu)) := pw_imp (L2.pw_and ha hb) s_and
theorem qw_or (ha : PT X a (tT z W mt)) (hb : PW X (.BoolOp .Or (b :: rest) pos) (tT z W mu)) : PW X (.BoolOp .Or (a :: b :: rest) pos) (tT z W (mOr mt mu)) := pw_imp (L2.pw_or ha hb) s_or
theorem qt_not (ha : PT X a (tT z W mt)) : PT X (.UnaryOp .Not a pos) (tT z W (mNot mt)) := pt_imp (L2.pt_not ha) s_not
/-! and, or, not, conditional: as values -/
def mAndV (ma mb : ME) : ME := fun env st => (ma env st).bind fun d s1 => match d with
  | .bl true => mb env s1
  | .bl false => .ok (.bl false) s1
  | _ => .bad
def mOrV (ma mb : ME) : ME := fun env st => (ma env st).bind fun d s1 => match d with
  | .bl false => mb env s1
  | .bl true => .ok (.bl true) s1
  | _ => .bad
def mNotV (ma : ME) : ME := fun env st => (ma env st).bind fun d s1 => match d with
  | .bl b => .ok (.bl (!b)) s1
  | _ => .bad
def mIf (t : MT) (ma mb : ME) : ME := fun env st => (t env st).bind fun c s1 => if c = true then ma env s1 else mb env s1
theorem s_andV : ∀ σ H Q, tE z W (mAndV ma mb) σ H Q → tAndV (tE z W ma) (tE z W mb) σ H Q := by
  rintro σ H Q ⟨ρ, st, env, rs, re, h⟩
  refine ⟨ρ, st, env, rs, re, h.bind fun d s1 ρ1 H1 x e1 rs1 rv1 h1 => ?_⟩
  split at h1
  · unfold RV at rv1
    exact ⟨true, rv1, ρ1, s1, env, rs1, re.ext e1, h1⟩
  · unfold RV at rv1
    exact ⟨false, rv1, Post.ok h1 rs1 rv_bl⟩
  · exact h1.elim
theorem s_orV : ∀ σ H Q, tE z W (mOrV ma mb) σ H Q → tOrV (tE z W ma) (tE z W mb) σ H Q := by
  rintro σ H Q ⟨ρ, st, env, rs, re, h⟩
  refine ⟨ρ, st, env, rs, re, h.bind fun d s1 ρ1 H1 x e1 rs1 rv1 h1 => ?_⟩
  split at h1
  · unfold RV at rv1
    exact ⟨false, rv1, ρ1, s1, env, rs1, re.ext e1, h1⟩
  · unfold RV at rv1
    exact ⟨true, rv1, Post.ok h1 rs1 rv_bl⟩
  · exact h1.elim
theorem s_notV : ∀ σ H Q, tE z W (mNotV ma) σ H Q → tNotV (tE z W ma) σ H Q := by
  rintro σ H Q ⟨ρ, st, env, rs, re, h⟩
  refine ⟨ρ, st, env, rs, re, h.bind fun d s1 ρ1 H1 x e1 rs1 rv1 h1 => ?_⟩
  split at h1
  · rename_i b
    unfold RV at rv1
    exact ⟨b, rv1, Post.ok h1 rs1 rv_bl⟩
  · exact h1.elim
theorem s_if : ∀ σ H Q, tE z W (mIf mt ma mb) σ H Q → tIf (tT z W mt) (tE z W ma) (tE z W mb) σ H Q := by
  rintro σ H Q ⟨ρ, st, env, rs, re, h⟩
  refine ⟨ρ, st, env, rs, re, h.bind fun d s1 ρ1 H1 x e1 rs1 rv1 h1 => ?_⟩
  cases rv1
  cases d with
  | true => exact ⟨ρ1, s1, env, rs1, re.ext e1, h1⟩
  | false => exact ⟨ρ1, s1, env, rs1, re.ext e1, h1⟩
theorem q_one {op : BoolOp} (ha : PE X a (tE z W ma)) : PE X (.BoolOp op [a] pos) (tE z W ma) := pe_one ha
theorem q_and (ha : PE X a (tE z W ma)) (hb : PE X (.BoolOp .And (b :: rest) pos) (tE z W mb)) : PE X (.BoolOp .And (a :: b :: rest) pos) (tE z W (mAndV ma mb)) := pe_imp (pe_and ha hb) s_andV
theorem q_or (ha : PE X a (tE z W ma)) (hb : PE X (.BoolOp .Or (b :: rest) pos) (tE z W mb)) : PE X (.BoolOp .Or (a :: b :: rest) pos) (tE z W (mOrV ma mb)) := pe_imp (pe_or ha hb) s_orV
theorem q_not (ha : PE X a (tE z W ma)) : PE X (.UnaryOp .Not a pos) (tE z W (mNotV ma)) := pe_imp (pe_not ha) s_notV
theorem q_ifExp (hc : PT X c (tT z W mt)) (ha : PE X a (tE z W ma)) (hb : PE X b (tE z W mb)) : PE X (.IfExp c a b pos) (tE z W (mIf mt ma mb)) := pe_imp (pe_ifExp hc ha hb) s_if
/-! lists of arguments -/
def mNil : MA := fun _ st => .ok [] st
def mCons (m : ME) (r : MA) : MA := fun env st => (m env st).bind fun d s1 => (r env s1).bind fun ds s2 => .ok (d :: ds) s2
theorem qa_nil : PA X [] (tA z W mNil) := pa_imp pa_nil (by
  rintro σ H Q ⟨ρ, st, env, rs, re, h⟩
  exact Post.ok (rel := RVs z) (a := []) (st := st) h rs RVs.nil)
variable {ar : MA} {es : List Expr}
theorem s_cons : ∀ σ H Q, tA z W (mCons ma ar) σ H Q → tCons (tE z W ma) (tA z W ar) σ H Q := by
  rintro σ H Q ⟨ρ, st, env, rs, re, h⟩
  refine ⟨ρ, st, env, rs, re, h.bind fun d1 s1 ρ1 H1 x e1 rs1 rv1 h1 => ⟨ρ1, s1, env, rs1, re.ext e1, h1.bind fun d2 s2 ρ2 H2 y e2 rs2 rv2 h2 => ?_⟩⟩
  exact Post.ok (rel := RVs z) (a := d1 :: d2) h2 rs2 (RVs.cons (rv1.ext e2) rv2)
end
end Mm

namespace Mm
open PySem PySem.Spec PyProof.Rows L2 Lb
section
variable {X : Cx} {z : Zc} {W : WM} {ρ ρ' : List Addr} {st : S} {H H' : Hp} {v x y : V} {l m : List D} {xs ys : List V} {Q : VK} {xw : XW}
theorem rvi {i} (h : RV z ρ H (.int i) v) : v = .int i := by unfold RV at h; exact h
theorem rvb {i} (h : RV z ρ H (.bl i) v) : v = .bl i := by unfold RV at h; exact h
theorem rvs {i} (h : RV z ρ H (.str i) v) : v = .str i := by unfold RV at h; exact h
theorem rvn (h : RV z ρ H .non v) : v = .non := by unfold RV at h; exact h
theorem rvy {i} (h : RV z ρ H (.ty i) v) : v = .ty i := by unfold RV at h; exact h
theorem rvt (h : RV z ρ H (.tup l) v) : ∃ a xs, v = .ref a ∧ SqT z.K H a xs ∧ RVs z ρ H l xs := by unfold RV at h; exact h
theorem rvl {n} (h : RV z ρ H (.loc n) v) : ∃ a, ρ[n]? = some a ∧ v = .ref a := by unfold RV at h; exact h
theorem rvf (h : RV z ρ H (.fl l) v) : ∃ a xs, v = .ref a ∧ FzL z.K H a xs ∧ RVs z ρ H l xs := by unfold RV at h; exact h
theorem rv_loc {n a} (h : ρ[n]? = some a) : RV z ρ H (.loc n) (.ref a) := by unfold RV; exact ⟨a, h, rfl⟩
theorem rv_tup {a} (h : SqT z.K H a xs) (r : RVs z ρ H l xs) : RV z ρ H (.tup l) (.ref a) := by unfold RV; exact ⟨a, xs, rfl, h, r⟩
/-- a new tuple -/
theorem Post.tup (h : Post z (RV z) ρ H (.ok (.tup l) st) Q xw) (rs : RS z ρ st H) (r : RVs z ρ H l xs) : ∀ p, H p = none → Q (.ref p) (upd H p (.tup xs)) := fun p hp =>
  h.at (Ext.new hp) (rs.tup hp) (rv_tup (SqT.of upd_same) (r.ext (Ext.new hp)))
/-- a new list -/
theorem Post.lst (h : Post z (RV z) ρ H (.ok (.loc st.length) (st ++ [.lst l])) Q xw) (rs : RS z ρ st H) (r : RVs z ρ H l xs) : ∀ p, H p = none → Q (.ref p) (upd H p (.lst xs)) := fun p hp =>
  h.at (Ext.alloc hp) (rs.new_lst hp r) (rv_loc rs.last)
theorem Post.okk {α β : Type} {rel : List Addr → Hp → α → β → Prop} {P : β → Hp → Prop} {a : α} {b : β} (h : Post z rel ρ H (.ok a st) P xw) (rs : RS z ρ st H) (rl : rel ρ H a b) : P b H := h.ok rs rl

/-! + -/
def fAdd : D → D → S → R D
  | .int i, .int j, st => .ok (.int (i + j)) st
  | .str a, .str b, st => if a.length + b.length ≤ sizeLine then .ok (.str (a ++ b)) st else .bad
  | .tup a, .tup b, st => if a.length + b.length ≤ sizeLine then .ok (.tup (a ++ b)) st else .bad
  | .loc n, .loc k, st => match st[n]?, st[k]? with
    | some (.lst a), some (.lst b) => if a.length + b.length ≤ sizeLine then .ok (.loc st.length) (st ++ [.lst (a ++ b)]) else .bad
    | _, _ => .bad
  | _, _, _ => .bad
abbrev r_add (K : PySem.W.Frag) : R2 := fun x y H Q => (∃ i j, x = .int i ∧ y = .int j ∧ Q (.int (i + j)) H) ∨ (∃ i j, x = .str i ∧ y = .str j ∧ i.length + j.length ≤ sizeLine ∧ Q (.str (i ++ j)) H) ∨ rCatA K x y H Q ∨ rCat x y H Q
theorem o_add : OpR X (binaryOp .Add) (r_add X.K) := op_add.or (op_add_str.or (op_catA.or op_cat))
theorem v_add : V2 z (r_add z.K) fAdd := by
  intro ρ st H x y d1 d2 Q xw rs h1 h2 h
  unfold fAdd at h
  split at h
  · exact .inl ⟨_, _, rvi h1, rvi h2, h.ok rs rv_int⟩
  · split at h
    · rename_i e
      exact .inr (.inl ⟨_, _, rvs h1, rvs h2, e, h.ok rs rv_str⟩)
    · exact h.elim
  · split at h
    · rename_i a b e
      obtain ⟨p, xs, rfl, q1, r1⟩ := rvt h1
      obtain ⟨q, ys, rfl, q2, r2⟩ := rvt h2
      have l1 := r1.length
      have l2 := r2.length
      refine .inr (.inr (.inl ⟨p, q, xs, ys, rfl, rfl, q1, q2, by omega, fun e0 => ?_, fun _ e0 => ?_, fun _ _ => h.tup rs (r1.append r2)⟩))
      · subst e0
        have : a = [] := List.length_eq_zero_iff.mp (by simpa using l1)
        subst this
        exact h.ok rs (rv_tup q2 r2)
      · subst e0
        have : b = [] := List.length_eq_zero_iff.mp (by simpa using l2)
        subst this
        rw [List.append_nil] at h
        exact h.ok rs (rv_tup q1 r1)
    · exact h.elim
  · split at h
    · rename_i a b e1 e2
      split at h
      · rename_i e
        obtain ⟨p, p1, rfl⟩ := rvl h1
        obtain ⟨q, q1, rfl⟩ := rvl h2
        obtain ⟨xs, hx, r1⟩ := rs.lst e1 p1
        obtain ⟨ys, hy, r2⟩ := rs.lst e2 q1
        have l1 := r1.length
        have l2 := r2.length
        exact .inr (.inr (.inr ⟨p, q, xs, ys, rfl, rfl, hx, hy, by omega, h.lst rs (r1.append r2)⟩))
      · exact h.elim
    · exact h.elim
  · exact h.elim
/-! numbers -/
def fI (C : Int → Int → Bool) (g : Int → Int → D) : D → D → S → R D
  | .int i, .int j, st => if C i j = true then .ok (g i j) st else .bad
  | _, _, _ => .bad
theorem v_i {C : Int → Int → Bool} {C' : Int → Int → Prop} {g : Int → Int → D} {g' : Int → Int → V} (hC : ∀ i j, C i j = true → C' i j) (hg : ∀ i j ρ H, RV z ρ H (g i j) (g' i j)) : V2 z (rI C' g') (fI C g) := by
  intro ρ st H x y d1 d2 Q xw rs h1 h2 h
  unfold fI at h
  split at h
  · split at h
    · rename_i e
      exact ⟨_, _, rvi h1, rvi h2, hC _ _ e, h.ok rs (hg _ _ _ _)⟩
    · exact h.elim
  · exact h.elim
theorem v_i0 {g : Int → Int → D} {g' : Int → Int → V} (hg : ∀ i j ρ H, RV z ρ H (g i j) (g' i j)) : V2 z (rI0 g') (fI (fun _ _ => true) g) := by
  intro ρ st H x y d1 d2 Q xw rs h1 h2 h
  unfold fI at h
  split at h
  · rw [if_pos rfl] at h
    exact ⟨_, _, rvi h1, rvi h2, h.ok rs (hg _ _ _ _)⟩
  · exact h.elim
def fSub := fI (fun _ _ => true) fun i j => .int (i - j)
theorem v_sub : V2 z (rI0 fun i j => .int (i - j)) fSub := v_i0 fun _ _ _ _ => rv_int
def cMul (i j : Int) : Bool := decide (i.natAbs.log2 + j.natAbs.log2 < 1000000)
def fMul := fI cMul fun i j => .int (i * j)
theorem v_mul : V2 z (rI CMulW fun i j => .int (i * j)) fMul := v_i (fun i j h => show CMulW i j from of_decide_eq_true (p := i.natAbs.log2 + j.natAbs.log2 < 1000000) h) fun _ _ _ _ => rv_int
def cDiv (i j : Int) : Bool := decide (0 < j ∧ j.natAbs.log2 < 9000)
def fDiv := fI cDiv fun i j => .int (i / j)
theorem v_div : V2 z (rI CDivW fun i j => .int (i / j)) fDiv := v_i (fun i j h => show CDivW i j from of_decide_eq_true (p := 0 < j ∧ j.natAbs.log2 < 9000) h) fun _ _ _ _ => rv_int
def fMod := fI (fun _ j => decide (0 < j)) fun i j => .int (i % j)
theorem v_mod : V2 z (rI (fun _ j => 0 < j) fun i j => .int (i % j)) fMod := v_i (fun _ _ h => of_decide_eq_true h) fun _ _ _ _ => rv_int
def cPow (i j : Int) : Bool := decide (0 ≤ j ∧ j ≤ 1000000 ∧ i.natAbs < 2 ^ 64)
def fPow := fI cPow fun i j => .int (i ^ j.toNat)
theorem v_pow : V2 z (rI CPow fun i j => .int (i ^ j.toNat)) fPow := v_i (fun i j h => show CPow i j from of_decide_eq_true (p := 0 ≤ j ∧ j ≤ 1000000 ∧ i.natAbs < 2 ^ 64) h) fun _ _ _ _ => rv_int
def fNeg : D → S → R D
  | .int i, st => .ok (.int (-i)) st
  | _, _ => .bad
theorem v_neg : V1 z (rU fun i => .int (-i)) fNeg := by
  intro ρ st H x d1 Q xw rs h1 h
  unfold fNeg at h
  split at h
  · exact ⟨_, rvi h1, h.ok rs rv_int⟩
  · exact h.elim
/-! < .. of ints and texts -/
def fOrd (g : Int → Int → Bool) (t : List Nat → List Nat → Bool) : D → D → S → R D
  | .int i, .int j, st => .ok (.bl (g i j)) st
  | .str i, .str j, st => .ok (.bl (t i.cps.toList j.cps.toList)) st
  | _, _, _ => .bad
abbrev r_ord (g : Int → Int → Bool) (t : List Nat → List Nat → Bool) : R2 := fun x y H Q => (∃ i j, x = .int i ∧ y = .int j ∧ Q (.bl (g i j)) H) ∨ (∃ i j, x = .str i ∧ y = .str j ∧ Q (.bl (t i.cps.toList j.cps.toList)) H)
theorem v_ord {g t} : V2 z (r_ord g t) (fOrd g t) := by
  intro ρ st H x y d1 d2 Q xw rs h1 h2 h
  unfold fOrd at h
  split at h
  · exact .inl ⟨_, _, rvi h1, rvi h2, h.ok rs rv_bl⟩
  · exact .inr ⟨_, _, rvs h1, rvs h2, h.ok rs rv_bl⟩
  · exact h.elim
def fLt := fOrd (fun i j => decide (i < j)) fun a b => decide (a < b)
def fLe := fOrd (fun i j => decide (i ≤ j)) fun a b => !decide (b < a)
def fGt := fOrd (fun i j => decide (j < i)) fun a b => decide (b < a)
def fGe := fOrd (fun i j => decide (j ≤ i)) fun a b => !decide (a < b)
theorem o_lt : OpR X (compareOp .Lt) (r_ord (fun i j => decide (i < j)) fun a b => decide (a < b)) := op_lt.or op_lt_str
theorem o_le : OpR X (compareOp .LtE) (r_ord (fun i j => decide (i ≤ j)) fun a b => !decide (b < a)) := op_le.or op_le_str
theorem o_gt : OpR X (compareOp .Gt) (r_ord (fun i j => decide (j < i)) fun a b => decide (b < a)) := op_gt.or op_gt_str
theorem o_ge : OpR X (compareOp .GtE) (r_ord (fun i j => decide (j ≤ i)) fun a b => !decide (a < b)) := op_ge.or op_ge_str
/-! == -/
/-- as the data that == reads, at most n deep -/
def toP (st : S) : Nat → D → Option PyData
  | _, .non => some .none
  | _, .bl b => some (.bool b)
  | _, .int i => some (.int i)
  | _, .str x => some (.str x)
  | _, .ty _ => none
  | 0, _ => none
  | n + 1, .tup l => (l.mapM (toP st n)).map .tuple
  | n + 1, .fl l => (l.mapM (toP st n)).map .list
  | n + 1, .loc k => match rdL st k with
    | some l => (l.mapM (toP st n)).map .list
    | none => none
theorem mapM_cons {α β : Type} {f : α → Option β} {a : α} {l : List α} {o : List β} (h : (a :: l).mapM f = some o) : ∃ b r, f a = some b ∧ l.mapM f = some r ∧ o = b :: r := by
  rw [List.mapM_cons] at h
  cases e : f a with
  | none => rw [e] at h; cases h
  | some b =>
    rw [e] at h
    cases e2 : l.mapM f with
    | none => rw [e2] at h; cases h
    | some r =>
      rw [e2] at h
      cases h
      exact ⟨b, r, rfl, rfl, rfl⟩
theorem toP_dp (rs : RS z ρ st H) : ∀ (n : Nat) (d : D) (v : V) (p : PyData), toP st n d = some p → RV z ρ H d v → Dp z.K H v p := by
  intro n
  induction n with
  | zero =>
    intro d v p h r
    cases d with
    | non => cases h; rw [rvn r]; exact .non
    | bl b => cases h; rw [rvb r]; exact .bl _
    | int b => cases h; rw [rvi r]; exact .int _
    | str b => cases h; rw [rvs r]; exact .str _
    | ty b => cases h
    | tup b => cases h
    | loc b => cases h
    | fl b => cases h
  | succ n ih =>
    intro d v p h r
    have all : ∀ (l : List D) (xs : List V) (ps : List PyData), l.mapM (toP st n) = some ps → RVs z ρ H l xs → DpAll z.K H xs ps := by
      intro l
      induction l with
      | nil =>
        intro xs ps h r
        unfold RVs at r
        subst r
        cases h
        exact .nil
      | cons a l ih2 =>
        intro xs ps h r
        obtain ⟨b, q, e1, e2, rfl⟩ := mapM_cons h
        unfold RVs at r
        obtain ⟨x, w, rfl, r1, r2⟩ := r
        exact .cons (ih a x b e1 r1) (ih2 w q e2 r2)
    cases d with
    | non => cases h; rw [rvn r]; exact .non
    | bl b => cases h; rw [rvb r]; exact .bl _
    | int b => cases h; rw [rvi r]; exact .int _
    | str b => cases h; rw [rvs r]; exact .str _
    | ty b => cases h
    | tup l =>
      have h' : (l.mapM (toP st n)).map PyData.tuple = some p := h
      obtain ⟨ps, e, rfl⟩ := Option.map_eq_some_iff.mp h'
      obtain ⟨a, xs, rfl, q, t⟩ := rvt r
      exact .tup q (all l xs ps e t)
    | fl l =>
      have h' : (l.mapM (toP st n)).map PyData.list = some p := h
      obtain ⟨ps, e, rfl⟩ := Option.map_eq_some_iff.mp h'
      obtain ⟨a, xs, rfl, q, t⟩ := rvf r
      exact .lst q.sq (all l xs ps e t)
    | loc k =>
      have h' : (match Mm.rdL st k with | some l => (l.mapM (toP st n)).map PyData.list | none => none) = some p := h
      split at h'
      · rename_i l e0
        obtain ⟨ps, e, rfl⟩ := Option.map_eq_some_iff.mp h'
        obtain ⟨a, q, rfl⟩ := rvl r
        obtain ⟨xs, h1, h2⟩ := rs.rdL e0 q
        exact .lst h1 (all l xs ps e h2)
      · cases h'
/-- flat data's == (a flag is a number) -/
def eqF : D → D → Bool
  | .non, .non => true
  | .bl a, .bl b => a == b
  | .bl a, .int b => (if a then 1 else 0) == b
  | .int a, .bl b => a == (if b then 1 else 0)
  | .int a, .int b => a == b
  | .str a, .str b => a == b
  | _, _ => false
def flat : D → Bool
  | .non => true
  | .bl _ => true
  | .int _ => true
  | .str _ => true
  | _ => false
/-- those that are told without further ado -/
def scal2 : D → D → Bool
  | .bl _, .int _ => false
  | .int _, .bl _ => false
  | a, b => flat a && flat b
def fEq (neg : Bool) : D → D → S → R D := fun a b st =>
  if scal2 a b = true then .ok (.bl (if neg then !eqF a b else eqF a b)) st else
  match toP st 50 a, toP st 50 b with
  | some p, some q => if SeqAt.shaped p && SeqAt.shaped q then .ok (.bl (if neg then !PyData.eqv p q else PyData.eqv p q)) st else .bad
  | _, _ => .bad
abbrev r_eq (K : PySem.W.Frag) : R2 := fun x y H Q => rEq x y H Q ∨ rEqD K x y H Q
abbrev r_ne (K : PySem.W.Frag) : R2 := fun x y H Q => rNe x y H Q ∨ rNeD K x y H Q
theorem o_eq (hu : X.A.units + 64 < cLine) : OpR X (compareOp .Eq) (r_eq X.K) := op_eq.or (op_eqD hu)
theorem o_ne (hu : X.A.units + 64 < cLine) : OpR X (compareOp .NotEq) (r_ne X.K) := op_ne.or (op_neD hu)
theorem eqF_scal {a b : D} (s : scal2 a b = true) (h1 : RV z ρ H a x) (h2 : RV z ρ H b y) : scal x y = true ∧ decide (x = y) = eqF a b := by
  cases a <;> cases b <;> first
    | exact absurd s Bool.false_ne_true
    | (first | have e1 := rvn h1 | have e1 := rvb h1 | have e1 := rvi h1 | have e1 := rvs h1)
      (first | have e2 := rvn h2 | have e2 := rvb h2 | have e2 := rvi h2 | have e2 := rvs h2)
      subst e1 e2
      first
      | exact ⟨rfl, rfl⟩
      | exact ⟨rfl, dec_int⟩
      | exact ⟨rfl, dec_bl⟩
      | exact ⟨rfl, dec_str⟩
theorem v_eq : V2 z (r_eq z.K) (fEq false) := by
  intro ρ st H x y d1 d2 Q xw rs h1 h2 h
  unfold fEq at h
  split at h
  · rename_i s
    obtain ⟨e1, e2⟩ := eqF_scal s h1 h2
    refine .inl ⟨e1, ?_⟩
    rw [e2]
    exact h.ok rs rv_bl
  · split at h
    · rename_i p q e1 e2
      split at h
      · rename_i s
        rw [Bool.and_eq_true] at s
        exact .inr ⟨p, q, toP_dp rs _ _ _ _ e1 h1, toP_dp rs _ _ _ _ e2 h2, s.1, s.2, h.ok rs rv_bl⟩
      · exact h.elim
    · exact h.elim
theorem v_ne : V2 z (r_ne z.K) (fEq true) := by
  intro ρ st H x y d1 d2 Q xw rs h1 h2 h
  unfold fEq at h
  split at h
  · rename_i s
    obtain ⟨e1, e2⟩ := eqF_scal s h1 h2
    refine .inl ⟨e1, ?_⟩
    rw [e2]
    exact h.ok rs rv_bl
  · split at h
    · rename_i p q e1 e2
      split at h
      · rename_i s
        rw [Bool.and_eq_true] at s
        exact .inr ⟨p, q, toP_dp rs _ _ _ _ e1 h1, toP_dp rs _ _ _ _ e2 h2, s.1, s.2, h.ok rs rv_bl⟩
      · exact h.elim
    · exact h.elim
/-! is None, is True -/
def fIsN (neg : Bool) : D → D → S → R D
  | .non, .non, st => .ok (.bl (!neg)) st
  | _, .non, st => .ok (.bl neg) st
  | .bl a, .bl b, st => .ok (.bl (if neg then !(a == b) else a == b)) st
  | _, _, _ => .bad
abbrev r_is (neg : Bool) : R2 := fun x y H Q => (y = .non ∧ Q (.bl (if neg then !decide (x = .non) else decide (x = .non))) H) ∨ (∃ a b : Bool, x = .bl a ∧ y = .bl b ∧ Q (.bl (if neg then !decide (a = b) else decide (a = b))) H)
theorem o_is : OpR X (compareOp .Is) (r_is false) := op_isN.or op_isBl
theorem o_isnot : OpR X (compareOp .IsNot) (r_is true) := op_notN.or op_notBl
def isNon : D → Bool
  | .non => true
  | _ => false
theorem non_dec {d : D} (h : RV z ρ H d x) : decide (x = .non) = isNon d := by
  cases d with
  | non => rw [rvn h]; rfl
  | bl b => rw [rvb h]; rfl
  | int b => rw [rvi h]; rfl
  | str b => rw [rvs h]; rfl
  | ty b => rw [rvy h]; rfl
  | tup l => obtain ⟨a, _, rfl, _⟩ := rvt h; rfl
  | loc l => obtain ⟨a, _, rfl⟩ := rvl h; rfl
  | fl l => obtain ⟨a, _, rfl, _⟩ := rvf h; rfl
theorem v_is {neg : Bool} : V2 z (r_is neg) (fIsN neg) := by
  intro ρ st H x y d1 d2 Q xw rs h1 h2 h
  unfold fIsN at h
  split at h
  · refine .inl ⟨rvn h2, ?_⟩
    rw [non_dec h1]
    have := h.ok rs rv_bl
    cases neg <;> exact this
  · rename_i d1' hne
    refine .inl ⟨rvn h2, ?_⟩
    rw [non_dec h1]
    have := h.ok rs rv_bl
    cases d1 with
    | non => exact absurd rfl hne
    | _ => cases neg <;> exact this
  · refine .inr ⟨_, _, rvb h1, rvb h2, ?_⟩
    have := h.ok rs rv_bl
    rw [Bool.beq_eq_decide_eq] at this
    exact this
  · exact h.elim
/-! in -/
def keyD : D → Option Key
  | .int i => some (.inl i)
  | .str x => some (.inr x)
  | _ => none
theorem rv_key {d : D} {k : Key} (h : keyD d = some k) (r : RV z ρ H d x) : x = kV k := by
  cases d with
  | int i => cases h; exact rvi r
  | str i => cases h; exact rvs r
  | _ => cases h
def getK (kvs : List (Key × D)) (k : Key) : Option D := (kvs.find? fun kv => decide (kv.1 = k)).map (·.2)
def putD (kvs : List (Key × D)) (k : Key) (v : D) : List (Key × D) :=
  if (kvs.any fun kv => decide (kv.1 = k)) = true then kvs.map (fun kv => if kv.1 = k then (kv.1, v) else kv) else kvs ++ [(k, v)]
theorem flat_rv {d : D} (f : flat d = true) (r : RV z ρ H d x) : flatV x = true := by
  cases d with
  | non => rw [rvn r]; rfl
  | bl b => rw [rvb r]; rfl
  | int b => rw [rvi r]; rfl
  | str b => rw [rvs r]; rfl
  | _ => exact absurd f Bool.false_ne_true
theorem flats_rv : ∀ {l : List D} {xs : List V}, l.all flat = true → RVs z ρ H l xs → xs.all flatV = true
  | [], xs, _, r => by unfold RVs at r; rw [r]; rfl
  | d :: l, xs, f, r => by
    unfold RVs at r
    obtain ⟨x, w, rfl, r1, r2⟩ := r
    rw [List.all_cons, Bool.and_eq_true] at f ⊢
    exact ⟨flat_rv f.1 r1, flats_rv f.2 r2⟩
theorem eqF_rv {a b : D} (fa : flat a = true) (fb : flat b = true) (h1 : RV z ρ H a x) (h2 : RV z ρ H b y) : eqV x y = eqF a b := by
  cases a <;> cases b <;> first
    | exact absurd fa Bool.false_ne_true
    | exact absurd fb Bool.false_ne_true
    | (first | have e1 := rvn h1 | have e1 := rvb h1 | have e1 := rvi h1 | have e1 := rvs h1)
      (first | have e2 := rvn h2 | have e2 := rvb h2 | have e2 := rvi h2 | have e2 := rvs h2)
      subst e1 e2
      rfl
theorem any_rv {d : D} (fd : flat d = true) (hd : RV z ρ H d x) : ∀ {l : List D} {xs : List V}, l.all flat = true → RVs z ρ H l xs → inV x xs = l.any fun e => eqF e d
  | [], xs, _, r => by unfold RVs at r; rw [r]; rfl
  | e :: l, xs, f, r => by
    unfold RVs at r
    obtain ⟨x1, w, rfl, r1, r2⟩ := r
    rw [List.all_cons, Bool.and_eq_true] at f
    show (eqV x1 x || inV x w) = _
    rw [any_rv fd hd f.2 r2, eqF_rv f.1 fd r1 hd]
    rfl
def ng (neg b : Bool) : Bool := if neg then !b else b
def seqD (st : S) : D → Option (List D)
  | .tup l => some l
  | .loc n => rdL st n
  | .fl l => some l
  | _ => none
theorem rs_seq {d : D} {l : List D} (rs : RS z ρ st H) (e : seqD st d = some l) (r : RV z ρ H d x) : ∃ a xs, x = .ref a ∧ (SqL z.K H a xs ∨ SqT z.K H a xs) ∧ RVs z ρ H l xs := by
  cases d with
  | tup l' =>
    cases e
    obtain ⟨a, xs, rfl, q, t⟩ := rvt r
    exact ⟨a, xs, rfl, .inr q, t⟩
  | loc n =>
    obtain ⟨a, q, rfl⟩ := rvl r
    obtain ⟨xs, h1, h2⟩ := rs.rdL e q
    exact ⟨a, xs, rfl, .inl h1, h2⟩
  | fl l' =>
    cases e
    obtain ⟨a, xs, rfl, q, t⟩ := rvf r
    exact ⟨a, xs, rfl, .inl q.sq, t⟩
  | _ => cases e
def fIn (neg : Bool) (a b : D) (st : S) : R D := match b with
  | .str s => match a with
    | .str t => .ok (.bl (ng neg (!(Builtin.Str.occurrences s t 0 s.length 1).isEmpty))) st
    | _ => .bad
  | _ => match seqD st b with
    | some l => if flat a && l.all flat then .ok (.bl (ng neg (l.any fun e => eqF e a))) st else
      match toP st 50 a, toP st 50 b with
      | some p, some (.list q) => if SeqAt.shaped p && SeqAt.shaped (.list q) then .ok (.bl (ng neg (q.any fun e => PyData.eqv e p))) st else .bad
      | _, _ => .bad
    | none => .bad
abbrev r_in (K : PySem.W.Frag) (neg : Bool) : R2 := fun x y H Q => (∃ i j, x = .str i ∧ y = .str j ∧ Q (.bl (ng neg (!(Builtin.Str.occurrences j i 0 j.length 1).isEmpty))) H) ∨ rIn K neg x y H Q ∨
  (∃ d ds, Dp K H x d ∧ Dp K H y (.list ds) ∧ SeqAt.shaped d = true ∧ SeqAt.shaped (.list ds) = true ∧ Q (.bl (ng neg (ds.any fun z => PyData.eqv z d))) H)
theorem o_in (hu : X.A.units + 65 < cLine) : OpR X (compareOp .In) (r_in X.K false) := op_in_str.or (op_in_seq.or (op_inD hu))
theorem o_notin (hu : X.A.units + 65 < cLine) : OpR X (compareOp .NotIn) (r_in X.K true) := op_notIn_str.or (op_notIn_seq.or (op_notInD hu))
theorem v_in {neg : Bool} : V2 z (r_in z.K neg) (fIn neg) := by
  intro ρ st H x y d1 d2 Q xw rs h1 h2 h
  unfold fIn at h
  split at h
  · split at h
    · exact .inl ⟨_, _, rvs h1, rvs h2, h.ok rs rv_bl⟩
    · exact h.elim
  · split at h
    · rename_i l e
      obtain ⟨a, xs, ey, q, r⟩ := rs_seq rs e h2
      split at h
      · rename_i f
        rw [Bool.and_eq_true] at f
        refine .inr (.inl ⟨a, xs, ey, q, flat_rv f.1 h1, flats_rv f.2 r, ?_⟩)
        rw [any_rv f.1 h1 f.2 r]
        exact h.ok rs rv_bl
      · split at h
        · rename_i p q' e1 e2
          split at h
          · rename_i s
            rw [Bool.and_eq_true] at s
            exact .inr (.inr ⟨p, q', toP_dp rs _ _ _ _ e1 h1, toP_dp rs _ _ _ _ e2 h2, s.1, s.2, h.ok rs rv_bl⟩)
          · exact h.elim
        · exact h.elim
    · exact h.elim
end
end Mm

namespace Mm
open PySem PySem.Spec PyProof.Rows L2 Lb
section
variable {X : Cx} {z : Zc} {W : WM} {ρ ρ' : List Addr} {st : S} {H H' : Hp} {v x y : V} {l m : List D} {xs ys : List V} {Q : VK} {xw : XW} {a b c : Expr} {ma mb mc : ME} {mt mu : MT} {pos : Pos}
theorem Post.bindE {α β γ δ : Type} {rel : List Addr → Hp → α → β → Prop} {r : R α} {P : β → Hp → Prop} {rel2 : List Addr → Hp → γ → δ → Prop} {k : α → S → R γ} {Q : δ → Hp → Prop} (h : Post z rel2 ρ H (r.bind k) Q xw)
    (hk : ∀ a st1 ρ1 H1 b, r = .ok a st1 → Ext z ρ H ρ1 H1 → RS z ρ1 st1 H1 → rel ρ1 H1 a b → Post z rel2 ρ1 H1 (k a st1) Q xw → P b H1) : Post z rel ρ H r P xw := by
  cases r with
  | ok a s => exact fun ρ1 H1 b e rs rl => hk a s ρ1 H1 b rfl e rs rl (h.mono e)
  | ex c f s => exact h
  | bad => exact h
theorem pe_or {e : Expr} {t t1 t2 : TE} (h1 : PE X e t1) (h2 : PE X e t2) (h : ∀ σ H Q, t σ H Q → t1 σ H Q ∨ t2 σ H Q) : PE X e t := ⟨fun pins s σ H Q I q => by
  rcases h σ H Q q with q | q
  · exact h1.run pins s σ H Q I q
  · exact h2.run pins s σ H Q I q⟩
/-! a[i] -/
def fIx : D → D → S → R D
  | .tup l, .int i, st => match atI l i with
    | some d => .ok d st
    | none => .bad
  | .loc n, .int i, st => match rdL st n with
    | some l => match atI l i with
      | some d => .ok d st
      | none => .bad
    | none => .bad
  | .fl l, .int i, st => match atI l i with
    | some d => .ok d st
    | none => .bad
  | .str s, .int i, st => if s.length ≤ sizeLine then match atI s.cps.toList i with
    | some c => .ok (.str ⟨#[c]⟩) st
    | none => .bad else .bad
  | _, _, _ => .bad
abbrev r_ix (K : PySem.W.Frag) : R2 := fun x y H Q => rIxL K x y H Q ∨ rIxT K x y H Q ∨ rIxS x y H Q
theorem i_ix : IxR X (r_ix X.K) := ix_list.or (ix_tup.or ix_str)
theorem at_rv {i : Int} {d : D} (r : RVs z ρ H l xs) (e : atI l i = some d) : ∃ v, atI xs i = some v ∧ RV z ρ H d v := by
  unfold atI at e ⊢
  rw [← r.length]
  cases q : ixN l.length i with
  | none => rw [q] at e; cases e
  | some j =>
    rw [q] at e
    obtain ⟨v, h1, h2⟩ := r.get (show l[j]? = some d from e)
    exact ⟨v, h1, h2⟩
theorem v_ix : V2 z (r_ix z.K) fIx := by
  intro ρ st H x y d1 d2 Q xw rs h1 h2 h
  unfold fIx at h
  split at h
  · split at h
    · rename_i d e
      obtain ⟨a, xs, rfl, q, r⟩ := rvt h1
      obtain ⟨v, e1, e2⟩ := at_rv r e
      exact .inr (.inl ⟨a, xs, _, v, rfl, rvi h2, q, e1, h.ok rs e2⟩)
    · exact h.elim
  · split at h
    · rename_i l e0
      split at h
      · rename_i d e
        obtain ⟨a, q, rfl⟩ := rvl h1
        obtain ⟨xs, q1, r⟩ := rs.rdL e0 q
        obtain ⟨v, e1, e2⟩ := at_rv r e
        exact .inl ⟨a, xs, _, v, rfl, rvi h2, q1, e1, h.ok rs e2⟩
      · exact h.elim
    · exact h.elim
  · split at h
    · rename_i d e
      obtain ⟨a, xs, rfl, q, r⟩ := rvf h1
      obtain ⟨v, e1, e2⟩ := at_rv r e
      exact .inl ⟨a, xs, _, v, rfl, rvi h2, q.sq, e1, h.ok rs e2⟩
    · exact h.elim
  · split at h
    · rename_i hl
      split at h
      · rename_i c e
        exact .inr (.inr ⟨_, _, c, rvs h1, rvi h2, hl, e, h.ok rs rv_str⟩)
      · exact h.elim
    · exact h.elim
  · exact h.elim
theorem q_ix (ha : PE X a (tE z W ma)) (hb : PE X b (tE z W mb)) (hz : z.K = X.K) (hs : PlainIx b) : PE X (.Subscript a b pos) (tE z W (m2 fIx ma mb)) := pe_imp (pe_ix (r := r_ix z.K) (by rw [hz]; exact i_ix) ha hb hs) (s_op v_ix)
/-- d[k] of a dict -/
def fDix : D → D → S → R D
  | .loc n, d, st => match st[n]?, keyD d with
    | some (.dic kvs), some k => match getK kvs k with
      | some v => .ok v st
      | none => .bad
    | _, _ => .bad
  | _, _, _ => .bad
theorem get_rv {k : Key} {d : D} : ∀ {kvs : List (Key × D)} {ys : List (Key × V)}, ys.map (·.1) = kvs.map (·.1) → RVs z ρ H (kvs.map (·.2)) (ys.map (·.2)) → (getK kvs k = some d → ∃ v, valV ys k = some v ∧ RV z ρ H d v) ∧ (valV ys k).isSome = (getK kvs k).isSome
  | [], [], _, _ => ⟨fun h => (nomatch h), rfl⟩
  | [], _ :: _, h, _ => by simp at h
  | _ :: _, [], h, _ => by simp at h
  | (k1, d1) :: kvs, (k2, v2) :: ys, h, r => by
    rw [List.map_cons, List.map_cons] at h
    injection h with h1 h2
    have h1 : k2 = k1 := h1
    subst h1
    rw [List.map_cons, List.map_cons] at r
    unfold RVs at r
    obtain ⟨x, w, e, r1, r2⟩ := r
    injection e with e1 e2
    have e1 : v2 = x := e1
    subst e1 e2
    have ih := get_rv (k := k) (d := d) h2 r2
    by_cases hk : k2 = k
    · subst hk
      constructor
      · intro q
        have e : getK ((k2, d1) :: kvs) k2 = some d1 := by simp [getK, List.find?_cons]
        rw [e] at q
        cases q
        exact ⟨v2, by simp [valV, List.find?_cons], r1⟩
      · simp [getK, valV, List.find?_cons]
    · have a1 : getK ((k2, d1) :: kvs) k = getK kvs k := by simp [getK, List.find?_cons, hk]
      have a2 : valV ((k2, v2) :: ys) k = valV ys k := by simp [valV, List.find?_cons, hk]
      rw [a1, a2]
      exact ih
theorem q_dix (ha : PE X a (tE z W ma)) (hb : PE X b (tE z W mb)) (hu : X.A.units + 1 < cLine) (hs : NoSl b) : PE X (.Subscript a b pos) (tE z W (m2 fDix ma mb)) := pe_imp (pe_dget hu ha hb hs) (by
  rintro σ H Q ⟨ρ, st, env, rs, re, h⟩
  refine ⟨ρ, st, env, rs, re, h.bind fun d1 s1 ρ1 H1 x e1 rs1 rv1 h1 => ⟨ρ1, s1, env, rs1, re.ext e1, h1.bind fun d2 s2 ρ2 H2 y e2 rs2 rv2 h2 => ?_⟩⟩
  unfold fDix at h2
  split at h2
  · rename_i n
    split at h2
    · rename_i kvs k q1 q2
      split at h2
      · rename_i v q3
        obtain ⟨p, p1, rfl⟩ := rvl (rv1.ext e2)
        obtain ⟨ys, o1, o2, o3⟩ := rs2.obj n _ p q1 p1
        obtain ⟨v', g1, g2⟩ := (get_rv (k := k) (d := v) o2 o3).1 q3
        exact ⟨p, v', rfl, .inl ⟨ys, k, .inl o1, rv_key q2 rv2, g1.symm⟩, h2.ok rs2 g2⟩
      · exact h2.elim
    · exact h2.elim
  · exact h2.elim)
/-- k in d, k not in d -/
def fDin (neg : Bool) : D → D → S → R D
  | d, .loc n, st => match st[n]?, keyD d with
    | some (.dic kvs), some k => .ok (.bl (ng neg (getK kvs k).isSome)) st
    | _, _ => .bad
  | _, _, _ => .bad
theorem s_din {neg : Bool} : ∀ σ H Q, tE z W (m2 (fDin neg) ma mb) σ H Q → (tE z W ma) σ H fun y H1 => (tE z W mb) σ H1 fun x H2 => ∃ a o, x = .ref a ∧ DGet H2 a y o ∧ Q (.bl (ng neg o.isSome)) H2 := by
  rintro σ H Q ⟨ρ, st, env, rs, re, h⟩
  refine ⟨ρ, st, env, rs, re, h.bind fun d1 s1 ρ1 H1 x e1 rs1 rv1 h1 => ⟨ρ1, s1, env, rs1, re.ext e1, h1.bind fun d2 s2 ρ2 H2 y e2 rs2 rv2 h2 => ?_⟩⟩
  unfold fDin at h2
  split at h2
  · rename_i n
    split at h2
    · rename_i kvs k q1 q2
      obtain ⟨p, p1, rfl⟩ := rvl rv2
      obtain ⟨ys, o1, o2, o3⟩ := rs2.obj n _ p q1 p1
      refine ⟨p, _, rfl, .inl ⟨ys, k, .inl o1, rv_key q2 (rv1.ext e2), rfl⟩, ?_⟩
      rw [(get_rv (k := k) (d := d1) o2 o3).2]
      exact h2.ok rs2 rv_bl
    · exact h2.elim
  · exact h2.elim
theorem q_din (hu : X.A.units + 1 < cLine) (ha : PE X a (tE z W ma)) (hb : PE X b (tE z W mb)) (hm : behindInMarks .In b = false := by rfl) : PE X (.Compare a [.In] [b] pos) (tE z W (m2 (fDin false) ma mb)) := pe_imp (pe_cmp (pc_din hu ha hb) hm) s_din
theorem q_dnotin (hu : X.A.units + 1 < cLine) (ha : PE X a (tE z W ma)) (hb : PE X b (tE z W mb)) (hm : behindInMarks .NotIn b = false := by rfl) : PE X (.Compare a [.NotIn] [b] pos) (tE z W (m2 (fDin true) ma mb)) := pe_imp (pe_cmp (pc_dnotin hu ha hb) hm) s_din
/-! a[lo:hi] -/
def cutD (l : List D) (lo hi : Option Int) : List D := (l.drop (HT.sIx l.length 0 lo)).take (HT.sIx l.length l.length hi - HT.sIx l.length 0 lo)
theorem cut_rv (r : RVs z ρ H l xs) (lo hi : Option Int) : RVs z ρ H (cutD l lo hi) (cutV xs lo hi) := by
  unfold cutD cutV
  rw [← r.length]
  exact (r.drop _).take _
theorem cut_all {n : Nat} {lo hi : Option Int} (h : HT.sIx l.length 0 lo = 0 ∧ HT.sIx l.length l.length hi = l.length) : cutD l lo hi = l := by
  unfold cutD
  rw [h.1, h.2, List.drop_zero, Nat.sub_zero, List.take_length]
def fSl : D → Option Int → Option Int → S → R D
  | .tup l, lo, hi, st => .ok (.tup (cutD l lo hi)) st
  | .loc n, lo, hi, st => match rdL st n with
    | some l => .ok (.loc st.length) (st ++ [.lst (cutD l lo hi)])
    | none => .bad
  | .fl l, lo, hi, st => .ok (.loc st.length) (st ++ [.lst (cutD l lo hi)])
  | .str s, lo, hi, st => if s.length ≤ sizeLine then .ok (.str (cutS s lo hi)) st else .bad
  | _, _, _, _ => .bad
def mNoPart : MO := fun _ st => .ok none st
def mPart (m : ME) : MO := fun env st => (m env st).bind fun d s1 => match d with
  | .int i => .ok (some i) s1
  | _ => .bad
theorem qo_none : PO X none (tO z W mNoPart) := ⟨fun pins s σ H Q I h => po_none.run pins s σ H Q I (by
  obtain ⟨ρ, st, env, rs, re, h⟩ := h
  exact Post.ok (rel := eqO) (a := none) (st := st) h rs rfl)⟩
theorem qo_some (ha : PE X a (tE z W ma)) : PO X (some a) (tO z W (mPart ma)) := ⟨fun pins s σ H Q I h => (po_some ha).run pins s σ H Q I (by
  obtain ⟨ρ, st, env, rs, re, h⟩ := h
  refine ⟨ρ, st, env, rs, re, h.bind fun d1 s1 ρ1 H1 x e1 rs1 rv1 h1 => ?_⟩
  split at h1
  · exact ⟨_, rvi rv1, h1.ok rs1 rfl⟩
  · exact h1.elim)⟩
def mSl (ma : ME) (lo hi : MO) : ME := fun env st => (ma env st).bind fun d s1 => (lo env s1).bind fun l s2 => (hi env s2).bind fun h s3 => fSl d l h s3
theorem q_slice {lo hi : Option Expr} {ml mh : MO} {p2 : Pos} (hz : z.K = X.K) (ha : PE X a (tE z W ma)) (hl : PO X lo (tO z W ml)) (hh : PO X hi (tO z W mh)) : PE X (.Subscript a (.Slice lo hi none p2) pos) (tE z W (mSl ma ml mh)) := by
  have hr : SlR X (fun x lo hi H Q => rSlL z.K x lo hi H Q ∨ rSlA z.K x lo hi H Q ∨ rSlS x lo hi H Q) := by
    rw [hz]
    exact sl_list.or (sl_tupA.or sl_str)
  refine pe_imp (pe_slice hr ha hl hh) ?_
  rintro σ H Q ⟨ρ, st, env, rs, re, h⟩
  refine ⟨ρ, st, env, rs, re, h.bind fun d1 s1 ρ1 H1 x e1 rs1 rv1 h1 => ⟨ρ1, s1, env, rs1, re.ext e1, h1.bind fun d2 s2 ρ2 H2 y e2 rs2 rv2 h2 => ⟨ρ2, s2, env, rs2, (re.ext e1).ext e2, h2.bind fun d3 s3 ρ3 H3 w e3 rs3 rv3 h3 => ?_⟩⟩⟩
  cases rv2
  cases rv3
  have r1 := (rv1.ext e2).ext e3
  unfold fSl at h3
  split at h3
  · rename_i l
    obtain ⟨a, xs, rfl, q, r⟩ := rvt r1
    refine .inr (.inl ⟨a, xs, rfl, q, fun hw => ?_, fun _ => h3.tup rs3 (cut_rv r _ _)⟩)
    rw [← r.length] at hw
    rw [cut_all (n := 0) hw] at h3
    exact h3.ok rs3 (rv_tup q r)
  · split at h3
    · rename_i l e0
      obtain ⟨a, q, rfl⟩ := rvl r1
      obtain ⟨xs, q1, r⟩ := rs3.rdL e0 q
      exact .inl ⟨a, xs, rfl, q1, h3.lst rs3 (cut_rv r _ _)⟩
    · exact h3.elim
  · obtain ⟨a, xs, rfl, q, r⟩ := rvf r1
    exact .inl ⟨a, xs, rfl, q.sq, h3.lst rs3 (cut_rv r _ _)⟩
  · split at h3
    · rename_i hl
      exact .inr (.inr ⟨_, rvs r1, hl, h3.ok rs3 rv_str⟩)
    · exact h3.elim
  · exact h3.elim
def mRev (ma : ME) : ME := fun env st => (ma env st).bind fun d s1 => match d with
  | .loc n => match rdL s1 n with
    | some l => .ok (.loc s1.length) (s1 ++ [.lst l.reverse])
    | none => .bad
  | _ => .bad
theorem q_revL {k : Nat} {p1 p2 p3 : Pos} (hz : z.K = X.K) (ha : PE X a (tE z W ma)) : PE X (.Subscript a (.Slice none none (some (.UnaryOp .USub (.Constant (.int 1) k p1) p2)) p3) pos) (tE z W (mRev ma)) := pe_imp (pe_revL ha) (by
  rintro σ H Q ⟨ρ, st, env, rs, re, h⟩
  refine ⟨ρ, st, env, rs, re, h.bind fun d1 s1 ρ1 H1 x e1 rs1 rv1 h1 => ?_⟩
  split at h1
  · split at h1
    · rename_i l e0
      obtain ⟨a, q, rfl⟩ := rvl rv1
      obtain ⟨xs, q1, r⟩ := rs1.rdL e0 q
      exact ⟨a, xs, rfl, hz ▸ q1, h1.lst rs1 r.reverse⟩
    · exact h1.elim
  · exact h1.elim)
/-! displays -/
variable {ar : MA} {es : List Expr}
def mTup (ar : MA) : ME := fun env st => (ar env st).bind fun ds s1 => if ds.length ≤ sizeLine then .ok (.tup ds) s1 else .bad
def mLst (ar : MA) : ME := fun env st => (ar env st).bind fun ds s1 => if ds.length ≤ sizeLine then .ok (.loc s1.length) (s1 ++ [.lst ds]) else .bad
theorem qa_cons {e : Expr} (ha : PE X e (tE z W ma)) (hr : PA X es (tA z W ar)) (hs : starEach (e :: es) X.env = (false, eval e X.env) :: starEach es X.env := by rfl) : PA X (e :: es) (tA z W (mCons ma ar)) := pa_imp (pa_cons ha hr hs) s_cons
theorem q_tup {k : Nat} (ha : PA X es (tA z W ar)) : PE X (.Tuple es k pos) (tE z W (mTup ar)) := pe_imp (pe_tup ha) (by
  rintro σ H Q ⟨ρ, st, env, rs, re, h⟩
  refine ⟨ρ, st, env, rs, re, h.bind fun d1 s1 ρ1 H1 x e1 rs1 rv1 h1 => ?_⟩
  split at h1
  · rename_i hl
    exact ⟨by rw [← RVs.length rv1]; exact hl, h1.tup rs1 rv1⟩
  · exact h1.elim)
theorem q_lst (ha : PA X es (tA z W ar)) : PE X (.List es pos) (tE z W (mLst ar)) := pe_imp (pe_lst ha) (by
  rintro σ H Q ⟨ρ, st, env, rs, re, h⟩
  refine ⟨ρ, st, env, rs, re, h.bind fun d1 s1 ρ1 H1 x e1 rs1 rv1 h1 => ?_⟩
  split at h1
  · rename_i hl
    exact ⟨by rw [← RVs.length rv1]; exact hl, h1.lst rs1 rv1⟩
  · exact h1.elim)
def mDnew : ME := fun _ st => .ok (.loc st.length) (st ++ [.dic []])
theorem q_dnew : PE X (.Dict [] [] pos) (tE z W mDnew) := pe_imp pe_dnewK (by
  rintro σ H Q ⟨ρ, st, env, rs, re, h⟩ p hp
  exact Post.at (rel := RV z) (a := .loc st.length) (st := st ++ [.dic []]) h (Ext.alloc hp) (rs.alloc (o := .dic []) hp ⟨[], upd_same, rfl, RVs.nil⟩) (rv_loc rs.last))
/-! built-in functions by values -/
def mCB (f : List D → S → R D) (ar : MA) : ME := fun env st => (ar env st).bind fun ds s1 => f ds s1
theorem s_cb {r : List V → Hp → VK → Prop} {f : List D → S → R D} (hr : VA z r f) : ∀ σ H Q, tE z W (mCB f ar) σ H Q → tCB r (tA z W ar) σ H Q := by
  rintro σ H Q ⟨ρ, st, env, rs, re, h⟩
  refine ⟨ρ, st, env, rs, re, h.bind fun d1 s1 ρ1 H1 x e1 rs1 rv1 h1 => ?_⟩
  exact hr ρ1 s1 H1 x d1 Q _ rs1 rv1 h1
theorem q_callB {x : Str} {id : String} {p : Pos} {e : Expr} {r : List V → Hp → VK → Prop} {f : List D → S → R D} (hc : CallR X (.builtin id) r) (hr : VA z r f) (hg : Gl X x) (hm : X.mg x = none) (hv : bootBuiltins x = some (.builtin id)) (ha : PA X (e :: es) (tA z W ar)) (hn : x ≠ "__name__" := by decide) (hdb : (x == ("__debug__" : Str)) = false := by decide)
    (he : starEach (e :: es) X.env = (false, eval e X.env) :: starEach es X.env := by rfl) (hpl : (backTo pos (starEach es X.env)).any (·.1) = false := by rfl) : PE X (.Call (.Name x p) (e :: es) [] pos) (tE z W (mCB f ar)) := pe_imp (pe_callB hc hg hm hv ha hn hdb he hpl) (s_cb hr)
theorem q_callTy {x : Str} {T : String} {p : Pos} {e : Expr} {r : List V → Hp → VK → Prop} {f : List D → S → R D} (hc : CallR X (.type T) r) (hr : VA z r f) (hg : Gl X x) (hm : X.mg x = none) (hv : bootBuiltins x = some (.type T)) (ha : PA X (e :: es) (tA z W ar)) (hn : x ≠ "__name__" := by decide) (hdb : (x == ("__debug__" : Str)) = false := by decide)
    (he : starEach (e :: es) X.env = (false, eval e X.env) :: starEach es X.env := by rfl) (hpl : (backTo pos (starEach es X.env)).any (·.1) = false := by rfl) : PE X (.Call (.Name x p) (e :: es) [] pos) (tE z W (mCB f ar)) := pe_imp (pe_callTy hc hg hm hv ha hn hdb he hpl) (s_cb hr)
theorem rvs1 {d : D} (h : RVs z ρ H [d] xs) : ∃ x, xs = [x] ∧ RV z ρ H d x := by
  unfold RVs at h
  obtain ⟨x, r, rfl, h1, h2⟩ := h
  unfold RVs at h2
  subst h2
  exact ⟨x, rfl, h1⟩
theorem rvs0 (h : RVs z ρ H [] xs) : xs = [] := by unfold RVs at h; exact h
theorem rvs2 {d e : D} (h : RVs z ρ H [d, e] xs) : ∃ x y, xs = [x, y] ∧ RV z ρ H d x ∧ RV z ρ H e y := by
  unfold RVs at h
  obtain ⟨x, r, rfl, h1, h2⟩ := h
  obtain ⟨y, rfl, h3⟩ := rvs1 h2
  exact ⟨x, y, rfl, h1, h3⟩
def fLen : List D → S → R D
  | [.tup l], st => .ok (.int l.length) st
  | [.fl l], st => .ok (.int l.length) st
  | [.str s], st => if s.length ≤ sizeLine then .ok (.int s.length) st else .bad
  | [.loc n], st => match st[n]? with
    | some (.lst l) => .ok (.int l.length) st
    | some (.dic l) => .ok (.int l.length) st
    | _ => .bad
  | _, _ => .bad
abbrev r_len (K : PySem.W.Frag) : List V → Hp → VK → Prop := fun xs H Q => qLen K xs H Q ∨ (∃ z, xs = [.str z] ∧ z.length ≤ sizeLine ∧ Q (.int z.length) H) ∨ (∃ a kvs, xs = [V.ref a] ∧ H a = some (.dK kvs) ∧ Q (.int kvs.length) H)
theorem c_len' : CallR X (.builtin "len") (r_len X.K) := c_len.or (call_len_str.or call_lenD)
theorem v_len : VA z (r_len z.K) fLen := by
  intro ρ st H xs ds Q xw rs h1 h
  unfold fLen at h
  split at h
  · obtain ⟨x, rfl, r⟩ := rvs1 h1
    obtain ⟨a, ys, rfl, q, r⟩ := rvt r
    refine .inl ⟨a, ys, rfl, .inr q, ?_⟩
    rw [← r.length]
    exact h.ok rs rv_int
  · obtain ⟨x, rfl, r⟩ := rvs1 h1
    obtain ⟨a, ys, rfl, q, r⟩ := rvf r
    refine .inl ⟨a, ys, rfl, .inl q.sq, ?_⟩
    rw [← r.length]
    exact h.ok rs rv_int
  · obtain ⟨x, rfl, r⟩ := rvs1 h1
    split at h
    · rename_i hl
      exact .inr (.inl ⟨_, by rw [rvs r], hl, h.ok rs rv_int⟩)
    · exact h.elim
  · obtain ⟨x, rfl, r⟩ := rvs1 h1
    obtain ⟨a, q, rfl⟩ := rvl r
    split at h
    · rename_i l e
      obtain ⟨ys, q1, r1⟩ := rs.obj _ _ a e q
      refine .inl ⟨a, ys, rfl, .inl (SqL.of q1), ?_⟩
      rw [← r1.length]
      exact h.ok rs rv_int
    · rename_i l e
      obtain ⟨ys, q1, q2, r1⟩ := rs.obj _ _ a e q
      refine .inr (.inr ⟨a, ys, rfl, q1, ?_⟩)
      have : ys.length = l.length := by simpa using congrArg List.length q2
      rw [this]
      exact h.ok rs rv_int
    · exact h.elim
  · exact h.elim
def fInt : List D → S → R D
  | [.int i], st => .ok (.int i) st
  | [.bl b], st => .ok (.int (if b then 1 else 0)) st
  | _, _ => .bad
theorem v_int : VA z qInt1 fInt := by
  intro ρ st H xs ds Q xw rs h1 h
  unfold fInt at h
  split at h
  · obtain ⟨x, rfl, r⟩ := rvs1 h1
    exact .inl ⟨_, by rw [rvi r], h.ok rs rv_int⟩
  · obtain ⟨x, rfl, r⟩ := rvs1 h1
    exact .inr ⟨_, by rw [rvb r], h.ok rs rv_int⟩
  · exact h.elim
def fStr : List D → S → R D
  | [.int i], st => if i.natAbs.log2 < 1920 then .ok (.str (toString i)) st else .bad
  | [.str x], st => .ok (.str x) st
  | _, _ => .bad
abbrev r_str : List V → Hp → VK → Prop := fun xs H Q => (∃ i : Int, xs = [.int i] ∧ i.natAbs.log2 < 1920 ∧ Q (.str (toString i)) H) ∨ (∃ a, xs = [.str a] ∧ Q (.str a) H)
theorem c_str : CallR X (.type "str") r_str := call_str_int.or SkE.call_str_str
theorem v_str : VA z r_str fStr := by
  intro ρ st H xs ds Q xw rs h1 h
  unfold fStr at h
  split at h
  · obtain ⟨x, rfl, r⟩ := rvs1 h1
    split at h
    · rename_i e
      exact .inl ⟨_, by rw [rvi r], e, h.ok rs rv_str⟩
    · exact h.elim
  · obtain ⟨x, rfl, r⟩ := rvs1 h1
    exact .inr ⟨_, by rw [rvs r], h.ok rs rv_str⟩
  · exact h.elim
def fList : List D → S → R D
  | [d], st => match seqD st d with
    | some l => .ok (.loc st.length) (st ++ [.lst l])
    | none => .bad
  | _, _ => .bad
theorem v_list : VA z (qListOf z.K) fList := by
  intro ρ st H xs ds Q xw rs h1 h
  unfold fList at h
  split at h
  · obtain ⟨x, rfl, r⟩ := rvs1 h1
    split at h
    · rename_i l e
      obtain ⟨a, ys, rfl, q, r⟩ := rs_seq rs e r
      exact ⟨a, ys, rfl, q, h.lst rs r⟩
    · exact h.elim
  · exact h.elim
def fTuple : List D → S → R D
  | [d], st => match seqD st d with
    | some l => .ok (.tup l) st
    | none => .bad
  | _, _ => .bad
abbrev r_tuple (K : PySem.W.Frag) : List V → Hp → VK → Prop := fun xs H Q => ∃ p ys, xs = [.ref p] ∧ ((SqL K H p ys ∧ ∀ l, H l = none → Q (.ref l) (upd H l (.tup ys))) ∨ (SqT K H p ys ∧ Q (.ref p) H))
theorem v_tuple : VA z (r_tuple z.K) fTuple := by
  intro ρ st H xs ds Q xw rs h1 h
  unfold fTuple at h
  split at h
  · obtain ⟨x, rfl, r⟩ := rvs1 h1
    split at h
    · rename_i l e
      obtain ⟨a, ys, rfl, q, r⟩ := rs_seq rs e r
      rcases q with q | q
      · exact ⟨a, ys, rfl, .inl ⟨q, h.tup rs r⟩⟩
      · exact ⟨a, ys, rfl, .inr ⟨q, h.ok rs (rv_tup q r)⟩⟩
    · exact h.elim
  · exact h.elim
def blsD : List D → Option (List Bool)
  | [] => some []
  | .bl b :: l => (blsD l).map (b :: ·)
  | _ => none
theorem bls_rv : ∀ {l : List D} {xs : List V} {bs : List Bool}, blsD l = some bs → RVs z ρ H l xs → xs = bs.map V.bl
  | [], xs, bs, e, r => by cases e; exact rvs0 r
  | .bl b :: l, xs, bs, e, r => by
    have e' : (blsD l).map (b :: ·) = some bs := e
    obtain ⟨bs', e1, rfl⟩ := Option.map_eq_some_iff.mp e'
    unfold RVs at r
    obtain ⟨x, w, rfl, r1, r2⟩ := r
    rw [bls_rv e1 r2, rvb r1]
    rfl
  | .non :: _, _, _, e, _ => nomatch e
  | .int _ :: _, _, _, e, _ => nomatch e
  | .str _ :: _, _, _, e, _ => nomatch e
  | .ty _ :: _, _, _, e, _ => nomatch e
  | .tup _ :: _, _, _, e, _ => nomatch e
  | .loc _ :: _, _, _, e, _ => nomatch e
def fAllAny (all : Bool) : List D → S → R D
  | [.loc n], st => match rdL st n with
    | some l => match blsD l with
      | some bs => .ok (.bl (if all then bs.all id else bs.any id)) st
      | none => .bad
    | none => .bad
  | _, _ => .bad
theorem v_all : VA z (rAll z.K) (fAllAny true) := by
  intro ρ st H xs ds Q xw rs h1 h
  unfold fAllAny at h
  split at h
  · obtain ⟨x, rfl, r⟩ := rvs1 h1
    split at h
    · rename_i l e
      split at h
      · rename_i bs e2
        obtain ⟨a, q, rfl⟩ := rvl r
        obtain ⟨ys, q1, r⟩ := rs.rdL e q
        have := bls_rv e2 r
        subst this
        exact ⟨a, bs, rfl, q1, h.ok rs rv_bl⟩
      · exact h.elim
    · exact h.elim
  · exact h.elim
theorem v_any : VA z (rAny z.K) (fAllAny false) := by
  intro ρ st H xs ds Q xw rs h1 h
  unfold fAllAny at h
  split at h
  · obtain ⟨x, rfl, r⟩ := rvs1 h1
    split at h
    · rename_i l e
      split at h
      · rename_i bs e2
        obtain ⟨a, q, rfl⟩ := rvl r
        obtain ⟨ys, q1, r⟩ := rs.rdL e q
        have := bls_rv e2 r
        subst this
        exact ⟨a, bs, rfl, q1, h.ok rs rv_bl⟩
      · exact h.elim
    · exact h.elim
  · exact h.elim
def fAbs : List D → S → R D
  | [.int i], st => .ok (.int (if i < 0 then -i else i)) st
  | _, _ => .bad
theorem v_abs : VA z (fun xs H Q => ∃ i, xs = [.int i] ∧ Q (.int (if i < 0 then -i else i)) H) fAbs := by
  intro ρ st H xs ds Q xw rs h1 h
  unfold fAbs at h
  split at h
  · obtain ⟨x, rfl, r⟩ := rvs1 h1
    exact ⟨_, by rw [rvi r], h.ok rs rv_int⟩
  · exact h.elim
def fMax2 : List D → S → R D
  | [.int i, .int j], st => .ok (.int (if j > i then j else i)) st
  | _, _ => .bad
theorem v_max2 : VA z (fun xs H Q => ∃ i j, xs = [.int i, .int j] ∧ Q (.int (if j > i then j else i)) H) fMax2 := by
  intro ρ st H xs ds Q xw rs h1 h
  unfold fMax2 at h
  split at h
  · obtain ⟨x, y, rfl, r1, r2⟩ := rvs2 h1
    exact ⟨_, _, by rw [rvi r1, rvi r2], h.ok rs rv_int⟩
  · exact h.elim
def fMin2 : List D → S → R D
  | [.int i, .int j], st => .ok (.int (if j < i then j else i)) st
  | _, _ => .bad
theorem v_min2 : VA z (fun xs H Q => ∃ i j, xs = [.int i, .int j] ∧ Q (.int (if j < i then j else i)) H) fMin2 := by
  intro ρ st H xs ds Q xw rs h1 h
  unfold fMin2 at h
  split at h
  · obtain ⟨x, y, rfl, r1, r2⟩ := rvs2 h1
    exact ⟨_, _, by rw [rvi r1, rvi r2], h.ok rs rv_int⟩
  · exact h.elim
/-! isinstance -/
def tyD (st : S) : D → Option String
  | .non => some "NoneType"
  | .bl _ => some "bool"
  | .int _ => some "int"
  | .str _ => some "str"
  | .ty _ => none
  | .tup _ => some "tuple"
  | .fl _ => some "list"
  | .loc n => match st[n]? with
    | some (.lst _) => some "list"
    | some (.dic _) => some "dict"
    | _ => none
theorem ty_rv {d : D} {t : String} (rs : RS z ρ st H) (e : tyD st d = some t) (r : RV z ρ H d x) : TyX z.K H x (.type t) := by
  cases d with
  | non => cases e; rw [rvn r]; exact .base .non
  | bl b => cases e; rw [rvb r]; exact .base (.bl _)
  | int b => cases e; rw [rvi r]; exact .base (.int _)
  | str b => cases e; rw [rvs r]; exact .base (.str _)
  | ty b => cases e
  | tup l =>
    cases e
    obtain ⟨a, xs, rfl, q, _⟩ := rvt r
    rcases q with (h | ⟨o, h⟩) | ⟨o, _, _, h, c, _⟩
    · exact .base (.tup h)
    · exact .fTuple h
    · exact .kTuple h c
  | fl l =>
    cases e
    obtain ⟨a, xs, rfl, q, _⟩ := rvf r
    rcases q with ⟨o, h⟩ | ⟨o, _, _, h, c, _⟩
    · exact .base (.frz h)
    · exact .kList h c
  | loc n =>
    obtain ⟨a, q, rfl⟩ := rvl r
    have e' : (match st[n]? with | some (.lst _) => some "list" | some (.dic _) => some "dict" | _ => none) = some t := e
    split at e'
    · rename_i l e0
      cases e'
      obtain ⟨xs, h1, _⟩ := rs.obj n _ a e0 q
      exact .base (.lst h1)
    · rename_i l e0
      cases e'
      obtain ⟨xs, h1, _⟩ := rs.obj n _ a e0 q
      exact .base (.dK h1)
    · cases e'
/-- isinstance(x, c) of types that the tables know -/
def isiT (t c : String) : Option Bool :=
  if t ∈ ["NoneType", "bool", "int", "str", "tuple", "list", "dict"] ∧ c ∈ ["bool", "int", "str", "tuple", "list", "dict"] then some (t == c || (t == "bool" && c == "int")) else none
theorem isi_kit {t c : String} {b : Bool} (h : isiT t c = some b) : kitB t c = some b := by
  unfold isiT at h
  split at h
  · rename_i q
    obtain ⟨q1, q2⟩ := q
    simp only [List.mem_cons, List.not_mem_nil, or_false] at q1 q2
    have h := (Option.some.inj h).symm
    rcases q1 with rfl | rfl | rfl | rfl | rfl | rfl | rfl <;> rcases q2 with rfl | rfl | rfl | rfl | rfl | rfl <;> (subst h; decide +kernel)
  · cases h
def fIsi : List D → S → R D
  | [d, .ty c], st => match tyD st d with
    | some t => match isiT t c with
      | some b => .ok (.bl b) st
      | none => .bad
    | none => .bad
  | _, _ => .bad
theorem v_isi : VA z (rIsi z.K) fIsi := by
  intro ρ st H xs ds Q xw rs h1 h
  unfold fIsi at h
  split at h
  · obtain ⟨x, y, rfl, r1, r2⟩ := rvs2 h1
    rw [rvy r2]
    split at h
    · rename_i t e
      split at h
      · rename_i b e2
        exact ⟨x, .ty _, .type t, .type _, b, rfl, .ty _, ty_rv rs e r1, kit_ty (isi_kit e2), h.ok rs rv_bl⟩
      · exact h.elim
    · exact h.elim
  · exact h.elim
end
end Mm

namespace Mm
open PySem PySem.Spec PyProof.Rows L2 Lb
section
variable {X : Cx} {z : Zc} {W : WM} {ρ ρ' : List Addr} {st : S} {H H' : Hp} {v x y : V} {l m : List D} {xs ys : List V} {Q : VK} {xw : XW} {a b c e : Expr} {ma mb mc mo : ME} {mt mu : MT} {pos : Pos} {ar : MA} {es : List Expr}
/-! methods by values -/
def VM (z : Zc) (r : V → List V → Hp → VK → Prop) (f : D → List D → S → R D) : Prop := ∀ ρ st H x xs d ds Q xw, RS z ρ st H → RV z ρ H d x → RVs z ρ H ds xs → Post z (RV z) ρ H (f d ds st) Q xw → r x xs H Q
/-- a machine's small int -/
def okR (i : Int) : Bool := Nat.blt i.natAbs 4611686018427387904
theorem okR_of {i : Int} (h : okR i = true) : -(2 ^ 62) ≤ i ∧ i < 2 ^ 62 := by
  unfold okR at h
  rw [Nat.blt_eq] at h
  omega
theorem okR_mk {i : Int} (h1 : 0 ≤ i) (h2 : i ≤ 100000) : okR i = true := by
  unfold okR
  rw [Nat.blt_eq]
  omega
/-- of a list -/
def mBL (f : D → List D → S → R D) (mo : ME) (ar : MA) : ME := fun env st => (mo env st).bind fun o s1 => match o with
  | .loc n => match rdL s1 n with
    | some _ => (ar env s1).bind fun ds s2 => f o ds s2
    | none => .bad
  | _ => .bad
theorem s_bl {r : V → List V → Hp → VK → Prop} {f : D → List D → S → R D} (hr : VM z r f) : ∀ σ H Q, tE z W (mBL f mo ar) σ H Q → tBM z.K "list" r (tE z W mo) (tA z W ar) σ H Q := by
  rintro σ H Q ⟨ρ, st, env, rs, re, h⟩
  refine ⟨ρ, st, env, rs, re, h.bind fun d s1 ρ1 H1 x e1 rs1 rv1 h1 => ?_⟩
  split at h1
  · split at h1
    · rename_i l q0
      obtain ⟨p, p1, rfl⟩ := rvl rv1
      obtain ⟨ys, q1, _⟩ := rs1.rdL q0 p1
      exact ⟨.inl ⟨rfl, _, q1⟩, ρ1, s1, env, rs1, re.ext e1, h1.bind fun ds s2 ρ2 H2 vs e2 rs2 rv2 h2 => hr ρ2 s2 H2 _ vs _ ds Q _ rs2 (rv1.ext e2) rv2 h2⟩
    · exact h1.elim
  · exact h1.elim
theorem s_bl0 {r : V → List V → Hp → VK → Prop} {f : D → List D → S → R D} (hr : VM z r f) : ∀ σ H Q, tE z W (mBL f mo mNil) σ H Q → tBM0 z.K "list" r (tE z W mo) σ H Q := by
  rintro σ H Q ⟨ρ, st, env, rs, re, h⟩
  refine ⟨ρ, st, env, rs, re, h.bind fun d s1 ρ1 H1 x e1 rs1 rv1 h1 => ?_⟩
  split at h1
  · split at h1
    · rename_i l q0
      obtain ⟨p, p1, rfl⟩ := rvl rv1
      obtain ⟨ys, q1, _⟩ := rs1.rdL q0 p1
      exact ⟨.inl ⟨rfl, _, q1⟩, hr ρ1 s1 H1 _ [] _ [] Q _ rs1 rv1 RVs.nil h1⟩
    · exact h1.elim
  · exact h1.elim
theorem q_bl {name id : String} {cpos apos : Pos} {r : V → List V → Hp → VK → Prop} {f : D → List D → S → R D} (hz : z.K = X.K) (slot : Slot "list" name id) (hty : typeOf (.builtin id) = pure (.type "method_descriptor")) (hm : MtR X id r) (hr : VM z r f) (ho : PE X a (tE z W mo)) (ha : PA X (e :: es) (tA z W ar))
    (hbase : attributeBase a name X.env (eval a X.env) = eval a X.env := by rfl)
    (hfew : ((backTo cpos (starEach (e :: es) X.env)).all (fun x => !x.1) && (backToKw cpos (keywordEach [] X.env)).all (fun x => x.1.isSome)
      && decide ((e :: es).length + ([] : List Keyword).length + (if ([] : List Keyword).isEmpty then 0 else 1) < 30)) = true := by rfl)
    (hline : (apos.endLine == cpos.line) = true := by rfl) (hs : starEach (e :: es) X.env = (false, eval e X.env) :: starEach es X.env := by rfl) (hplain : (backTo cpos (starEach es X.env)).any (·.1) = false := by rfl) :
    PE X (.Call (.Attribute a name apos) (e :: es) [] cpos) (tE z W (mBL f mo ar)) := pe_imp (pe_bm PySem.F.plainAttrs_list slot hty hm ho ha hbase hfew hline hs hplain) (by rw [← hz]; exact s_bl hr)
theorem q_bl0 {name id : String} {cpos apos : Pos} {r : V → List V → Hp → VK → Prop} {f : D → List D → S → R D} (hz : z.K = X.K) (slot : Slot "list" name id) (hty : typeOf (.builtin id) = pure (.type "method_descriptor")) (hm : MtR X id r) (hr : VM z r f) (ho : PE X a (tE z W mo))
    (hbase : attributeBase a name X.env (eval a X.env) = eval a X.env := by rfl)
    (hline : (apos.endLine == cpos.line) = true := by rfl) :
    PE X (.Call (.Attribute a name apos) [] [] cpos) (tE z W (mBL f mo mNil)) := pe_imp (pe_bm0 PySem.F.plainAttrs_list slot hty hm ho hbase hline) (by rw [← hz]; exact s_bl0 hr)
/-- a list of the store that changes -/
theorem Post.put {n : Nat} {p : Addr} {l l' : List D} {xs xs' : List V} {d : D} {w : V} (h : Post z (RV z) ρ H (.ok d (st.set n (.lst l'))) Q xw) (rs : RS z ρ st H) (e0 : st[n]? = some (.lst l)) (e1 : ρ[n]? = some p) (he : H p = some (.lst xs)) (r : RVs z ρ H l' xs') (rw : RV z ρ H d w) : Q w (upd H p (.lst xs')) := by
  obtain ⟨e, rs'⟩ := rs.put_lst e0 e1 he r
  exact h.at e rs' (rw.ext e)
def fAppend : D → List D → S → R D
  | .loc n, [d], st => match st[n]? with
    | some (.lst l) => if l.length < sizeLine then .ok .non (st.set n (.lst (l ++ [d]))) else .bad
    | _ => .bad
  | _, _, _ => .bad
theorem v_append : VM z rAppend fAppend := by
  intro ρ st H x xs d ds Q xw rs h1 h2 h
  unfold fAppend at h
  split at h
  · split at h
    · rename_i l e
      split at h
      · rename_i hl
        obtain ⟨y, rfl, r⟩ := rvs1 h2
        obtain ⟨p, p1, rfl⟩ := rvl h1
        obtain ⟨ys, q1, r1⟩ := rs.lst e p1
        exact ⟨p, ys, y, rfl, rfl, q1, by rw [← r1.length]; exact hl, h.put rs e p1 q1 (r1.append (RVs.cons r RVs.nil)) rv_non⟩
      · exact h.elim
    · exact h.elim
  · exact h.elim
abbrev rInsert : V → List V → Hp → VK → Prop := fun x vs H Q => ∃ (l : Addr) (xs : List V) (i : Int) (y : V), x = .ref l ∧ vs = [.int i, y] ∧ H l = some (.lst xs) ∧ xs.length < sizeLine ∧ 0 ≤ i ∧ i < 2 ^ 63 ∧
    Q .non (upd H l (.lst (xs.take i.toNat ++ [y] ++ xs.drop i.toNat)))
def fInsert : D → List D → S → R D
  | .loc n, [.int i, d], st => match st[n]? with
    | some (.lst l) => if l.length < sizeLine ∧ 0 ≤ i ∧ okR i = true then .ok .non (st.set n (.lst (l.take i.toNat ++ [d] ++ l.drop i.toNat))) else .bad
    | _ => .bad
  | _, _, _ => .bad
theorem v_insert : VM z rInsert fInsert := by
  intro ρ st H x xs d ds Q xw rs h1 h2 h
  unfold fInsert at h
  split at h
  · split at h
    · rename_i l e
      split at h
      · rename_i hl
        obtain ⟨y1, y, rfl, r0, r⟩ := rvs2 h2
        rw [rvi r0]
        obtain ⟨p, p1, rfl⟩ := rvl h1
        obtain ⟨ys, q1, r1⟩ := rs.lst e p1
        exact ⟨p, ys, _, y, rfl, rfl, q1, by rw [← r1.length]; exact hl.1, hl.2.1, by have := okR_of hl.2.2; omega, h.put rs e p1 q1 (((r1.take _).append (RVs.cons r RVs.nil)).append (r1.drop _)) rv_non⟩
      · exact h.elim
    · exact h.elim
  · exact h.elim
def fPop : D → List D → S → R D
  | .loc n, [], st => match st[n]? with
    | some (.lst l) => match l[l.length - 1]? with
      | some d => .ok d (st.set n (.lst l.dropLast))
      | none => .bad
    | _ => .bad
  | _, _, _ => .bad
theorem v_pop : VM z rPop fPop := by
  intro ρ st H x xs d ds Q xw rs h1 h2 h
  unfold fPop at h
  split at h
  · split at h
    · rename_i l e
      split at h
      · rename_i d e2
        obtain rfl := rvs0 h2
        obtain ⟨p, p1, rfl⟩ := rvl h1
        obtain ⟨ys, q1, r1⟩ := rs.lst e p1
        obtain ⟨w, w1, w2⟩ := r1.get e2
        have r3 := r1.take (l.length - 1)
        rw [← List.dropLast_eq_take, r1.length, ← List.dropLast_eq_take] at r3
        exact ⟨p, ys, w, rfl, rfl, q1, by rw [← r1.length]; exact w1, h.put rs e p1 q1 r3 w2⟩
      · exact h.elim
    · exact h.elim
  · exact h.elim
def fPopAt : D → List D → S → R D
  | .loc n, [.int i], st => match st[n]? with
    | some (.lst l) => match seqIndex? i l.length with
      | some k => match l[k]? with
        | some d => if okR i = true then .ok d (st.set n (.lst (l.eraseIdx k))) else .bad
        | none => .bad
      | none => .bad
    | _ => .bad
  | _, _, _ => .bad
theorem v_popAt : VM z rPopAt fPopAt := by
  intro ρ st H x xs d ds Q xw rs h1 h2 h
  unfold fPopAt at h
  split at h
  · split at h
    · rename_i l e
      split at h
      · rename_i k e1
        split at h
        · rename_i d e2
          split at h
          · rename_i hb
            obtain ⟨y, rfl, r0⟩ := rvs1 h2
            rw [rvi r0]
            obtain ⟨p, p1, rfl⟩ := rvl h1
            obtain ⟨ys, q1, r1⟩ := rs.lst e p1
            obtain ⟨w, w1, w2⟩ := r1.get e2
            exact ⟨p, ys, _, k, w, rfl, rfl, q1, by have := okR_of hb; omega, by have := okR_of hb; omega, by rw [← r1.length]; exact e1, w1, h.put rs e p1 q1 (r1.eraseIdx k) w2⟩
          · exact h.elim
        · exact h.elim
      · exact h.elim
    · exact h.elim
  · exact h.elim
def fReverse : D → List D → S → R D
  | .loc n, [], st => match st[n]? with
    | some (.lst l) => .ok .non (st.set n (.lst l.reverse))
    | _ => .bad
  | _, _, _ => .bad
theorem v_reverse : VM z rReverse fReverse := by
  intro ρ st H x xs d ds Q xw rs h1 h2 h
  unfold fReverse at h
  split at h
  · split at h
    · rename_i l e
      obtain rfl := rvs0 h2
      obtain ⟨p, p1, rfl⟩ := rvl h1
      obtain ⟨ys, q1, r1⟩ := rs.lst e p1
      exact ⟨p, ys, rfl, rfl, q1, h.put rs e p1 q1 r1.reverse rv_non⟩
    · exact h.elim
  · exact h.elim
def fExtend : D → List D → S → R D
  | .loc n, [.loc k], st => match st[n]?, st[k]? with
    | some (.lst l), some (.lst m) => if l.length + m.length ≤ sizeLine then .ok .non (st.set n (.lst (l ++ m))) else .bad
    | _, _ => .bad
  | _, _, _ => .bad
theorem v_extend : VM z rExtend fExtend := by
  intro ρ st H x xs d ds Q xw rs h1 h2 h
  unfold fExtend at h
  split at h
  · split at h
    · rename_i l m e e2
      split at h
      · rename_i hl
        obtain ⟨y, rfl, r⟩ := rvs1 h2
        obtain ⟨p, p1, rfl⟩ := rvl h1
        obtain ⟨p', p1', rfl⟩ := rvl r
        obtain ⟨ys, q1, r1⟩ := rs.lst e p1
        obtain ⟨zs, q2, r2⟩ := rs.lst e2 p1'
        exact ⟨p, p', ys, zs, rfl, rfl, q1, q2, by rw [← r1.length, ← r2.length]; exact hl, h.put rs e p1 q1 (r1.append r2) rv_non⟩
      · exact h.elim
    · exact h.elim
  · exact h.elim
/-- the first place of what is equal -/
def fiD (l : List D) (d : D) : Option Nat := l.findIdx? fun e => eqF e d
theorem fiD_some {d : D} {j : Nat} (h : fiD l d = some j) : (∃ e, l[j]? = some e ∧ eqF e d = true) ∧ ∀ (m : Nat) e, m < j → l[m]? = some e → eqF e d = false := by
  unfold fiD at h
  rw [List.findIdx?_eq_some_iff_getElem] at h
  obtain ⟨h1, h2, h3⟩ := h
  refine ⟨⟨l[j], List.getElem?_eq_getElem h1, h2⟩, fun m e hm he => ?_⟩
  have := h3 m hm
  rw [List.getElem?_eq_getElem (by omega)] at he
  cases he
  simpa using this
theorem fi_rv {d : D} {j : Nat} (fd : flat d = true) (fl : l.all flat = true) (hd : RV z ρ H d x) (r : RVs z ρ H l xs) (h : fiD l d = some j) :
    (∃ w, xs[j]? = some w ∧ eqV w x = true) ∧ ∀ (m : Nat) w, m < j → xs[m]? = some w → eqV w x = false := by
  obtain ⟨⟨e, e1, e2⟩, e3⟩ := fiD_some h
  have fl' : ∀ e ∈ l, flat e = true := by simpa using fl
  obtain ⟨w, w1, w2⟩ := r.get e1
  refine ⟨⟨w, w1, ?_⟩, fun m w' hm hw => ?_⟩
  · rw [eqF_rv (fl' e (List.mem_of_getElem? e1)) fd w2 hd]
    exact e2
  · have hml : m < l.length := by
      have := (List.getElem?_eq_some_iff.mp hw).1
      rw [← r.length] at this
      exact this
    have q := List.getElem?_eq_getElem hml
    rw [eqF_rv (fl' _ (List.mem_of_getElem? q)) fd (r.at q hw) hd]
    exact e3 m _ hm q
def fIndex : D → List D → S → R D
  | .loc n, [d], st => match rdL st n with
    | some l => if flat d && l.all flat then match fiD l d with
      | some j => .ok (.int (j : Nat)) st
      | none => .bad else .bad
    | none => .bad
  | _, _, _ => .bad
theorem v_index : VM z (rIndex z.K) fIndex := by
  intro ρ st H x xs d ds Q xw rs h1 h2 h
  unfold fIndex at h
  split at h
  · split at h
    · rename_i l e
      split at h
      · rename_i hf
        rw [Bool.and_eq_true] at hf
        split at h
        · rename_i j ej
          obtain ⟨y, rfl, r⟩ := rvs1 h2
          obtain ⟨p, p1, rfl⟩ := rvl h1
          obtain ⟨ys, q1, r1⟩ := rs.rdL e p1
          obtain ⟨⟨w, w1, w2⟩, w3⟩ := fi_rv hf.1 hf.2 r r1 ej
          exact ⟨p, ys, y, j, w, rfl, rfl, q1, flat_rv hf.1 r, flats_rv hf.2 r1, w1, w2, w3, h.ok rs rv_int⟩
        · exact h.elim
      · exact h.elim
    · exact h.elim
  · exact h.elim
/-- xs.remove(y) of flat items, y there -/
def rRemF : V → List V → Hp → VK → Prop := fun x vs H Q => ∃ (l : Addr) (xs : List V) (y : V) (j : Nat) (w : V), x = .ref l ∧ vs = [y] ∧ H l = some (.lst xs) ∧ flatV y = true ∧ xs.all flatV = true ∧ xs[j]? = some w ∧ eqV w y = true ∧
  (∀ (m : Nat) w', m < j → xs[m]? = some w' → eqV w' y = false) ∧ Q .non (upd H l (.lst (xs.eraseIdx j)))
theorem mt_removeF : MtM X "list.remove" rRemF := by
  intro pins s σ H x vs v us Q I rx rvv h
  obtain ⟨l, xs, y, j, w, rfl, rfl, hH, fy, fx, hj, ej, hno, q⟩ := h
  cases rx
  obtain ⟨u, rfl, ru⟩ := rvv.one
  obtain ⟨hsz, its, n, r, hl, e⟩ := I.lstM hH
  have hvl := r.length
  have fx' : ∀ e ∈ xs, flatV e = true := by simpa using fx
  have hjn : j < xs.length := (List.getElem?_eq_some_iff.mp hj).1
  have hjl : j < its.toArray.size := by rw [List.size_toArray]; omega
  have at_ : ∀ (m : Nat) (c : V), xs[m]? = some c → ∃ h : m < its.toArray.size, RelV c its.toArray[m] := fun m c hm => by
    obtain ⟨w', hw, rw'⟩ := r.get hm
    obtain ⟨g1, g2⟩ := List.getElem?_eq_some_iff.mp hw
    exact ⟨by rw [List.size_toArray]; exact g1, by rw [List.getElem_toArray, g2]; exact rw'⟩
  refine call_meets PySem.F.slot_list_remove ⟨_, e, rfl⟩ PySem.F.entry_list_remove (PySem.F.args_list_remove_2 _ _)
    (SeqAt.list_removeAt l its.toArray n _ _ u (eqU y) j hjl ?_ ?_ (by rw [List.size_toArray]; omega)) ⟨e, fun c hc => mem_eqAt ru fy r fx c (by simpa using hc), ?_⟩
  · obtain ⟨g1, g2⟩ := at_ j w hj
    rw [eqU_of g2 (fx' _ (List.mem_of_getElem? hj)), ej]
  · intro m hm hmj
    have hmk := List.getElem?_eq_getElem (show m < xs.length by omega)
    obtain ⟨g1, g2⟩ := at_ m _ hmk
    rw [eqU_of g2 (fx' _ (List.mem_of_getElem? hmk)), hno m _ hmj hmk]
  · refine ⟨.non, _, I.lset (its' := its.eraseIdx j) (t' := s.toks) hH e ?_ (r.eraseIdx j) ?_, rfl, q⟩
    · show its.toArray.eraseIdxIfInBounds j = (its.eraseIdx j).toArray
      exact List.eraseIdxIfInBounds_toArray ..
    · have := List.length_eraseIdx_le (l := xs) (i := j)
      omega
def fRemove : D → List D → S → R D
  | .loc n, [d], st => match st[n]? with
    | some (.lst l) => if flat d && l.all flat then match fiD l d with
      | some j => .ok .non (st.set n (.lst (l.eraseIdx j)))
      | none => .bad else .bad
    | _ => .bad
  | _, _, _ => .bad
theorem v_remove : VM z rRemF fRemove := by
  intro ρ st H x xs d ds Q xw rs h1 h2 h
  unfold fRemove at h
  split at h
  · split at h
    · rename_i l e
      split at h
      · rename_i hf
        rw [Bool.and_eq_true] at hf
        split at h
        · rename_i j ej
          obtain ⟨y, rfl, r⟩ := rvs1 h2
          obtain ⟨p, p1, rfl⟩ := rvl h1
          obtain ⟨ys, q1, r1⟩ := rs.lst e p1
          obtain ⟨⟨w, w1, w2⟩, w3⟩ := fi_rv hf.1 hf.2 r r1 ej
          exact ⟨p, ys, y, j, w, rfl, rfl, q1, flat_rv hf.1 r, flats_rv hf.2 r1, w1, w2, w3, h.put rs e p1 q1 (r1.eraseIdx j) rv_non⟩
        · exact h.elim
      · exact h.elim
    · exact h.elim
  · exact h.elim
end
/-! ### statements -/
section
variable {X : Cx} {z : Zc} {W : WM} {ρ ρ' : List Addr} {H H' : Hp} {a b c e tg : Expr} {ma mb mc mo : ME} {mt mu : MT} {pos : Pos} {s1 s2 : Stmt} {ss : List Stmt} {g : MG} {ms mr : MS}
def mNext : MS := fun env st => .nx env st
def mSeq (p q : MS) : MS := fun env st => (p env st).bindN q
def mAsg (m : ME) (g : MG) : MS := fun env st => (m env st).bindS env fun d s1 => match g d env s1 with
  | .ok env' s2 => .nx env' s2
  | _ => .bad
def gNm (i : Nat) : MG := fun d env st => .ok (env.set i (some d)) st
def mRet (m : ME) : MS := fun env st => (m env st).bindS env fun d s1 => .rt d s1
def mRetN : MS := fun _ st => .rt .non st
def mDrop (m : ME) : MS := fun env st => (m env st).bindS env fun _ s1 => .nx env s1
def mBrk : MS := fun env st => .bk env st
def mCnt : MS := fun env st => .ct env st
def mIfS (t : MT) (p q : MS) : MS := fun env st => (t env st).bindS env fun c s1 => if c = true then p env s1 else q env s1
def mNever : MS := fun _ _ => .bad
theorem s_seq : ∀ D σ H, tS z W (mSeq ms mr) D σ H → tSeq (tS z W ms) (tS z W mr) D σ H := by
  rintro D σ H ⟨ρ, st, env, rs, re, h⟩
  refine ⟨ρ, st, env, rs, re, ?_⟩
  unfold mSeq at h
  cases q : ms env st with
  | nx env1 st1 =>
    rw [q] at h
    intro ρ1 H1 σ1 e1 rs1 re1
    exact ⟨ρ1, st1, env1, rs1, re1, PostS.mono h e1⟩
  | rt d s => rw [q] at h; exact h
  | bk d s => rw [q] at h; exact h
  | ct d s => rw [q] at h; exact h
  | ex c f d s => rw [q] at h; exact h
  | bad => rw [q] at h; exact h
theorem qs_nil : PSs X [] (tS z W mNext) := pss_imp pss_nil fun D σ H ⟨ρ, st, env, rs, re, h⟩ => h ρ H σ Ext.refl rs re
theorem qs_cons (h1 : PS X s1 (tS z W ms)) (h2 : PSs X ss (tS z W mr)) : PSs X (s1 :: ss) (tS z W (mSeq ms mr)) := pss_imp (pss_cons h1 h2) s_seq
theorem qs_one (h1 : PS X s1 (tS z W ms)) : PSs X [s1] (tS z W ms) := pss_one h1
theorem q_pass : PS X (.Pass pos) (tS z W mNext) := ps_imp ps_pass fun D σ H ⟨ρ, st, env, rs, re, h⟩ => h ρ H σ Ext.refl rs re
theorem q_break : PS X (.Break pos) (tS z W mBrk) := ps_imp ps_break fun D σ H ⟨ρ, st, env, rs, re, h⟩ => h ρ H σ Ext.refl rs re
theorem q_continue : PS X (.Continue pos) (tS z W mCnt) := ps_imp ps_continue fun D σ H ⟨ρ, st, env, rs, re, h⟩ => h ρ H σ Ext.refl rs re
theorem q_never : PS X s1 (tS z W mNever) := ps_imp ps_never fun D σ H ⟨ρ, st, env, rs, re, h⟩ => h
theorem s_asg : ∀ D σ H, tS z W (mAsg ma g) D σ H → tAsg (tE z W ma) (tG z g) D σ H := by
  rintro D σ H ⟨ρ, st, env, rs, re, h⟩
  refine ⟨ρ, st, env, rs, re, Post.bindS h re fun d s1 ρ1 H1 x e1 rs1 rv1 h1 => ⟨ρ1, s1, env, d, rs1, re.ext e1, rv1, ?_⟩⟩
  cases q : g d env s1 with
  | ok env' s2 =>
    rw [q] at h1
    exact h1
  | ex c f s => rw [q] at h1; exact h1.elim
  | bad => rw [q] at h1; exact h1.elim
theorem s_gnm {i : Nat} : ∀ v σ H Q, tG z (gNm i) v σ H Q → gName i v σ H Q := by
  rintro v σ H Q ⟨ρ, st, env, d, rs, re, rv, h⟩
  exact Post.ok (rel := RE z) (a := env.set i (some d)) h rs (re.set rv i)
theorem q_set {i : Nat} {x : Str} {pos' : Pos} (hN : X.N.Nodup) (hi : X.N[i]? = some x) (hx : Loc X.env.scope x) (he : PE X e (tE z W ma)) (hs : swapsWith e (some (.Name x pos')) pos.line X.env = pure false := by rfl) (hf : X.fn x = true ∨ X.env.scope.names.lookup x = some .local := by first | exact .inl rfl | exact .inr rfl | assumption) :
    PS X (.Assign [.Name x pos'] e pos) (tS z W (mAsg ma (gNm i))) := ps_imp (ps_set hN hi hx he hs hf) fun D σ H h => by
  obtain ⟨ρ, st, env, rs, re, h⟩ := h
  refine ⟨ρ, st, env, rs, re, Post.bindS h re fun d s1 ρ1 H1 x e1 rs1 rv1 h1 => ?_⟩
  exact h1 ρ1 H1 _ Ext.refl rs1 ((re.ext e1).set rv1 i)
theorem q_asg (he : PE X e (tE z W ma)) (hg : PG X tg (tG z g)) (hs : swapsWithSole [tg] e pos.line X.env = pure false := by rfl) (hw : swappedStores [tg] e X.env = pure none := by rfl)
    (h1 : (assignEach [tg] X.env).map (·.2) = [assign tg X.env] := by rfl) : PS X (.Assign [tg] e pos) (tS z W (mAsg ma g)) := ps_imp (ps_asg he hg hs hw h1) s_asg
theorem q_ret (he : PE X e (tE z W ma)) : PS X (.Return (some e) pos) (tS z W (mRet ma)) := ps_imp (ps_ret he) fun D σ H ⟨ρ, st, env, rs, re, h⟩ =>
  ⟨ρ, st, env, rs, re, Post.bindS h re fun d s1 ρ1 H1 x e1 rs1 rv1 h1 => h1 ρ1 H1 x Ext.refl rs1 rv1⟩
theorem q_retN : PS X (.Return none pos) (tS z W mRetN) := ps_imp ps_retN fun D σ H ⟨ρ, st, env, rs, re, h⟩ => h ρ H .non Ext.refl rs rv_non
theorem q_expr (he : PE X e (tE z W ma)) (hs : swapsWith e none pos.line X.env = pure false := by rfl) : PS X (.Expr e pos) (tS z W (mDrop ma)) := ps_imp (ps_expr he hs) fun D σ H ⟨ρ, st, env, rs, re, h⟩ =>
  ⟨ρ, st, env, rs, re, Post.bindS h re fun d s1 ρ1 H1 x e1 rs1 rv1 h1 => h1 ρ1 H1 σ Ext.refl rs1 (re.ext e1)⟩
theorem q_if {p q : List Stmt} (hc : PT X c (tT z W mt)) (ha : PSs X p (tS z W ms)) (hb : PSs X q (tS z W mr)) : PS X (.If c p q pos) (tS z W (mIfS mt ms mr)) := ps_imp (ps_if hc ha hb) fun D σ H ⟨ρ, st, env, rs, re, h⟩ =>
  ⟨ρ, st, env, rs, re, Post.bindS h re fun d s1 ρ1 H1 x e1 rs1 rv1 h1 => by
    cases rv1
    cases d with
    | true => exact ⟨ρ1, s1, env, rs1, re.ext e1, h1⟩
    | false => exact ⟨ρ1, s1, env, rs1, re.ext e1, h1⟩⟩
/-! targets -/
abbrev MGs := List D → Ev → S → R Ev
def tGs (z : Zc) (m : MGs) : TGs := fun vs σ H Q => ∃ ρ st env ds, RS z ρ st H ∧ RE z ρ H env σ ∧ RVs z ρ H ds vs ∧ Post z (RE z) ρ H (m ds env st) Q (fun _ _ _ _ _ => False)
def gNl : MGs := fun ds env st => match ds with
  | [] => .ok env st
  | _ => .bad
def gCn (g : MG) (r : MGs) : MGs := fun ds env st => match ds with
  | d :: l => (g d env st).bind fun env' s1 => r l env' s1
  | [] => .bad
def gTp (n : Nat) (r : MGs) : MG := fun d env st => match d with
  | .tup l => if l.length = n then r l env st else .bad
  | _ => .bad
theorem s_gnl : ∀ vs σ H Q, tGs z gNl vs σ H Q → gNil vs σ H Q := by
  rintro vs σ H Q ⟨ρ, st, env, ds, rs, re, rv, h⟩
  unfold gNl at h
  split at h
  · exact ⟨rvs0 rv, h.ok rs re⟩
  · exact h.elim
theorem s_gcn {r : MGs} {t : TG} {u : TGs} (hg : ∀ v σ H Q, tG z g v σ H Q → t v σ H Q) (hr : ∀ vs σ H Q, tGs z r vs σ H Q → u vs σ H Q) (tm : ∀ v σ H Q Q', t v σ H Q → (∀ σ' H', Q σ' H' → Q' σ' H') → t v σ H Q') : ∀ vs σ H Q, tGs z (gCn g r) vs σ H Q → gCons t u vs σ H Q := by
  rintro vs σ H Q ⟨ρ, st, env, ds, rs, re, rv, h⟩
  unfold gCn at h
  split at h
  · rename_i d l
    unfold RVs at rv
    obtain ⟨x, w, rfl, r1, r2⟩ := rv
    refine ⟨x, w, rfl, tm _ _ _ _ _ (hg x σ H _ ⟨ρ, st, env, d, rs, re, r1, h.bind (rel := RE z) (P := fun σ1 H1 => tGs z r w σ1 H1 Q) fun env1 s1 ρ1 H1 σ1 e1 rs1 re1 h1 => ⟨ρ1, s1, env1, l, rs1, re1, r2.ext e1, h1⟩⟩) fun σ' H' q => hr _ _ _ _ q⟩
  · exact h.elim
theorem s_gtp {n : Nat} {r : MGs} {u : TGs} (hr : ∀ vs σ H Q, tGs z r vs σ H Q → u vs σ H Q) : ∀ v σ H Q, tG z (gTp n r) v σ H Q → gTup z.K n u v σ H Q := by
  rintro v σ H Q ⟨ρ, st, env, d, rs, re, rv, h⟩
  unfold gTp at h
  split at h
  · rename_i l
    split at h
    · rename_i hl
      obtain ⟨a, xs, rfl, q, r1⟩ := rvt rv
      exact ⟨a, xs, rfl, q, by rw [← r1.length]; exact hl, hr _ _ _ _ ⟨ρ, st, env, l, rs, re, r1, h⟩⟩
    · exact h.elim
  · exact h.elim
theorem tG_mono {v : V} {σ : L2.St} {Q Q' : L2.St → Hp → Prop} (h : tG z g v σ H Q) (i : ∀ σ' H', Q σ' H' → Q' σ' H') : tG z g v σ H Q' := by
  obtain ⟨ρ, st, env, d, rs, re, rv, h⟩ := h
  refine ⟨ρ, st, env, d, rs, re, rv, ?_⟩
  cases q : g d env st with
  | ok a s => rw [q] at h; exact fun ρ1 H1 σ1 e rs re => i _ _ (h ρ1 H1 σ1 e rs re)
  | ex c f s => rw [q] at h; exact fun ρ1 H1 e rs => h ρ1 H1 e rs
  | bad => rw [q] at h; exact h
theorem qg_name {i : Nat} {x : Str} (hN : X.N.Nodup) (hi : X.N[i]? = some x) (hx : Loc X.env.scope x) (hf : X.fn x = true ∨ X.env.scope.names.lookup x = some .local := by first | exact .inl rfl | exact .inr rfl | assumption) : PG X (.Name x pos) (tG z (gNm i)) := pg_imp (pg_name hN hi hx hf) s_gnm
theorem qgs_nil : PGs X [] (tGs z gNl) := ⟨fun pins s σ H vs us Q I r h => pgs_nil.run pins s σ H vs us Q I r (s_gnl _ _ _ _ h)⟩
theorem qgs_cons {ts : List Expr} {r : MGs} (h1 : PG X e (tG z g)) (h2 : PGs X ts (tGs z r)) (hs : (assignEach (e :: ts) X.env).map (·.2) = assign e X.env :: (assignEach ts X.env).map (·.2) := by rfl) : PGs X (e :: ts) (tGs z (gCn g r)) :=
  ⟨fun pins s σ H vs us Q I rr h => (pgs_cons h1 h2 hs).run pins s σ H vs us Q I rr (s_gcn (fun _ _ _ _ h => h) (fun _ _ _ _ h => h) (fun _ _ _ _ _ h i => tG_mono h i) _ _ _ _ h)⟩
theorem qg_tup {ts : List Expr} {k : Nat} {r : MGs} {n : Nat} (hz : z.K = X.K) (hc : X.calm = true) (h : PGs X ts (tGs z r)) (hn : (assignEach ts X.env).length = n := by rfl) (hst : (assignEach ts X.env).findIdx? (·.1) = none := by rfl) : PG X (.Tuple ts k pos) (tG z (gTp n r)) :=
  pg_imp (pg_tup hc h hn hst) (by rw [← hz]; exact s_gtp fun _ _ _ _ h => h)
/-- o[i] = v -/
def fSet : D → D → D → S → R Unit
  | .loc n, k, v, st => match st[n]? with
    | some (.lst l) => match k with
      | .int i => match ixN l.length i with
        | some j => .ok () (st.set n (.lst (l.set j v)))
        | none => .bad
      | _ => .bad
    | some (.dic kvs) => match keyD k with
      | some key => if kvs.length < sizeLine then .ok () (st.set n (.dic (putD kvs key v))) else .bad
      | none => .bad
    | _ => .bad
  | _, _, _, _ => .bad
def gSb (mo mi : ME) : MG := fun d env st => match mo env st with
  | .ok o s1 => match mi env s1 with
    | .ok i s2 => (fSet o i d s2).bind fun _ s3 => .ok env s3
    | _ => .bad
  | _ => .bad
theorem put_any {k : Key} : ∀ {kvs : List (Key × D)} {ys : List (Key × V)}, ys.map (·.1) = kvs.map (·.1) → (ys.any fun kv => decide (kv.1 = k)) = kvs.any fun kv => decide (kv.1 = k)
  | [], [], _ => rfl
  | [], _ :: _, h => by simp at h
  | _ :: _, [], h => by simp at h
  | (k1, d1) :: kvs, (k2, v2) :: ys, h => by
    rw [List.map_cons, List.map_cons] at h
    injection h with h1 h2
    rw [List.any_cons, List.any_cons, put_any h2]
    have h1 : k2 = k1 := h1
    rw [h1]
theorem put_rv {k : Key} {d : D} {v : V} {kvs : List (Key × D)} {ys : List (Key × V)} (h : ys.map (·.1) = kvs.map (·.1)) (r : RVs z ρ H (kvs.map (·.2)) (ys.map (·.2))) (rv : RV z ρ H d v) :
    (putK ys k v).map (·.1) = (putD kvs k d).map (·.1) ∧ RVs z ρ H ((putD kvs k d).map (·.2)) ((putK ys k v).map (·.2)) := by
  unfold putK putD
  rw [put_any h]
  by_cases q : (kvs.any fun kv => decide (kv.1 = k)) = true
  · rw [if_pos q, if_pos q]
    clear q
    induction kvs generalizing ys with
    | nil =>
      cases ys with
      | nil => exact ⟨rfl, RVs.nil⟩
      | cons a r => simp at h
    | cons p kvs ih =>
      cases ys with
      | nil => simp at h
      | cons q ys =>
        rw [List.map_cons, List.map_cons] at h
        injection h with h1 h2
        rw [List.map_cons, List.map_cons] at r
        unfold RVs at r
        obtain ⟨x, w, e, r1, r2⟩ := r
        injection e with e1 e2
        subst e1 e2
        obtain ⟨i1, i2⟩ := ih h2 r2
        simp only [List.map_cons]
        rw [h1]
        by_cases hk : p.1 = k
        · rw [if_pos hk, if_pos hk]
          refine ⟨by rw [i1], RVs.cons rv i2⟩
        · rw [if_neg hk, if_neg hk]
          refine ⟨by rw [i1, h1], RVs.cons r1 i2⟩
  · rw [if_neg q, if_neg q]
    simp only [List.map_append, List.map_cons, List.map_nil]
    exact ⟨by rw [h], r.append (RVs.cons rv RVs.nil)⟩
abbrev r_set : TSet := fun o i v H Q => rSetL o i v H Q ∨ rSetD o i v H Q
theorem ps_set_any (hu : X.A.units + 1 < cLine) : PSet X r_set := by
  intro pins s σ H o i v ov iv u Q I ro ri rv h
  rcases h with h | h
  · exact set_list pins s σ H o i v ov iv u Q I ro ri rv h
  · exact set_dict hu pins s σ H o i v ov iv u Q I ro ri rv h
theorem v_set {st : S} {o i d : D} {ov iv v : V} {Q : Hp → Prop} (rs : RS z ρ st H) (h1 : RV z ρ H o ov) (h2 : RV z ρ H i iv) (h3 : RV z ρ H d v) {st' : S} (h : fSet o i d st = .ok () st') (q : ∀ H', Ext z ρ H ρ H' → RS z ρ st' H' → Q H') : r_set ov iv v H Q := by
  unfold fSet at h
  split at h
  · rename_i n k v'
    split at h
    · rename_i l e
      split at h
      · rename_i i
        split at h
        · rename_i j ej
          cases h
          obtain ⟨p, p1, rfl⟩ := rvl h1
          obtain ⟨ys, q1, r1⟩ := rs.lst e p1
          obtain ⟨ex, rs'⟩ := rs.put_lst e p1 q1 (r1.set j h3)
          exact .inl ⟨p, ys, _, j, rfl, rvi h2, q1, by rw [← r1.length]; exact ej, q _ ex rs'⟩
        · cases h
      · cases h
    · rename_i kvs e
      split at h
      · rename_i key ek
        split at h
        · rename_i hl
          cases h
          obtain ⟨p, p1, rfl⟩ := rvl h1
          obtain ⟨ys, q1, q2, q3⟩ := rs.obj _ _ p e p1
          have hlen : ys.length = kvs.length := by simpa using congrArg List.length q2
          obtain ⟨m1, m2⟩ := put_rv (k := key) q2 q3 h3
          obtain ⟨ex, rs'⟩ := rs.put_dic e p1 q1 m1 m2
          exact .inr ⟨p, _, rfl, .inl ⟨ys, key, q1, rv_key ek h2, by omega, rfl⟩, q _ ex rs'⟩
        · cases h
      · cases h
    · cases h
  · cases h
theorem qg_sub (ho : PE X a (tE z W mo)) (hi : PE X b (tE z W mb)) (hu : X.A.units + 1 < cLine)
    (ha : ∀ v, assign (.Subscript a b pos) X.env v = (do
      let ov ← holding [v] (eval a X.env)
      let iv ← holding [v, ov] (eval b X.env)
      standAt pos
      holding [v, ov, iv] (setItem ov iv v)
      release [v, ov, iv] []) := by intro _; rfl) : PG X (.Subscript a b pos) (tG z (gSb mo mb)) := pg_imp (pg_sub ho hi (ps_set_any hu) ha) (by
  rintro v σ H Q ⟨ρ, st, env, d, rs, re, rv, h⟩
  unfold gSb at h
  refine ⟨ρ, st, env, rs, re, ?_⟩
  cases q1 : mo env st with
  | ok o s1 =>
    rw [q1] at h
    intro ρ1 H1 ov e1 rs1 rv1
    refine ⟨ρ1, s1, env, rs1, re.ext e1, ?_⟩
    cases q2 : mb env s1 with
    | ok i s2 =>
      simp only [q2] at h
      intro ρ2 H2 iv e2 rs2 rv2
      cases q3 : fSet o i d s2 with
      | ok un s3 =>
        simp only [q3] at h
        exact v_set rs2 (rv1.ext e2) rv2 ((rv.ext e1).ext e2) q3 fun H' e rs' => h ρ2 H' σ ((e1.trans e2).trans e) rs' (((re.ext e1).ext e2).ext e)
      | ex c f s => 
        exfalso
        unfold fSet at q3
        repeat' split at q3
        all_goals cases q3
      | bad => simp only [q3] at h; exact h.elim
    | ex c f s => simp only [q2] at h; exact h.elim
    | bad => simp only [q2] at h; exact h.elim
  | ex c f s => rw [q1] at h; exact h.elim
  | bad => rw [q1] at h; exact h.elim)
/-! x += e -/
def mAug (i : Nat) (m : ME) (f : D → D → S → R D) : MS := fun env st => match env[i]? with
  | some (some x) => (m env st).bindS env fun y s1 => (f x y s1).bindS env fun w s2 => .nx (env.set i (some w)) s2
  | _ => .bad
theorem q_aug {i : Nat} {x : Str} {op : Operator} {ti : TIp} {f : D → D → S → R D} {pos' : Pos} (hN : X.N.Nodup) (hi : X.N[i]? = some x) (hx : Loc X.env.scope x) (he : PE X e (tE z W ma)) (ho : PIp X op ti) (hv : V2 z ti f) (hf : X.fn x = true ∨ X.env.scope.names.lookup x = some .local := by first | exact .inl rfl | exact .inr rfl | assumption) :
    PS X (.AugAssign (.Name x pos') op e pos) (tS z W (mAug i ma f)) := ps_imp (ps_aug hN hi hx he ho hf) fun D σ H h => by
  obtain ⟨ρ, st, env, rs, re, h⟩ := h
  unfold mAug at h
  split at h
  · rename_i d e0
    obtain ⟨v, v1, v2⟩ := re.2 i d e0
    refine ⟨v, v1, ρ, st, env, rs, re, Post.bindS h re fun y s1 ρ1 H1 w e1 rs1 rv1 h1 => ?_⟩
    exact hv ρ1 s1 H1 v w d y _ _ rs1 (v2.ext e1) rv1 (Post.bindS h1 (re.ext e1) (rel := RV z) fun u s2 ρ2 H2 uv e2 rs2 rv2 h2 => h2 ρ2 H2 _ Ext.refl rs2 (((re.ext e1).ext e2).set rv2 i))
  · exact h.elim
end
end Mm

namespace Mm
open PySem PySem.Spec PyProof.Rows L2 Lb
/-- what is walked: at turn i, from the store: nothing is said, the end, an item -/
abbrev ItM := Nat → S → Option (Option D)
def RIt (z : Zc) (ρ : List Addr) (H : Hp) (it : ItM) (J : It) : Prop := ∀ ρ1 st H1 i, Ext z ρ H ρ1 H1 → RS z ρ1 st H1 →
  (∀ d, it i st = some (some d) → J.go i H1 ∧ ∀ x H', J.yld i H1 x H' → Ext z ρ1 H1 ρ1 H' ∧ RS z ρ1 st H' ∧ RV z ρ1 H' d x) ∧ (it i st = some none → J.stop i H1)
abbrev MI := Ev → S → R ItM
def tI (z : Zc) (W : WM) (m : MI) : TI := fun σ H R => ∃ ρ st env, RS z ρ st H ∧ RE z ρ H env σ ∧ Post z (RIt z) ρ H (m env st) R (W env σ)
/-- n turns at most -/
def loopM (it : ItM) (g : MG) (b : MS) : Nat → Nat → Ev → S → Rt
  | 0, _, _, _ => .bad
  | n + 1, i, env, st => match it i st with
    | none => .bad
    | some none => .nx env st
    | some (some d) => match g d env st with
      | .ok env1 s1 => match b env1 s1 with
        | .nx env2 s2 => loopM it g b n (i + 1) env2 s2
        | .ct env2 s2 => loopM it g b n (i + 1) env2 s2
        | .bk env2 s2 => .nx env2 s2
        | r => r
      | _ => .bad
def fuel : Nat := 100000
def mFor (mi : MI) (g : MG) (b : MS) : MS := fun env st => (mi env st).bindS env fun it s1 => loopM it g b fuel 0 env s1
def whileM (c : MT) (b : MS) : Nat → Ev → S → Rt
  | 0, _, _ => .bad
  | n + 1, env, st => (c env st).bindS env fun r s1 => if r = true then match b env s1 with
      | .nx env2 s2 => whileM c b n env2 s2
      | .ct env2 s2 => whileM c b n env2 s2
      | .bk env2 s2 => .nx env2 s2
      | r => r
    else .nx env s1
def mWhile (c : MT) (b : MS) : MS := whileM c b fuel
section
variable {X : Cx} {z : Zc} {W : WM} {ρ ρ' : List Addr} {st : S} {H H' : Hp} {v x y : V} {l m : List D} {xs ys : List V} {Q : VK} {xw : XW} {a b c e tg iter : Expr} {ma mb mc mo : ME} {mt mu : MT} {pos : Pos} {ar : MA} {es : List Expr} {ms : MS} {mi : MI} {g : MG} {body : List Stmt}
theorem pi_imp {w w' : TI} (h : PI X tg iter w) (i : ∀ σ H R, w' σ H R → w σ H R) : PI X tg iter w' := ⟨fun pins s σ H R I q => h.run pins s σ H R I (i σ H R q)⟩
theorem s_for : ∀ D σ H, tS z W (mFor mi g ms) D σ H → tFor (tI z W mi) (tG z g) (tS z W ms) D σ H := by
  rintro D σ H ⟨ρ, st, env, rs, re, h⟩
  refine ⟨ρ, st, env, rs, re, Post.bindS h re fun it s1 ρ1 H1 J e1 rs1 rj h1 => ?_⟩
  refine ⟨fun i n σ2 H2 => ∃ ρ2 st2 env2, Ext z ρ1 H1 ρ2 H2 ∧ RS z ρ2 st2 H2 ∧ RE z ρ2 H2 env2 σ2 ∧ PostS z ρ2 H2 (loopM it g ms n i env2 st2) D W, ⟨fuel, ρ1, s1, env, Ext.refl, rs1, re.ext e1, h1⟩, ?_⟩
  rintro i n σ2 H2 ⟨ρ2, st2, env2, e2, rs2, re2, h2⟩
  cases n with
  | zero => exact h2.elim
  | succ n =>
    obtain ⟨r1, r2⟩ := rj ρ2 st2 H2 i e2 rs2
    unfold loopM at h2
    split at h2
    · exact h2.elim
    · rename_i q
      exact .inl ⟨r2 q, h2 ρ2 H2 σ2 Ext.refl rs2 re2⟩
    · rename_i d q
      obtain ⟨go, yl⟩ := r1 d q
      refine .inr ⟨go, fun σ3 H3 => ∃ ρ3 st3 env3, Ext z ρ1 H1 ρ3 H3 ∧ RS z ρ3 st3 H3 ∧ RE z ρ3 H3 env3 σ3 ∧ PostS z ρ3 H3 (loopM it g ms n (i + 1) env3 st3) D W, fun σ3 H3 w => ⟨n, Nat.lt_succ_self n, w⟩, fun x H3 y => ?_⟩
      obtain ⟨e3, rs3, rv3⟩ := yl x H3 y
      refine ⟨ρ2, st2, env2, d, rs3, re2.ext e3, rv3, ?_⟩
      split at h2
      · rename_i env4 s4 q4
        rw [q4]
        intro ρ4 H4 σ4 e4 rs4 re4
        refine ⟨ρ4, s4, env4, rs4, re4, ?_⟩
        have ee : Ext z ρ2 H2 ρ4 H4 := e3.trans e4
        cases q5 : ms env4 s4 with
        | nx env5 s5 =>
          simp only [q5] at h2
          exact fun ρ5 H5 σ5 e5 rs5 re5 => ⟨ρ5, s5, env5, e2.trans (ee.trans e5), rs5, re5, PostS.mono h2 (ee.trans e5)⟩
        | ct env5 s5 =>
          simp only [q5] at h2
          exact fun ρ5 H5 σ5 e5 rs5 re5 => ⟨ρ5, s5, env5, e2.trans (ee.trans e5), rs5, re5, PostS.mono h2 (ee.trans e5)⟩
        | bk env5 s5 =>
          simp only [q5] at h2
          exact fun ρ5 H5 σ5 e5 rs5 re5 => h2 ρ5 H5 σ5 (ee.trans e5) rs5 re5
        | rt d5 s5 =>
          simp only [q5] at h2
          exact fun ρ5 H5 σ5 e5 rs5 re5 => h2 ρ5 H5 σ5 (ee.trans e5) rs5 re5
        | ex c5 f5 d5 s5 =>
          simp only [q5] at h2
          exact fun ρ5 H5 σ5 e5 rs5 re5 => h2 ρ5 H5 σ5 (ee.trans e5) rs5 re5
        | bad =>
          simp only [q5] at h2
          exact h2
      · exact h2.elim
theorem q_for (hp : PassesOwn (model X.prog X.w) X.A X.env X.xe) (hc : X.calm = true) (hi : PI X tg iter (tI z W mi)) (hg : PG X tg (tG z g)) (hb : PSs X body (tS z W ms))
    (hs : ∀ x, foldedSetIterable iter X.env x = pure x := by intro _; rfl) : PS X (.For tg iter body [] pos) (tS z W (mFor mi g ms)) := ps_imp (ps_for hp hc hi hg hb hs) s_for
theorem s_while : ∀ D σ H, tS z W (mWhile mt ms) D σ H → tWhile (tT z W mt) (tS z W ms) D σ H := by
  rintro D σ H ⟨ρ, st, env, rs, re, h⟩
  refine ⟨fun n σ2 H2 => ∃ ρ2 st2 env2, RS z ρ2 st2 H2 ∧ RE z ρ2 H2 env2 σ2 ∧ PostS z ρ2 H2 (whileM mt ms n env2 st2) D W, ⟨fuel, ρ, st, env, rs, re, h⟩, ?_⟩
  rintro n σ2 H2 ⟨ρ2, st2, env2, rs2, re2, h2⟩
  cases n with
  | zero => exact h2.elim
  | succ n =>
    refine ⟨ρ2, st2, env2, rs2, re2, Post.bindS h2 re2 fun r s3 ρ3 H3 k e3 rs3 rv3 h3 => ?_⟩
    cases rv3
    cases r with
    | true =>
      rw [if_pos rfl]
      rw [if_pos rfl] at h3
      refine ⟨fun σ4 H4 => ∃ ρ4 st4 env4, RS z ρ4 st4 H4 ∧ RE z ρ4 H4 env4 σ4 ∧ PostS z ρ4 H4 (whileM mt ms n env4 st4) D W, fun σ4 H4 w => ⟨n, Nat.lt_succ_self n, w⟩, ρ3, s3, env2, rs3, re2.ext e3, ?_⟩
      cases q5 : ms env2 s3 with
      | nx env5 s5 =>
        simp only [q5] at h3
        exact fun ρ5 H5 σ5 e5 rs5 re5 => ⟨ρ5, s5, env5, rs5, re5, PostS.mono h3 e5⟩
      | ct env5 s5 =>
        simp only [q5] at h3
        exact fun ρ5 H5 σ5 e5 rs5 re5 => ⟨ρ5, s5, env5, rs5, re5, PostS.mono h3 e5⟩
      | bk env5 s5 =>
        simp only [q5] at h3
        exact h3
      | rt d5 s5 =>
        simp only [q5] at h3
        exact h3
      | ex c5 f5 d5 s5 =>
        simp only [q5] at h3
        exact h3
      | bad =>
        simp only [q5] at h3
        exact h3
    | false =>
      rw [if_neg Bool.false_ne_true]
      rw [if_neg Bool.false_ne_true] at h3
      exact h3 ρ3 H3 σ2 Ext.refl rs3 (re2.ext e3)
theorem q_while (hp : PassesOwn (model X.prog X.w) X.A X.env X.xe) (hc : PT X c (tT z W mt)) (hb : PSs X body (tS z W ms)) : PS X (.While c body [] pos) (tS z W (mWhile mt ms)) := ps_imp (ps_while hp hc hb) s_while
/-! what is walked: lists, tuples, texts -/
def itT (l : List D) : ItM := fun i _ => some l[i]?
def itL (n : Nat) : ItM := fun i st => (rdL st n).map fun l => l[i]?
def itS (x : Str) : ItM := fun i _ => some ((x.cps.toList[i]?).map fun c => .str ⟨#[c]⟩)
def mIt (m : ME) : MI := fun env st => (m env st).bind fun d s1 => match d with
  | .tup l => .ok (itT l) s1
  | .loc n => match rdL s1 n with
    | some _ => .ok (itL n) s1
    | none => .bad
  | .str x => .ok (itS x) s1
  | .fl l => .ok (itT l) s1
  | _ => .bad
def iAny (K : PySem.W.Frag) (t : TE) : TI := fun σ H R => t σ H fun x H1 => (∃ p, x = .ref p ∧ (∃ xs, SqL K H1 p xs) ∧ R (Itl K p) H1) ∨ (∃ p, x = .ref p ∧ (∃ xs, SqT K H1 p xs) ∧ R (Itt K p) H1) ∨ ∃ s, x = .str s ∧ R (Its s) H1
theorem fp1 {pins : List (Addr × Obj)} {σ : L2.St} {s : Shared} (I : Inv X pins σ H s) : ∀ b ∈ [s.heap.objs.size], FpOk X pins H b := fun b hb => by
  rw [List.mem_singleton.mp hb]
  exact I.fpOk (Nat.le_refl _) (I.hok.fresh (Nat.le_refl _))
theorem pi_any {te : TE} (he : PE X e te) : PI X tg e (iAny X.K te) := by
  refine ⟨fun pins s σ H R I h => thn (he.run pins s σ H _ I h) fun v s1 ⟨x, H1, I1, r1, q1⟩ => ?_⟩
  rcases q1 with ⟨p, rfl, ⟨xs, hq⟩, q⟩ | ⟨p, rfl, ⟨xs, hq⟩, q⟩ | ⟨t, rfl, q⟩
  · obtain rfl : v = Value.ref p := r1
    obtain ⟨us, _, pl, _⟩ := I1.list hq
    exact wpAny_pyIter_list pl.isList ⟨_, [s1.heap.objs.size], _, _, H1, rfl, I1.kept (t' := s1.toks) (fun b o e => Heap.get?_push_of_some _ e), turn_list p _, ⟨_, Heap.get?_push_size _ rfl, rfl, rfl⟩, fp1 I1, q⟩
  · obtain rfl : v = Value.ref p := r1
    obtain ⟨us, _, pl, _⟩ := I1.tuple hq
    exact wpAny_pyIter_tuple (show s1.heap.IsTuple p us.toArray from pl) ⟨_, [s1.heap.objs.size], _, _, H1, rfl, I1.kept (t' := s1.toks) (fun b o e => Heap.get?_push_of_some _ e), turn_tuple p _, ⟨_, Heap.get?_push_size _ rfl, rfl, rfl⟩, fp1 I1, q⟩
  · obtain ⟨tk, rfl⟩ := r1
    cases ha : t.cps.all (· < 128)
    · exact wpAny_pyIter_wide ha (pi_one (tk := s1.toks) I1 _ (turn_str _ t tk "str_iterator" (.inr rfl)) ⟨_, Heap.get?_push_size _ rfl, rfl, rfl⟩ q)
    · exact wpAny_pyIter_ascii ha (pi_one (tk := s1.toks) I1 _ (turn_str _ t tk "str_ascii_iterator" (.inl rfl)) ⟨_, Heap.get?_push_size _ rfl, rfl, rfl⟩ q)
theorem r_itl {n : Nat} {p : Addr} (e : ρ[n]? = some p) : RIt z ρ H (itL n) (Itl z.K p) := fun ρ1 st H1 i e1 rs1 => by
  have p1 := e1.pl n p e
  refine ⟨fun d q => ?_, fun q => ?_⟩
  · obtain ⟨l, el, ed⟩ := Option.map_eq_some_iff.mp q
    obtain ⟨xs, h1, h2⟩ := rs1.rdL el p1
    obtain ⟨x, x1, x2⟩ := h2.get ed
    refine ⟨⟨xs, x, h1, x1⟩, fun y H' hy => ?_⟩
    obtain ⟨rfl, hy⟩ := hy
    have := hy xs h1
    rw [x1] at this
    cases this
    exact ⟨Ext.refl, rs1, x2⟩
  · obtain ⟨l, el, ed⟩ := Option.map_eq_some_iff.mp q
    obtain ⟨xs, h1, h2⟩ := rs1.rdL el p1
    exact ⟨xs, h1, by rw [← h2.length]; exact List.getElem?_eq_none_iff.mp ed⟩
theorem r_itt {p : Addr} (h1 : SqT z.K H p xs) (h2 : RVs z ρ H l xs) : RIt z ρ H (itT l) (Itt z.K p) := fun ρ1 st H1 i e1 rs1 => by
  have h1' := e1.tp p xs h1
  have h2' := h2.ext e1
  refine ⟨fun d q => ?_, fun q => ?_⟩
  · have ed : l[i]? = some d := Option.some.inj q
    obtain ⟨x, x1, x2⟩ := h2'.get ed
    refine ⟨⟨xs, x, h1', x1⟩, fun y H' hy => ?_⟩
    obtain ⟨rfl, hy⟩ := hy
    have := hy xs h1'
    rw [x1] at this
    cases this
    exact ⟨Ext.refl, rs1, x2⟩
  · have ed : l[i]? = none := Option.some.inj q
    exact ⟨xs, h1', by rw [← h2'.length]; exact List.getElem?_eq_none_iff.mp ed⟩
theorem r_itf {p : Addr} (h1 : FzL z.K H p xs) (h2 : RVs z ρ H l xs) : RIt z ρ H (itT l) (Itl z.K p) := fun ρ1 st H1 i e1 rs1 => by
  have h1' := (e1.fz p xs h1).sq
  have h2' := h2.ext e1
  refine ⟨fun d q => ?_, fun q => ?_⟩
  · have ed : l[i]? = some d := Option.some.inj q
    obtain ⟨x, x1, x2⟩ := h2'.get ed
    refine ⟨⟨xs, x, h1', x1⟩, fun y H' hy => ?_⟩
    obtain ⟨rfl, hy⟩ := hy
    have := hy xs h1'
    rw [x1] at this
    cases this
    exact ⟨Ext.refl, rs1, x2⟩
  · have ed : l[i]? = none := Option.some.inj q
    exact ⟨xs, h1', by rw [← h2'.length]; exact List.getElem?_eq_none_iff.mp ed⟩
theorem r_its {s : Str} : RIt z ρ H (itS s) (Its s) := fun ρ1 st H1 i e1 rs1 => by
  refine ⟨fun d q => ?_, fun q => ?_⟩
  · have q' : (s.cps.toList[i]?).map (fun c => D.str ⟨#[c]⟩) = some d := Option.some.inj q
    obtain ⟨c, ec, rfl⟩ := Option.map_eq_some_iff.mp q'
    have hi := (List.getElem?_eq_some_iff.mp ec).1
    refine ⟨(show i < s.cps.size by simpa using hi), fun y H' hy => ?_⟩
    obtain ⟨rfl, c', ec', rfl⟩ := hy
    rw [← Array.getElem?_toList, ec] at ec'
    cases ec'
    exact ⟨Ext.refl, rs1, rv_str⟩
  · have q' : (s.cps.toList[i]?).map (fun c => D.str ⟨#[c]⟩) = none := Option.some.inj q
    have := List.getElem?_eq_none_iff.mp (Option.map_eq_none_iff.mp q')
    show s.cps.size ≤ i
    simpa using this
theorem q_it (hz : z.K = X.K) (he : PE X e (tE z W ma)) : PI X tg e (tI z W (mIt ma)) := pi_imp (pi_any he) (by
  rintro σ H R ⟨ρ, st, env, rs, re, h⟩
  refine ⟨ρ, st, env, rs, re, h.bind fun d s1 ρ1 H1 x e1 rs1 rv1 h1 => ?_⟩
  rw [← hz]
  split at h1
  · obtain ⟨p, xs, rfl, q, r⟩ := rvt rv1
    exact .inr (.inl ⟨p, rfl, ⟨xs, q⟩, h1.ok rs1 (r_itt q r)⟩)
  · split at h1
    · rename_i l e0
      obtain ⟨p, p1, rfl⟩ := rvl rv1
      obtain ⟨xs, q, r⟩ := rs1.rdL e0 p1
      exact .inl ⟨p, rfl, ⟨xs, q⟩, h1.ok rs1 (r_itl p1)⟩
    · exact h1.elim
  · exact .inr (.inr ⟨_, rvs rv1, h1.ok rs1 r_its⟩)
  · obtain ⟨p, xs, rfl, q, r⟩ := rvf rv1
    exact .inl ⟨p, rfl, ⟨xs, q.sq⟩, h1.ok rs1 (r_itf q r)⟩
  · exact h1.elim)
/-! range -/
def itR (lo : Int) (n : Nat) : ItM := fun i _ => some (if i < n then some (.int (lo + i)) else none)
theorem r_itr {lo : Int} {n : Nat} : RIt z ρ H (itR lo n) (Itr lo n) := fun ρ1 st H1 i e1 rs1 => by
  refine ⟨fun d q => ?_, fun q => ?_⟩
  · have q' : (if i < n then some (D.int (lo + i)) else none) = some d := Option.some.inj q
    split at q'
    · rename_i hi
      cases q'
      refine ⟨hi, fun y H' hy => ?_⟩
      obtain ⟨rfl, rfl⟩ := hy
      exact ⟨Ext.refl, rs1, rv_int⟩
    · cases q'
  · have q' : (if i < n then some (D.int (lo + i)) else none) = none := Option.some.inj q
    split at q'
    · cases q'
    · rename_i hi
      exact Nat.le_of_not_lt hi
def mRange1 (ar : MA) : MI := fun env st => (ar env st).bind fun ds s1 => match ds with
  | [.int j] => if okR j = true then .ok (itR 0 j.toNat) s1 else .bad
  | _ => .bad
def mRange2 (ar : MA) : MI := fun env st => (ar env st).bind fun ds s1 => match ds with
  | [.int i, .int j] => if okR i = true ∧ okR j = true then .ok (itR i (j - i).toNat) s1 else .bad
  | _ => .bad
theorem q_range1 {p : Pos} (hg : Gl X "range") (hm : X.mg "range" = none) (ha : PA X [a] (tA z W ar)) (hs : starEach [a] X.env = [(false, eval a X.env)] := by rfl) : PI X tg (.Call (.Name "range" p) [a] [] pos) (tI z W (mRange1 ar)) := pi_imp (pi_range1 hg hm ha hs) (by
  rintro σ H R ⟨ρ, st, env, rs, re, h⟩
  refine ⟨ρ, st, env, rs, re, h.bind fun d s1 ρ1 H1 x e1 rs1 rv1 h1 => ?_⟩
  split at h1
  · split at h1
    · rename_i hb
      obtain ⟨y, rfl, r⟩ := rvs1 rv1
      exact ⟨_, by rw [rvi r], (okR_of hb).1, (okR_of hb).2, h1.ok rs1 r_itr⟩
    · exact h1.elim
  · exact h1.elim)
theorem q_range2 {p : Pos} (hg : Gl X "range") (hm : X.mg "range" = none) (ha : PA X [a, b] (tA z W ar)) (hs : starEach [a, b] X.env = [(false, eval a X.env), (false, eval b X.env)] := by rfl) (hs2 : starEach [b] X.env = [(false, eval b X.env)] := by rfl) : PI X tg (.Call (.Name "range" p) [a, b] [] pos) (tI z W (mRange2 ar)) := pi_imp (pi_range2 hg hm ha hs hs2) (by
  rintro σ H R ⟨ρ, st, env, rs, re, h⟩
  refine ⟨ρ, st, env, rs, re, h.bind fun d s1 ρ1 H1 x e1 rs1 rv1 h1 => ?_⟩
  split at h1
  · split at h1
    · rename_i hb
      obtain ⟨y, w, rfl, r, r'⟩ := rvs2 rv1
      exact ⟨_, _, by rw [rvi r, rvi r'], ⟨(okR_of hb.1).1, (okR_of hb.1).2, (okR_of hb.2).1, (okR_of hb.2).2⟩, h1.ok rs1 r_itr⟩
    · exact h1.elim
  · exact h1.elim)
/-! enumerate, zip -/
def itEL (n : Nat) : ItM := fun i st => (rdL st n).map fun l => (l[i]?).map fun d => .tup [.int (i : Nat), d]
def itET (l : List D) : ItM := fun i _ => some ((l[i]?).map fun d => .tup [.int (i : Nat), d])
def itZL (n k : Nat) : ItM := fun i st => (rdL st n).bind fun l => (rdL st k).map fun m => (l[i]?).bind fun d => (m[i]?).map fun e => .tup [d, e]
def itZT (l m : List D) : ItM := fun i _ => some ((l[i]?).bind fun d => (m[i]?).map fun e => .tup [d, e])
def mEnum (ar : MA) : MI := fun env st => (ar env st).bind fun ds s1 => match ds with
  | [.tup l] => .ok (itET l) s1
  | [.loc n] => match rdL s1 n with
    | some _ => .ok (itEL n) s1
    | none => .bad
  | _ => .bad
def mZip (ar : MA) : MI := fun env st => (ar env st).bind fun ds s1 => match ds with
  | [.tup l, .tup m] => .ok (itZT l m) s1
  | [.loc n, .loc k] => match rdL s1 n, rdL s1 k with
    | some _, some _ => .ok (itZL n k) s1
    | _, _ => .bad
  | _ => .bad
theorem new_pair {ρ1 : List Addr} {H1 : Hp} {d e : D} {x y : V} {T : Addr} {st : S} (rs1 : RS z ρ1 st H1) (hT : H1 T = none) (r1 : RV z ρ1 H1 d x) (r2 : RV z ρ1 H1 e y) :
    Ext z ρ1 H1 ρ1 (upd H1 T (.tup [x, y])) ∧ RS z ρ1 st (upd H1 T (.tup [x, y])) ∧ RV z ρ1 (upd H1 T (.tup [x, y])) (.tup [d, e]) (.ref T) :=
  ⟨Ext.new hT, rs1.tup hT, rv_tup (SqT.of upd_same) (RVs.cons (r1.ext (Ext.new hT)) (RVs.cons (r2.ext (Ext.new hT)) RVs.nil))⟩
theorem r_itel {n : Nat} {p : Addr} (e : ρ[n]? = some p) : RIt z ρ H (itEL n) (Ite z.K p) := fun ρ1 st H1 i e1 rs1 => by
  have p1 := e1.pl n p e
  refine ⟨fun d q => ?_, fun q => ?_⟩
  · obtain ⟨l, el, ed⟩ := Option.map_eq_some_iff.mp q
    obtain ⟨d', ed', rfl⟩ := Option.map_eq_some_iff.mp ed
    obtain ⟨xs, h1, h2⟩ := rs1.rdL el p1
    obtain ⟨x, x1, x2⟩ := h2.get ed'
    refine ⟨⟨xs, x, h1, x1⟩, fun y H' hy => ?_⟩
    obtain ⟨T, w, rfl, hT, rfl, hw⟩ := hy
    have := hw xs h1
    rw [x1] at this
    cases this
    exact new_pair rs1 hT rv_int x2
  · obtain ⟨l, el, ed⟩ := Option.map_eq_some_iff.mp q
    obtain ⟨xs, h1, h2⟩ := rs1.rdL el p1
    exact ⟨xs, h1, by rw [← h2.length]; exact List.getElem?_eq_none_iff.mp (Option.map_eq_none_iff.mp ed)⟩
theorem r_itet {p : Addr} (h1 : SqT z.K H p xs) (h2 : RVs z ρ H l xs) : RIt z ρ H (itET l) (IteT z.K p) := fun ρ1 st H1 i e1 rs1 => by
  have h1' := e1.tp p xs h1
  have h2' := h2.ext e1
  refine ⟨fun d q => ?_, fun q => ?_⟩
  · obtain ⟨d', ed', rfl⟩ := Option.map_eq_some_iff.mp (Option.some.inj q)
    obtain ⟨x, x1, x2⟩ := h2'.get ed'
    refine ⟨⟨xs, x, h1', x1⟩, fun y H' hy => ?_⟩
    obtain ⟨T, w, rfl, hT, rfl, hw⟩ := hy
    have := hw xs h1'
    rw [x1] at this
    cases this
    exact new_pair rs1 hT rv_int x2
  · have ed := Option.map_eq_none_iff.mp (Option.some.inj q)
    exact ⟨xs, h1', by rw [← h2'.length]; exact List.getElem?_eq_none_iff.mp ed⟩
theorem zip_some {α β γ : Type} {o : Option α} {u : Option β} {f : α → β → γ} {g : γ} (h : (o.bind fun d => u.map fun e => f d e) = some g) : ∃ d e, o = some d ∧ u = some e ∧ g = f d e := by
  cases o with
  | none => cases h
  | some d =>
    cases u with
    | none => cases h
    | some e => cases h; exact ⟨d, e, rfl, rfl, rfl⟩
theorem zip_none {α β γ : Type} {o : Option α} {u : Option β} {f : α → β → γ} (h : (o.bind fun d => u.map fun e => f d e) = none) : o = none ∨ u = none := by
  cases o with
  | none => exact .inl rfl
  | some d =>
    cases u with
    | none => exact .inr rfl
    | some e => cases h
theorem r_itzl {n k : Nat} {p q : Addr} (e : ρ[n]? = some p) (e' : ρ[k]? = some q) : RIt z ρ H (itZL n k) (Itz z.K p q) := fun ρ1 st H1 i e1 rs1 => by
  have p1 := e1.pl n p e
  have q1 := e1.pl k q e'
  refine ⟨fun d w => ?_, fun w => ?_⟩
  · obtain ⟨l, m, el, em, w2⟩ := zip_some w
    obtain ⟨d1, d2, g1, g2, rfl⟩ := zip_some w2.symm
    obtain ⟨xs, h1, h2⟩ := rs1.rdL el p1
    obtain ⟨ys, k1, k2⟩ := rs1.rdL em q1
    obtain ⟨x, x1, x2⟩ := h2.get g1
    obtain ⟨y, y1, y2⟩ := k2.get g2
    refine ⟨⟨xs, ys, x, y, h1, k1, x1, y1⟩, fun v H' hy => ?_⟩
    obtain ⟨T, u, w, rfl, hT, rfl, hu, hw⟩ := hy
    have t1 := hu xs h1
    have t2 := hw ys k1
    rw [x1] at t1
    rw [y1] at t2
    cases t1
    cases t2
    exact new_pair rs1 hT x2 y2
  · obtain ⟨l, m, el, em, w2⟩ := zip_some w
    obtain ⟨xs, h1, h2⟩ := rs1.rdL el p1
    obtain ⟨ys, k1, k2⟩ := rs1.rdL em q1
    refine ⟨xs, ys, h1, k1, ?_⟩
    rw [← h2.length, ← k2.length]
    exact (zip_none w2.symm).imp List.getElem?_eq_none_iff.mp List.getElem?_eq_none_iff.mp
theorem r_itzt {p q : Addr} (h1 : SqT z.K H p xs) (h2 : RVs z ρ H l xs) (k1 : SqT z.K H q ys) (k2 : RVs z ρ H m ys) : RIt z ρ H (itZT l m) (RZ.ItzT z.K p q) := fun ρ1 st H1 i e1 rs1 => by
  have h1 := e1.tp p xs h1
  have h2 := h2.ext e1
  have k1 := e1.tp q ys k1
  have k2 := k2.ext e1
  refine ⟨fun d w => ?_, fun w => ?_⟩
  · obtain ⟨d1, d2, g1, g2, rfl⟩ := zip_some (Option.some.inj w)
    obtain ⟨x, x1, x2⟩ := h2.get g1
    obtain ⟨y, y1, y2⟩ := k2.get g2
    refine ⟨⟨xs, ys, x, y, h1, k1, x1, y1⟩, fun v H' hy => ?_⟩
    obtain ⟨T, u, w, rfl, hT, rfl, hu, hw⟩ := hy
    have t1 := hu xs h1
    have t2 := hw ys k1
    rw [x1] at t1
    rw [y1] at t2
    cases t1
    cases t2
    exact new_pair rs1 hT x2 y2
  · refine ⟨xs, ys, h1, k1, ?_⟩
    rw [← h2.length, ← k2.length]
    exact (zip_none (Option.some.inj w)).imp List.getElem?_eq_none_iff.mp List.getElem?_eq_none_iff.mp
theorem q_enum {elts : List Expr} {kk : Nat} {tpos p : Pos} (hz : z.K = X.K) (hg : Gl X "enumerate") (hm : X.mg "enumerate" = none) (ha : PA X [a] (tA z W ar)) (hs : starEach [a] X.env = [(false, eval a X.env)] := by rfl) :
    PI X (.Tuple elts kk tpos) (.Call (.Name "enumerate" p) [a] [] pos) (tI z W (mEnum ar)) := pi_imp (pi_enumA hg hm ha hs) (by
  rintro σ H R ⟨ρ, st, env, rs, re, h⟩
  refine ⟨ρ, st, env, rs, re, h.bind fun d s1 ρ1 H1 x e1 rs1 rv1 h1 => ?_⟩
  rw [← hz]
  split at h1
  · obtain ⟨y, rfl, r⟩ := rvs1 rv1
    obtain ⟨p, xs, rfl, q, r⟩ := rvt r
    exact ⟨p, xs, rfl, .inr ⟨q, h1.ok rs1 (r_itet q r)⟩⟩
  · split at h1
    · rename_i l e0
      obtain ⟨y, rfl, r⟩ := rvs1 rv1
      obtain ⟨p, p1, rfl⟩ := rvl r
      obtain ⟨xs, q, r⟩ := rs1.rdL e0 p1
      exact ⟨p, xs, rfl, .inl ⟨q, h1.ok rs1 (r_itel p1)⟩⟩
    · exact h1.elim
  · exact h1.elim)
theorem q_zip {elts : List Expr} {kk : Nat} {tpos p : Pos} (hz : z.K = X.K) (hg : Gl X "zip") (hm : X.mg "zip" = none) (ha : PA X [a, b] (tA z W ar)) (hs : starEach [a, b] X.env = (false, eval a X.env) :: starEach [b] X.env := by rfl) (hpl : (backTo pos (starEach [b] X.env)).any (·.1) = false := by rfl) :
    PI X (.Tuple elts kk tpos) (.Call (.Name "zip" p) [a, b] [] pos) (tI z W (mZip ar)) := pi_imp (RZ.pi_zipA hg hm ha hs hpl) (by
  rintro σ H R ⟨ρ, st, env, rs, re, h⟩
  refine ⟨ρ, st, env, rs, re, h.bind fun d s1 ρ1 H1 x e1 rs1 rv1 h1 => ?_⟩
  rw [← hz]
  split at h1
  · obtain ⟨y, w, rfl, r, r'⟩ := rvs2 rv1
    obtain ⟨p, xs, rfl, q, r⟩ := rvt r
    obtain ⟨p', xs', rfl, q', r'⟩ := rvt r'
    exact ⟨p, p', xs, xs', rfl, .inr ⟨q, q', h1.ok rs1 (r_itzt q r q' r')⟩⟩
  · split at h1
    · rename_i l l' e0 e0'
      obtain ⟨y, w, rfl, r, r'⟩ := rvs2 rv1
      obtain ⟨p, p1, rfl⟩ := rvl r
      obtain ⟨p', p1', rfl⟩ := rvl r'
      obtain ⟨xs, q, r⟩ := rs1.rdL e0 p1
      obtain ⟨xs', q', r'⟩ := rs1.rdL e0' p1'
      exact ⟨p, p', xs, xs', rfl, .inl ⟨q, q', h1.ok rs1 (r_itzl p1 p1')⟩⟩
    · exact h1.elim
  · exact h1.elim)
/-! comprehensions -/
def wipeM (env : Ev) : List Nat → Ev
  | [] => env
  | v :: vs => (wipeM env vs).set v none
theorem RE.clr {env : Ev} {σ : L2.St} (h : RE z ρ H env σ) (i : Nat) : RE z ρ H (env.set i none) (σ.set i none) := by
  refine ⟨by simp [h.1], fun j d' e => ?_⟩
  by_cases hj : i = j
  · subst hj
    have hi : i < env.length := by
      have := (List.getElem?_eq_some_iff.mp e).1
      simpa using this
    rw [List.getElem?_set_self hi] at e
    cases e
  · rw [List.getElem?_set_ne hj] at e
    rw [List.getElem?_set_ne hj]
    exact h.2 j d' e
theorem RE.wipe {env : Ev} {σ : L2.St} (h : RE z ρ H env σ) : ∀ vs : List Nat, RE z ρ H (wipeM env vs) (wipe σ vs)
  | [] => h
  | v :: vs => (RE.wipe h vs).clr v
def lcM (it : ItM) (g : MG) (t : MT) (m : ME) (env : Ev) (k : Nat) : Nat → Nat → S → R D
  | 0, _, _ => .bad
  | n + 1, i, st => match it i st with
    | none => .bad
    | some none => .ok (.loc k) st
    | some (some d) => match g d env st with
      | .ok env1 s1 => match t env1 s1 with
        | .ok true s2 => match m env1 s2 with
          | .ok y s3 => match s3[k]? with
            | some (.lst acc) => if acc.length < sizeLine then lcM it g t m env k n (i + 1) (s3.set k (.lst (acc ++ [y]))) else .bad
            | _ => .bad
          | _ => .bad
        | .ok false s2 => lcM it g t m env k n (i + 1) s2
        | _ => .bad
      | _ => .bad
def mLc (mi : MI) (g : MG) (t : MT) (m : ME) (vs : List Nat) : ME := fun env st => (mi env st).bind fun it s1 => lcM it g t m (wipeM env vs) s1.length fuel 0 (s1 ++ [.lst []])
/-- a target that sets the block's own slots alone -/
def Own (g : MG) (gt : TG) (vs : List Nat) (z : Zc) : Prop := ∀ v σ H Q, tG z g v σ H Q → gt v σ H fun σ' H' => wipe σ' vs = wipe σ vs ∧ Q σ' H'
theorem wipe_set {σ : L2.St} {i : Nat} {o : Option V} : ∀ {vs : List Nat}, i ∈ vs → wipe (σ.set i o) vs = wipe σ vs
  | [], h => by simp at h
  | v :: vs, h => by
    unfold L2.wipe
    by_cases hi : i ∈ vs
    · rw [wipe_set hi]
    · have hv : i = v := by
        rcases List.mem_cons.mp h with h | h
        · exact h
        · exact absurd h hi
      subst hv
      have : ∀ (vs : List Nat) (σ : L2.St), i ∉ vs → wipe (σ.set i o) vs = (wipe σ vs).set i o := by
        intro vs
        induction vs with
        | nil => intro σ _; rfl
        | cons w ws ih =>
          intro σ hn
          have h1 : i ≠ w := fun z => hn (by rw [z]; exact List.mem_cons_self ..)
          unfold L2.wipe
          rw [ih σ (fun z => hn (List.mem_cons_of_mem _ z)), List.set_comm _ _ h1]
      rw [this vs σ hi, List.set_set]
theorem own_name {i : Nat} {vs : List Nat} (h : i ∈ vs) : Own (gNm i) (gName i) vs z := fun v σ H Q q => by
  have := s_gnm v σ H Q q
  exact ⟨wipe_set h, this⟩
def OwnS (g : MGs) (gt : TGs) (vs : List Nat) (z : Zc) : Prop := ∀ xs σ H Q, tGs z g xs σ H Q → gt xs σ H fun σ' H' => wipe σ' vs = wipe σ vs ∧ Q σ' H'
theorem own_nil {vs : List Nat} : OwnS gNl gNil vs z := fun xs σ H Q q => by
  have := s_gnl xs σ H Q q
  exact ⟨this.1, rfl, this.2⟩
theorem own_cons {i : Nat} {r : MGs} {u : TGs} {vs : List Nat} (h : i ∈ vs) (hr : OwnS r u vs z) : OwnS (gCn (gNm i) r) (gCons (gName i) u) vs z := fun xs σ H Q q => by
  have hh := s_gcn (z := z) (g := gNm i) (r := r) (t := gName i) (u := fun xs σ H Q => u xs σ H fun σ' H' => wipe σ' vs = wipe σ vs ∧ Q σ' H') (fun v σ H Q => s_gnm v σ H Q) (fun xs σ H Q => hr xs σ H Q) (fun v σ H Q Q' a b => b _ _ a) xs σ H Q q
  obtain ⟨v, r', rfl, hh⟩ := hh
  refine ⟨v, r', rfl, ?_⟩
  have hh : u r' (σ.set i (some v)) H fun σ' H' => wipe σ' vs = wipe (σ.set i (some v)) vs ∧ Q σ' H' := hh
  rw [wipe_set h] at hh
  exact hh
theorem own_tup {n : Nat} {r : MGs} {u : TGs} {vs : List Nat} (hr : OwnS r u vs z) : Own (gTp n r) (gTup z.K n u) vs z := fun v σ H Q q =>
  s_gtp (u := fun xs σ1 H1 Q1 => u xs σ1 H1 fun σ' H' => wipe σ' vs = wipe σ1 vs ∧ Q1 σ' H') (fun xs σ1 H1 Q1 => hr xs σ1 H1 Q1) v σ H Q q |> fun ⟨a, xs, e, h1, h2, h3⟩ => ⟨a, xs, e, h1, h2, h3⟩
def WF : WM := fun _ _ _ _ _ _ _ => False
theorem wipe_none {σ : L2.St} {i : Nat} : ∀ {vs : List Nat}, i ∈ vs → i < σ.length → (wipe σ vs)[i]? = some none
  | [], h, _ => by simp at h
  | v :: vs, h, hl => by
    unfold L2.wipe
    by_cases hi : v = i
    · subst hi
      rw [List.getElem?_set_self (by rw [L2.wipe_length]; exact hl)]
    · rw [List.getElem?_set_ne hi]
      rcases List.mem_cons.mp h with h | h
      · exact absurd h.symm hi
      · exact wipe_none h hl
theorem wipe_idem {σ : L2.St} (vs : List Nat) : wipe (wipe σ vs) vs = wipe σ vs := by
  have aux : ∀ (ws : List Nat) (τ : L2.St), (∀ i ∈ ws, i < τ.length → τ[i]? = some none) → wipe τ ws = τ := by
    intro ws
    induction ws with
    | nil => intro τ _; rfl
    | cons w ws ih =>
      intro τ h
      unfold L2.wipe
      rw [ih τ fun i hi => h i (List.mem_cons_of_mem _ hi)]
      by_cases hw : w < τ.length
      · have := h w (List.mem_cons_self ..) hw
        refine List.ext_getElem? fun j => ?_
        by_cases hj : w = j
        · subst hj
          rw [List.getElem?_set_self hw, this]
        · rw [List.getElem?_set_ne hj]
      · exact List.set_eq_of_length_le (by omega)
  refine aux vs _ fun i hi hl => ?_
  exact wipe_none hi (by rw [L2.wipe_length] at hl; exact hl)
theorem s_lc {gt : TG} {vs : List Nat} (ho : Own g gt vs z) : ∀ σ H Q, tE z W (mLc mi g mt ma vs) σ H Q → tLc (tI z W mi) gt (tT z WF mt) (tE z WF ma) vs σ H Q := by
  rintro σ H Q ⟨ρ, st, env, rs, re, h⟩
  refine ⟨ρ, st, env, rs, re, h.bind fun it s1 ρ1 H1 J e1 rs1 rj h1 => ?_⟩
  intro Dp hD
  have al : Ext z ρ1 H1 (ρ1 ++ [Dp]) (upd H1 Dp (.lst [])) := Ext.alloc hD
  have rsD : RS z (ρ1 ++ [Dp]) (s1 ++ [.lst []]) (upd H1 Dp (.lst [])) := rs1.new_lst hD RVs.nil
  have reD := ((re.ext e1).ext al).wipe vs
  have kD : (ρ1 ++ [Dp])[s1.length]? = some Dp := rs1.last
  have h1D := h1.mono al
  have rjD : ∀ ρ2 st2 H2 i, Ext z (ρ1 ++ [Dp]) (upd H1 Dp (.lst [])) ρ2 H2 → RS z ρ2 st2 H2 → _ := fun ρ2 st2 H2 i e2 rs2 => rj ρ2 st2 H2 i (al.trans e2) rs2
  generalize (ρ1 ++ [Dp]) = ρD at al rsD reD kD h1D rjD
  generalize upd H1 Dp (.lst []) = HD at al rsD reD h1D rjD ⊢
  refine ⟨fun i n H2 => ∃ ρ2 st2, Ext z ρD HD ρ2 H2 ∧ RS z ρ2 st2 H2 ∧ Post z (RV z) ρ2 H2 (lcM it g mt ma (wipeM env vs) s1.length n i st2) Q (W env σ), ⟨fuel, ρD, _, Ext.refl, rsD, h1D⟩, ?_⟩
  rintro i n H2 ⟨ρ2, st2, e2, rs2, h2⟩
  cases n with
  | zero => exact h2.elim
  | succ n =>
    obtain ⟨r1, r2⟩ := rjD ρ2 st2 H2 i e2 rs2
    unfold lcM at h2
    split at h2
    · exact h2.elim
    · rename_i q
      exact .inl ⟨r2 q, h2.ok rs2 (rv_loc (e2.pl _ _ kD))⟩
    · rename_i d q
      obtain ⟨go, yl⟩ := r1 d q
      refine .inr ⟨go, fun H3 => ∃ ρ3 st3, Ext z ρD HD ρ3 H3 ∧ RS z ρ3 st3 H3 ∧ Post z (RV z) ρ3 H3 (lcM it g mt ma (wipeM env vs) s1.length n (i + 1) st3) Q (W env σ), fun H3 w => ⟨n, Nat.lt_succ_self n, w⟩, fun x H3 y => ?_⟩
      obtain ⟨e3, rs3, rv3⟩ := yl x H3 y
      have reW := (reD.ext e2).ext e3
      have key : tG z g x (wipe σ vs) H3 fun σ2 H4 => (tT z WF mt) σ2 H4 fun b H5 => if b = true then (tE z WF ma) σ2 H5 fun y H6 => ∃ acc, H6 Dp = some (.lst acc) ∧ acc.length < sizeLine ∧
          (∃ ρ3 st3, Ext z ρD HD ρ3 (upd H6 Dp (.lst (acc ++ [y]))) ∧ RS z ρ3 st3 (upd H6 Dp (.lst (acc ++ [y]))) ∧ Post z (RV z) ρ3 (upd H6 Dp (.lst (acc ++ [y]))) (lcM it g mt ma (wipeM env vs) s1.length n (i + 1) st3) Q (W env σ))
          else ∃ ρ3 st3, Ext z ρD HD ρ3 H5 ∧ RS z ρ3 st3 H5 ∧ Post z (RV z) ρ3 H5 (lcM it g mt ma (wipeM env vs) s1.length n (i + 1) st3) Q (W env σ) := by
        refine ⟨ρ2, st2, wipeM env vs, d, rs3, reW, rv3, ?_⟩
        cases qg : g d (wipeM env vs) st2 with
        | ex c f s => rw [qg] at h2; exact h2.elim
        | bad => rw [qg] at h2; exact h2.elim
        | ok env1 s4 =>
          simp only [qg] at h2
          intro ρ4 H4 σ4 e4 rs4 re4
          refine ⟨ρ4, s4, env1, rs4, re4, ?_⟩
          have ee4 := e3.trans e4
          cases qt : mt env1 s4 with
          | ex c f s => simp only [qt] at h2; exact h2.elim
          | bad => simp only [qt] at h2; exact h2.elim
          | ok b s5 =>
            intro ρ5 H5 b' e5 rs5 rb
            cases rb
            have ee5 := ee4.trans e5
            cases b with
            | false =>
              simp only [qt] at h2
              rw [if_neg Bool.false_ne_true]
              exact ⟨ρ5, s5, e2.trans ee5, rs5, h2.mono ee5⟩
            | true =>
              simp only [qt] at h2
              rw [if_pos rfl]
              refine ⟨ρ5, s5, env1, rs5, re4.ext e5, ?_⟩
              cases qm : ma env1 s5 with
              | ex c f s => simp only [qm] at h2; exact h2.elim
              | bad => simp only [qm] at h2; exact h2.elim
              | ok y s6 =>
                simp only [qm] at h2
                intro ρ6 H6 w e6 rs6 rv6
                have ee6 := ee5.trans e6
                split at h2
                · rename_i acc ea
                  split at h2
                  · rename_i hl
                    have pD := (e2.trans ee6).pl _ _ kD
                    obtain ⟨zs, z1, z2⟩ := rs6.lst ea pD
                    obtain ⟨ex, rs7⟩ := rs6.put_lst ea pD z1 (z2.append (RVs.cons rv6 RVs.nil))
                    exact ⟨zs, z1, by rw [← z2.length]; exact hl, ρ6, _, (e2.trans ee6).trans ex, rs7, h2.mono (ee6.trans ex)⟩
                  · exact h2.elim
                · exact h2.elim
      have := ho x (wipe σ vs) H3 _ key
      rw [wipe_idem] at this
      exact this
theorem q_lc {elt : Expr} {ifs : List Expr} {scope : Scope} {vs : List Nat} (own : List (Str × Nat)) (hvs : own.map (·.2) = vs) {gt : TG} (hc : X.calm = true) (hN : X.N.Nodup) (hi : PI X tg iter (tI z W mi)) (ok : BlkOk X.N X.env.scope scope own) (ho : Own g gt (own.map (·.2)) z)
    (hg : ∀ (s : Shared) (H : Hp) (C : Addr) (cl : List (Str × Addr)) (fp : List Addr), PG (X.blk s H scope (compEnvC scope cl C X.env) fp) tg gt) (ht : ∀ (s : Shared) (H : Hp) (C : Addr) (cl : List (Str × Addr)) (fp : List Addr), PTs (X.blk s H scope (compEnvC scope cl C X.env) fp) ifs (tT z WF mt))
    (he : ∀ (s : Shared) (H : Hp) (C : Addr) (cl : List (Str × Addr)) (fp : List Addr), PE (X.blk s H scope (compEnvC scope cl C X.env) fp) elt (tE z WF ma)) (hs : ∀ x, foldedSetIterable iter X.env x = pure x := by intro _; rfl) :
    PE X (.ListComp elt [⟨tg, iter, ifs, 0⟩] scope pos) (tE z W (mLc mi g mt ma vs)) := by
  subst hvs
  exact pe_imp (pe_lc hc hN hi ok hg ht he hs) (s_lc ho)
def mYes : MT := fun _ st => .ok true st
theorem qts_nil : PTs X [] (tT z W mYes) := ⟨fun pins s σ H Q I h => pts_nil.run pins s σ H Q I (by
  obtain ⟨ρ, st, env, rs, re, h⟩ := h
  exact Post.ok (rel := eqB) (a := true) (st := st) h rs rfl)⟩
theorem q_setLc {i : Nat} {y : Str} {py spos : Pos} {elt : Expr} {ifs : List Expr} {scope : Scope} {vs : List Nat} (own : List (Str × Nat)) (hvs : own.map (·.2) = vs) {gt : TG} (hc : X.calm = true) (hN : X.N.Nodup) (hy : X.N[i]? = some y) (hyl : X.env.scope.names.lookup y = some .local)
    (hsw : swapsWith (.ListComp elt [⟨tg, iter, ifs, 0⟩] scope pos) (some (.Name y py)) spos.line X.env = pure true) (hi : PI X tg iter (tI z W mi)) (ok : BlkOk X.N X.env.scope scope own) (ho : Own g gt (own.map (·.2)) z)
    (hg : ∀ (s : Shared) (H : Hp) (C : Addr) (cl : List (Str × Addr)) (fp : List Addr), PG (X.blk s H scope (compEnvC scope cl C X.env) fp) tg gt) (ht : ∀ (s : Shared) (H : Hp) (C : Addr) (cl : List (Str × Addr)) (fp : List Addr), PTs (X.blk s H scope (compEnvC scope cl C X.env) fp) ifs (tT z WF mt))
    (he : ∀ (s : Shared) (H : Hp) (C : Addr) (cl : List (Str × Addr)) (fp : List Addr), PE (X.blk s H scope (compEnvC scope cl C X.env) fp) elt (tE z WF ma)) (hs : ∀ x, foldedSetIterable iter X.env x = pure x := by intro _; rfl) :
    PS X (.Assign [.Name y py] (.ListComp elt [⟨tg, iter, ifs, 0⟩] scope pos) spos) (tS z W (mAsg (mLc mi g mt ma vs) (gNm i))) := by
 subst hvs
 exact ps_imp (ps_setLc hc hN hy hyl hsw hi ok hg ht he hs) (by
  rintro D σ H ⟨ρ, st, env, rs, re, h⟩
  exact s_lc ho σ H _ ⟨ρ, st, env, rs, re, Post.bindS h re fun d s1 ρ1 H1 x e1 rs1 rv1 h1 => h1 ρ1 H1 _ Ext.refl rs1 ((re.ext e1).set rv1 i)⟩)
/-! ### defs -/
/-- a def's meaning -/
abbrev Fn := List D → S → R D
mutual
/-- no place from n on -/
def low (n : Nat) : D → Bool
  | .tup l => lows n l
  | .loc k => decide (k < n)
  | .fl l => lows n l
  | .non => true
  | .bl _ => true
  | .int _ => true
  | .str _ => true
  | .ty _ => true
def lows (n : Nat) : List D → Bool
  | [] => true
  | d :: l => low n d && lows n l
end
mutual
theorem rv_low (e : ∀ k a, k < n → ρ'[k]? = some a → ρ[k]? = some a) : ∀ {d : D} {v : V}, low n d = true → RV z ρ' H d v → RV z ρ H d v
  | .non, v, _, h => by unfold RV at h ⊢; exact h
  | .bl b, v, _, h => by unfold RV at h ⊢; exact h
  | .int b, v, _, h => by unfold RV at h ⊢; exact h
  | .str b, v, _, h => by unfold RV at h ⊢; exact h
  | .ty b, v, _, h => by unfold RV at h ⊢; exact h
  | .tup l, v, hl, h => by
    unfold RV at h ⊢
    unfold low at hl
    obtain ⟨a, xs, rfl, q, t⟩ := h
    exact ⟨a, xs, rfl, q, rvs_low e hl t⟩
  | .loc k, v, hl, h => by
    unfold RV at h ⊢
    unfold low at hl
    obtain ⟨a, q, rfl⟩ := h
    exact ⟨a, e k a (of_decide_eq_true hl) q, rfl⟩
  | .fl l, v, hl, h => by
    unfold RV at h ⊢
    unfold low at hl
    obtain ⟨a, xs, rfl, q, t⟩ := h
    exact ⟨a, xs, rfl, q, rvs_low e hl t⟩
theorem rvs_low (e : ∀ k a, k < n → ρ'[k]? = some a → ρ[k]? = some a) : ∀ {l : List D} {xs : List V}, lows n l = true → RVs z ρ' H l xs → RVs z ρ H l xs
  | [], xs, _, h => by unfold RVs at h ⊢; exact h
  | d :: l, xs, hl, h => by
    unfold RVs at h ⊢
    unfold lows at hl
    rw [Bool.and_eq_true] at hl
    obtain ⟨x, r, rfl, q, t⟩ := h
    exact ⟨x, r, rfl, rv_low e hl.1 q, rvs_low e hl.2 t⟩
end
end
end Mm

namespace Mm
open PySem PySem.Spec PyProof.Rows L2 Lb
def lowO (n : Nat) : O → Bool
  | .lst l => lows n l
  | .dic l => lows n (l.map (·.2))
  | .ins _ l => lows n (l.map (·.2))
/-- what stands in the old places leans on old places alone -/
def Chk (st st' : S) : Prop := ∀ (i : Nat) o, i < st.length → st'[i]? = some o → st[i]? = some o ∨ lowO st.length o = true
theorem Chk.refl (st : S) : Chk st st := fun i o _ h => .inl h
theorem Chk.app {st st1 : S} (h : Chk st st1) (hl : st.length ≤ st1.length) (j : S) : Chk st (st1 ++ j) := fun i o hi e => by
  rw [List.getElem?_append_left (by omega)] at e
  exact h i o hi e
theorem Chk.set {st st1 : S} (h : Chk st st1) {k : Nat} {o : O} (ho : lowO st.length o = true) : Chk st (st1.set k o) := fun i o' hi e => by
  by_cases hk : k = i
  · subst hk
    by_cases hl : k < st1.length
    · rw [List.getElem?_set_self hl] at e
      cases e
      exact .inr ho
    · rw [List.getElem?_eq_none (by simp; omega)] at e
      cases e
  · rw [List.getElem?_set_ne hk] at e
    exact h i o' hi e
open Classical in
/-- a def's end: what it made and does not hand back is forgotten -/
noncomputable def finD (st : S) (d : D) (st' : S) : R D :=
  if st'.length = st.length then .ok d st' else
  if Chk st st' ∧ st.length ≤ st'.length then
    if low st.length d = true then .ok d (st'.take st.length) else
    match d with
    | .loc k => match st'[k]? with
      | some o => if lowO st.length o = true ∧ st.length ≤ k then .ok (.loc st.length) (st'.take st.length ++ [o]) else .ok d st'
      | none => .bad
    | _ => .ok d st'
  else .ok d st'
noncomputable def fin (st : S) (r : Rt) : R D := match r with
  | .nx _ st' => finD st .non st'
  | .rt d st' => finD st d st'
  | .ex c fs _ st' => .ex c fs st'
  | _ => .bad
def startM (n : Nat) (ds : List D) : Ev := ds.map some ++ List.replicate (n - ds.length) none
noncomputable def fnM (n : Nat) (m : MS) : Fn := fun ds st => fin st (m (startM n ds) st)
/-- a def's promise: k arguments -/
def spM (z : Zc) (k : Nat) (f : Fn) : Sp := fun vs H Q E => ∃ ρ st ds, vs.length = k ∧ RS z ρ st H ∧ RVs z ρ H ds vs ∧ Post z (RV z) ρ H (f ds st) Q (fun _ _ _ _ _ => False)
section
variable {z : Zc} {ρ ρ' : List Addr} {st st' : S} {H H' : Hp} {n : Nat}
mutual
theorem low_rv : ∀ {d : D} {v : V}, RV z ρ H d v → low ρ.length d = true
  | .non, v, _ => by unfold low; rfl
  | .bl _, v, _ => by unfold low; rfl
  | .int _, v, _ => by unfold low; rfl
  | .str _, v, _ => by unfold low; rfl
  | .ty _, v, _ => by unfold low; rfl
  | .tup l, v, h => by
    unfold RV at h
    unfold low
    obtain ⟨a, xs, rfl, q, t⟩ := h
    exact lows_rv t
  | .loc k, v, h => by
    unfold RV at h
    unfold low
    obtain ⟨a, q, rfl⟩ := h
    exact decide_eq_true (List.getElem?_eq_some_iff.mp q).1
  | .fl l, v, h => by
    unfold RV at h
    unfold low
    obtain ⟨a, xs, rfl, q, t⟩ := h
    exact lows_rv t
theorem lows_rv : ∀ {l : List D} {xs : List V}, RVs z ρ H l xs → lows ρ.length l = true
  | [], xs, _ => by unfold lows; rfl
  | d :: l, xs, h => by
    unfold RVs at h
    unfold lows
    obtain ⟨x, r, rfl, q, t⟩ := h
    rw [low_rv q, lows_rv t]
    rfl
end
theorem low_ro {o : O} {a : Addr} (h : RO z ρ H o a) : lowO ρ.length o = true := by
  cases o with
  | lst l => obtain ⟨xs, _, r⟩ := h; exact lows_rv r
  | dic l => obtain ⟨xs, _, _, r⟩ := h; exact lows_rv r
  | ins c l => obtain ⟨_, _, xs, _, _, _, _, r⟩ := h; exact lows_rv r
theorem ro_low {o : O} {a : Addr} (e : ∀ (k : Nat) a, k < n → ρ'[k]? = some a → ρ[k]? = some a) (hl : lowO n o = true) (h : RO z ρ' H o a) : RO z ρ H o a := by
  cases o with
  | lst l => obtain ⟨xs, q, r⟩ := h; exact ⟨xs, q, rvs_low e hl r⟩
  | dic l => obtain ⟨xs, q, k, r⟩ := h; exact ⟨xs, q, k, rvs_low e hl r⟩
  | ins c l => obtain ⟨C, dx, xs, q0, q, q1, k, r⟩ := h; exact ⟨C, dx, xs, q0, q, q1, k, rvs_low e hl r⟩
theorem back (rs : RS z ρ st H) (e : Ext z ρ H ρ' H') : ∀ (k : Nat) a, k < st.length → ρ'[k]? = some a → ρ[k]? = some a := fun k a hk q => by
  have hk' : k < ρ.length := by rw [rs.len]; exact hk
  have q1 := e.pl k _ (List.getElem?_eq_getElem hk')
  rw [q1] at q
  rw [List.getElem?_eq_getElem hk', q]
theorem RS.cut (rs : RS z ρ st H) (e : Ext z ρ H ρ' H') (rs' : RS z ρ' st' H') (c : Chk st st') (hl : st.length ≤ st'.length) : RS z ρ (st'.take st.length) H' := by
  refine ⟨by rw [List.length_take, rs.len]; omega, rs.inj, fun k o a h1 h2 => ?_⟩
  have hk : k < st.length := by
    have := (List.getElem?_eq_some_iff.mp h1).1
    rw [List.length_take] at this
    omega
  rw [List.getElem?_take_of_lt hk] at h1
  have ro := rs'.obj k o a h1 (e.pl k a h2)
  refine ro_low (back rs e) ?_ ro
  rcases c k o hk h1 with q | q
  · have := low_ro (rs.obj k o a q h2)
    rw [rs.len] at this
    exact this
  · exact q
theorem finD_post {d : D} {Q : VK} {xw : XW} (rs : RS z ρ st H) (h : Post z (RV z) ρ H (finD st d st') Q xw) : ∀ ρ' H' v, Ext z ρ H ρ' H' → RS z ρ' st' H' → RV z ρ' H' d v → Q v H' := by
  intro ρ' H' v e rs' rv
  unfold finD at h
  split at h
  · exact h.at e rs' rv
  · split at h
    · rename_i c
      have cut := rs.cut e rs' c.1 c.2
      have e0 : Ext z ρ H ρ H' := ⟨fun _ _ h => h, e.tp, e.fz⟩
      split at h
      · rename_i hl
        exact h.at e0 cut (rv_low (back rs e) hl rv)
      · split at h
        · split at h
          · rename_i k _ _ o eo
            split at h
            · rename_i hk
              obtain ⟨a, pa, rfl⟩ := rvl rv
              have ro := rs'.obj k o a eo pa
              have na : ∀ (i : Nat), ρ[i]? ≠ some a := fun i q => by
                have := rs'.inj i k a (e.pl i a q) pa
                have hi := (List.getElem?_eq_some_iff.mp q).1
                rw [rs.len] at hi
                omega
              have e1 : Ext z ρ H (ρ ++ [a]) H' := ⟨fun i b q => by rw [List.getElem?_append_left (List.getElem?_eq_some_iff.mp q).1]; exact q, e.tp, e.fz⟩
              have e2 : Ext z ρ H' (ρ ++ [a]) H' := ⟨e1.pl, fun _ _ q => q, fun _ _ q => q⟩
              refine h.at e1 ⟨by simp [cut.len], fun i j b q1 q2 => ?_, fun i o' b q1 q2 => ?_⟩ (rv_loc (by rw [← rs.len]; simp))
              · rcases get_snoc q1 with k1 | ⟨k1, k1'⟩ <;> rcases get_snoc q2 with k2 | ⟨k2, k2'⟩
                · exact rs.inj i j b k1 k2
                · subst k2'
                  exact absurd k1 (na i)
                · subst k1'
                  exact absurd k2 (na j)
                · rw [k1, k2]
              · have lc : (st'.take st.length).length = ρ.length := by rw [List.length_take, rs.len]; omega
                rcases get_snoc q1 with k1 | ⟨k1, k1'⟩ <;> rcases get_snoc q2 with k2 | ⟨k2, k2'⟩
                · exact (cut.obj i o' b k1 k2).ext e2 rfl fun _ q => q
                · have := (List.getElem?_eq_some_iff.mp k1).1
                  omega
                · have := (List.getElem?_eq_some_iff.mp k2).1
                  omega
                · subst k1' k2'
                  exact (ro_low (back rs e) hk.1 ro).ext e2 rfl fun _ q => q
            · exact h.at e rs' rv
          · exact h.elim
        · exact h.at e rs' rv
    · exact h.at e rs' rv
theorem fin_post {r : Rt} {Q : VK} {W : WM} (rs : RS z ρ st H) (h : Post z (RV z) ρ H (fin st r) Q (fun _ _ _ _ _ => False)) : PostS z ρ H r { nx := fun _ H' => Q .non H', rt := Q } W := by
  cases r with
  | nx env s => exact fun ρ' H' σ' e rs' _ => finD_post rs h ρ' H' _ e rs' rv_non
  | rt d s => exact fun ρ' H' v e rs' rv => finD_post rs h ρ' H' v e rs' rv
  | bk _ _ => exact h.elim
  | ct _ _ => exact h.elim
  | ex c fs env s => exact fun ρ' H' σ' e rs' _ => (h ρ' H' e rs').elim
  | bad => exact h.elim
theorem re_start {ds : List D} {vs : List V} {N : List Str} (r : RVs z ρ H ds vs) : RE z ρ H (startM N.length ds) (L2.start N vs) := by
  have e1 := r.length
  unfold startM L2.start
  refine ⟨by simp [e1], fun i d h => ?_⟩
  by_cases hi : i < ds.length
  · rw [List.getElem?_append_left (by simpa using hi), List.getElem?_map] at h
    obtain ⟨d', h1, h2⟩ := Option.map_eq_some_iff.mp h
    cases h2
    obtain ⟨v, v1, v2⟩ := r.get h1
    refine ⟨v, ?_, v2⟩
    rw [List.getElem?_append_left (by simp; omega), List.getElem?_map, v1]
    rfl
  · rw [List.getElem?_append_right (by simp; omega)] at h
    rw [List.getElem?_replicate] at h
    split at h <;> simp at h
end
section
variable {X : Cx} {P : Program} {w : World} {K : PySem.W.Frag} {mg : Str → Option Value} {base : Heap} {z : Zc} {W : WM} {pos : Pos} {es : List Expr} {e : Expr} {ar : MA}
/-- a def by its mirror -/
theorem ok_def {x qual : Str} {s0 : Stmt} {f : Addr} {fd : FuncData} {N ps : List Str} {k : Nat} {m : MS} (F : Fun K x qual s0 f fd) (sc : FnScope N ps (defScope s0))
    (hd : ∀ (cdv : Value) (A : Around) (outer : List Env) (s : Shared) (H : Hp) (E : XK), Room k (A.deeper (envOfC qual (defScope s0) s.heap.objs.size f cdv)) → PSs (cxOf CX0 P w K mg base N qual (defScope s0) f cdv A outer s H E).nox (defBody s0) (tS z WF m)) :
    FnOk P w K mg base CX0 (k + 1) f fd ps (spM z ps.length (fnM N.length m)) := by
  refine F.ok sc (fun vs H Q E h => ?_) (fun cdv A outer s H vs Q E hr h => ?_)
  · obtain ⟨ρ, st, ds, hl, _⟩ := h
    exact hl
  · obtain ⟨ρ, st, ds, hl, rs, rv, q⟩ := h
    exact ⟨_, hd cdv A outer s H E hr, ρ, st, startM N.length ds, rs, re_start rv, fin_post rs q⟩
def mCall (k : Nat) (f : Fn) (ar : MA) : ME := fun env st => (ar env st).bind fun ds s1 => if ds.length = k then f ds s1 else .bad
theorem s_call {k : Nat} {f : Fn} {E : XK} {ar : MA} : ∀ σ H Q, tE z W (mCall k (fun ds st => match f ds st with | .ex _ _ _ => .bad | r => r) ar) σ H Q → tCall (spM z k f) [] E (tA z W ar) σ H Q := by
  rintro σ H Q ⟨ρ, st, env, rs, re, h⟩
  refine ⟨ρ, st, env, rs, re, h.bind fun ds s1 ρ1 H1 xs e1 rs1 rv1 h1 => ?_⟩
  split at h1
  · rename_i hl
    refine ⟨ρ1, s1, ds, by rw [List.append_nil, ← RVs.length rv1]; exact hl, rs1, by rw [List.append_nil]; exact rv1, ?_⟩
    cases q : f ds s1 with
    | ok a s => simp only [q] at h1; exact h1
    | ex c g s => simp only [q] at h1; exact h1.elim
    | bad => simp only [q] at h1; exact h1.elim
  · exact h1.elim
/-- errors do not pass -/
def nx (f : Fn) : Fn := fun ds st => match f ds st with
  | .ex _ _ _ => .bad
  | r => r
theorem q_call {x : Str} {p : Pos} {n k : Nat} {f : Addr} {fd : FuncData} {ps : List Str} {g : Fn} (F : FnOk X.prog X.w X.K X.mg X.base CX0 n f fd ps (spM z k g)) (hr : Room n X.A) (hg : Gl X x) (hm : X.mg x = some (.ref f)) (hk : PySem.W.keepIn X.K (.ref f) = true) (hb : Binds X.K fd ps [])
    (ha : PA X (e :: es) (tA z W ar)) (hdb : (x == ("__debug__" : Str)) = false := by decide) (he : starEach (e :: es) X.env = (false, eval e X.env) :: starEach es X.env := by rfl) (hpl : (backTo pos (starEach es X.env)).any (·.1) = false := by rfl) :
    PE X (.Call (.Name x p) (e :: es) [] pos) (tE z W (mCall k (nx g) ar)) := pe_imp (pe_call F hr hg hm hk hb .nil pass0 ha hdb he hpl) s_call
theorem q_call0 {x : Str} {p : Pos} {n k : Nat} {f : Addr} {fd : FuncData} {ps : List Str} {g : Fn} (F : FnOk X.prog X.w X.K X.mg X.base CX0 n f fd ps (spM z k g)) (hr : Room n X.A) (hg : Gl X x) (hm : X.mg x = some (.ref f)) (hk : PySem.W.keepIn X.K (.ref f) = true) (hb : Binds X.K fd ps [])
    (hdb : (x == ("__debug__" : Str)) = false := by decide) : PE X (.Call (.Name x p) [] [] pos) (tE z W (mCall k (nx g) mNil)) := pe_imp (pe_call0 F hr hg hm hk hb .nil pass0 hdb) (by
  rintro σ H Q ⟨ρ, st, env, rs, re, h⟩
  have := s_call (E := E0) (ar := mNil) σ H Q ⟨ρ, st, env, rs, re, h⟩
  obtain ⟨ρ, st, env, rs, re, h⟩ := this
  exact Post.ok (rel := RVs z) (a := []) (st := st) h rs RVs.nil)
end
end Mm

namespace Mm
open PySem PySem.Spec PyProof.Rows L2 Lb
section
variable {X : Cx} {z : Zc} {W : WM} {ρ ρ' : List Addr} {st : S} {H H' : Hp} {v x y : V} {l m : List D} {xs ys : List V} {Q : VK} {xw : XW} {a b c e tg iter : Expr} {ma mb mc mo : ME} {mt mu : MT} {pos : Pos} {ar : MA} {es : List Expr} {ms : MS} {mi : MI} {g : MG} {body : List Stmt}
theorem hu65 {A : Around} {k : Nat} (hr : Room k A) : A.units + 65 < cLine := by have := hr.un; omega
theorem q_un {op : UnaryOp} {r : V → Hp → VK → Prop} {f : D → S → R D} (ho : UnR X (unaryOp op) r) (hr : V1 z r f) (ha : PE X a (tE z W ma)) : PE X (.UnaryOp op a pos) (tE z W (m1 f ma)) := pe_imp (pe_un ho ha) (s_un hr)
/-- truth -/
def truD (st : S) : D → Option Bool
  | .non => some false
  | .bl b => some b
  | .int i => some (i != 0)
  | .str s => if s.length ≤ sizeLine then some ((s.length : Int) != 0) else none
  | .tup l => some (!l.isEmpty)
  | .fl l => some (!l.isEmpty)
  | .loc n => match st[n]? with
    | some (.lst l) => some (!l.isEmpty)
    | some (.dic l) => some (!l.isEmpty)
    | _ => none
  | .ty _ => none
theorem emp_rv (r : RVs z ρ H l xs) : xs.isEmpty = l.isEmpty := by
  cases l with
  | nil => rw [rvs0 r]; rfl
  | cons d l =>
    unfold RVs at r
    obtain ⟨x, w, rfl, _⟩ := r
    rfl
theorem tru_rv {d : D} {k : Bool} (rs : RS z ρ st H) (e : truD st d = some k) (r : RV z ρ H d x) : TruV z.K x H k := by
  cases d with
  | non => cases e; rw [rvn r]; rfl
  | bl b => cases e; rw [rvb r]; rfl
  | int b => cases e; rw [rvi r]; rfl
  | str s =>
    rw [rvs r]
    have e' : (if s.length ≤ sizeLine then some ((s.length : Int) != 0) else none) = some k := e
    split at e'
    · rename_i h; cases e'; exact ⟨h, rfl⟩
    · cases e'
  | tup l =>
    cases e
    obtain ⟨a, xs, rfl, q, t⟩ := rvt r
    exact .inr (.inl ⟨xs, q, by rw [emp_rv t]⟩)
  | fl l =>
    cases e
    obtain ⟨a, xs, rfl, q, t⟩ := rvf r
    exact .inl ⟨xs, q.sq, by rw [emp_rv t]⟩
  | loc n =>
    obtain ⟨a, q, rfl⟩ := rvl r
    have e' : (match st[n]? with | some (.lst l) => some (!l.isEmpty) | some (.dic l) => some (!l.isEmpty) | _ => none) = some k := e
    split at e'
    · rename_i l e0
      cases e'
      obtain ⟨xs, h1, t⟩ := rs.obj n _ a e0 q
      exact .inl ⟨xs, SqL.of h1, by rw [emp_rv t]⟩
    · rename_i l e0
      cases e'
      obtain ⟨xs, h1, h2, t⟩ := rs.obj n _ a e0 q
      refine .inr (.inr ⟨xs, h1, ?_⟩)
      cases xs <;> cases l <;> simp at h2 ⊢
    · cases e'
  | ty s => cases e
def mTr (m : ME) : MT := fun env st => (m env st).bind fun d s1 => match truD s1 d with
  | some k => .ok k s1
  | none => .bad
theorem qt_tr (hz : z.K = X.K) (ha : PE X a (tE z W ma)) (he : ∀ whole, isTrue a X.env whole = (do let v ← whole; standAt a.pos; holding [v] (truthy v))) : PT X a (tT z W (mTr ma)) := pt_imp (pt_truth ha he) (by
  rintro σ H Q ⟨ρ, st, env, rs, re, h⟩
  refine ⟨ρ, st, env, rs, re, h.bind fun d s1 ρ1 H1 x e1 rs1 rv1 h1 => ?_⟩
  rw [← hz]
  split at h1
  · rename_i k e
    exact ⟨k, tru_rv rs1 e rv1, h1.ok rs1 rfl⟩
  · exact h1.elim)
/-- a chain of two comparisons -/
def mChain (f g : D → D → S → R D) (ma mb mc : ME) : ME := fun env st => (ma env st).bind fun x s1 => (mb env s1).bind fun y s2 => (f x y s2).bind fun k s3 => match k with
  | .bl true => (mc env s3).bind fun w s4 => g y w s4
  | .bl false => .ok (.bl false) s3
  | _ => .bad
theorem s_chain {r r' : R2} {f g : D → D → S → R D} (hr : V2 z r f) (hr' : V2 z r' g) : ∀ σ H Q, tE z W (mChain f g ma mb mc) σ H Q → tChain r r' (tE z W ma) (tE z W mb) (tE z W mc) σ H Q := by
  rintro σ H Q ⟨ρ, st, env, rs, re, h⟩
  refine ⟨ρ, st, env, rs, re, h.bind fun d1 s1 ρ1 H1 x e1 rs1 rv1 h1 => ⟨ρ1, s1, env, rs1, re.ext e1, h1.bind fun d2 s2 ρ2 H2 y e2 rs2 rv2 h2 => ?_⟩⟩
  refine hr ρ2 s2 H2 x y d1 d2 _ (W env σ) rs2 (rv1.ext e2) rv2 (Post.bind h2 fun k s3 ρ3 H3 kv e3 rs3 rv3 h3 => ?_)
  split at h3
  · refine ⟨true, rvb rv3, ?_⟩
    rw [if_pos rfl]
    exact ⟨ρ3, s3, env, rs3, ((re.ext e1).ext e2).ext e3, h3.bind fun d4 s4 ρ4 H4 w e4 rs4 rv4 h4 => hr' ρ4 s4 H4 y w d2 d4 Q _ rs4 ((rv2.ext e3).ext e4) rv4 h4⟩
  · refine ⟨false, rvb rv3, ?_⟩
    rw [if_neg Bool.false_ne_true]
    exact h3.ok rs3 rv_bl
  · exact h3.elim
theorem q_chain {op op' : CmpOp} {r r' : R2} {f g : D → D → S → R D} (ho : OpR X (compareOp op) r) (ho' : OpR X (compareOp op') r') (hr : V2 z r f) (hr' : V2 z r' g) (ha : PE X a (tE z W ma)) (hb : PE X b (tE z W mb)) (hc : PE X c (tE z W mc))
    (hm : lastMarks [op, op'] [b, c] = false := by with_unfolding_all rfl) : PE X (.Compare a [op, op'] [b, c] pos) (tE z W (mChain f g ma mb mc)) := pe_imp (pe_chain ho ho' ha hb hc hm) (s_chain hr hr')
theorem qt_chain {op op' : CmpOp} {r r' : R2} {f g : D → D → S → R D} (ho : OpR X (compareOp op) r) (ho' : OpR X (compareOp op') r') (hr : V2 z r f) (hr' : V2 z r' g) (ha : PE X a (tE z W ma)) (hb : PE X b (tE z W mb)) (hc : PE X c (tE z W mc))
    (hm : lastMarks [op, op'] [b, c] = false := by with_unfolding_all rfl) : PT X (.Compare a [op, op'] [b, c] pos) (tT z W (mB (mChain f g ma mb mc))) := pt_imp (pt_chain ho ho' ha hb hc hm) (fun σ H Q h => s_tB σ H Q h |> fun ⟨ρ, st, env, rs, re, h⟩ => s_chain hr hr' σ H _ ⟨ρ, st, env, rs, re, h⟩)
theorem qt_din (hu : X.A.units + 1 < cLine) (ha : PE X a (tE z W ma)) (hb : PE X b (tE z W mb)) (hm : behindInMarks .In b = false := by rfl) : PT X (.Compare a [.In] [b] pos) (tT z W (mB (m2 (fDin false) ma mb))) :=
  pt_imp (pt_cmp (pc_din hu ha hb) hm) (fun σ H Q h => s_tB σ H Q h |> fun ⟨ρ, st, env, rs, re, h⟩ => s_din σ H _ ⟨ρ, st, env, rs, re, h⟩)
theorem qt_dnotin (hu : X.A.units + 1 < cLine) (ha : PE X a (tE z W ma)) (hb : PE X b (tE z W mb)) (hm : behindInMarks .NotIn b = false := by rfl) : PT X (.Compare a [.NotIn] [b] pos) (tT z W (mB (m2 (fDin true) ma mb))) :=
  pt_imp (pt_cmp (pc_dnotin hu ha hb) hm) (fun σ H Q h => s_tB σ H Q h |> fun ⟨ρ, st, env, rs, re, h⟩ => s_din σ H _ ⟨ρ, st, env, rs, re, h⟩)
def fAddI := fI (fun _ _ => true) fun i j => .int (i + j)
theorem v_ipadd : V2 z (ipI fun i j => i + j) fAddI := v_i0 (g' := fun i j => .int (i + j)) fun _ _ _ _ => rv_int
theorem v_ipsub : V2 z (ipI fun i j => i - j) fSub := v_i0 (g' := fun i j => .int (i - j)) fun _ _ _ _ => rv_int
/-- isinstance(x, (A, B)) -/
def isiAny (t : String) : List String → Option Bool
  | [] => some false
  | c :: cs => match isiT t c with
    | some b => (isiAny t cs).map (b || ·)
    | none => none
def mIsiT (cs : List String) (m : ME) : ME := fun env st => (m env st).bind fun d s1 => match tyD s1 d with
  | some t => match isiAny t cs with
    | some b => .ok (.bl b) s1
    | none => .bad
  | none => .bad
/-- the classes of a written tuple -/
inductive TyA (X : Cx) : List Expr → List String → Prop where
  | nil : TyA X [] []
  | cons {e : Expr} {es : List Expr} {c : String} {cs : List String} : PE X e (tC (.ty c)) → TyA X es cs → (starEach (e :: es) X.env = (false, eval e X.env) :: starEach es X.env) → TyA X (e :: es) (c :: cs)
def tys : List String → TA
  | [] => tNil
  | c :: cs => tCons (tC (.ty c)) (tys cs)
theorem tya_pa {X : Cx} {es : List Expr} {cs : List String} (h : TyA X es cs) : PA X es (tys cs) := by
  induction h with
  | nil => exact pa_nil
  | cons h1 _ hs ih => exact pa_cons h1 ih hs
theorem tys_run {σ : L2.St} {R : List V → Hp → Prop} : ∀ {cs : List String} {R : List V → Hp → Prop}, R (cs.map V.ty) H → tys cs σ H R
  | [], _, h => h
  | c :: cs, R, h => by
    show tys cs σ H fun xs H2 => R (.ty c :: xs) H2
    exact tys_run (R := fun xs H2 => R (.ty c :: xs) H2) h
theorem kit_any {K : PySem.W.Frag} {t : String} : ∀ {cs : List String} {b : Bool}, isiAny t cs = some b → PySem.W.kitAny K (.type t) (cs.map Value.type) = some b
  | [], b, h => by cases h; rfl
  | c :: cs, b, h => by
    unfold isiAny at h
    split at h
    · rename_i b1 e
      obtain ⟨b2, e2, rfl⟩ := Option.map_eq_some_iff.mp h
      have ih := kit_any (K := K) e2
      refine kitAny_cons (r := b1 || b2) (kit_ty (isi_kit e)) (fun hb => ?_) (fun hb => ?_)
      · rw [hb, Bool.false_or]; exact ih
      · rw [hb]; rfl
    · cases h
theorem cls_all : ∀ cs : List String, Paired ClsV (cs.map V.ty) (cs.map Value.type)
  | [] => .nil
  | c :: cs => .cons (.ty c) (cls_all cs)
theorem q_isiT {p tpos : Pos} {k : Nat} {ts : List Expr} {cs : List String} (hz : z.K = X.K) (hg : Gl X "isinstance") (hm : X.mg "isinstance" = none) (hv : bootBuiltins "isinstance" = some (.builtin "isinstance")) (ha : PE X a (tE z W ma)) (ht : TyA X ts cs) (hl : cs.length ≤ 100 := by decide)
    (he : starEach (a :: [.Tuple ts k tpos]) X.env = (false, eval a X.env) :: starEach [.Tuple ts k tpos] X.env := by rfl) (hpl : (backTo pos (starEach [.Tuple ts k tpos] X.env)).any (·.1) = false := by rfl) (he2 : starEach [.Tuple ts k tpos] X.env = (false, eval (.Tuple ts k tpos) X.env) :: starEach [] X.env := by rfl) :
    PE X (.Call (.Name "isinstance" p) [a, .Tuple ts k tpos] [] pos) (tE z W (mIsiT cs ma)) := pe_imp (pe_callB (r := rIsiT X.K) call_isiT hg hm hv (pa_cons ha (pa_cons (pe_tup (tya_pa ht)) pa_nil he2) he) (by decide) (by decide) he hpl) (by
  rintro σ H Q ⟨ρ, st, env, rs, re, h⟩
  refine ⟨ρ, st, env, rs, re, h.bind fun d s1 ρ1 H1 x e1 rs1 rv1 h1 => ?_⟩
  refine tys_run (R := fun vs H2 => vs.length ≤ sizeLine ∧ ∀ p, H2 p = none → rIsiT X.K [x, .ref p] (upd H2 p (.tup vs)) Q) ⟨by rw [List.length_map]; exact Nat.le_trans hl (by decide), fun p hp => ?_⟩
  split at h1
  · rename_i t et
    split at h1
    · rename_i b eb
      exact ⟨x, p, _, .type t, cs.map Value.type, b, rfl, upd_same, cls_all cs, by rw [← hz]; exact ty_rv (rs1.tup hp) et (rv1.ext (Ext.new hp)), kit_any eb, h1.at (Ext.new hp) (rs1.tup hp) rv_bl⟩
    · exact h1.elim
  · exact h1.elim)
/-! a dict's display -/
def mPrs : List (ME × ME) → Ev → S → R (List (Key × D))
  | [], _, st => .ok [] st
  | p :: r, env, st => (p.1 env st).bind fun k s1 => (p.2 env s1).bind fun v s2 => (mPrs r env s2).bind fun l s3 => match keyD k with
    | some key => .ok ((key, v) :: l) s3
    | none => .bad
def mergeD (kvs more : List (Key × D)) : List (Key × D) := more.foldl (fun acc kv => putD acc kv.1 kv.2) kvs
def mDisp (ps : List (ME × ME)) : ME := fun env st => (mPrs ps env (st ++ [.dic []])).bind fun kvs s2 => match s2[st.length]? with
  | some (.dic []) => if kvs.length ≤ 15 then .ok (.loc st.length) (s2.set st.length (.dic (mergeD [] kvs))) else .bad
  | _ => .bad
/-- pairs and what they are -/
def RKs (z : Zc) (ρ : List Addr) (H : Hp) (l : List (Key × D)) (qs : List (V × V)) : Prop := ∃ ks : List (Key × V), qs = ks.map (fun kv => (kV kv.1, kv.2)) ∧ ks.map (·.1) = l.map (·.1) ∧ RVs z ρ H (l.map (·.2)) (ks.map (·.2))
theorem s_prs : ∀ (ps : List (ME × ME)) {ρ : List Addr} {st : S} {H : Hp} {env : Ev} {σ : L2.St} {P : List (V × V) → Hp → Prop}, RS z ρ st H → RE z ρ H env σ → Post z (RKs z) ρ H (mPrs ps env st) P (W env σ) → tPairs (ps.map fun p => (tE z W p.1, tE z W p.2)) σ H P
  | [], ρ, st, H, env, σ, P, rs, re, h => h.ok rs ⟨[], rfl, rfl, RVs.nil⟩
  | p :: r, ρ, st, H, env, σ, P, rs, re, h => by
    refine ⟨ρ, st, env, rs, re, Post.bind h fun k s1 ρ1 H1 x e1 rs1 rv1 h1 => ⟨ρ1, s1, env, rs1, re.ext e1, Post.bind h1 fun v s2 ρ2 H2 y e2 rs2 rv2 h2 => ?_⟩⟩
    refine s_prs r rs2 ((re.ext e1).ext e2) (Post.bind h2 fun l s3 ρ3 H3 qs e3 rs3 rk h3 => ?_)
    obtain ⟨ks, rfl, k1, k2⟩ := rk
    split at h3
    · rename_i key ek
      have ex := rv_key ek ((rv1.ext e2).ext e3)
      subst ex
      exact h3.ok rs3 ⟨(key, y) :: ks, rfl, by rw [List.map_cons, List.map_cons, k1], RVs.cons (rv2.ext e3) k2⟩
    · exact h3.elim
theorem merge_rv : ∀ {l : List (Key × D)} {ks : List (Key × V)} {acc : List (Key × D)} {as : List (Key × V)}, ks.map (·.1) = l.map (·.1) → RVs z ρ H (l.map (·.2)) (ks.map (·.2)) → as.map (·.1) = acc.map (·.1) → RVs z ρ H (acc.map (·.2)) (as.map (·.2)) →
    (mergeK as ks).map (·.1) = (mergeD acc l).map (·.1) ∧ RVs z ρ H ((mergeD acc l).map (·.2)) ((mergeK as ks).map (·.2))
  | [], [], acc, as, _, _, a1, a2 => ⟨a1, a2⟩
  | [], _ :: _, _, _, h, _, _, _ => by simp at h
  | _ :: _, [], _, _, h, _, _, _ => by simp at h
  | (k1, d) :: l, (k2, v) :: ks, acc, as, h, r, a1, a2 => by
    rw [List.map_cons, List.map_cons] at h
    injection h with h1 h2
    have h1 : k2 = k1 := h1
    subst h1
    rw [List.map_cons, List.map_cons] at r
    unfold RVs at r
    obtain ⟨x, w, e, r1, r2⟩ := r
    injection e with e1 e2
    subst e1 e2
    obtain ⟨b1, b2⟩ := put_rv (k := k2) a1 a2 r1
    exact merge_rv (l := l) (ks := ks) h2 r2 b1 b2
theorem q_disp {keys : List (Option Expr)} {values : List Expr} {ps : List (ME × ME)} (h : PPs X pos keys values (ps.map fun p => (tE z W p.1, tE z W p.2))) (hall : keys.all (·.isSome) = true := by rfl) (hl : keys.length = values.length := by rfl) (h0 : keys ≠ [] := by exact List.cons_ne_nil _ _)
    (h15 : keys.length ≤ 15 := by decide) : PE X (.Dict keys values pos) (tE z W (mDisp ps)) := pe_imp (pe_disp h hall hl h0 h15) (by
  rintro σ H Q ⟨ρ, st, env, rs, re, h⟩ p hp
  have al : Ext z ρ H (ρ ++ [p]) (upd H p (.dK [])) := Ext.alloc hp
  have rs1 : RS z (ρ ++ [p]) (st ++ [.dic []]) (upd H p (.dK [])) := rs.alloc (o := .dic []) hp ⟨[], upd_same, rfl, RVs.nil⟩
  have kp : (ρ ++ [p])[st.length]? = some p := rs.last
  refine s_prs ps rs1 (re.ext al) (Post.bind (h.mono al) fun l s2 ρ2 H2 qs e2 rs2 rk h2 => ?_)
  obtain ⟨ks, rfl, k1, k2⟩ := rk
  split at h2
  · rename_i e0
    split at h2
    · rename_i hl
      have p2 := e2.pl _ _ kp
      obtain ⟨ys, y1, y2, y3⟩ := rs2.obj _ _ p e0 p2
      have : ys = [] := List.length_eq_zero_iff.mp (by simpa using congrArg List.length y2)
      subst this
      have hk : ks.length = l.length := by simpa using congrArg List.length k1
      obtain ⟨m1, m2⟩ := merge_rv k1 k2 (acc := []) (as := []) rfl RVs.nil
      obtain ⟨ex, rs3⟩ := rs2.put_dic e0 p2 y1 m1 m2
      exact ⟨y1, ks, rfl, by omega, h2.at ex rs3 (rv_loc p2)⟩
    · exact h2.elim
  · exact h2.elim)
/-! a dict comprehension -/
def dcM (it : ItM) (g : MG) (t : MT) (mk mv : ME) (env : Ev) (k : Nat) : Nat → Nat → S → R D
  | 0, _, _ => .bad
  | n + 1, i, st => match it i st with
    | none => .bad
    | some none => .ok (.loc k) st
    | some (some d) => match g d env st with
      | .ok env1 s1 => match t env1 s1 with
        | .ok true s2 => match mk env1 s2 with
          | .ok y s3 => match mv env1 s3 with
            | .ok w s4 => match s4[k]?, keyD y with
              | some (.dic acc), some key => if acc.length < sizeLine then dcM it g t mk mv env k n (i + 1) (s4.set k (.dic (putD acc key w))) else .bad
              | _, _ => .bad
            | _ => .bad
          | _ => .bad
        | .ok false s2 => dcM it g t mk mv env k n (i + 1) s2
        | _ => .bad
      | _ => .bad
def mDc (mi : MI) (g : MG) (t : MT) (mk mv : ME) (vs : List Nat) : ME := fun env st => (mi env st).bind fun it s1 => dcM it g t mk mv (wipeM env vs) s1.length fuel 0 (s1 ++ [.dic []])
theorem s_dc {gt : TG} {vs : List Nat} (ho : Own g gt vs z) : ∀ σ H Q, tE z W (mDc mi g mt ma mb vs) σ H Q → tDc (tI z W mi) gt (tT z WF mt) (tE z WF ma) (tE z WF mb) vs σ H Q := by
  rintro σ H Q ⟨ρ, st, env, rs, re, h⟩
  refine ⟨ρ, st, env, rs, re, h.bind fun it s1 ρ1 H1 J e1 rs1 rj h1 => ?_⟩
  intro Dp hD
  have al : Ext z ρ1 H1 (ρ1 ++ [Dp]) (upd H1 Dp (.dK [])) := Ext.alloc hD
  have rsD : RS z (ρ1 ++ [Dp]) (s1 ++ [.dic []]) (upd H1 Dp (.dK [])) := rs1.alloc (o := .dic []) hD ⟨[], upd_same, rfl, RVs.nil⟩
  have reD := ((re.ext e1).ext al).wipe vs
  have kD : (ρ1 ++ [Dp])[s1.length]? = some Dp := rs1.last
  have h1D := h1.mono al
  have rjD : ∀ ρ2 st2 H2 i, Ext z (ρ1 ++ [Dp]) (upd H1 Dp (.dK [])) ρ2 H2 → RS z ρ2 st2 H2 → _ := fun ρ2 st2 H2 i e2 rs2 => rj ρ2 st2 H2 i (al.trans e2) rs2
  generalize (ρ1 ++ [Dp]) = ρD at al rsD reD kD h1D rjD
  generalize upd H1 Dp (.dK []) = HD at al rsD reD h1D rjD ⊢
  refine ⟨fun i n H2 => ∃ ρ2 st2, Ext z ρD HD ρ2 H2 ∧ RS z ρ2 st2 H2 ∧ Post z (RV z) ρ2 H2 (dcM it g mt ma mb (wipeM env vs) s1.length n i st2) Q (W env σ), ⟨fuel, ρD, _, Ext.refl, rsD, h1D⟩, ?_⟩
  rintro i n H2 ⟨ρ2, st2, e2, rs2, h2⟩
  cases n with
  | zero => exact h2.elim
  | succ n =>
    obtain ⟨r1, r2⟩ := rjD ρ2 st2 H2 i e2 rs2
    unfold dcM at h2
    split at h2
    · exact h2.elim
    · rename_i q
      exact .inl ⟨r2 q, h2.ok rs2 (rv_loc (e2.pl _ _ kD))⟩
    · rename_i d q
      obtain ⟨go, yl⟩ := r1 d q
      refine .inr ⟨go, fun H3 => ∃ ρ3 st3, Ext z ρD HD ρ3 H3 ∧ RS z ρ3 st3 H3 ∧ Post z (RV z) ρ3 H3 (dcM it g mt ma mb (wipeM env vs) s1.length n (i + 1) st3) Q (W env σ), fun H3 w => ⟨n, Nat.lt_succ_self n, w⟩, fun x H3 y => ?_⟩
      obtain ⟨e3, rs3, rv3⟩ := yl x H3 y
      have reW := (reD.ext e2).ext e3
      have key : tG z g x (wipe σ vs) H3 fun σ2 H4 => (tT z WF mt) σ2 H4 fun b H5 => if b = true then (tE z WF ma) σ2 H5 fun y H6 => (tE z WF mb) σ2 H6 fun w H7 => ∃ kvs k, y = kV k ∧ H7 Dp = some (.dK kvs) ∧ kvs.length < sizeLine ∧
          (∃ ρ3 st3, Ext z ρD HD ρ3 (upd H7 Dp (.dK (putK kvs k w))) ∧ RS z ρ3 st3 (upd H7 Dp (.dK (putK kvs k w))) ∧ Post z (RV z) ρ3 (upd H7 Dp (.dK (putK kvs k w))) (dcM it g mt ma mb (wipeM env vs) s1.length n (i + 1) st3) Q (W env σ))
          else ∃ ρ3 st3, Ext z ρD HD ρ3 H5 ∧ RS z ρ3 st3 H5 ∧ Post z (RV z) ρ3 H5 (dcM it g mt ma mb (wipeM env vs) s1.length n (i + 1) st3) Q (W env σ) := by
        refine ⟨ρ2, st2, wipeM env vs, d, rs3, reW, rv3, ?_⟩
        cases qg : g d (wipeM env vs) st2 with
        | ex c f s => rw [qg] at h2; exact h2.elim
        | bad => rw [qg] at h2; exact h2.elim
        | ok env1 s4 =>
          simp only [qg] at h2
          intro ρ4 H4 σ4 e4 rs4 re4
          refine ⟨ρ4, s4, env1, rs4, re4, ?_⟩
          have ee4 := e3.trans e4
          cases qt : mt env1 s4 with
          | ex c f s => simp only [qt] at h2; exact h2.elim
          | bad => simp only [qt] at h2; exact h2.elim
          | ok b s5 =>
            intro ρ5 H5 b' e5 rs5 rb
            cases rb
            have ee5 := ee4.trans e5
            cases b with
            | false =>
              simp only [qt] at h2
              rw [if_neg Bool.false_ne_true]
              exact ⟨ρ5, s5, e2.trans ee5, rs5, h2.mono ee5⟩
            | true =>
              simp only [qt] at h2
              rw [if_pos rfl]
              refine ⟨ρ5, s5, env1, rs5, re4.ext e5, ?_⟩
              cases qm : ma env1 s5 with
              | ex c f s => simp only [qm] at h2; exact h2.elim
              | bad => simp only [qm] at h2; exact h2.elim
              | ok y s6 =>
                simp only [qm] at h2
                intro ρ6 H6 yv e6 rs6 rv6
                refine ⟨ρ6, s6, env1, rs6, (re4.ext e5).ext e6, ?_⟩
                cases qv : mb env1 s6 with
                | ex c f s => simp only [qv] at h2; exact h2.elim
                | bad => simp only [qv] at h2; exact h2.elim
                | ok w s7 =>
                  simp only [qv] at h2
                  intro ρ7 H7 wv e7 rs7 rv7
                  have ee7 := (ee5.trans e6).trans e7
                  split at h2
                  · rename_i acc kk ea ek
                    split at h2
                    · rename_i hl
                      have pD := (e2.trans ee7).pl _ _ kD
                      obtain ⟨zs, z1, z2, z3⟩ := rs7.obj _ _ Dp ea pD
                      obtain ⟨m1, m2⟩ := put_rv (k := kk) z2 z3 rv7
                      obtain ⟨ex, rs8⟩ := rs7.put_dic ea pD z1 m1 m2
                      have hz : zs.length = acc.length := by simpa using congrArg List.length z2
                      exact ⟨zs, kk, rv_key ek (rv6.ext e7), z1, by omega, ρ7, _, (e2.trans ee7).trans ex, rs8, h2.mono (ee7.trans ex)⟩
                    · exact h2.elim
                  · exact h2.elim
      have := ho x (wipe σ vs) H3 _ key
      rw [wipe_idem] at this
      exact this
theorem q_dc {kx vx : Expr} {ifs : List Expr} {scope : Scope} {vs : List Nat} (own : List (Str × Nat)) (hvs : own.map (·.2) = vs) {gt : TG} (hc : X.calm = true) (hN : X.N.Nodup) (hi : PI X tg iter (tI z W mi)) (ok : BlkOk X.N X.env.scope scope own) (ho : Own g gt (own.map (·.2)) z)
    (hg : ∀ (s : Shared) (H : Hp) (C : Addr) (cl : List (Str × Addr)) (fp : List Addr), PG (X.blk s H scope (compEnvC scope cl C X.env) fp) tg gt) (ht : ∀ (s : Shared) (H : Hp) (C : Addr) (cl : List (Str × Addr)) (fp : List Addr), PTs (X.blk s H scope (compEnvC scope cl C X.env) fp) ifs (tT z WF mt))
    (hk : ∀ (s : Shared) (H : Hp) (C : Addr) (cl : List (Str × Addr)) (fp : List Addr), PE (X.blk s H scope (compEnvC scope cl C X.env) fp) kx (tE z WF ma))
    (he : ∀ (s : Shared) (H : Hp) (C : Addr) (cl : List (Str × Addr)) (fp : List Addr), PE (X.blk s H scope (compEnvC scope cl C X.env) fp) vx (tE z WF mb)) (hs : ∀ x, foldedSetIterable iter X.env x = pure x := by intro _; rfl) :
    PE X (.DictComp kx vx [⟨tg, iter, ifs, 0⟩] scope pos) (tE z W (mDc mi g mt ma mb vs)) := by
  subst hvs
  exact pe_imp (pe_dc hc hN hi ok hg ht hk he hs) (s_dc ho)
end
section
variable {P : Program} {w : World} {K : PySem.W.Frag} {mg : Str → Option Value} {base : Heap} {z : Zc}
/-- nothing is said -/
theorem ok_bad {k n : Nat} {f : Addr} {fd : FuncData} {ps : List Str} (h : n = ps.length) : FnOk P w K mg base CX0 k f fd ps (spM z n fun _ _ => .bad) :=
  ⟨fun vs H Q E h' => by obtain ⟨_, _, _, hl, _⟩ := h'; rw [hl, h], fun A outer s H args us vs Q E _ _ _ _ h' => by obtain ⟨_, _, _, _, _, _, q⟩ := h'; exact q.elim⟩
/-- the law's own promise -/
def spTop (f : Fn) (K : PySem.W.Frag) : Sp := fun vs H Q E => ∀ cm, spM ⟨K, cm⟩ 1 f vs H Q E
theorem top_of {k : Nat} {f : Addr} {fd : FuncData} {x : Str} {g : Fn} {cm : String → Option Addr} (h : FnOk P w K mg base CX0 k f fd [x] (spM ⟨K, cm⟩ 1 g)) : FnOk P w K mg base CX0 k f fd [x] (spTop g K) := h.imp fun vs H Q E q => q cm
theorem ints_rv {K : PySem.W.Frag} {cm : String → Option Addr} {H : Hp} : ∀ ns : List Int, RVs ⟨K, cm⟩ [] H (ns.map D.int) (ns.map V.int)
  | [] => RVs.nil
  | n :: ns => RVs.cons rv_int (ints_rv ns)
theorem spTop_of {K : PySem.W.Frag} {H : Hp} {a : Addr} {ns : List Int} {f : Fn} {E : XK} (ho : Only H) (hS : SqL K H a (ns.map V.int)) (h : ∃ st', f [.fl (ns.map D.int)] [] = .ok (.bl true) st') : spTop f K [.ref a] H (fun v _ => v = .bl true) E := by
  intro cm
  obtain ⟨st', e⟩ := h
  have fz : FzL K H a (ns.map V.int) := by
    rcases hS with (h | ⟨o, h⟩) | h
    · rcases ho a with q | ⟨o, xs, q⟩
      · rw [q] at h; cases h
      · rw [q] at h; cases h
    · exact .inl ⟨o, h⟩
    · exact .inr h
  refine ⟨[], [], [.fl (ns.map D.int)], rfl, ⟨rfl, fun i j b h => by simp at h, fun n o b h => by simp at h⟩, RVs.cons ?_ RVs.nil, ?_⟩
  · unfold RV
    exact ⟨a, _, rfl, fz, ints_rv ns⟩
  · rw [e]
    exact fun ρ' H' v _ _ r => rvb r
end
end Mm

/-! plain reasoning about mirrors -/
namespace Mm
open PySem PySem.Spec PyProof.Rows L2 Lb
/-- a loop by its invariant; P: what is wanted of the loop's end -/
def LP (I : Ev → S → Prop) (P : Rt → Prop) (r : Rt) : Prop := match r with
  | .nx e s => I e s
  | .ct e s => I e s
  | .bk e s => P (.nx e s)
  | r => P r
theorem loopM_inv {it : ItM} {g : MG} {b : MS} {P : Rt → Prop} (I : Nat → Ev → S → Prop) (N : Nat) (hs : ∀ i env st, i < N → I i env st → ∃ d env1 s1, it i st = some (some d) ∧ g d env st = .ok env1 s1 ∧ LP (I (i + 1)) P (b env1 s1))
    (he : ∀ env st, I N env st → it N st = some none ∧ P (.nx env st)) : ∀ (n i : Nat) (env : Ev) (st : S), I i env st → i ≤ N → N < n + i → P (loopM it g b n i env st)
  | 0, i, env, st, h, h1, h2 => by omega
  | n + 1, i, env, st, h, h1, h2 => by
    unfold loopM
    by_cases hi : i = N
    · subst hi
      obtain ⟨e1, e2⟩ := he env st h
      rw [e1]
      exact e2
    · obtain ⟨d, env1, s1, e1, e2, e3⟩ := hs i env st (by omega) h
      rw [e1]
      simp only [e2]
      cases q : b env1 s1 with
      | nx e s => rw [q] at e3; exact loopM_inv I N hs he n (i + 1) e s e3 (by omega) (by omega)
      | ct e s => rw [q] at e3; exact loopM_inv I N hs he n (i + 1) e s e3 (by omega) (by omega)
      | bk e s => rw [q] at e3; exact e3
      | rt d s => rw [q] at e3; exact e3
      | ex c f e s => rw [q] at e3; exact e3
      | bad => rw [q] at e3; exact e3
/-- for: over N items -/
theorem for_inv {mi : MI} {g : MG} {b : MS} {P : Rt → Prop} {env : Ev} {st st1 : S} {it : ItM} (hm : mi env st = .ok it st1) (I : Nat → Ev → S → Prop) (N : Nat) (hN : N < fuel) (h0 : I 0 env st1)
    (hs : ∀ i env st, i < N → I i env st → ∃ d env1 s1, it i st = some (some d) ∧ g d env st = .ok env1 s1 ∧ LP (I (i + 1)) P (b env1 s1))
    (he : ∀ env st, I N env st → it N st = some none ∧ P (.nx env st)) : P (mFor mi g b env st) := by
  unfold mFor
  rw [hm]
  exact loopM_inv I N hs he fuel 0 env st1 h0 (Nat.zero_le _) (by omega)
def NP (M : Ev → S → Prop) (P : Rt → Prop) (r : Rt) : Prop := match r with
  | .nx e s => M e s
  | r => P r
theorem seq_inv {p q : MS} {env : Ev} {st : S} {P : Rt → Prop} (M : Ev → S → Prop) (h1 : NP M P (p env st)) (h2 : ∀ e s, M e s → P (q e s)) : P (mSeq p q env st) := by
  unfold mSeq
  cases e : p env st with
  | nx e' s => rw [e] at h1; exact h2 _ _ h1
  | rt d s => rw [e] at h1; exact h1
  | bk d s => rw [e] at h1; exact h1
  | ct d s => rw [e] at h1; exact h1
  | ex c f d s => rw [e] at h1; exact h1
  | bad => rw [e] at h1; exact h1
/-! a def's end -/
section
variable {st st1 J : S} {d : D} {o : O}
theorem finD_same {st' : S} (h : st'.length = st.length) : finD st d st' = .ok d st' := by unfold finD; rw [if_pos h]
theorem finD_cut (c : Chk st st1) (hl : st1.length = st.length) (hd : low st.length d = true) : finD st d (st1 ++ J) = .ok d st1 := by
  unfold finD
  by_cases hJ : J = []
  · subst hJ
    rw [List.append_nil, if_pos hl]
  · have : J.length ≠ 0 := fun z => hJ (List.length_eq_zero_iff.mp z)
    rw [if_neg (by rw [List.length_append]; omega), if_pos ⟨c.app (by omega) J, by rw [List.length_append]; omega⟩, if_pos hd, ← hl, List.take_left]
theorem finD_new (c : Chk st st1) (hl : st1.length = st.length) {j : Nat} (hj : J[j]? = some o) (ho : lowO st.length o = true) : finD st (.loc (st.length + j)) (st1 ++ J) = .ok (.loc st.length) (st1 ++ [o]) := by
  unfold finD
  have hJ : j < J.length := (List.getElem?_eq_some_iff.mp hj).1
  have h1 : (st1 ++ J)[st.length + j]? = some o := by
    rw [List.getElem?_append_right (by omega), ← hl, Nat.add_sub_cancel_left]
    exact hj
  rw [if_neg (by rw [List.length_append]; omega), if_pos ⟨c.app (by omega) J, by rw [List.length_append]; omega⟩, if_neg (by simp [low])]
  simp only [h1]
  rw [if_pos ⟨ho, by omega⟩, ← hl, List.take_left]
end
/-! fixed store: pure pieces -/
theorem rdL_set_ne {st : S} {n k : Nat} {o : O} (h : k ≠ n) : rdL (st.set k o) n = rdL st n := by unfold rdL; rw [List.getElem?_set_ne h]
theorem rdL_app {st J : S} {n : Nat} (h : n < st.length) : rdL (st ++ J) n = rdL st n := by unfold rdL; rw [List.getElem?_append_left h]
theorem rdL_of {st : S} {n : Nat} {l : List D} (h : st[n]? = some (.lst l)) : rdL st n = some l := by unfold rdL; rw [h]
end Mm

namespace Mm
open PySem PySem.Spec PyProof.Rows L2 Lb Mm
theorem big_line : (1000000 : Nat) < sizeLine := by decide +kernel
theorem app_last (st : S) (o : O) : (st ++ [o])[st.length]? = some o := by rw [List.getElem?_append_right (Nat.le_refl _), Nat.sub_self]; rfl
theorem set_last (st : S) (o u : O) : (st ++ [o]).set st.length u = st ++ [u] := by
  rw [List.set_append_right _ _ (Nat.le_refl _), Nat.sub_self]
  rfl
theorem lc_go {it : ItM} {g : MG} {t : MT} {m : ME} {env : Ev} {st : S} {l : List D} {f : D → Bool} {h : D → D} (hz : l.length ≤ 1000000)
    (hi : ∀ acc i, i ≤ l.length → it i (st ++ [O.lst acc]) = some l[i]?)
    (hx : ∀ (i : Nat) x acc, l[i]? = some x → ∃ env1, g x env (st ++ [O.lst acc]) = .ok env1 (st ++ [O.lst acc]) ∧ t env1 (st ++ [O.lst acc]) = .ok (f x) (st ++ [O.lst acc]) ∧ (f x = true → m env1 (st ++ [O.lst acc]) = .ok (h x) (st ++ [O.lst acc]))) :
    ∀ (n i : Nat), i ≤ l.length → l.length < n + i → lcM it g t m env st.length n i (st ++ [O.lst (((l.take i).filter f).map h)]) = .ok (.loc st.length) (st ++ [O.lst ((l.filter f).map h)])
  | 0, i, h1, h2 => by omega
  | n + 1, i, h1, h2 => by
    unfold lcM
    rw [hi _ i h1]
    by_cases hi' : i = l.length
    · subst hi'
      rw [List.getElem?_eq_none (Nat.le_refl _), List.take_length]
    · have hlt : i < l.length := by omega
      have ex := List.getElem?_eq_getElem hlt
      generalize l[i] = x at ex
      rw [ex]
      obtain ⟨env1, e1, e2, e3⟩ := hx i x (((l.take i).filter f).map h) ex
      simp only [e1, e2]
      have tk : l.take (i + 1) = l.take i ++ [x] := by rw [List.take_add_one, ex]; rfl
      have ih := lc_go hz hi hx n (i + 1) (by omega) (by omega)
      rw [tk, List.filter_append, List.map_append] at ih
      cases q : f x with
      | true =>
        simp only [e3 q, app_last]
        have hl : (((l.take i).filter f).map h).length < sizeLine := by
          rw [List.length_map]
          have h3 := List.length_filter_le f (l.take i)
          rw [List.length_take] at h3
          have : (1000000 : Nat) < sizeLine := big_line
          omega
        rw [if_pos hl, set_last]
        simp only [List.filter_cons, q, List.filter_nil, List.map_cons, List.map_nil, if_true] at ih
        exact ih
      | false =>
        simp only
        simp only [List.filter_cons, q, List.filter_nil, List.map_nil, Bool.false_eq_true, if_false, List.append_nil] at ih
        exact ih
/-- a comprehension whose pieces leave the store as it is -/
theorem lc_pure {mi : MI} {it : ItM} {g : MG} {t : MT} {m : ME} {vs : List Nat} {env : Ev} {st0 st : S} {l : List D} (f : D → Bool) (h : D → D) (hm : mi env st0 = .ok it st) (hz : l.length < 99999)
    (hi : ∀ acc i, i ≤ l.length → it i (st ++ [O.lst acc]) = some l[i]?)
    (hx : ∀ (i : Nat) x acc, l[i]? = some x → ∃ env1, g x (wipeM env vs) (st ++ [O.lst acc]) = .ok env1 (st ++ [O.lst acc]) ∧ t env1 (st ++ [O.lst acc]) = .ok (f x) (st ++ [O.lst acc]) ∧ (f x = true → m env1 (st ++ [O.lst acc]) = .ok (h x) (st ++ [O.lst acc]))) :
    mLc mi g t m vs env st0 = .ok (.loc st.length) (st ++ [O.lst ((l.filter f).map h)]) := by
  unfold mLc
  rw [hm]
  exact lc_go (by omega) hi hx fuel 0 (Nat.zero_le _) (by show l.length < 100000 + 0; omega)
theorem dc_go {it : ItM} {g : MG} {t : MT} {mk mv : ME} {env : Ev} {st : S} {l : List D} {k : D → Key} {h : D → D} (hz : l.length ≤ 1000000)
    (hi : ∀ acc i, i ≤ l.length → it i (st ++ [O.dic acc]) = some l[i]?)
    (hx : ∀ (i : Nat) x acc, l[i]? = some x → ∃ env1 y, g x env (st ++ [O.dic acc]) = .ok env1 (st ++ [O.dic acc]) ∧ t env1 (st ++ [O.dic acc]) = .ok true (st ++ [O.dic acc]) ∧ mk env1 (st ++ [O.dic acc]) = .ok y (st ++ [O.dic acc]) ∧ keyD y = some (k x) ∧ mv env1 (st ++ [O.dic acc]) = .ok (h x) (st ++ [O.dic acc]))
    (P : Nat → List (Key × D) → Prop) (h0 : P 0 []) (hp : ∀ (i : Nat) x acc, l[i]? = some x → P i acc → acc.length ≤ i ∧ P (i + 1) (putD acc (k x) (h x))) :
    ∀ (n i : Nat) (acc : List (Key × D)), P i acc → i ≤ l.length → l.length < n + i → ∃ acc', P l.length acc' ∧ dcM it g t mk mv env st.length n i (st ++ [O.dic acc]) = .ok (.loc st.length) (st ++ [O.dic acc'])
  | 0, i, acc, hP, h1, h2 => by omega
  | n + 1, i, acc, hP, h1, h2 => by
    unfold dcM
    rw [hi _ i h1]
    by_cases hi' : i = l.length
    · subst hi'
      rw [List.getElem?_eq_none (Nat.le_refl _)]
      exact ⟨acc, hP, rfl⟩
    · have hlt : i < l.length := by omega
      have ex := List.getElem?_eq_getElem hlt
      generalize l[i] = x at ex
      rw [ex]
      obtain ⟨env1, y, e1, e2, e3, e4, e5⟩ := hx i x acc ex
      obtain ⟨hl, hP'⟩ := hp i x acc ex hP
      simp only [e1, e2, e3, e5, app_last, e4]
      have : (1000000 : Nat) < sizeLine := big_line
      rw [if_pos (by omega), set_last]
      exact dc_go hz hi hx P h0 hp n (i + 1) _ hP' (by omega) (by omega)
theorem dc_pure {mi : MI} {it : ItM} {g : MG} {t : MT} {mk mv : ME} {vs : List Nat} {env : Ev} {st0 st : S} {l : List D} (k : D → Key) (h : D → D) (hm : mi env st0 = .ok it st) (hz : l.length < 99999)
    (hi : ∀ acc i, i ≤ l.length → it i (st ++ [O.dic acc]) = some l[i]?)
    (hx : ∀ (i : Nat) x acc, l[i]? = some x → ∃ env1 y, g x (wipeM env vs) (st ++ [O.dic acc]) = .ok env1 (st ++ [O.dic acc]) ∧ t env1 (st ++ [O.dic acc]) = .ok true (st ++ [O.dic acc]) ∧ mk env1 (st ++ [O.dic acc]) = .ok y (st ++ [O.dic acc]) ∧ keyD y = some (k x) ∧ mv env1 (st ++ [O.dic acc]) = .ok (h x) (st ++ [O.dic acc]))
    (P : Nat → List (Key × D) → Prop) (h0 : P 0 []) (hp : ∀ (i : Nat) x acc, l[i]? = some x → P i acc → acc.length ≤ i ∧ P (i + 1) (putD acc (k x) (h x))) :
    ∃ acc', P l.length acc' ∧ mDc mi g t mk mv vs env st0 = .ok (.loc st.length) (st ++ [O.dic acc']) := by
  unfold mDc
  rw [hm]
  exact dc_go (by omega) hi hx P h0 hp fuel 0 [] h0 (Nat.zero_le _) (by show l.length < 100000 + 0; omega)
theorem finD_new1 {st : S} {o : O} : finD st (.loc st.length) (st ++ [o]) = .ok (.loc st.length) (st ++ [o]) := by
  have h1 : (st ++ [o])[st.length]? = some o := app_last st o
  unfold finD
  rw [if_neg (by rw [List.length_append]; simp)]
  split
  · rw [if_neg (by simp [low])]
    simp only [h1]
    split
    · rw [List.take_left]
    · rfl
  · rfl
/-! keys -/
def dk : Key → D
  | .inl i => .int i
  | .inr s => .str s
theorem keyD_dk (k : Key) : keyD (dk k) = some k := by cases k <;> rfl
theorem flat_dk (k : Key) : flat (dk k) = true := by cases k <;> rfl
theorem flats_dk (ks : List Key) : (ks.map dk).all flat = true := by
  rw [List.all_map]
  exact List.all_eq_true.mpr fun k _ => flat_dk k
theorem eqF_dk (a b : Key) : eqF (dk a) (dk b) = decide (a = b) := by
  cases a with
  | inl a =>
    cases b with
    | inl b => simp only [dk, eqF, Sum.inl.injEq]; exact Bool.beq_eq_decide_eq a b
    | inr b => simp [dk, eqF]
  | inr a =>
    cases b with
    | inl b => simp [dk, eqF]
    | inr b => simp only [dk, eqF, Sum.inr.injEq]; exact Bool.beq_eq_decide_eq a b
theorem dk_inj {a b : Key} (h : dk a = dk b) : a = b := by
  have := congrArg keyD h
  rw [keyD_dk, keyD_dk] at this
  exact Option.some.inj this
theorem low_dk (n : Nat) (k : Key) : low n (dk k) = true := by cases k <;> simp [dk, low]
theorem lows_dk (n : Nat) : ∀ ks : List Key, lows n (ks.map dk) = true
  | [] => by simp [lows]
  | k :: r => by simp [lows, low_dk, lows_dk n r]
theorem ty_dk (st : S) (k : Key) : ∃ t, tyD st (dk k) = some t := by cases k <;> exact ⟨_, rfl⟩
theorem any_dk (k : Key) (ks : List Key) : ((ks.map dk).any fun e => eqF e (dk k)) = kIn k ks := by
  rw [List.any_map]
  unfold kIn
  simp only [Function.comp_def, eqF_dk]
theorem in_dk {st : S} {neg : Bool} {d : D} {k : Key} {ks : List Key} (h : seqD st d = some (ks.map dk)) : fIn neg (dk k) d st = .ok (.bl (ng neg (kIn k ks))) st := by
  unfold fIn
  cases d with
  | str s => cases h
  | tup l => simp only [h, flat_dk, flats_dk, Bool.and_self, if_true, any_dk]
  | loc n => simp only [h, flat_dk, flats_dk, Bool.and_self, if_true, any_dk]
  | fl l => simp only [h, flat_dk, flats_dk, Bool.and_self, if_true, any_dk]
  | _ => cases h
theorem din_dk {st : S} {neg : Bool} {n : Nat} {k : Key} {kvs : List (Key × D)} (h : st[n]? = some (.dic kvs)) : fDin neg (dk k) (.loc n) st = .ok (.bl (ng neg (getK kvs k).isSome)) st := by
  unfold fDin
  simp only [h, keyD_dk]
theorem dix_dk {st : S} {n : Nat} {k : Key} {kvs : List (Key × D)} {v : D} (h : st[n]? = some (.dic kvs)) (e : getK kvs k = some v) : fDix (.loc n) (dk k) st = .ok v st := by
  unfold fDix
  simp only [h, keyD_dk, e]
theorem getK_put {kvs : List (Key × D)} {k j : Key} {v : D} : getK (putD kvs k v) j = if j = k then some v else getK kvs j := by
  unfold putD
  by_cases h : (kvs.any fun kv => decide (kv.1 = k)) = true
  · rw [if_pos h]
    induction kvs with
    | nil => simp at h
    | cons p r ih =>
      by_cases hp : p.1 = k
      · by_cases hj : j = k
        · subst hj; simp [getK, List.find?_cons, hp]
        · have hpj : ¬ p.1 = j := fun z => hj (z.symm.trans hp)
          by_cases hr : (r.any fun kv => decide (kv.1 = k)) = true
          · have := ih hr
            rw [if_neg hj] at this ⊢
            simp only [getK, List.map_cons, List.find?_cons, hp, if_true] at this ⊢
            have e1 : decide (k = j) = false := decide_eq_false fun z => hj z.symm
            rw [e1]
            exact this
          · have e0 : r.map (fun kv => if kv.1 = k then (kv.1, v) else kv) = r := by
              conv => rhs; rw [← List.map_id r]
              refine List.map_congr_left fun q hq => ?_
              rw [if_neg fun z => hr (List.any_eq_true.mpr ⟨q, hq, decide_eq_true z⟩)]
              rfl
            rw [if_neg hj]
            simp only [getK, List.map_cons, List.find?_cons, hp, if_true, e0]
            have e1 : decide (k = j) = false := decide_eq_false fun z => hj z.symm
            rw [e1]
      · have hr : (r.any fun kv => decide (kv.1 = k)) = true := by
          rw [List.any_cons, decide_eq_false hp, Bool.false_or] at h
          exact h
        have := ih hr
        simp only [getK, List.map_cons, List.find?_cons, if_neg hp] at this ⊢
        cases hq : decide (p.1 = j) with
        | true =>
          have hpj := of_decide_eq_true hq
          rw [if_neg fun z => hp (hpj.trans z)]
        | false => exact this
  · rw [if_neg h]
    by_cases hj : j = k
    · subst hj
      rw [if_pos rfl]
      have : kvs.find? (fun kv => decide (kv.1 = j)) = none := by
        rw [List.find?_eq_none]
        intro p hp z
        exact h (List.any_eq_true.mpr ⟨p, hp, z⟩)
      simp [getK, List.find?_append, this, List.find?_cons]
    · rw [if_neg hj]
      have e1 : decide (k = j) = false := decide_eq_false fun z => hj z.symm
      simp [getK, List.find?_append, List.find?_cons, e1]
theorem putD_len {kvs : List (Key × D)} {k : Key} {v : D} : (putD kvs k v).length ≤ kvs.length + 1 := by
  unfold putD
  split <;> simp
theorem cut_drop (l : List D) (k : Nat) : cutD l (some (k : Int)) none = l.drop k := by
  unfold cutD
  rw [HT.sIx_nat, HT.sIx_none]
  by_cases h : k ≤ l.length
  · rw [Nat.min_eq_left h, List.take_of_length_le (by rw [List.length_drop]; omega)]
  · rw [Nat.min_eq_right (by omega), Nat.sub_self, List.take_zero, List.drop_eq_nil_of_le (by omega)]
theorem cut_take (l : List D) (k : Nat) : cutD l none (some (k : Int)) = l.take k := by
  unfold cutD
  rw [HT.sIx_nat, HT.sIx_none, List.drop_zero, Nat.sub_zero]
  by_cases h : k ≤ l.length
  · rw [Nat.min_eq_left h]
  · rw [Nat.min_eq_right (by omega), List.take_of_length_le (Nat.le_refl _), List.take_of_length_le (by omega)]
theorem mul_ok {i j : Int} (hi : i.natAbs < 2 ^ 400000) (hj : j.natAbs < 2 ^ 400000) : cMul i j = true := by
  have h1 : i.natAbs.log2 < 400000 ∨ i.natAbs.log2 = 0 := by
    by_cases h : i.natAbs = 0
    · right; rw [h]; rfl
    · left; exact (Nat.log2_lt h).mpr hi
  have h2 : j.natAbs.log2 < 400000 ∨ j.natAbs.log2 = 0 := by
    by_cases h : j.natAbs = 0
    · right; rw [h]; rfl
    · left; exact (Nat.log2_lt h).mpr hj
  exact decide_eq_true (by omega)
theorem feq_int {neg : Bool} {i j : Int} {st : S} : fEq neg (.int i) (.int j) st = .ok (.bl (ng neg (decide (i = j)))) st := by
  unfold fEq
  rw [if_pos (show scal2 (D.int i) (D.int j) = true from rfl)]
  have : eqF (D.int i) (D.int j) = decide (i = j) := Bool.beq_eq_decide_eq i j
  rw [this]
  rfl
theorem feq_str {neg : Bool} {i j : Str} {st : S} : fEq neg (.str i) (.str j) st = .ok (.bl (ng neg (decide (i = j)))) st := by
  unfold fEq
  rw [if_pos (show scal2 (D.str i) (D.str j) = true from rfl)]
  have : eqF (D.str i) (D.str j) = decide (i = j) := Bool.beq_eq_decide_eq i j
  rw [this]
  rfl
theorem feq_bl {neg : Bool} {i j : Bool} {st : S} : fEq neg (.bl i) (.bl j) st = .ok (.bl (ng neg (decide (i = j)))) st := by
  unfold fEq
  rw [if_pos (show scal2 (D.bl i) (D.bl j) = true from rfl)]
  have : eqF (D.bl i) (D.bl j) = decide (i = j) := Bool.beq_eq_decide_eq i j
  rw [this]
  rfl
theorem feq_dk {neg : Bool} {i j : Key} {st : S} : fEq neg (dk i) (dk j) st = .ok (.bl (ng neg (decide (i = j)))) st := by
  cases i with
  | inl i =>
    cases j with
    | inl j => simp only [dk, feq_int, Sum.inl.injEq]
    | inr j => simp [dk, fEq, scal2, flat, eqF, ng]
  | inr i =>
    cases j with
    | inl j => simp [dk, fEq, scal2, flat, eqF, ng]
    | inr j => simp only [dk, feq_str, Sum.inr.injEq]
theorem len_lst {st : S} {n : Nat} {l : List D} (h : st[n]? = some (.lst l)) : fLen [.loc n] st = .ok (.int l.length) st := by unfold fLen; simp only [h]
theorem len_dic {st : S} {n : Nat} {l : List (Key × D)} (h : st[n]? = some (.dic l)) : fLen [.loc n] st = .ok (.int l.length) st := by unfold fLen; simp only [h]
theorem ix_lst {st : S} {n : Nat} {l : List D} {i : Int} {d : D} (h : st[n]? = some (.lst l)) (e : atI l i = some d) : fIx (.loc n) (.int i) st = .ok d st := by
  simp only [fIx, rdL_of h, e]
theorem set_lst {st : S} {n : Nat} {l : List D} {i : Int} {j : Nat} {v : D} (h : st[n]? = some (.lst l)) (e : ixN l.length i = some j) : fSet (.loc n) (.int i) v st = .ok () (st.set n (.lst (l.set j v))) := by
  simp only [fSet, h, e]
theorem fadd_int {i j : Int} {st : S} : fAdd (.int i) (.int j) st = .ok (.int (i + j)) st := rfl
theorem fsub_int {i j : Int} {st : S} : fSub (.int i) (.int j) st = .ok (.int (i - j)) st := rfl
theorem fneg_int {i : Int} {st : S} : fNeg (.int i) st = .ok (.int (-i)) st := rfl
theorem lt_int' {i j : Int} {st : S} : fLt (.int i) (.int j) st = .ok (.bl (decide (i < j))) st := rfl
theorem le_int' {i j : Int} {st : S} : fLe (.int i) (.int j) st = .ok (.bl (decide (i ≤ j))) st := rfl
theorem gt_int' {i j : Int} {st : S} : fGt (.int i) (.int j) st = .ok (.bl (decide (j < i))) st := rfl
theorem ge_int' {i j : Int} {st : S} : fGe (.int i) (.int j) st = .ok (.bl (decide (j ≤ i))) st := rfl
theorem mul_int' {i j : Int} {st : S} (h : cMul i j = true) : fMul (.int i) (.int j) st = .ok (.int (i * j)) st := by simp only [fMul, fI, h, if_true]
theorem mod_int' {i j : Int} {st : S} (h : 0 < j) : fMod (.int i) (.int j) st = .ok (.int (i % j)) st := by simp only [fMod, fI, decide_eq_true h, if_true]
theorem log_small {x m : Nat} (h : x < 2 ^ m) (hm : 0 < m) : x.log2 < m := by
  by_cases h0 : x = 0
  · rw [h0]
    exact hm
  · exact (Nat.log2_lt h0).mpr h
theorem div_int' {i j : Int} {st : S} (h : 0 < j) (h2 : j.natAbs < 2 ^ 200) : fDiv (.int i) (.int j) st = .ok (.int (i / j)) st := by
  have : cDiv i j = true := decide_eq_true ⟨h, Nat.lt_of_lt_of_le (log_small h2 (by decide)) (by decide)⟩
  simp only [fDiv, fI, this, if_true]
theorem mul_small {i j : Int} {a b : Nat} (hi : i.natAbs < 2 ^ a) (hj : j.natAbs < 2 ^ b) (ha : 0 < a) (hb : 0 < b) (h : a + b < 1000000) : cMul i j = true := by
  have h1 := log_small hi ha
  have h2 := log_small hj hb
  exact decide_eq_true (by omega)
theorem fint_int {i : Int} {st : S} : fInt [.int i] st = .ok (.int i) st := rfl
theorem finD_deep {st st' : S} {k : Nat} {o : O} (hk : st.length ≤ k) (ho : st'[k]? = some o) (hl : lowO st.length o = false) : finD st (.loc k) st' = .ok (.loc k) st' := by
  unfold finD
  split
  · rfl
  · split
    · rw [if_neg (by simp only [low, decide_eq_true_eq]; omega)]
      simp only [ho]
      rw [if_neg (by rw [hl]; simp)]
    · rfl
theorem isi_str_dk {st : S} {k : Key} : fIsi [dk k, .ty "str"] st = .ok (.bl (match k with | .inl _ => false | .inr _ => true)) st := by
  cases k with
  | inl i => exact (by unfold fIsi; simp only [dk, tyD]; rfl)
  | inr s => exact (by unfold fIsi; simp only [dk, tyD]; rfl)
theorem fuel_lt {n : Nat} (h : n ≤ 99999) : n < fuel := Nat.lt_of_le_of_lt h (by decide)
theorem mIfS_T {t : MT} {p q : MS} {env : Ev} {st s1 : S} (h : t env st = .ok true s1) : mIfS t p q env st = p env s1 := by unfold mIfS; rw [h]; rfl
theorem mIfS_F {t : MT} {p q : MS} {env : Ev} {st s1 : S} (h : t env st = .ok false s1) : mIfS t p q env st = q env s1 := by unfold mIfS; rw [h]; rfl
theorem finD_head {st s : S} {o : O} (ho : s[st.length]? = some o) : finD st (.loc st.length) s = .ok (.loc st.length) s ∨ finD st (.loc st.length) s = .ok (.loc st.length) (s.take st.length ++ [o]) := by
  unfold finD
  split
  · exact .inl rfl
  · split
    · rw [if_neg (by simp [low])]
      simp only [ho]
      split
      · exact .inr rfl
      · exact .inl rfl
    · exact .inl rfl

end Mm
namespace Mm
open PySem PySem.Spec PyProof.Rows L2 Lb Mm
/-! lists of keys: the place of a key; the mirror of the falling lists -/
def ixK : List Key → Key → Option Nat
  | [], _ => none
  | a :: r, k => if a = k then some 0 else (ixK r k).map (· + 1)
theorem ixK_none {k : Key} : ∀ {l : List Key}, ixK l k = none ↔ k ∉ l
  | [] => by simp [ixK]
  | a :: r => by
    unfold ixK
    by_cases h : a = k
    · simp [h]
    · rw [if_neg h]
      have ih := ixK_none (k := k) (l := r)
      have h' : ¬ k = a := fun z => h z.symm
      simp [ih, h']
theorem ixK_some {k : Key} : ∀ {l : List Key} {i : Nat}, ixK l k = some i → l[i]? = some k
  | [], i, h => by simp [ixK] at h
  | a :: r, i, h => by
    unfold ixK at h
    by_cases e : a = k
    · rw [if_pos e] at h
      cases h
      rw [e]
      rfl
    · rw [if_neg e] at h
      cases h2 : ixK r k with
      | none => rw [h2] at h; cases h
      | some j =>
        rw [h2] at h
        cases h
        show r[j]? = some k
        exact ixK_some h2
theorem ixK_at {k : Key} : ∀ {l : List Key} {i : Nat}, l.Nodup → l[i]? = some k → ixK l k = some i
  | [], i, _, h => by simp at h
  | a :: r, 0, _, h => by
    have e : a = k := by simpa using h
    unfold ixK
    rw [if_pos e]
  | a :: r, i + 1, nd, h => by
    have h' : r[i]? = some k := by simpa using h
    have km : k ∈ r := List.mem_of_getElem? h'
    have nd' := List.nodup_cons.mp nd
    have e : ¬ a = k := fun z => nd'.1 (z ▸ km)
    unfold ixK
    rw [if_neg e, ixK_at nd'.2 h']
    rfl
theorem ixK_snoc (a k : Key) : ∀ l : List Key, ixK (l ++ [a]) k = (ixK l k).or (if a = k then some l.length else none)
  | [] => by
    show (if a = k then some 0 else (ixK [] k).map (· + 1)) = _
    by_cases h : a = k
    · rw [if_pos h, if_pos h]; rfl
    · rw [if_neg h, if_neg h]; rfl
  | b :: l => by
    show (if b = k then some 0 else (ixK (l ++ [a]) k).map (· + 1)) = (if b = k then some 0 else (ixK l k).map (· + 1)).or (if a = k then some (l.length + 1) else none)
    by_cases h : b = k
    · rw [if_pos h, if_pos h]; rfl
    · rw [if_neg h, if_neg h, ixK_snoc a k l]
      cases ixK l k with
      | some j => rfl
      | none =>
        by_cases h2 : a = k
        · rw [if_pos h2, if_pos h2]; rfl
        · rw [if_neg h2, if_neg h2]; rfl
/-- the place of a key, as a number -/
def pl (l : List Key) (k : Key) : Nat := (ixK l k).getD 0
theorem pl_at {l : List Key} {i : Nat} {k : Key} (nd : l.Nodup) (h : l[i]? = some k) : pl l k = i := by unfold pl; rw [ixK_at nd h]; rfl
theorem pl_some {l : List Key} {k : Key} (h : k ∈ l) : ixK l k = some (pl l k) := by
  cases e : ixK l k with
  | none => exact absurd h (ixK_none.mp e)
  | some i => unfold pl; rw [e]; rfl
theorem pl_get {l : List Key} {k : Key} (h : k ∈ l) : l[pl l k]? = some k := ixK_some (pl_some h)
theorem pl_inj {l : List Key} {a b : Key} (ha : a ∈ l) (hb : b ∈ l) (e : pl l a = pl l b) : a = b := by
  have h1 := pl_get ha
  have h2 := pl_get hb
  rw [e, h2] at h1
  exact (Option.some.inj h1).symm
theorem pl_lt {l : List Key} {k : Key} (h : k ∈ l) : pl l k < l.length := (List.getElem?_eq_some_iff.mp (pl_get h)).1
theorem take_snoc {α : Type} {l : List α} {i : Nat} {x : α} (h : l[i]? = some x) : l.take (i + 1) = l.take i ++ [x] := by
  rw [List.take_add_one, h]
  rfl
theorem nodup_take {l : List Key} {i : Nat} {x : Key} (nd : l.Nodup) (h : l[i]? = some x) : x ∉ l.take i := fun m => by
  obtain ⟨j, hj⟩ := List.mem_iff_getElem?.mp m
  have hlt := (List.getElem?_eq_some_iff.mp hj).1
  rw [List.length_take] at hlt
  rw [List.getElem?_take_of_lt (by omega)] at hj
  have := ixK_at nd h
  rw [ixK_at nd hj] at this
  have := Option.some.inj this
  omega

end Mm
namespace Mm
open PySem PySem.Spec PyProof.Rows L2 Lb Mm
theorem ofS_inj {s t : String} (h : Str.ofString s = Str.ofString t) : s = t := by
  have h1 : (Str.ofString s).cps.toList = (Str.ofString t).cps.toList := by rw [h]
  rw [signs_ofString, signs_ofString] at h1
  have h2 : s.toList = t.toList := by
    have inj : ∀ (a b : List Char), a.map Char.toNat = b.map Char.toNat → a = b := by
      intro a
      induction a with
      | nil => intro b hb; cases b with | nil => rfl | cons _ _ => cases hb
      | cons x r ih =>
        intro b hb
        cases b with
        | nil => cases hb
        | cons y r' =>
          simp only [List.map_cons, List.cons.injEq] at hb
          rw [Char.toNat_inj.mp hb.1, ih r' hb.2]
    exact inj _ _ h1
  exact String.toList_inj.mp h2
theorem strI_inj {i j : Int} (h : Str.ofString (toString i) = Str.ofString (toString j)) : i = j := Int.repr_inj.mp (ofS_inj h)
theorem strOk_of (s : String) : PyData.strOk (Str.ofString s) = true := by
  unfold PyData.strOk
  rw [← Array.all_toList, signs_ofString, List.all_eq_true]
  intro x hx
  obtain ⟨c, _, rfl⟩ := List.mem_map.mp hx
  refine decide_eq_true ?_
  have := c.valid
  unfold UInt32.isValidChar Nat.isValidChar at this
  show c.toNat < _
  have e : c.toNat = c.val.toNat := rfl
  omega
/-- a value that the n-th draw makes -/
def KeyT (n : Nat) (k : Key) : Prop := ∃ i : Int, i.natAbs % 100 = n ∧ i.natAbs < 10 ^ 27 ∧ (k = .inl i ∨ k = .inr (Str.ofString (toString i)))
theorem KeyT.one {m n : Nat} {k : Key} (h : KeyT m k) (h' : KeyT n k) : m = n := by
  obtain ⟨i, a1, _, a3⟩ := h
  obtain ⟨j, b1, _, b3⟩ := h'
  have e : i = j := by
    rcases a3 with rfl | rfl
    · rcases b3 with b | b
      · exact Sum.inl.inj b
      · cases b
    · rcases b3 with b | b
      · cases b
      · exact strI_inj (Sum.inr.inj b)
  rw [e] at a1
  omega
/-- a row behind n draws -/
structure RowN (n : Nat) (ks : List Key) : Prop where
  nd : ks.Nodup
  tag : ∀ k, k ∈ ks → ∃ m, m < n ∧ KeyT m k
  len : ks.length ≤ 2 * n
theorem RowN.mono {n m : Nat} {ks : List Key} (h : RowN n ks) (l : n ≤ m) : RowN m ks := ⟨h.nd, fun k hk => by obtain ⟨j, h1, h2⟩ := h.tag k hk; exact ⟨j, by omega, h2⟩, by have := h.len; omega⟩
def insK (ks : List Key) (i : Nat) (k : Key) : List Key := ks.take i ++ [k] ++ ks.drop i
theorem insK_perm (ks : List Key) (i : Nat) (k : Key) : (insK ks i k).Perm (k :: ks) := by
  unfold insK
  rw [List.append_assoc]
  have h : (ks.take i ++ ([k] ++ ks.drop i)).Perm (k :: (ks.take i ++ ks.drop i)) := List.perm_middle
  rw [List.take_append_drop] at h
  exact h
/-- a row in the midst of the n-th turn: its new items are of n -/
structure RowM (n j : Nat) (ks : List Key) : Prop where
  nd : ks.Nodup
  tag : ∀ k, k ∈ ks → ∃ m, m ≤ n ∧ KeyT m k
  len : ks.length ≤ 2 * n + j
theorem insK_map (ks : List Key) (i : Nat) (k : Key) : (ks.map dk).take i ++ [dk k] ++ (ks.map dk).drop i = (insK ks i k).map dk := by
  unfold insK
  rw [List.map_append, List.map_append, List.map_take, List.map_drop]
  rfl
theorem insK_mem {ks : List Key} {i : Nat} {k z : Key} (h : z ∈ insK ks i k) : z ∈ ks ∨ z = k := by
  rcases List.mem_cons.mp ((insK_perm ks i k).mem_iff.mp h) with h | h
  · exact .inr h
  · exact .inl h
theorem RowN.m {n : Nat} {ks : List Key} (h : RowN n ks) : RowM n 0 ks := ⟨h.nd, fun k hk => by obtain ⟨m, h1, h2⟩ := h.tag k hk; exact ⟨m, by omega, h2⟩, h.len⟩
theorem RowM.n {n j : Nat} {ks : List Key} (h : RowM n j ks) (hj : j ≤ 2) : RowN (n + 1) ks := ⟨h.nd, fun k hk => by obtain ⟨m, h1, h2⟩ := h.tag k hk; exact ⟨m, by omega, h2⟩, by have := h.len; omega⟩
theorem RowM.mono {n j i : Nat} {ks : List Key} (h : RowM n j ks) (l : j ≤ i) : RowM n i ks := ⟨h.nd, h.tag, by have := h.len; omega⟩
theorem RowN.no {n : Nat} {ks : List Key} (h : RowN n ks) {k : Key} (t : KeyT n k) : k ∉ ks := fun m => by
  obtain ⟨j, h1, h2⟩ := h.tag k m
  have := h2.one t
  omega
theorem RowM.ins {n j : Nat} {ks : List Key} (h : RowM n j ks) {k : Key} (t : KeyT n k) (no : k ∉ ks) (i : Nat) : RowM n (j + 1) (insK ks i k) :=
  ⟨(insK_perm ks i k).nodup_iff.mpr (List.nodup_cons.mpr ⟨no, h.nd⟩), fun x hx => by
    rcases List.mem_cons.mp ((insK_perm ks i k).mem_iff.mp hx) with rfl | hx
    · exact ⟨n, Nat.le_refl _, t⟩
    · exact h.tag x hx, by rw [(insK_perm ks i k).length_eq, List.length_cons]; have := h.len; omega⟩

end Mm
namespace Kp
open PySem PySem.Spec PyProof.Rows L2 Lb Mm
def topS (i : Nat) : Stmt := PySem.Challenge.pw_drawnwhole_k42_papers_judged.main.body.getD i (.Pass ⟨0, 0, 0, 0⟩)
abbrev sIsValue : Stmt := topS 1
theorem scIsValue : FnScope ["thing"] ["thing"] (defScope sIsValue) := ⟨rfl, rfl, rfl, by decide +kernel, rfl, by decide +kernel, by decide +kernel⟩
abbrev sPlacesOf : Stmt := topS 2
theorem scPlacesOf : FnScope ["row", "at", "value"] ["row"] (defScope sPlacesOf) := ⟨rfl, rfl, rfl, by decide +kernel, rfl, by decide +kernel, by decide +kernel⟩
abbrev sInOrder : Stmt := topS 3
theorem scInOrder : FnScope ["places", "row", "sign", "one", "other"] ["places", "row", "sign"] (defScope sInOrder) := ⟨rfl, rfl, rfl, by decide +kernel, rfl, by decide +kernel, by decide +kernel⟩
abbrev sAreCommon : Stmt := topS 4
theorem scAreCommon : FnScope ["old", "new", "thing", "item"] ["old", "new", "thing"] (defScope sAreCommon) := ⟨rfl, rfl, rfl, by decide +kernel, rfl, by decide +kernel, by decide +kernel⟩
abbrev sIsRising : Stmt := topS 5
theorem scIsRising : FnScope ["old", "new", "thing"] ["old", "new", "thing"] (defScope sIsRising) := ⟨rfl, rfl, rfl, by decide +kernel, rfl, by decide +kernel, by decide +kernel⟩
abbrev sIsFalling : Stmt := topS 6
theorem scIsFalling : FnScope ["old", "new", "thing", "elder", "younger", "met", "row", "value"] ["old", "new", "thing"] (defScope sIsFalling) := ⟨rfl, rfl, rfl, by decide +kernel, rfl, by decide +kernel, by decide +kernel⟩
abbrev sLTake : Stmt := topS 8
theorem scLTake : FnScope ["_law_bag", "_law_many", "_law_cells", "_law_digit", "_law_cell", "_law_number"] ["_law_bag", "_law_many"] (defScope sLTake) := ⟨rfl, rfl, rfl, by decide +kernel, rfl, by decide +kernel, by decide +kernel⟩
abbrev sLValue : Stmt := topS 9
theorem scLValue : FnScope ["_law_bag", "_law_k", "_law_number"] ["_law_bag", "_law_k"] (defScope sLValue) := ⟨rfl, rfl, rfl, by decide +kernel, rfl, by decide +kernel, by decide +kernel⟩
abbrev sLPutIn : Stmt := topS 10
theorem scLPutIn : FnScope ["_law_bag", "_law_row", "_law_value_here", "_law_shape", "_law_at"] ["_law_bag", "_law_row", "_law_value_here", "_law_shape"] (defScope sLPutIn) := ⟨rfl, rfl, rfl, by decide +kernel, rfl, by decide +kernel, by decide +kernel⟩
abbrev sLRows : Stmt := topS 11
theorem scLRows : FnScope ["_law_bag", "_law_many", "_law_shape", "_law_twin", "_law_rows_here", "_law_k", "_law_value_here", "_law_where"] ["_law_bag"] (defScope sLRows) := ⟨rfl, rfl, rfl, by decide +kernel, rfl, by decide +kernel, by decide +kernel⟩
abbrev sLPlace : Stmt := topS 12
theorem scLPlace : FnScope ["_law_row", "_law_value_here", "_law_k"] ["_law_row", "_law_value_here"] (defScope sLPlace) := ⟨rfl, rfl, rfl, by decide +kernel, rfl, by decide +kernel, by decide +kernel⟩
abbrev sLCommon : Stmt := topS 13
theorem scLCommon : FnScope ["_law_old", "_law_new", "_law_value_here"] ["_law_old", "_law_new"] (defScope sLCommon) := ⟨rfl, rfl, rfl, by decide +kernel, rfl, by decide +kernel, by decide +kernel⟩
abbrev sLUp : Stmt := topS 14
theorem scLUp : FnScope ["_law_bag", "_law_old", "_law_new", "_law_row", "_law_last", "_law_value_here", "_law_place_here"] ["_law_bag", "_law_old", "_law_new"] (defScope sLUp) := ⟨rfl, rfl, rfl, by decide +kernel, rfl, by decide +kernel, by decide +kernel⟩
abbrev sLDown : Stmt := topS 15
theorem scLDown : FnScope ["_law_bag", "_law_old", "_law_new", "_law_rows_here", "_law_value_here", "_law_found", "_law_k"] ["_law_bag", "_law_old", "_law_new"] (defScope sLDown) := ⟨rfl, rfl, rfl, by decide +kernel, rfl, by decide +kernel, by decide +kernel⟩
abbrev sLOddItem : Stmt := topS 16
theorem scLOddItem : FnScope ["_law_bag", "_law_old", "_law_new", "_law_kind", "_law_strangers", "_law_value_here"] ["_law_bag", "_law_old", "_law_new"] (defScope sLOddItem) := ⟨rfl, rfl, rfl, by decide +kernel, rfl, by decide +kernel, by decide +kernel⟩
abbrev sLSpoilt : Stmt := topS 17
theorem scLSpoilt : FnScope ["_law_bag", "_law_row", "_law_old", "_law_new", "_law_kind", "_law_at", "_law_one"] ["_law_bag", "_law_row", "_law_old", "_law_new"] (defScope sLSpoilt) := ⟨rfl, rfl, rfl, by decide +kernel, rfl, by decide +kernel, by decide +kernel⟩
abbrev sLSpoiltRows : Stmt := topS 18
theorem scLSpoiltRows : FnScope ["_law_bag", "_law_rows_here", "_law_old", "_law_new", "_law_kind", "_law_at", "_law_to", "_law_row"] ["_law_bag", "_law_rows_here", "_law_old", "_law_new"] (defScope sLSpoiltRows) := ⟨rfl, rfl, rfl, by decide +kernel, rfl, by decide +kernel, by decide +kernel⟩
abbrev sLOtherThing : Stmt := topS 19
theorem scLOtherThing : FnScope ["_law_bag", "_law_thing", "_law_kind"] ["_law_bag", "_law_thing"] (defScope sLOtherThing) := ⟨rfl, rfl, rfl, by decide +kernel, rfl, by decide +kernel, by decide +kernel⟩
abbrev sLGoes : Stmt := topS 20
theorem scLGoes : FnScope ["_law_old", "_law_new", "_law_row", "_law_sign", "_law_places", "_law_value_here", "_law_k"] ["_law_old", "_law_new", "_law_row", "_law_sign"] (defScope sLGoes) := ⟨rfl, rfl, rfl, by decide +kernel, rfl, by decide +kernel, by decide +kernel⟩
abbrev sLCovers : Stmt := topS 21
theorem scLCovers : FnScope ["_law_old", "_law_new", "_law_rows_here", "_law_met", "_law_row", "_law_value_here"] ["_law_old", "_law_new", "_law_rows_here"] (defScope sLCovers) := ⟨rfl, rfl, rfl, by decide +kernel, rfl, by decide +kernel, by decide +kernel⟩
abbrev sLaw : Stmt := topS 22
theorem scLaw : FnScope ["_law_script", "_law_bag", "_law_rows_here", "_law_old", "_law_new", "_law_up_here", "_law_down_here", "_law_rises", "_law_falls", "_law_turn", "_law_passed", "_law_told"] ["_law_script"] (defScope sLaw) := ⟨rfl, rfl, rfl, by decide +kernel, rfl, by decide +kernel, by decide +kernel⟩

theorem boot_all : bootBuiltins "all" = some (.builtin "all") := by decide +kernel
theorem boot_bool : bootBuiltins "bool" = some (.type "bool") := by decide +kernel
theorem boot_int : bootBuiltins "int" = some (.type "int") := by decide +kernel
theorem boot_isinstance : bootBuiltins "isinstance" = some (.builtin "isinstance") := by decide +kernel
theorem boot_len : bootBuiltins "len" = some (.builtin "len") := by decide +kernel
theorem boot_list : bootBuiltins "list" = some (.type "list") := by decide +kernel
theorem boot_str : bootBuiltins "str" = some (.type "str") := by decide +kernel
theorem boot_tuple : bootBuiltins "tuple" = some (.type "tuple") := by decide +kernel
structure TX (K : PySem.W.Frag) (mg : Str → Option Value) : Type where
  n_all : mg "all" = none
  n_bool : mg "bool" = none
  n_enumerate : mg "enumerate" = none
  n_int : mg "int" = none
  n_isinstance : mg "isinstance" = none
  n_len : mg "len" = none
  n_list : mg "list" = none
  n_range : mg "range" = none
  n_str : mg "str" = none
  n_tuple : mg "tuple" = none
  n_zip : mg "zip" = none
  fIsValue : Addr
  dIsValue : FuncData
  FIsValue : Fun K "is_value" "is_value" sIsValue fIsValue dIsValue
  gIsValue : mg "is_value" = some (.ref fIsValue)
  bIsValue : Binds K dIsValue ["thing"] []
  fPlacesOf : Addr
  dPlacesOf : FuncData
  FPlacesOf : Fun K "places_of" "places_of" sPlacesOf fPlacesOf dPlacesOf
  gPlacesOf : mg "places_of" = some (.ref fPlacesOf)
  bPlacesOf : Binds K dPlacesOf ["row"] []
  fInOrder : Addr
  dInOrder : FuncData
  FInOrder : Fun K "in_order" "in_order" sInOrder fInOrder dInOrder
  gInOrder : mg "in_order" = some (.ref fInOrder)
  bInOrder : Binds K dInOrder ["places", "row", "sign"] []
  fAreCommon : Addr
  dAreCommon : FuncData
  FAreCommon : Fun K "are_common" "are_common" sAreCommon fAreCommon dAreCommon
  gAreCommon : mg "are_common" = some (.ref fAreCommon)
  bAreCommon : Binds K dAreCommon ["old", "new", "thing"] []
  fIsRising : Addr
  dIsRising : FuncData
  FIsRising : Fun K "is_rising" "is_rising" sIsRising fIsRising dIsRising
  gIsRising : mg "is_rising" = some (.ref fIsRising)
  bIsRising : Binds K dIsRising ["old", "new", "thing"] []
  fIsFalling : Addr
  dIsFalling : FuncData
  FIsFalling : Fun K "is_falling" "is_falling" sIsFalling fIsFalling dIsFalling
  gIsFalling : mg "is_falling" = some (.ref fIsFalling)
  bIsFalling : Binds K dIsFalling ["old", "new", "thing"] []
  fLTake : Addr
  dLTake : FuncData
  FLTake : Fun K "_law_take" "_law_take" sLTake fLTake dLTake
  gLTake : mg "_law_take" = some (.ref fLTake)
  bLTake : Binds K dLTake ["_law_bag", "_law_many"] []
  fLValue : Addr
  dLValue : FuncData
  FLValue : Fun K "_law_value" "_law_value" sLValue fLValue dLValue
  gLValue : mg "_law_value" = some (.ref fLValue)
  bLValue : Binds K dLValue ["_law_bag", "_law_k"] []
  fLPutIn : Addr
  dLPutIn : FuncData
  FLPutIn : Fun K "_law_put_in" "_law_put_in" sLPutIn fLPutIn dLPutIn
  gLPutIn : mg "_law_put_in" = some (.ref fLPutIn)
  bLPutIn : Binds K dLPutIn ["_law_bag", "_law_row", "_law_value_here", "_law_shape"] []
  fLRows : Addr
  dLRows : FuncData
  FLRows : Fun K "_law_rows" "_law_rows" sLRows fLRows dLRows
  gLRows : mg "_law_rows" = some (.ref fLRows)
  bLRows : Binds K dLRows ["_law_bag"] []
  fLPlace : Addr
  dLPlace : FuncData
  FLPlace : Fun K "_law_place" "_law_place" sLPlace fLPlace dLPlace
  gLPlace : mg "_law_place" = some (.ref fLPlace)
  bLPlace : Binds K dLPlace ["_law_row", "_law_value_here"] []
  fLCommon : Addr
  dLCommon : FuncData
  FLCommon : Fun K "_law_common" "_law_common" sLCommon fLCommon dLCommon
  gLCommon : mg "_law_common" = some (.ref fLCommon)
  bLCommon : Binds K dLCommon ["_law_old", "_law_new"] []
  fLUp : Addr
  dLUp : FuncData
  FLUp : Fun K "_law_up" "_law_up" sLUp fLUp dLUp
  gLUp : mg "_law_up" = some (.ref fLUp)
  bLUp : Binds K dLUp ["_law_bag", "_law_old", "_law_new"] []
  fLDown : Addr
  dLDown : FuncData
  FLDown : Fun K "_law_down" "_law_down" sLDown fLDown dLDown
  gLDown : mg "_law_down" = some (.ref fLDown)
  bLDown : Binds K dLDown ["_law_bag", "_law_old", "_law_new"] []
  fLOddItem : Addr
  dLOddItem : FuncData
  FLOddItem : Fun K "_law_odd_item" "_law_odd_item" sLOddItem fLOddItem dLOddItem
  gLOddItem : mg "_law_odd_item" = some (.ref fLOddItem)
  bLOddItem : Binds K dLOddItem ["_law_bag", "_law_old", "_law_new"] []
  fLSpoilt : Addr
  dLSpoilt : FuncData
  FLSpoilt : Fun K "_law_spoilt" "_law_spoilt" sLSpoilt fLSpoilt dLSpoilt
  gLSpoilt : mg "_law_spoilt" = some (.ref fLSpoilt)
  bLSpoilt : Binds K dLSpoilt ["_law_bag", "_law_row", "_law_old", "_law_new"] []
  fLSpoiltRows : Addr
  dLSpoiltRows : FuncData
  FLSpoiltRows : Fun K "_law_spoilt_rows" "_law_spoilt_rows" sLSpoiltRows fLSpoiltRows dLSpoiltRows
  gLSpoiltRows : mg "_law_spoilt_rows" = some (.ref fLSpoiltRows)
  bLSpoiltRows : Binds K dLSpoiltRows ["_law_bag", "_law_rows_here", "_law_old", "_law_new"] []
  fLOtherThing : Addr
  dLOtherThing : FuncData
  FLOtherThing : Fun K "_law_other_thing" "_law_other_thing" sLOtherThing fLOtherThing dLOtherThing
  gLOtherThing : mg "_law_other_thing" = some (.ref fLOtherThing)
  bLOtherThing : Binds K dLOtherThing ["_law_bag", "_law_thing"] []
  fLGoes : Addr
  dLGoes : FuncData
  FLGoes : Fun K "_law_goes" "_law_goes" sLGoes fLGoes dLGoes
  gLGoes : mg "_law_goes" = some (.ref fLGoes)
  bLGoes : Binds K dLGoes ["_law_old", "_law_new", "_law_row", "_law_sign"] []
  fLCovers : Addr
  dLCovers : FuncData
  FLCovers : Fun K "_law_covers" "_law_covers" sLCovers fLCovers dLCovers
  gLCovers : mg "_law_covers" = some (.ref fLCovers)
  bLCovers : Binds K dLCovers ["_law_old", "_law_new", "_law_rows_here"] []
  fLaw : Addr
  dLaw : FuncData
  FLaw : Fun K "law" "law" sLaw fLaw dLaw
  gLaw : mg "law" = some (.ref fLaw)
  bLaw : Binds K dLaw ["_law_script"] []
section
variable {P : Program} {w : World} {K : PySem.W.Frag} {mg : Str → Option Value} {base : Heap} {cm : String → Option Addr}
noncomputable def mbIsValue : MS :=
 (mRet (mOrV (mCB fIsi (mCons (mVar 0) (mCons (mC (.ty "str")) mNil))) (mAndV (mCB fIsi (mCons (mVar 0) (mCons (mC (.ty "int")) mNil))) (mNotV (mCB fIsi (mCons (mVar 0) (mCons (mC (.ty "bool")) mNil)))))))
noncomputable def mIsValue : Fn := fnM 1 mbIsValue
theorem okIsValue (T : TX K mg) : FnOk P w K mg base CX0 1 T.fIsValue T.dIsValue ["thing"] (spM ⟨K, cm⟩ 1 mIsValue) := ok_def T.FIsValue scIsValue fun cdv A outer s H E hr => by
  unfold mbIsValue
  exact (qs_one (q_ret (q_or (q_callB call_isi v_isi (by rfl) T.n_isinstance boot_isinstance (qa_cons (qv 0) (qa_cons (q_ty (by rfl) T.n_str boot_str) qa_nil))) (q_one (q_and (q_callB call_isi v_isi (by rfl) T.n_isinstance boot_isinstance (qa_cons (qv 0) (qa_cons (q_ty (by rfl) T.n_int boot_int) qa_nil))) (q_one (q_not (q_callB call_isi v_isi (by rfl) T.n_isinstance boot_isinstance (qa_cons (qv 0) (qa_cons (q_ty (by rfl) T.n_bool boot_bool) qa_nil))))))))))
noncomputable def mbPlacesOf : MS :=
 (mRet (mDc (mEnum (mCons (mVar 0) mNil)) (gTp 2 (gCn (gNm 1) (gCn (gNm 2) gNl))) mYes (mVar 2) (mVar 1) [1, 2]))
noncomputable def mPlacesOf : Fn := fnM 3 mbPlacesOf
theorem okPlacesOf (T : TX K mg) : FnOk P w K mg base CX0 1 T.fPlacesOf T.dPlacesOf ["row"] (spM ⟨K, cm⟩ 1 mPlacesOf) := ok_def T.FPlacesOf scPlacesOf fun cdv A outer s H E hr => by
  unfold mbPlacesOf
  exact (qs_one (q_ret (q_dc [("at", 1), ("value", 2)] rfl rfl scPlacesOf.nd (q_enum rfl (by rfl) T.n_enumerate (qa_cons (qv 0) qa_nil)) (blkOk_by (own := [("at", 1), ("value", 2)]) (N := ["row", "at", "value"]) (sc := defScope sPlacesOf) (by decide +kernel)) (gt := gTup K 2 (gCons (gName 1) (gCons (gName 2) gNil))) (own_tup (own_cons (by decide) (own_cons (by decide) own_nil))) (fun _ _ _ _ _ => by exact (pg_tup rfl (pgs_cons (pg_name (i := 1) scPlacesOf.nd rfl (.inl rfl)) (pgs_cons (pg_name (i := 2) scPlacesOf.nd rfl (.inl rfl)) pgs_nil)))) (fun _ _ _ _ _ => qts_nil) (fun _ _ _ _ _ => (qv 2)) (fun _ _ _ _ _ => (qv 1)))))
noncomputable def mbInOrder : MS :=
 (mSeq (mFor (mZip (mCons (mVar 1) (mCons (mSl (mVar 1) (mPart (mC (.int 1))) mNoPart) mNil))) (gTp 2 (gCn (gNm 3) (gCn (gNm 4) gNl)))
 (mIfS (mB (m2 fLe (m2 fMul (mVar 2) (m2 fSub (m2 fDix (mVar 0) (mVar 4)) (m2 fDix (mVar 0) (mVar 3)))) (mC (.int 0))))
 (mRet (mC (.bl false)))
 mNext))
 (mRet (mC (.bl true))))
noncomputable def mInOrder : Fn := fnM 5 mbInOrder
theorem okInOrder (T : TX K mg) : FnOk P w K mg base CX0 1 T.fInOrder T.dInOrder ["places", "row", "sign"] (spM ⟨K, cm⟩ 3 mInOrder) := ok_def T.FInOrder scInOrder fun cdv A outer s H E hr => by
  unfold mbInOrder
  exact (qs_cons (q_for PassesOwn.never rfl (q_zip rfl (by rfl) T.n_zip (qa_cons (qv 1) (qa_cons (q_slice rfl (qv 1) (qo_some qint) qo_none) qa_nil))) (qg_tup rfl rfl (qgs_cons (qg_name (i := 3) scInOrder.nd rfl (.inl rfl)) (qgs_cons (qg_name (i := 4) scInOrder.nd rfl (.inl rfl)) qgs_nil)))
 (qs_one (q_if (qt_cmp o_le v_ord (q_op op_mulW v_mul (qv 2) (q_op op_sub v_sub (q_dix (qv 0) (qv 4) (hu_of hr) (fun _ _ => rfl)) (q_dix (qv 0) (qv 3) (hu_of hr) (fun _ _ => rfl)))) qint)
 (qs_one (q_ret qbl))
 qs_nil)))
 (qs_one (q_ret qbl)))
noncomputable def mbAreCommon : MS :=
 (mSeq (mIfS (mNot (mTr (mCB fIsi (mCons (mVar 2) (mCons (mC (.ty "list")) mNil)))))
 (mRet (mC (.bl false)))
 mNext)
 (mRet (mCB (fAllAny true) (mCons (mLc (mIt (mVar 2)) (gNm 3) mYes (mAndV (mCall 1 (nx mIsValue) (mCons (mVar 3) mNil)) (mAndV (m2 (fIn false) (mVar 3) (mVar 0)) (m2 (fIn false) (mVar 3) (mVar 1)))) [3]) mNil))))
noncomputable def mAreCommon : Fn := fnM 4 mbAreCommon
theorem okAreCommon (T : TX K mg) : FnOk P w K mg base CX0 2 T.fAreCommon T.dAreCommon ["old", "new", "thing"] (spM ⟨K, cm⟩ 3 mAreCommon) := ok_def T.FAreCommon scAreCommon fun cdv A outer s H E hr => by
  unfold mbAreCommon
  exact (qs_cons (q_if (qt_not (qt_tr rfl (q_callB call_isi v_isi (by rfl) T.n_isinstance boot_isinstance (qa_cons (qv 2) (qa_cons (q_ty (by rfl) T.n_list boot_list) qa_nil))) (by intro _; rfl)))
 (qs_one (q_ret qbl))
 qs_nil)
 (qs_one (q_ret (q_callB (cr_all rfl) v_all (by rfl) T.n_all boot_all (qa_cons (q_lc [("item", 3)] rfl rfl scAreCommon.nd (q_it rfl (qv 2)) (blkOk_by (own := [("item", 3)]) (N := ["old", "new", "thing", "item"]) (sc := defScope sAreCommon) (by decide +kernel)) (gt := gName 3) (own_name (by decide)) (fun _ _ _ _ _ => by exact (pg_name (i := 3) scAreCommon.nd rfl (.inl rfl))) (fun _ _ _ _ _ => qts_nil) (fun _ _ _ _ _ => (q_and (q_call (okIsValue T) (hr.mono (by decide)) (by rfl) T.gIsValue T.FIsValue.kp T.bIsValue (qa_cons (qv 3) qa_nil)) (q_and (q_cmp (o_in (hu65 hr)) v_in (qv 3) (qv 0)) (q_one (q_cmp (o_in (hu65 hr)) v_in (qv 3) (qv 1))))))) qa_nil)))))
noncomputable def mbIsRising : MS :=
 (mSeq (mIfS (mNot (mTr (mCall 3 (nx mAreCommon) (mCons (mVar 0) (mCons (mVar 1) (mCons (mVar 2) mNil))))))
 (mRet (mC (.bl false)))
 mNext)
 (mRet (mAndV (mCall 3 (nx mInOrder) (mCons (mCall 1 (nx mPlacesOf) (mCons (mVar 0) mNil)) (mCons (mVar 2) (mCons (mC (.int 1)) mNil)))) (mCall 3 (nx mInOrder) (mCons (mCall 1 (nx mPlacesOf) (mCons (mVar 1) mNil)) (mCons (mVar 2) (mCons (mC (.int 1)) mNil)))))))
noncomputable def mIsRising : Fn := fnM 3 mbIsRising
theorem okIsRising (T : TX K mg) : FnOk P w K mg base CX0 3 T.fIsRising T.dIsRising ["old", "new", "thing"] (spM ⟨K, cm⟩ 3 mIsRising) := ok_def T.FIsRising scIsRising fun cdv A outer s H E hr => by
  unfold mbIsRising
  exact (qs_cons (q_if (qt_not (qt_tr rfl (q_call (okAreCommon T) (hr.mono (by decide)) (by rfl) T.gAreCommon T.FAreCommon.kp T.bAreCommon (qa_cons (qv 0) (qa_cons (qv 1) (qa_cons (qv 2) qa_nil)))) (by intro _; rfl)))
 (qs_one (q_ret qbl))
 qs_nil)
 (qs_one (q_ret (q_and (q_call (okInOrder T) (hr.mono (by decide)) (by rfl) T.gInOrder T.FInOrder.kp T.bInOrder (qa_cons (q_call (okPlacesOf T) (hr.mono (by decide)) (by rfl) T.gPlacesOf T.FPlacesOf.kp T.bPlacesOf (qa_cons (qv 0) qa_nil)) (qa_cons (qv 2) (qa_cons qint qa_nil)))) (q_one (q_call (okInOrder T) (hr.mono (by decide)) (by rfl) T.gInOrder T.FInOrder.kp T.bInOrder (qa_cons (q_call (okPlacesOf T) (hr.mono (by decide)) (by rfl) T.gPlacesOf T.FPlacesOf.kp T.bPlacesOf (qa_cons (qv 1) qa_nil)) (qa_cons (qv 2) (qa_cons qint qa_nil)))))))))
noncomputable def mbIsFalling : MS :=
 (mSeq (mIfS (mNot (mTr (mCB fIsi (mCons (mVar 2) (mCons (mC (.ty "list")) mNil)))))
 (mRet (mC (.bl false)))
 mNext)
 (mSeq (mAsg (mCall 1 (nx mPlacesOf) (mCons (mVar 0) mNil)) (gNm 3))
 (mSeq (mAsg (mCall 1 (nx mPlacesOf) (mCons (mVar 1) mNil)) (gNm 4))
 (mSeq (mAsg mDnew (gNm 5))
 (mSeq (mFor (mIt (mVar 2)) (gNm 6)
 (mSeq (mIfS (mOr (mNot (mTr (mCall 3 (nx mAreCommon) (mCons (mVar 0) (mCons (mVar 1) (mCons (mVar 6) mNil)))))) (mB (m2 (fEq false) (mCB fLen (mCons (mVar 6) mNil)) (mC (.int 0)))))
 (mRet (mC (.bl false)))
 mNext)
 (mSeq (mIfS (mOr (mNot (mTr (mCall 3 (nx mInOrder) (mCons (mVar 3) (mCons (mVar 6) (mCons (mC (.int 1)) mNil)))))) (mNot (mTr (mCall 3 (nx mInOrder) (mCons (mVar 4) (mCons (mVar 6) (mCons (m1 fNeg (mC (.int 1))) mNil)))))))
 (mRet (mC (.bl false)))
 mNext)
 (mFor (mIt (mVar 6)) (gNm 7)
 (mSeq (mIfS (mB (m2 (fDin false) (mVar 7) (mVar 5)))
 (mRet (mC (.bl false)))
 mNext)
 (mAsg (mC (.bl true)) (gSb (mVar 5) (mVar 7))))))))
 (mRet (m2 (fEq false) (mCB fLen (mCons (mVar 5) mNil)) (mCB fLen (mCons (mLc (mIt (mVar 0)) (gNm 7) (mB (m2 (fDin false) (mVar 7) (mVar 4))) (mVar 7) [7]) mNil)))))))))
noncomputable def mIsFalling : Fn := fnM 8 mbIsFalling
theorem okIsFalling (T : TX K mg) : FnOk P w K mg base CX0 3 T.fIsFalling T.dIsFalling ["old", "new", "thing"] (spM ⟨K, cm⟩ 3 mIsFalling) := ok_def T.FIsFalling scIsFalling fun cdv A outer s H E hr => by
  unfold mbIsFalling
  exact (qs_cons (q_if (qt_not (qt_tr rfl (q_callB call_isi v_isi (by rfl) T.n_isinstance boot_isinstance (qa_cons (qv 2) (qa_cons (q_ty (by rfl) T.n_list boot_list) qa_nil))) (by intro _; rfl)))
 (qs_one (q_ret qbl))
 qs_nil)
 (qs_cons (q_set (i := 3) scIsFalling.nd rfl (.inl rfl) (q_call (okPlacesOf T) (hr.mono (by decide)) (by rfl) T.gPlacesOf T.FPlacesOf.kp T.bPlacesOf (qa_cons (qv 0) qa_nil)))
 (qs_cons (q_set (i := 4) scIsFalling.nd rfl (.inr rfl) (q_call (okPlacesOf T) (hr.mono (by decide)) (by rfl) T.gPlacesOf T.FPlacesOf.kp T.bPlacesOf (qa_cons (qv 1) qa_nil)))
 (qs_cons (q_set (i := 5) scIsFalling.nd rfl (.inl rfl) q_dnew)
 (qs_cons (q_for PassesOwn.never rfl (q_it rfl (qv 2)) (qg_name (i := 6) scIsFalling.nd rfl (.inl rfl))
 (qs_cons (q_if (PW.pt (qw_or (qt_not (qt_tr rfl (q_call (okAreCommon T) (hr.mono (by decide)) (by rfl) T.gAreCommon T.FAreCommon.kp T.bAreCommon (qa_cons (qv 0) (qa_cons (qv 1) (qa_cons (qv 6) qa_nil)))) (by intro _; rfl))) (qw_or1 (qt_cmp (o_eq hr.units) v_eq (q_callB c_len' v_len (by rfl) T.n_len boot_len (qa_cons (qv 6) qa_nil)) qint))))
 (qs_one (q_ret qbl))
 qs_nil)
 (qs_cons (q_if (PW.pt (qw_or (qt_not (qt_tr rfl (q_call (okInOrder T) (hr.mono (by decide)) (by rfl) T.gInOrder T.FInOrder.kp T.bInOrder (qa_cons (qv 3) (qa_cons (qv 6) (qa_cons qint qa_nil)))) (by intro _; rfl))) (qw_or1 (qt_not (qt_tr rfl (q_call (okInOrder T) (hr.mono (by decide)) (by rfl) T.gInOrder T.FInOrder.kp T.bInOrder (qa_cons (qv 4) (qa_cons (qv 6) (qa_cons (q_un un_neg v_neg qint) qa_nil)))) (by intro _; rfl))))))
 (qs_one (q_ret qbl))
 qs_nil)
 (qs_one (q_for PassesOwn.never rfl (q_it rfl (qv 6)) (qg_name (i := 7) scIsFalling.nd rfl (.inl rfl))
 (qs_cons (q_if (qt_din (hu_of hr) (qv 7) (qv 5))
 (qs_one (q_ret qbl))
 qs_nil)
 (qs_one (q_asg qbl (qg_sub (W := WF) (qv 5) (qv 7) (hu_of hr))))))))))
 (qs_one (q_ret (q_cmp (o_eq hr.units) v_eq (q_callB c_len' v_len (by rfl) T.n_len boot_len (qa_cons (qv 5) qa_nil)) (q_callB c_len' v_len (by rfl) T.n_len boot_len (qa_cons (q_lc [("value", 7)] rfl rfl scIsFalling.nd (q_it rfl (qv 0)) (blkOk_by (own := [("value", 7)]) (N := ["old", "new", "thing", "elder", "younger", "met", "row", "value"]) (sc := defScope sIsFalling) (by decide +kernel)) (gt := gName 7) (own_name (by decide)) (fun _ _ _ _ _ => by exact (pg_name (i := 7) scIsFalling.nd rfl (.inl rfl))) (fun _ _ _ _ _ => (pts_one (qt_din (hu_of hr) (qv 7) (qv 4)))) (fun _ _ _ _ _ => (qv 7))) qa_nil))))))))))
noncomputable def mbLTake : MS :=
 (mSeq (mAsg (m2 fIx (mVar 0) (mC (.int 0))) (gNm 2))
 (mSeq (mAsg (m2 fAdd (m2 fIx (mVar 0) (mC (.int 3))) (mC (.int 1))) (gSb (mVar 0) (mC (.int 3))))
 (mSeq (mIfS (mAnd (mB (m2 (fEq false) (m2 fIx (mVar 0) (mC (.int 2))) (mC (.int 0)))) (mAnd (mB (m2 fLt (m2 fIx (mVar 0) (mC (.int 1))) (mCB fLen (mCons (mVar 2) mNil)))) (mB (m2 fGe (m2 fIx (mVar 2) (m2 fIx (mVar 0) (mC (.int 1)))) (m2 fPow (mC (.int 10)) (mC (.int 18)))))))
 (mSeq (mAsg (m2 fIx (mVar 2) (m2 fIx (mVar 0) (mC (.int 1)))) (gSb (mVar 0) (mC (.int 2))))
 (mAsg (m2 fAdd (m2 fIx (mVar 0) (mC (.int 1))) (mC (.int 1))) (gSb (mVar 0) (mC (.int 1)))))
 mNext)
 (mSeq (mIfS (mB (m2 fGt (m2 fIx (mVar 0) (mC (.int 2))) (mC (.int 0))))
 (mSeq (mAsg (m2 fMod (mCB fInt (mCons (m2 fIx (mVar 0) (mC (.int 2))) mNil)) (mVar 1)) (gNm 3))
 (mSeq (mAsg (m2 fDiv (mCB fInt (mCons (m2 fIx (mVar 0) (mC (.int 2))) mNil)) (mVar 1)) (gSb (mVar 0) (mC (.int 2))))
 (mRet (mVar 3))))
 mNext)
 (mSeq (mAsg (mC (.int 0)) (gNm 4))
 (mSeq (mIfS (mB (m2 fGt (mCB fLen (mCons (mVar 2) mNil)) (mC (.int 0))))
 (mSeq (mAsg (mCB fInt (mCons (m2 fIx (mVar 2) (m2 fMod (mCB fInt (mCons (m2 fIx (mVar 0) (mC (.int 1))) mNil)) (mCB fLen (mCons (mVar 2) mNil)))) mNil)) (gNm 4))
 (mAsg (m2 fAdd (m2 fIx (mVar 0) (mC (.int 1))) (mC (.int 1))) (gSb (mVar 0) (mC (.int 1)))))
 mNext)
 (mSeq (mAsg (m2 fMod (mCB fInt (mCons (m2 fAdd (m2 fAdd (m2 fAdd (mVar 4) (m2 fMul (m2 fMul (mC (.int 7919)) (m2 fIx (mVar 0) (mC (.int 3)))) (m2 fIx (mVar 0) (mC (.int 3))))) (m2 fMul (mC (.int 104729)) (m2 fIx (mVar 0) (mC (.int 3))))) (mC (.int 1))) mNil)) (mC (.int 2147483647))) (gNm 5))
 (mSeq (mAsg (m2 fMod (mCB fInt (mCons (m2 fMul (mVar 5) (m2 fAdd (m2 fDiv (mVar 5) (mC (.int 1009))) (mC (.int 69621)))) mNil)) (mC (.int 2147483647))) (gNm 5))
 (mSeq (mAsg (m2 fMod (mCB fInt (mCons (m2 fMul (mVar 5) (m2 fAdd (m2 fDiv (mVar 5) (mC (.int 2003))) (mC (.int 40692)))) mNil)) (mC (.int 2147483399))) (gNm 5))
 (mRet (m2 fMod (mCB fInt (mCons (m2 fDiv (mVar 5) (mC (.int 16))) mNil)) (mVar 1))))))))))))
noncomputable def mLTake : Fn := fnM 6 mbLTake
theorem okLTake (T : TX K mg) : FnOk P w K mg base CX0 1 T.fLTake T.dLTake ["_law_bag", "_law_many"] (spM ⟨K, cm⟩ 2 mLTake) := ok_def T.FLTake scLTake fun cdv A outer s H E hr => by
  unfold mbLTake
  exact (qs_cons (q_set (i := 2) scLTake.nd rfl (.inl rfl) (q_ix (qv 0) qint rfl (fun _ _ => rfl)))
 (qs_cons (q_asg (q_op o_add v_add (q_ix (qv 0) qint rfl (fun _ _ => rfl)) qint) (qg_sub (W := WF) (qv 0) qint (hu_of hr)))
 (qs_cons (q_if (PW.pt (qw_and (qt_cmp (o_eq hr.units) v_eq (q_ix (qv 0) qint rfl (fun _ _ => rfl)) qint) (qw_and (qt_cmp o_lt v_ord (q_ix (qv 0) qint rfl (fun _ _ => rfl)) (q_callB c_len' v_len (by rfl) T.n_len boot_len (qa_cons (qv 2) qa_nil))) (qw_and1 (qt_cmp o_ge v_ord (q_ix (qv 2) (q_ix (qv 0) qint rfl (fun _ _ => rfl)) rfl (fun _ _ => rfl)) (q_op op_pow v_pow qint qint))))))
 (qs_cons (q_asg (q_ix (qv 2) (q_ix (qv 0) qint rfl (fun _ _ => rfl)) rfl (fun _ _ => rfl)) (qg_sub (W := WF) (qv 0) qint (hu_of hr)))
 (qs_one (q_asg (q_op o_add v_add (q_ix (qv 0) qint rfl (fun _ _ => rfl)) qint) (qg_sub (W := WF) (qv 0) qint (hu_of hr)))))
 qs_nil)
 (qs_cons (q_if (qt_cmp o_gt v_ord (q_ix (qv 0) qint rfl (fun _ _ => rfl)) qint)
 (qs_cons (q_set (i := 3) scLTake.nd rfl (.inl rfl) (q_op op_mod v_mod (q_callTy (r := qInt1) c_int v_int (by rfl) T.n_int boot_int (qa_cons (q_ix (qv 0) qint rfl (fun _ _ => rfl)) qa_nil)) (qv 1)))
 (qs_cons (q_asg (q_op op_fdivW v_div (q_callTy (r := qInt1) c_int v_int (by rfl) T.n_int boot_int (qa_cons (q_ix (qv 0) qint rfl (fun _ _ => rfl)) qa_nil)) (qv 1)) (qg_sub (W := WF) (qv 0) qint (hu_of hr)))
 (qs_one (q_ret (qv 3)))))
 qs_nil)
 (qs_cons (q_set (i := 4) scLTake.nd rfl (.inl rfl) qint)
 (qs_cons (q_if (qt_cmp o_gt v_ord (q_callB c_len' v_len (by rfl) T.n_len boot_len (qa_cons (qv 2) qa_nil)) qint)
 (qs_cons (q_set (i := 4) scLTake.nd rfl (.inl rfl) (q_callTy (r := qInt1) c_int v_int (by rfl) T.n_int boot_int (qa_cons (q_ix (qv 2) (q_op op_mod v_mod (q_callTy (r := qInt1) c_int v_int (by rfl) T.n_int boot_int (qa_cons (q_ix (qv 0) qint rfl (fun _ _ => rfl)) qa_nil)) (q_callB c_len' v_len (by rfl) T.n_len boot_len (qa_cons (qv 2) qa_nil))) rfl (fun _ _ => rfl)) qa_nil)))
 (qs_one (q_asg (q_op o_add v_add (q_ix (qv 0) qint rfl (fun _ _ => rfl)) qint) (qg_sub (W := WF) (qv 0) qint (hu_of hr)))))
 qs_nil)
 (qs_cons (q_set (i := 5) scLTake.nd rfl (.inl rfl) (q_op op_mod v_mod (q_callTy (r := qInt1) c_int v_int (by rfl) T.n_int boot_int (qa_cons (q_op o_add v_add (q_op o_add v_add (q_op o_add v_add (qv 4) (q_op op_mulW v_mul (q_op op_mulW v_mul qint (q_ix (qv 0) qint rfl (fun _ _ => rfl))) (q_ix (qv 0) qint rfl (fun _ _ => rfl)))) (q_op op_mulW v_mul qint (q_ix (qv 0) qint rfl (fun _ _ => rfl)))) qint) qa_nil)) qint))
 (qs_cons (q_set (i := 5) scLTake.nd rfl (.inl rfl) (q_op op_mod v_mod (q_callTy (r := qInt1) c_int v_int (by rfl) T.n_int boot_int (qa_cons (q_op op_mulW v_mul (qv 5) (q_op o_add v_add (q_op op_fdivW v_div (qv 5) qint) qint)) qa_nil)) qint))
 (qs_cons (q_set (i := 5) scLTake.nd rfl (.inl rfl) (q_op op_mod v_mod (q_callTy (r := qInt1) c_int v_int (by rfl) T.n_int boot_int (qa_cons (q_op op_mulW v_mul (qv 5) (q_op o_add v_add (q_op op_fdivW v_div (qv 5) qint) qint)) qa_nil)) qint))
 (qs_one (q_ret (q_op op_mod v_mod (q_callTy (r := qInt1) c_int v_int (by rfl) T.n_int boot_int (qa_cons (q_op op_fdivW v_div (qv 5) qint) qa_nil)) (qv 1)))))))))))))
noncomputable def mbLValue : MS :=
 (mSeq (mAsg (m2 fAdd (m2 fMul (mCall 2 (nx mLTake) (mCons (mVar 0) (mCons (m2 fPow (mC (.int 10)) (mC (.int 24))) mNil))) (mC (.int 100))) (mVar 1)) (gNm 2))
 (mSeq (mIfS (mB (m2 fGt (mCall 2 (nx mLTake) (mCons (mVar 0) (mCons (mC (.int 2)) mNil))) (mC (.int 0))))
 (mAsg (m1 fNeg (mVar 2)) (gNm 2))
 mNext)
 (mSeq (mIfS (mB (m2 (fEq false) (mCall 2 (nx mLTake) (mCons (mVar 0) (mCons (mC (.int 3)) mNil))) (mC (.int 0))))
 (mRet (mCB fStr (mCons (mVar 2) mNil)))
 mNext)
 (mRet (mVar 2)))))
noncomputable def mLValue : Fn := fnM 3 mbLValue
theorem okLValue (T : TX K mg) : FnOk P w K mg base CX0 2 T.fLValue T.dLValue ["_law_bag", "_law_k"] (spM ⟨K, cm⟩ 2 mLValue) := ok_def T.FLValue scLValue fun cdv A outer s H E hr => by
  unfold mbLValue
  exact (qs_cons (q_set (i := 2) scLValue.nd rfl (.inl rfl) (q_op o_add v_add (q_op op_mulW v_mul (q_call (okLTake T) (hr.mono (by decide)) (by rfl) T.gLTake T.FLTake.kp T.bLTake (qa_cons (qv 0) (qa_cons (q_op op_pow v_pow qint qint) qa_nil))) qint) (qv 1)))
 (qs_cons (q_if (qt_cmp o_gt v_ord (q_call (okLTake T) (hr.mono (by decide)) (by rfl) T.gLTake T.FLTake.kp T.bLTake (qa_cons (qv 0) (qa_cons qint qa_nil))) qint)
 (qs_one (q_set (i := 2) scLValue.nd rfl (.inl rfl) (q_un un_neg v_neg (qv 2))))
 qs_nil)
 (qs_cons (q_if (qt_cmp (o_eq hr.units) v_eq (q_call (okLTake T) (hr.mono (by decide)) (by rfl) T.gLTake T.FLTake.kp T.bLTake (qa_cons (qv 0) (qa_cons qint qa_nil))) qint)
 (qs_one (q_ret (q_callTy c_str v_str (by rfl) T.n_str boot_str (qa_cons (qv 2) qa_nil))))
 qs_nil)
 (qs_one (q_ret (qv 2))))))
noncomputable def mbLPutIn : MS :=
 (mSeq (mAsg (mCall 2 (nx mLTake) (mCons (mVar 0) (mCons (m2 fAdd (mCB fLen (mCons (mVar 1) mNil)) (mC (.int 1))) mNil))) (gNm 4))
 (mSeq (mIfS (mB (m2 (fEq false) (mVar 3) (mC (.int 1))))
 (mAsg (mCB fLen (mCons (mVar 1) mNil)) (gNm 4))
 mNext)
 (mSeq (mIfS (mB (m2 (fEq false) (mVar 3) (mC (.int 2))))
 (mAsg (mC (.int 0)) (gNm 4))
 mNext)
 (mDrop (mBL fInsert (mVar 1) (mCons (mVar 4) (mCons (mVar 2) mNil)))))))
noncomputable def mLPutIn : Fn := fnM 5 mbLPutIn
theorem okLPutIn (T : TX K mg) : FnOk P w K mg base CX0 2 T.fLPutIn T.dLPutIn ["_law_bag", "_law_row", "_law_value_here", "_law_shape"] (spM ⟨K, cm⟩ 4 mLPutIn) := ok_def T.FLPutIn scLPutIn fun cdv A outer s H E hr => by
  unfold mbLPutIn
  exact (qs_cons (q_set (i := 4) scLPutIn.nd rfl (.inl rfl) (q_call (okLTake T) (hr.mono (by decide)) (by rfl) T.gLTake T.FLTake.kp T.bLTake (qa_cons (qv 0) (qa_cons (q_op o_add v_add (q_callB c_len' v_len (by rfl) T.n_len boot_len (qa_cons (qv 1) qa_nil)) qint) qa_nil))))
 (qs_cons (q_if (qt_cmp (o_eq hr.units) v_eq (qv 3) qint)
 (qs_one (q_set (i := 4) scLPutIn.nd rfl (.inl rfl) (q_callB c_len' v_len (by rfl) T.n_len boot_len (qa_cons (qv 1) qa_nil))))
 qs_nil)
 (qs_cons (q_if (qt_cmp (o_eq hr.units) v_eq (qv 3) qint)
 (qs_one (q_set (i := 4) scLPutIn.nd rfl (.inl rfl) qint))
 qs_nil)
 (qs_one (q_expr (q_bl rfl PySem.F.slot_list_insert PySem.F.type_list_insert mt_insert v_insert (qv 1) (qa_cons (qv 4) (qa_cons (qv 2) qa_nil))))))))
noncomputable def mbLRows : MS :=
 (mSeq (mAsg (mCall 2 (nx mLTake) (mCons (mVar 0) (mCons (mC (.int 9)) mNil))) (gNm 1))
 (mSeq (mIfS (mB (m2 (fEq false) (mCall 2 (nx mLTake) (mCons (mVar 0) (mCons (mC (.int 8)) mNil))) (mC (.int 0))))
 (mAsg (m2 fAdd (mVar 1) (mC (.int 20))) (gNm 1))
 mNext)
 (mSeq (mAsg (mCall 2 (nx mLTake) (mCons (mVar 0) (mCons (mC (.int 4)) mNil))) (gNm 2))
 (mSeq (mAsg (mCall 2 (nx mLTake) (mCons (mVar 0) (mCons (mC (.int 3)) mNil))) (gNm 3))
 (mSeq (mAsg (mLst (mCons (mLst mNil) (mCons (mLst mNil) mNil))) (gNm 4))
 (mSeq (mFor (mRange1 (mCons (mVar 1) mNil)) (gNm 5)
 (mSeq (mAsg (mCall 2 (nx mLValue) (mCons (mVar 0) (mCons (mVar 5) mNil))) (gNm 6))
 (mSeq (mAsg (mCall 2 (nx mLTake) (mCons (mVar 0) (mCons (mC (.int 5)) mNil))) (gNm 7))
 (mSeq (mIfS (mB (m2 (fEq true) (mVar 7) (mC (.int 1))))
 (mDrop (mCall 4 (nx mLPutIn) (mCons (mVar 0) (mCons (m2 fIx (mVar 4) (mC (.int 0))) (mCons (mVar 6) (mCons (mC (.int 1)) mNil))))))
 mNext)
 (mSeq (mIfS (mB (m2 (fEq true) (mVar 7) (mC (.int 0))))
 (mDrop (mCall 4 (nx mLPutIn) (mCons (mVar 0) (mCons (m2 fIx (mVar 4) (mC (.int 1))) (mCons (mVar 6) (mCons (mVar 2) mNil))))))
 mNext)
 (mIfS (mAnd (mB (m2 (fEq false) (mVar 3) (mC (.int 0)))) (mAnd (mB (m2 fLt (mVar 5) (mC (.int 3)))) (mNot (mTr (mCB fIsi (mCons (mVar 6) (mCons (mC (.ty "str")) mNil)))))))
 (mDrop (mCall 4 (nx mLPutIn) (mCons (mVar 0) (mCons (m2 fIx (mVar 4) (m2 fMod (mVar 7) (mC (.int 2)))) (mCons (mCB fStr (mCons (mVar 6) mNil)) (mCons (mC (.int 0)) mNil))))))
 mNext))))))
 (mRet (mVar 4))))))))
noncomputable def mLRows : Fn := fnM 8 mbLRows
theorem okLRows (T : TX K mg) : FnOk P w K mg base CX0 3 T.fLRows T.dLRows ["_law_bag"] (spM ⟨K, cm⟩ 1 mLRows) := ok_def T.FLRows scLRows fun cdv A outer s H E hr => by
  unfold mbLRows
  exact (qs_cons (q_set (i := 1) scLRows.nd rfl (.inl rfl) (q_call (okLTake T) (hr.mono (by decide)) (by rfl) T.gLTake T.FLTake.kp T.bLTake (qa_cons (qv 0) (qa_cons qint qa_nil))))
 (qs_cons (q_if (qt_cmp (o_eq hr.units) v_eq (q_call (okLTake T) (hr.mono (by decide)) (by rfl) T.gLTake T.FLTake.kp T.bLTake (qa_cons (qv 0) (qa_cons qint qa_nil))) qint)
 (qs_one (q_set (i := 1) scLRows.nd rfl (.inl rfl) (q_op o_add v_add (qv 1) qint)))
 qs_nil)
 (qs_cons (q_set (i := 2) scLRows.nd rfl (.inl rfl) (q_call (okLTake T) (hr.mono (by decide)) (by rfl) T.gLTake T.FLTake.kp T.bLTake (qa_cons (qv 0) (qa_cons qint qa_nil))))
 (qs_cons (q_set (i := 3) scLRows.nd rfl (.inl rfl) (q_call (okLTake T) (hr.mono (by decide)) (by rfl) T.gLTake T.FLTake.kp T.bLTake (qa_cons (qv 0) (qa_cons qint qa_nil))))
 (qs_cons (q_set (i := 4) scLRows.nd rfl (.inl rfl) (q_lst (qa_cons (q_lst qa_nil) (qa_cons (q_lst qa_nil) qa_nil))))
 (qs_cons (q_for PassesOwn.never rfl (q_range1 (by rfl) T.n_range (qa_cons (qv 1) qa_nil)) (qg_name (i := 5) scLRows.nd rfl (.inl rfl))
 (qs_cons (q_set (i := 6) scLRows.nd rfl (.inl rfl) (q_call (okLValue T) (hr.mono (by decide)) (by rfl) T.gLValue T.FLValue.kp T.bLValue (qa_cons (qv 0) (qa_cons (qv 5) qa_nil))))
 (qs_cons (q_set (i := 7) scLRows.nd rfl (.inl rfl) (q_call (okLTake T) (hr.mono (by decide)) (by rfl) T.gLTake T.FLTake.kp T.bLTake (qa_cons (qv 0) (qa_cons qint qa_nil))))
 (qs_cons (q_if (qt_cmp (o_ne hr.units) v_ne (qv 7) qint)
 (qs_one (q_expr (q_call (okLPutIn T) (hr.mono (by decide)) (by rfl) T.gLPutIn T.FLPutIn.kp T.bLPutIn (qa_cons (qv 0) (qa_cons (q_ix (qv 4) qint rfl (fun _ _ => rfl)) (qa_cons (qv 6) (qa_cons qint qa_nil)))))))
 qs_nil)
 (qs_cons (q_if (qt_cmp (o_ne hr.units) v_ne (qv 7) qint)
 (qs_one (q_expr (q_call (okLPutIn T) (hr.mono (by decide)) (by rfl) T.gLPutIn T.FLPutIn.kp T.bLPutIn (qa_cons (qv 0) (qa_cons (q_ix (qv 4) qint rfl (fun _ _ => rfl)) (qa_cons (qv 6) (qa_cons (qv 2) qa_nil)))))))
 qs_nil)
 (qs_one (q_if (PW.pt (qw_and (qt_cmp (o_eq hr.units) v_eq (qv 3) qint) (qw_and (qt_cmp o_lt v_ord (qv 5) qint) (qw_and1 (qt_not (qt_tr rfl (q_callB call_isi v_isi (by rfl) T.n_isinstance boot_isinstance (qa_cons (qv 6) (qa_cons (q_ty (by rfl) T.n_str boot_str) qa_nil))) (by intro _; rfl)))))))
 (qs_one (q_expr (q_call (okLPutIn T) (hr.mono (by decide)) (by rfl) T.gLPutIn T.FLPutIn.kp T.bLPutIn (qa_cons (qv 0) (qa_cons (q_ix (qv 4) (q_op op_mod v_mod (qv 7) qint) rfl (fun _ _ => rfl)) (qa_cons (q_callTy c_str v_str (by rfl) T.n_str boot_str (qa_cons (qv 6) qa_nil)) (qa_cons qint qa_nil)))))))
 qs_nil)))))))
 (qs_one (q_ret (qv 4)))))))))
noncomputable def mbLPlace : MS :=
 (mSeq (mFor (mRange1 (mCons (mCB fLen (mCons (mVar 0) mNil)) mNil)) (gNm 2)
 (mIfS (mAnd (mB (m2 (fEq false) (mCB fIsi (mCons (m2 fIx (mVar 0) (mVar 2)) (mCons (mC (.ty "str")) mNil))) (mCB fIsi (mCons (mVar 1) (mCons (mC (.ty "str")) mNil))))) (mB (m2 (fEq false) (m2 fIx (mVar 0) (mVar 2)) (mVar 1))))
 (mRet (mVar 2))
 mNext))
 (mRet (m1 fNeg (mC (.int 1)))))
noncomputable def mLPlace : Fn := fnM 3 mbLPlace
theorem okLPlace (T : TX K mg) : FnOk P w K mg base CX0 1 T.fLPlace T.dLPlace ["_law_row", "_law_value_here"] (spM ⟨K, cm⟩ 2 mLPlace) := ok_def T.FLPlace scLPlace fun cdv A outer s H E hr => by
  unfold mbLPlace
  exact (qs_cons (q_for PassesOwn.never rfl (q_range1 (by rfl) T.n_range (qa_cons (q_callB c_len' v_len (by rfl) T.n_len boot_len (qa_cons (qv 0) qa_nil)) qa_nil)) (qg_name (i := 2) scLPlace.nd rfl (.inl rfl))
 (qs_one (q_if (PW.pt (qw_and (qt_cmp (o_eq hr.units) v_eq (q_callB call_isi v_isi (by rfl) T.n_isinstance boot_isinstance (qa_cons (q_ix (qv 0) (qv 2) rfl (fun _ _ => rfl)) (qa_cons (q_ty (by rfl) T.n_str boot_str) qa_nil))) (q_callB call_isi v_isi (by rfl) T.n_isinstance boot_isinstance (qa_cons (qv 1) (qa_cons (q_ty (by rfl) T.n_str boot_str) qa_nil)))) (qw_and1 (qt_cmp (o_eq hr.units) v_eq (q_ix (qv 0) (qv 2) rfl (fun _ _ => rfl)) (qv 1)))))
 (qs_one (q_ret (qv 2)))
 qs_nil)))
 (qs_one (q_ret (q_un un_neg v_neg qint))))
noncomputable def mbLCommon : MS :=
 (mRet (mLc (mIt (mVar 0)) (gNm 2) (mB (m2 fGe (mCall 2 (nx mLPlace) (mCons (mVar 1) (mCons (mVar 2) mNil))) (mC (.int 0)))) (mVar 2) [2]))
noncomputable def mLCommon : Fn := fnM 3 mbLCommon
theorem okLCommon (T : TX K mg) : FnOk P w K mg base CX0 2 T.fLCommon T.dLCommon ["_law_old", "_law_new"] (spM ⟨K, cm⟩ 2 mLCommon) := ok_def T.FLCommon scLCommon fun cdv A outer s H E hr => by
  unfold mbLCommon
  exact (qs_one (q_ret (q_lc [("_law_value_here", 2)] rfl rfl scLCommon.nd (q_it rfl (qv 0)) (blkOk_by (own := [("_law_value_here", 2)]) (N := ["_law_old", "_law_new", "_law_value_here"]) (sc := defScope sLCommon) (by decide +kernel)) (gt := gName 2) (own_name (by decide)) (fun _ _ _ _ _ => by exact (pg_name (i := 2) scLCommon.nd rfl (.inl rfl))) (fun _ _ _ _ _ => (pts_one (qt_cmp o_ge v_ord (q_call (okLPlace T) (hr.mono (by decide)) (by rfl) T.gLPlace T.FLPlace.kp T.bLPlace (qa_cons (qv 1) (qa_cons (qv 2) qa_nil))) qint))) (fun _ _ _ _ _ => (qv 2)))))
noncomputable def mbLUp : MS :=
 (mSeq (mAsg (mLst mNil) (gNm 3))
 (mSeq (mAsg (m1 fNeg (mC (.int 1))) (gNm 4))
 (mSeq (mFor (mIt (mCall 2 (nx mLCommon) (mCons (mVar 1) (mCons (mVar 2) mNil)))) (gNm 5)
 (mSeq (mAsg (mCall 2 (nx mLPlace) (mCons (mVar 2) (mCons (mVar 5) mNil))) (gNm 6))
 (mIfS (mAnd (mB (m2 fGt (mVar 6) (mVar 4))) (mB (m2 fGt (mCall 2 (nx mLTake) (mCons (mVar 0) (mCons (mC (.int 4)) mNil))) (mC (.int 0)))))
 (mSeq (mDrop (mBL fAppend (mVar 3) (mCons (mVar 5) mNil)))
 (mAsg (mVar 6) (gNm 4)))
 mNext)))
 (mRet (mVar 3)))))
noncomputable def mLUp : Fn := fnM 7 mbLUp
theorem okLUp (T : TX K mg) : FnOk P w K mg base CX0 3 T.fLUp T.dLUp ["_law_bag", "_law_old", "_law_new"] (spM ⟨K, cm⟩ 3 mLUp) := ok_def T.FLUp scLUp fun cdv A outer s H E hr => by
  unfold mbLUp
  exact (qs_cons (q_set (i := 3) scLUp.nd rfl (.inl rfl) (q_lst qa_nil))
 (qs_cons (q_set (i := 4) scLUp.nd rfl (.inl rfl) (q_un un_neg v_neg qint))
 (qs_cons (q_for PassesOwn.never rfl (q_it rfl (q_call (okLCommon T) (hr.mono (by decide)) (by rfl) T.gLCommon T.FLCommon.kp T.bLCommon (qa_cons (qv 1) (qa_cons (qv 2) qa_nil)))) (qg_name (i := 5) scLUp.nd rfl (.inl rfl))
 (qs_cons (q_set (i := 6) scLUp.nd rfl (.inl rfl) (q_call (okLPlace T) (hr.mono (by decide)) (by rfl) T.gLPlace T.FLPlace.kp T.bLPlace (qa_cons (qv 2) (qa_cons (qv 5) qa_nil))))
 (qs_one (q_if (PW.pt (qw_and (qt_cmp o_gt v_ord (qv 6) (qv 4)) (qw_and1 (qt_cmp o_gt v_ord (q_call (okLTake T) (hr.mono (by decide)) (by rfl) T.gLTake T.FLTake.kp T.bLTake (qa_cons (qv 0) (qa_cons qint qa_nil))) qint))))
 (qs_cons (q_expr (q_bl rfl PySem.F.slot_list_append PySem.F.type_list_append mt_append v_append (qv 3) (qa_cons (qv 5) qa_nil)))
 (qs_one (q_set (i := 4) scLUp.nd rfl (.inl rfl) (qv 6))))
 qs_nil))))
 (qs_one (q_ret (qv 3))))))
noncomputable def mbLDown : MS :=
 (mSeq (mAsg (mLst mNil) (gNm 3))
 (mSeq (mFor (mIt (mCall 2 (nx mLCommon) (mCons (mVar 1) (mCons (mVar 2) mNil)))) (gNm 4)
 (mSeq (mAsg (m1 fNeg (mC (.int 1))) (gNm 5))
 (mSeq (mFor (mRange1 (mCons (mCB fLen (mCons (mVar 3) mNil)) mNil)) (gNm 6)
 (mIfS (mAnd (mB (m2 fGt (mCall 2 (nx mLPlace) (mCons (mVar 2) (mCons (m2 fIx (m2 fIx (mVar 3) (mVar 6)) (m1 fNeg (mC (.int 1)))) mNil))) (mCall 2 (nx mLPlace) (mCons (mVar 2) (mCons (mVar 4) mNil))))) (mB (m2 fLt (mVar 5) (mC (.int 0)))))
 (mAsg (mVar 6) (gNm 5))
 mNext))
 (mIfS (mOr (mB (m2 fLt (mVar 5) (mC (.int 0)))) (mB (m2 (fEq false) (mCall 2 (nx mLTake) (mCons (mVar 0) (mCons (mC (.int 6)) mNil))) (mC (.int 0)))))
 (mDrop (mBL fAppend (mVar 3) (mCons (mLst (mCons (mVar 4) mNil)) mNil)))
 (mDrop (mBL fAppend (m2 fIx (mVar 3) (mVar 5)) (mCons (mVar 4) mNil)))))))
 (mRet (mVar 3))))
noncomputable def mLDown : Fn := fnM 7 mbLDown
theorem okLDown (T : TX K mg) : FnOk P w K mg base CX0 3 T.fLDown T.dLDown ["_law_bag", "_law_old", "_law_new"] (spM ⟨K, cm⟩ 3 mLDown) := ok_def T.FLDown scLDown fun cdv A outer s H E hr => by
  unfold mbLDown
  exact (qs_cons (q_set (i := 3) scLDown.nd rfl (.inl rfl) (q_lst qa_nil))
 (qs_cons (q_for PassesOwn.never rfl (q_it rfl (q_call (okLCommon T) (hr.mono (by decide)) (by rfl) T.gLCommon T.FLCommon.kp T.bLCommon (qa_cons (qv 1) (qa_cons (qv 2) qa_nil)))) (qg_name (i := 4) scLDown.nd rfl (.inl rfl))
 (qs_cons (q_set (i := 5) scLDown.nd rfl (.inl rfl) (q_un un_neg v_neg qint))
 (qs_cons (q_for PassesOwn.never rfl (q_range1 (by rfl) T.n_range (qa_cons (q_callB c_len' v_len (by rfl) T.n_len boot_len (qa_cons (qv 3) qa_nil)) qa_nil)) (qg_name (i := 6) scLDown.nd rfl (.inl rfl))
 (qs_one (q_if (PW.pt (qw_and (qt_cmp o_gt v_ord (q_call (okLPlace T) (hr.mono (by decide)) (by rfl) T.gLPlace T.FLPlace.kp T.bLPlace (qa_cons (qv 2) (qa_cons (q_ix (q_ix (qv 3) (qv 6) rfl (fun _ _ => rfl)) (q_un un_neg v_neg qint) rfl (fun _ _ => rfl)) qa_nil))) (q_call (okLPlace T) (hr.mono (by decide)) (by rfl) T.gLPlace T.FLPlace.kp T.bLPlace (qa_cons (qv 2) (qa_cons (qv 4) qa_nil)))) (qw_and1 (qt_cmp o_lt v_ord (qv 5) qint))))
 (qs_one (q_set (i := 5) scLDown.nd rfl (.inl rfl) (qv 6)))
 qs_nil)))
 (qs_one (q_if (PW.pt (qw_or (qt_cmp o_lt v_ord (qv 5) qint) (qw_or1 (qt_cmp (o_eq hr.units) v_eq (q_call (okLTake T) (hr.mono (by decide)) (by rfl) T.gLTake T.FLTake.kp T.bLTake (qa_cons (qv 0) (qa_cons qint qa_nil))) qint))))
 (qs_one (q_expr (q_bl rfl PySem.F.slot_list_append PySem.F.type_list_append mt_append v_append (qv 3) (qa_cons (q_lst (qa_cons (qv 4) qa_nil)) qa_nil))))
 (qs_one (q_expr (q_bl rfl PySem.F.slot_list_append PySem.F.type_list_append mt_append v_append (q_ix (qv 3) (qv 5) rfl (fun _ _ => rfl)) (qa_cons (qv 4) qa_nil)))))))))
 (qs_one (q_ret (qv 3)))))
noncomputable def mbLOddItem : MS :=
 (mSeq (mAsg (mCall 2 (nx mLTake) (mCons (mVar 0) (mCons (mC (.int 7)) mNil))) (gNm 3))
 (mSeq (mIfS (mB (m2 (fEq false) (mVar 3) (mC (.int 0))))
 (mRet (mC (.bl true)))
 mNext)
 (mSeq (mIfS (mB (m2 (fEq false) (mVar 3) (mC (.int 1))))
 (mRet (mC .non))
 mNext)
 (mSeq (mIfS (mB (m2 (fEq false) (mVar 3) (mC (.int 2))))
 (mRet (mTup (mCons (mC (.int 1)) mNil)))
 mNext)
 (mSeq (mIfS (mB (m2 (fEq false) (mVar 3) (mC (.int 3))))
 (mRet (mLst (mCons (mC (.int 1)) mNil)))
 mNext)
 (mSeq (mAsg (mLc (mIt (m2 fAdd (mVar 1) (mVar 2))) (gNm 5) (mOr (mB (m2 fLt (mCall 2 (nx mLPlace) (mCons (mVar 1) (mCons (mVar 5) mNil))) (mC (.int 0)))) (mB (m2 fLt (mCall 2 (nx mLPlace) (mCons (mVar 2) (mCons (mVar 5) mNil))) (mC (.int 0))))) (mVar 5) [5]) (gNm 4))
 (mSeq (mIfS (mOr (mB (m2 (fEq false) (mCB fLen (mCons (mVar 4) mNil)) (mC (.int 0)))) (mB (m2 (fEq false) (mVar 3) (mC (.int 4)))))
 (mRet (mC (.str "other")))
 mNext)
 (mRet (m2 fIx (mVar 4) (mCall 2 (nx mLTake) (mCons (mVar 0) (mCons (mCB fLen (mCons (mVar 4) mNil)) mNil))))))))))))
noncomputable def mLOddItem : Fn := fnM 6 mbLOddItem
theorem okLOddItem (T : TX K mg) : FnOk P w K mg base CX0 2 T.fLOddItem T.dLOddItem ["_law_bag", "_law_old", "_law_new"] (spM ⟨K, cm⟩ 3 mLOddItem) := ok_def T.FLOddItem scLOddItem fun cdv A outer s H E hr => by
  unfold mbLOddItem
  exact (qs_cons (q_set (i := 3) scLOddItem.nd rfl (.inl rfl) (q_call (okLTake T) (hr.mono (by decide)) (by rfl) T.gLTake T.FLTake.kp T.bLTake (qa_cons (qv 0) (qa_cons qint qa_nil))))
 (qs_cons (q_if (qt_cmp (o_eq hr.units) v_eq (qv 3) qint)
 (qs_one (q_ret qbl))
 qs_nil)
 (qs_cons (q_if (qt_cmp (o_eq hr.units) v_eq (qv 3) qint)
 (qs_one (q_ret qnon))
 qs_nil)
 (qs_cons (q_if (qt_cmp (o_eq hr.units) v_eq (qv 3) qint)
 (qs_one (q_ret (q_tup (qa_cons qint qa_nil))))
 qs_nil)
 (qs_cons (q_if (qt_cmp (o_eq hr.units) v_eq (qv 3) qint)
 (qs_one (q_ret (q_lst (qa_cons qint qa_nil))))
 qs_nil)
 (qs_cons (q_setLc (i := 4) [("_law_value_here", 5)] rfl rfl scLOddItem.nd rfl rfl (sw_true rfl rfl rfl (by decide +kernel)) (q_it rfl (q_op o_add v_add (qv 1) (qv 2))) (blkOk_by (own := [("_law_value_here", 5)]) (N := ["_law_bag", "_law_old", "_law_new", "_law_kind", "_law_strangers", "_law_value_here"]) (sc := defScope sLOddItem) (by decide +kernel)) (gt := gName 5) (own_name (by decide)) (fun _ _ _ _ _ => by exact (pg_name (i := 5) scLOddItem.nd rfl (.inl rfl))) (fun _ _ _ _ _ => (pts_one (PW.pt (qw_or (qt_cmp o_lt v_ord (q_call (okLPlace T) (hr.mono (by decide)) (by rfl) T.gLPlace T.FLPlace.kp T.bLPlace (qa_cons (qv 1) (qa_cons (qv 5) qa_nil))) qint) (qw_or1 (qt_cmp o_lt v_ord (q_call (okLPlace T) (hr.mono (by decide)) (by rfl) T.gLPlace T.FLPlace.kp T.bLPlace (qa_cons (qv 2) (qa_cons (qv 5) qa_nil))) qint)))))) (fun _ _ _ _ _ => (qv 5)))
 (qs_cons (q_if (PW.pt (qw_or (qt_cmp (o_eq hr.units) v_eq (q_callB c_len' v_len (by rfl) T.n_len boot_len (qa_cons (qv 4) qa_nil)) qint) (qw_or1 (qt_cmp (o_eq hr.units) v_eq (qv 3) qint))))
 (qs_one (q_ret qstr))
 qs_nil)
 (qs_one (q_ret (q_ix (qv 4) (q_call (okLTake T) (hr.mono (by decide)) (by rfl) T.gLTake T.FLTake.kp T.bLTake (qa_cons (qv 0) (qa_cons (q_callB c_len' v_len (by rfl) T.n_len boot_len (qa_cons (qv 4) qa_nil)) qa_nil))) rfl (fun _ _ => rfl)))))))))))
noncomputable def mbLSpoilt : MS :=
 (mSeq (mAsg (mCall 2 (nx mLTake) (mCons (mVar 0) (mCons (mC (.int 6)) mNil))) (gNm 4))
 (mSeq (mAsg (mCB fList (mCons (mVar 1) mNil)) (gNm 1))
 (mSeq (mIfS (mB (m2 (fEq false) (mCB fLen (mCons (mVar 1) mNil)) (mC (.int 0))))
 (mSeq (mIfS (mB (m2 fGt (mVar 4) (mC (.int 2))))
 (mDrop (mBL fAppend (mVar 1) (mCons (mCall 3 (nx mLOddItem) (mCons (mVar 0) (mCons (mVar 2) (mCons (mVar 3) mNil)))) mNil)))
 mNext)
 (mRet (mVar 1)))
 mNext)
 (mSeq (mAsg (mCall 2 (nx mLTake) (mCons (mVar 0) (mCons (mCB fLen (mCons (mVar 1) mNil)) mNil))) (gNm 5))
 (mSeq (mIfS (mAnd (mB (m2 (fEq false) (mVar 4) (mC (.int 1)))) (mB (m2 fLt (m2 fAdd (mVar 5) (mC (.int 1))) (mCB fLen (mCons (mVar 1) mNil)))))
 (mSeq (mAsg (m2 fIx (mVar 1) (m2 fAdd (mVar 5) (mC (.int 1)))) (gSb (mVar 1) (mVar 5)))
 (mAsg (m2 fIx (mVar 2) (mCall 2 (nx mLTake) (mCons (mVar 0) (mCons (mCB fLen (mCons (mVar 2) mNil)) mNil)))) (gSb (mVar 1) (m2 fAdd (mVar 5) (mC (.int 1))))))
 mNext)
 (mSeq (mIfS (mB (m2 (fEq false) (mVar 4) (mC (.int 2))))
 (mAsg (m2 fAdd (mSl (mVar 1) mNoPart (mPart (mVar 5))) (mSl (mVar 1) (mPart (m2 fAdd (mVar 5) (mC (.int 1)))) mNoPart)) (gNm 1))
 mNext)
 (mSeq (mIfS (mB (m2 (fEq false) (mVar 4) (mC (.int 3))))
 (mDrop (mBL fInsert (mVar 1) (mCons (mCall 2 (nx mLTake) (mCons (mVar 0) (mCons (m2 fAdd (mCB fLen (mCons (mVar 1) mNil)) (mC (.int 1))) mNil))) (mCons (m2 fIx (mVar 1) (mVar 5)) mNil))))
 mNext)
 (mSeq (mIfS (mB (m2 (fEq false) (mVar 4) (mC (.int 4))))
 (mSeq (mAsg (mCall 3 (nx mLOddItem) (mCons (mVar 0) (mCons (mVar 2) (mCons (mVar 3) mNil)))) (gSb (mVar 1) (mVar 5)))
 (mSeq (mAsg (mCall 2 (nx mLPlace) (mCons (mVar 2) (mCons (mC (.int 1)) mNil))) (gNm 6))
 (mIfS (mAnd (mB (m2 fGe (mVar 6) (mC (.int 0)))) (mAnd (mB (m2 fGe (mCall 2 (nx mLPlace) (mCons (mVar 1) (mCons (mC (.int 1)) mNil))) (mC (.int 0)))) (mB (m2 fGt (mCall 2 (nx mLTake) (mCons (mVar 0) (mCons (mC (.int 2)) mNil))) (mC (.int 0))))))
 (mAsg (mC (.bl true)) (gSb (mVar 1) (mCall 2 (nx mLPlace) (mCons (mVar 1) (mCons (mC (.int 1)) mNil)))))
 mNext)))
 mNext)
 (mSeq (mIfS (mAnd (mB (m2 (fEq false) (mVar 4) (mC (.int 5)))) (mB (m2 fLt (m2 fAdd (mVar 5) (mC (.int 1))) (mCB fLen (mCons (mVar 1) mNil)))))
 (mAsg (m2 fAdd (m2 fAdd (mSl (mVar 1) mNoPart (mPart (mVar 5))) (mLst (mCons (m2 fIx (mVar 1) (m2 fAdd (mVar 5) (mC (.int 1)))) (mCons (m2 fIx (mVar 1) (mVar 5)) mNil)))) (mSl (mVar 1) (mPart (m2 fAdd (mVar 5) (mC (.int 2)))) mNoPart)) (gNm 1))
 mNext)
 (mRet (mVar 1)))))))))))
noncomputable def mLSpoilt : Fn := fnM 7 mbLSpoilt
theorem okLSpoilt (T : TX K mg) : FnOk P w K mg base CX0 3 T.fLSpoilt T.dLSpoilt ["_law_bag", "_law_row", "_law_old", "_law_new"] (spM ⟨K, cm⟩ 4 mLSpoilt) := ok_def T.FLSpoilt scLSpoilt fun cdv A outer s H E hr => by
  unfold mbLSpoilt
  exact (qs_cons (q_set (i := 4) scLSpoilt.nd rfl (.inl rfl) (q_call (okLTake T) (hr.mono (by decide)) (by rfl) T.gLTake T.FLTake.kp T.bLTake (qa_cons (qv 0) (qa_cons qint qa_nil))))
 (qs_cons (q_set (i := 1) scLSpoilt.nd rfl (.inl rfl) (q_callTy (r := qListOf K) c_list v_list (by rfl) T.n_list boot_list (qa_cons (qv 1) qa_nil)))
 (qs_cons (q_if (qt_cmp (o_eq hr.units) v_eq (q_callB c_len' v_len (by rfl) T.n_len boot_len (qa_cons (qv 1) qa_nil)) qint)
 (qs_cons (q_if (qt_cmp o_gt v_ord (qv 4) qint)
 (qs_one (q_expr (q_bl rfl PySem.F.slot_list_append PySem.F.type_list_append mt_append v_append (qv 1) (qa_cons (q_call (okLOddItem T) (hr.mono (by decide)) (by rfl) T.gLOddItem T.FLOddItem.kp T.bLOddItem (qa_cons (qv 0) (qa_cons (qv 2) (qa_cons (qv 3) qa_nil)))) qa_nil))))
 qs_nil)
 (qs_one (q_ret (qv 1))))
 qs_nil)
 (qs_cons (q_set (i := 5) scLSpoilt.nd rfl (.inl rfl) (q_call (okLTake T) (hr.mono (by decide)) (by rfl) T.gLTake T.FLTake.kp T.bLTake (qa_cons (qv 0) (qa_cons (q_callB c_len' v_len (by rfl) T.n_len boot_len (qa_cons (qv 1) qa_nil)) qa_nil))))
 (qs_cons (q_if (PW.pt (qw_and (qt_cmp (o_eq hr.units) v_eq (qv 4) qint) (qw_and1 (qt_cmp o_lt v_ord (q_op o_add v_add (qv 5) qint) (q_callB c_len' v_len (by rfl) T.n_len boot_len (qa_cons (qv 1) qa_nil))))))
 (qs_cons (q_asg (q_ix (qv 1) (q_op o_add v_add (qv 5) qint) rfl (fun _ _ => rfl)) (qg_sub (W := WF) (qv 1) (qv 5) (hu_of hr)))
 (qs_one (q_asg (q_ix (qv 2) (q_call (okLTake T) (hr.mono (by decide)) (by rfl) T.gLTake T.FLTake.kp T.bLTake (qa_cons (qv 0) (qa_cons (q_callB c_len' v_len (by rfl) T.n_len boot_len (qa_cons (qv 2) qa_nil)) qa_nil))) rfl (fun _ _ => rfl)) (qg_sub (W := WF) (qv 1) (q_op o_add v_add (qv 5) qint) (hu_of hr)))))
 qs_nil)
 (qs_cons (q_if (qt_cmp (o_eq hr.units) v_eq (qv 4) qint)
 (qs_one (q_set (i := 1) scLSpoilt.nd rfl (.inl rfl) (q_op o_add v_add (q_slice rfl (qv 1) qo_none (qo_some (qv 5))) (q_slice rfl (qv 1) (qo_some (q_op o_add v_add (qv 5) qint)) qo_none))))
 qs_nil)
 (qs_cons (q_if (qt_cmp (o_eq hr.units) v_eq (qv 4) qint)
 (qs_one (q_expr (q_bl rfl PySem.F.slot_list_insert PySem.F.type_list_insert mt_insert v_insert (qv 1) (qa_cons (q_call (okLTake T) (hr.mono (by decide)) (by rfl) T.gLTake T.FLTake.kp T.bLTake (qa_cons (qv 0) (qa_cons (q_op o_add v_add (q_callB c_len' v_len (by rfl) T.n_len boot_len (qa_cons (qv 1) qa_nil)) qint) qa_nil))) (qa_cons (q_ix (qv 1) (qv 5) rfl (fun _ _ => rfl)) qa_nil)))))
 qs_nil)
 (qs_cons (q_if (qt_cmp (o_eq hr.units) v_eq (qv 4) qint)
 (qs_cons (q_asg (q_call (okLOddItem T) (hr.mono (by decide)) (by rfl) T.gLOddItem T.FLOddItem.kp T.bLOddItem (qa_cons (qv 0) (qa_cons (qv 2) (qa_cons (qv 3) qa_nil)))) (qg_sub (W := WF) (qv 1) (qv 5) (hu_of hr)))
 (qs_cons (q_set (i := 6) scLSpoilt.nd rfl (.inl rfl) (q_call (okLPlace T) (hr.mono (by decide)) (by rfl) T.gLPlace T.FLPlace.kp T.bLPlace (qa_cons (qv 2) (qa_cons qint qa_nil))))
 (qs_one (q_if (PW.pt (qw_and (qt_cmp o_ge v_ord (qv 6) qint) (qw_and (qt_cmp o_ge v_ord (q_call (okLPlace T) (hr.mono (by decide)) (by rfl) T.gLPlace T.FLPlace.kp T.bLPlace (qa_cons (qv 1) (qa_cons qint qa_nil))) qint) (qw_and1 (qt_cmp o_gt v_ord (q_call (okLTake T) (hr.mono (by decide)) (by rfl) T.gLTake T.FLTake.kp T.bLTake (qa_cons (qv 0) (qa_cons qint qa_nil))) qint)))))
 (qs_one (q_asg qbl (qg_sub (W := WF) (qv 1) (q_call (okLPlace T) (hr.mono (by decide)) (by rfl) T.gLPlace T.FLPlace.kp T.bLPlace (qa_cons (qv 1) (qa_cons qint qa_nil))) (hu_of hr))))
 qs_nil))))
 qs_nil)
 (qs_cons (q_if (PW.pt (qw_and (qt_cmp (o_eq hr.units) v_eq (qv 4) qint) (qw_and1 (qt_cmp o_lt v_ord (q_op o_add v_add (qv 5) qint) (q_callB c_len' v_len (by rfl) T.n_len boot_len (qa_cons (qv 1) qa_nil))))))
 (qs_one (q_set (i := 1) scLSpoilt.nd rfl (.inl rfl) (q_op o_add v_add (q_op o_add v_add (q_slice rfl (qv 1) qo_none (qo_some (qv 5))) (q_lst (qa_cons (q_ix (qv 1) (q_op o_add v_add (qv 5) qint) rfl (fun _ _ => rfl)) (qa_cons (q_ix (qv 1) (qv 5) rfl (fun _ _ => rfl)) qa_nil)))) (q_slice rfl (qv 1) (qo_some (q_op o_add v_add (qv 5) qint)) qo_none))))
 qs_nil)
 (qs_one (q_ret (qv 1))))))))))))
noncomputable def mbLSpoiltRows : MS :=
 (mSeq (mAsg (mCall 2 (nx mLTake) (mCons (mVar 0) (mCons (mC (.int 8)) mNil))) (gNm 4))
 (mSeq (mAsg (mLc (mIt (mVar 1)) (gNm 7) mYes (mCB fList (mCons (mVar 7) mNil)) [7]) (gNm 1))
 (mSeq (mIfS (mB (m2 (fEq false) (mCB fLen (mCons (mVar 1) mNil)) (mC (.int 0))))
 (mRet (m2 fIx (mLst (mCons (mLst (mCons (mLst mNil) mNil)) (mCons (mVar 1) (mCons (mLst (mCons (mC (.str "other")) mNil)) (mCons (mVar 1) mNil))))) (m2 fMod (mVar 4) (mC (.int 4)))))
 mNext)
 (mSeq (mAsg (mCall 2 (nx mLTake) (mCons (mVar 0) (mCons (mCB fLen (mCons (mVar 1) mNil)) mNil))) (gNm 5))
 (mSeq (mAsg (mCall 2 (nx mLTake) (mCons (mVar 0) (mCons (mCB fLen (mCons (mVar 1) mNil)) mNil))) (gNm 6))
 (mSeq (mIfS (mB (m2 (fEq false) (mVar 4) (mC (.int 1))))
 (mAsg (mCall 4 (nx mLSpoilt) (mCons (mVar 0) (mCons (m2 fIx (mVar 1) (mVar 5)) (mCons (mVar 2) (mCons (mVar 3) mNil))))) (gSb (mVar 1) (mVar 5)))
 mNext)
 (mSeq (mIfS (mB (m2 (fEq false) (mVar 4) (mC (.int 2))))
 (mDrop (mBL fInsert (mVar 1) (mCons (mCall 2 (nx mLTake) (mCons (mVar 0) (mCons (m2 fAdd (mCB fLen (mCons (mVar 1) mNil)) (mC (.int 1))) mNil))) (mCons (mLst mNil) mNil))))
 mNext)
 (mSeq (mIfS (mB (m2 (fEq false) (mVar 4) (mC (.int 3))))
 (mAsg (m2 fAdd (mSl (mVar 1) mNoPart (mPart (mVar 5))) (mSl (mVar 1) (mPart (m2 fAdd (mVar 5) (mC (.int 1)))) mNoPart)) (gNm 1))
 mNext)
 (mSeq (mIfS (mB (m2 (fEq false) (mVar 4) (mC (.int 4))))
 (mDrop (mBL fAppend (m2 fIx (mVar 1) (mVar 6)) (mCons (mBL fPop (m2 fIx (mVar 1) (mVar 5)) mNil) mNil)))
 mNext)
 (mSeq (mIfS (mB (m2 (fEq false) (mVar 4) (mC (.int 5))))
 (mAsg (mCB fTuple (mCons (m2 fIx (mVar 1) (mVar 5)) mNil)) (gSb (mVar 1) (mVar 5)))
 mNext)
 (mSeq (mIfS (mAnd (mB (m2 (fEq false) (mVar 4) (mC (.int 6)))) (mB (m2 (fEq true) (mVar 5) (mVar 6))))
 (mSeq (mAsg (m2 fAdd (m2 fIx (mVar 1) (mVar 5)) (m2 fIx (mVar 1) (mVar 6))) (gSb (mVar 1) (mVar 5)))
 (mAsg (mLst mNil) (gSb (mVar 1) (mVar 6))))
 mNext)
 (mSeq (mIfS (mB (m2 (fEq false) (mVar 4) (mC (.int 7))))
 (mDrop (mBL fAppend (mVar 1) (mCons (mLst (mCons (mBL fPopAt (m2 fIx (mVar 1) (mVar 5)) (mCons (mC (.int 0)) mNil)) mNil)) mNil)))
 mNext)
 (mRet (mLc (mIt (mVar 1)) (gNm 7) (mOr (mB (m2 fLt (mVar 4) (mC (.int 6)))) (mB (m2 fGt (mCB fLen (mCons (mVar 7) mNil)) (mC (.int 0))))) (mVar 7) [7]))))))))))))))
noncomputable def mLSpoiltRows : Fn := fnM 8 mbLSpoiltRows
theorem okLSpoiltRows (T : TX K mg) : FnOk P w K mg base CX0 4 T.fLSpoiltRows T.dLSpoiltRows ["_law_bag", "_law_rows_here", "_law_old", "_law_new"] (spM ⟨K, cm⟩ 4 mLSpoiltRows) := ok_def T.FLSpoiltRows scLSpoiltRows fun cdv A outer s H E hr => by
  unfold mbLSpoiltRows
  exact (qs_cons (q_set (i := 4) scLSpoiltRows.nd rfl (.inr rfl) (q_call (okLTake T) (hr.mono (by decide)) (by rfl) T.gLTake T.FLTake.kp T.bLTake (qa_cons (qv 0) (qa_cons qint qa_nil))))
 (qs_cons (q_setLc (i := 1) [("_law_row", 7)] rfl rfl scLSpoiltRows.nd rfl rfl (sw_true rfl rfl rfl (by decide +kernel)) (q_it rfl (qv 1)) (blkOk_by (own := [("_law_row", 7)]) (N := ["_law_bag", "_law_rows_here", "_law_old", "_law_new", "_law_kind", "_law_at", "_law_to", "_law_row"]) (sc := defScope sLSpoiltRows) (by decide +kernel)) (gt := gName 7) (own_name (by decide)) (fun _ _ _ _ _ => by exact (pg_name (i := 7) scLSpoiltRows.nd rfl (.inl rfl))) (fun _ _ _ _ _ => qts_nil) (fun _ _ _ _ _ => (q_callTy (r := qListOf K) c_list v_list (by rfl) T.n_list boot_list (qa_cons (qv 7) qa_nil))))
 (qs_cons (q_if (qt_cmp (o_eq hr.units) v_eq (q_callB c_len' v_len (by rfl) T.n_len boot_len (qa_cons (qv 1) qa_nil)) qint)
 (qs_one (q_ret (q_ix (q_lst (qa_cons (q_lst (qa_cons (q_lst qa_nil) qa_nil)) (qa_cons (qv 1) (qa_cons (q_lst (qa_cons qstr qa_nil)) (qa_cons (qv 1) qa_nil))))) (q_op op_mod v_mod (qv 4) qint) rfl (fun _ _ => rfl))))
 qs_nil)
 (qs_cons (q_set (i := 5) scLSpoiltRows.nd rfl (.inl rfl) (q_call (okLTake T) (hr.mono (by decide)) (by rfl) T.gLTake T.FLTake.kp T.bLTake (qa_cons (qv 0) (qa_cons (q_callB c_len' v_len (by rfl) T.n_len boot_len (qa_cons (qv 1) qa_nil)) qa_nil))))
 (qs_cons (q_set (i := 6) scLSpoiltRows.nd rfl (.inl rfl) (q_call (okLTake T) (hr.mono (by decide)) (by rfl) T.gLTake T.FLTake.kp T.bLTake (qa_cons (qv 0) (qa_cons (q_callB c_len' v_len (by rfl) T.n_len boot_len (qa_cons (qv 1) qa_nil)) qa_nil))))
 (qs_cons (q_if (qt_cmp (o_eq hr.units) v_eq (qv 4) qint)
 (qs_one (q_asg (q_call (okLSpoilt T) (hr.mono (by decide)) (by rfl) T.gLSpoilt T.FLSpoilt.kp T.bLSpoilt (qa_cons (qv 0) (qa_cons (q_ix (qv 1) (qv 5) rfl (fun _ _ => rfl)) (qa_cons (qv 2) (qa_cons (qv 3) qa_nil))))) (qg_sub (W := WF) (qv 1) (qv 5) (hu_of hr))))
 qs_nil)
 (qs_cons (q_if (qt_cmp (o_eq hr.units) v_eq (qv 4) qint)
 (qs_one (q_expr (q_bl rfl PySem.F.slot_list_insert PySem.F.type_list_insert mt_insert v_insert (qv 1) (qa_cons (q_call (okLTake T) (hr.mono (by decide)) (by rfl) T.gLTake T.FLTake.kp T.bLTake (qa_cons (qv 0) (qa_cons (q_op o_add v_add (q_callB c_len' v_len (by rfl) T.n_len boot_len (qa_cons (qv 1) qa_nil)) qint) qa_nil))) (qa_cons (q_lst qa_nil) qa_nil)))))
 qs_nil)
 (qs_cons (q_if (qt_cmp (o_eq hr.units) v_eq (qv 4) qint)
 (qs_one (q_set (i := 1) scLSpoiltRows.nd rfl (.inl rfl) (q_op o_add v_add (q_slice rfl (qv 1) qo_none (qo_some (qv 5))) (q_slice rfl (qv 1) (qo_some (q_op o_add v_add (qv 5) qint)) qo_none))))
 qs_nil)
 (qs_cons (q_if (qt_cmp (o_eq hr.units) v_eq (qv 4) qint)
 (qs_one (q_expr (q_bl rfl PySem.F.slot_list_append PySem.F.type_list_append mt_append v_append (q_ix (qv 1) (qv 6) rfl (fun _ _ => rfl)) (qa_cons (q_bl0 rfl PySem.F.slot_list_pop PySem.F.type_list_pop mt_pop v_pop (q_ix (qv 1) (qv 5) rfl (fun _ _ => rfl))) qa_nil))))
 qs_nil)
 (qs_cons (q_if (qt_cmp (o_eq hr.units) v_eq (qv 4) qint)
 (qs_one (q_asg (q_callTy call_tuple_of v_tuple (by rfl) T.n_tuple boot_tuple (qa_cons (q_ix (qv 1) (qv 5) rfl (fun _ _ => rfl)) qa_nil)) (qg_sub (W := WF) (qv 1) (qv 5) (hu_of hr))))
 qs_nil)
 (qs_cons (q_if (PW.pt (qw_and (qt_cmp (o_eq hr.units) v_eq (qv 4) qint) (qw_and1 (qt_cmp (o_ne hr.units) v_ne (qv 5) (qv 6)))))
 (qs_cons (q_asg (q_op o_add v_add (q_ix (qv 1) (qv 5) rfl (fun _ _ => rfl)) (q_ix (qv 1) (qv 6) rfl (fun _ _ => rfl))) (qg_sub (W := WF) (qv 1) (qv 5) (hu_of hr)))
 (qs_one (q_asg (q_lst qa_nil) (qg_sub (W := WF) (qv 1) (qv 6) (hu_of hr)))))
 qs_nil)
 (qs_cons (q_if (qt_cmp (o_eq hr.units) v_eq (qv 4) qint)
 (qs_one (q_expr (q_bl rfl PySem.F.slot_list_append PySem.F.type_list_append mt_append v_append (qv 1) (qa_cons (q_lst (qa_cons (q_bl rfl PySem.F.slot_list_pop PySem.F.type_list_pop mt_popAt v_popAt (q_ix (qv 1) (qv 5) rfl (fun _ _ => rfl)) (qa_cons qint qa_nil)) qa_nil)) qa_nil))))
 qs_nil)
 (qs_one (q_ret (q_lc [("_law_row", 7)] rfl rfl scLSpoiltRows.nd (q_it rfl (qv 1)) (blkOk_by (own := [("_law_row", 7)]) (N := ["_law_bag", "_law_rows_here", "_law_old", "_law_new", "_law_kind", "_law_at", "_law_to", "_law_row"]) (sc := defScope sLSpoiltRows) (by decide +kernel)) (gt := gName 7) (own_name (by decide)) (fun _ _ _ _ _ => by exact (pg_name (i := 7) scLSpoiltRows.nd rfl (.inl rfl))) (fun _ _ _ _ _ => (pts_one (PW.pt (qw_or (qt_cmp o_lt v_ord (qv 4) qint) (qw_or1 (qt_cmp o_gt v_ord (q_callB c_len' v_len (by rfl) T.n_len boot_len (qa_cons (qv 7) qa_nil)) qint)))))) (fun _ _ _ _ _ => (qv 7)))))))))))))))))
noncomputable def mbLOtherThing : MS :=
 (mSeq (mAsg (mCall 2 (nx mLTake) (mCons (mVar 0) (mCons (mC (.int 24)) mNil))) (gNm 2))
 (mSeq (mIfS (mB (m2 (fEq false) (mVar 2) (mC (.int 0))))
 (mRet (mCB fTuple (mCons (mVar 1) mNil)))
 mNext)
 (mSeq (mIfS (mB (m2 (fEq false) (mVar 2) (mC (.int 1))))
 (mRet (mC .non))
 mNext)
 (mSeq (mIfS (mB (m2 (fEq false) (mVar 2) (mC (.int 2))))
 (mRet (mC (.str "other")))
 mNext)
 (mSeq (mIfS (mB (m2 (fEq false) (mVar 2) (mC (.int 3))))
 (mRet (mDisp [((mC (.str "a")), (mC (.int 1)))]))
 mNext)
 (mRet (mVar 1)))))))
noncomputable def mLOtherThing : Fn := fnM 3 mbLOtherThing
theorem okLOtherThing (T : TX K mg) : FnOk P w K mg base CX0 2 T.fLOtherThing T.dLOtherThing ["_law_bag", "_law_thing"] (spM ⟨K, cm⟩ 2 mLOtherThing) := ok_def T.FLOtherThing scLOtherThing fun cdv A outer s H E hr => by
  unfold mbLOtherThing
  exact (qs_cons (q_set (i := 2) scLOtherThing.nd rfl (.inl rfl) (q_call (okLTake T) (hr.mono (by decide)) (by rfl) T.gLTake T.FLTake.kp T.bLTake (qa_cons (qv 0) (qa_cons qint qa_nil))))
 (qs_cons (q_if (qt_cmp (o_eq hr.units) v_eq (qv 2) qint)
 (qs_one (q_ret (q_callTy call_tuple_of v_tuple (by rfl) T.n_tuple boot_tuple (qa_cons (qv 1) qa_nil))))
 qs_nil)
 (qs_cons (q_if (qt_cmp (o_eq hr.units) v_eq (qv 2) qint)
 (qs_one (q_ret qnon))
 qs_nil)
 (qs_cons (q_if (qt_cmp (o_eq hr.units) v_eq (qv 2) qint)
 (qs_one (q_ret qstr))
 qs_nil)
 (qs_cons (q_if (qt_cmp (o_eq hr.units) v_eq (qv 2) qint)
 (qs_one (q_ret (q_disp (pps_cons qstr qint pps_nil))))
 qs_nil)
 (qs_one (q_ret (qv 1))))))))
noncomputable def mbLGoes : MS :=
 (mSeq (mIfS (mNot (mTr (mCB fIsi (mCons (mVar 2) (mCons (mC (.ty "list")) mNil)))))
 (mRet (mC (.bl false)))
 mNext)
 (mSeq (mAsg (mLst mNil) (gNm 4))
 (mSeq (mFor (mIt (mVar 2)) (gNm 5)
 (mSeq (mIfS (mAnd (mNot (mTr (mCB fIsi (mCons (mVar 5) (mCons (mC (.ty "str")) mNil))))) (mOr (mNot (mTr (mCB fIsi (mCons (mVar 5) (mCons (mC (.ty "int")) mNil))))) (mTr (mCB fIsi (mCons (mVar 5) (mCons (mC (.ty "bool")) mNil))))))
 (mRet (mC (.bl false)))
 mNext)
 (mSeq (mDrop (mBL fAppend (mVar 4) (mCons (mTup (mCons (mCall 2 (nx mLPlace) (mCons (mVar 0) (mCons (mVar 5) mNil))) (mCons (mCall 2 (nx mLPlace) (mCons (mVar 1) (mCons (mVar 5) mNil))) mNil))) mNil)))
 (mIfS (mOr (mB (m2 fLt (m2 fIx (m2 fIx (mVar 4) (m1 fNeg (mC (.int 1)))) (mC (.int 0))) (mC (.int 0)))) (mB (m2 fLt (m2 fIx (m2 fIx (mVar 4) (m1 fNeg (mC (.int 1)))) (mC (.int 1))) (mC (.int 0)))))
 (mRet (mC (.bl false)))
 mNext))))
 (mSeq (mFor (mRange2 (mCons (mC (.int 1)) (mCons (mCB fLen (mCons (mVar 4) mNil)) mNil))) (gNm 6)
 (mIfS (mOr (mB (m2 fLe (m2 fIx (m2 fIx (mVar 4) (mVar 6)) (mC (.int 0))) (m2 fIx (m2 fIx (mVar 4) (m2 fSub (mVar 6) (mC (.int 1)))) (mC (.int 0))))) (mB (m2 fLe (m2 fMul (mVar 3) (m2 fSub (m2 fIx (m2 fIx (mVar 4) (mVar 6)) (mC (.int 1))) (m2 fIx (m2 fIx (mVar 4) (m2 fSub (mVar 6) (mC (.int 1)))) (mC (.int 1))))) (mC (.int 0)))))
 (mRet (mC (.bl false)))
 mNext))
 (mRet (mC (.bl true)))))))
noncomputable def mLGoes : Fn := fnM 7 mbLGoes
theorem okLGoes (T : TX K mg) : FnOk P w K mg base CX0 2 T.fLGoes T.dLGoes ["_law_old", "_law_new", "_law_row", "_law_sign"] (spM ⟨K, cm⟩ 4 mLGoes) := ok_def T.FLGoes scLGoes fun cdv A outer s H E hr => by
  unfold mbLGoes
  exact (qs_cons (q_if (qt_not (qt_tr rfl (q_callB call_isi v_isi (by rfl) T.n_isinstance boot_isinstance (qa_cons (qv 2) (qa_cons (q_ty (by rfl) T.n_list boot_list) qa_nil))) (by intro _; rfl)))
 (qs_one (q_ret qbl))
 qs_nil)
 (qs_cons (q_set (i := 4) scLGoes.nd rfl (.inl rfl) (q_lst qa_nil))
 (qs_cons (q_for PassesOwn.never rfl (q_it rfl (qv 2)) (qg_name (i := 5) scLGoes.nd rfl (.inl rfl))
 (qs_cons (q_if (PW.pt (qw_and (qt_not (qt_tr rfl (q_callB call_isi v_isi (by rfl) T.n_isinstance boot_isinstance (qa_cons (qv 5) (qa_cons (q_ty (by rfl) T.n_str boot_str) qa_nil))) (by intro _; rfl))) (qw_and1 (PW.pt (qw_or (qt_not (qt_tr rfl (q_callB call_isi v_isi (by rfl) T.n_isinstance boot_isinstance (qa_cons (qv 5) (qa_cons (q_ty (by rfl) T.n_int boot_int) qa_nil))) (by intro _; rfl))) (qw_or1 (qt_tr rfl (q_callB call_isi v_isi (by rfl) T.n_isinstance boot_isinstance (qa_cons (qv 5) (qa_cons (q_ty (by rfl) T.n_bool boot_bool) qa_nil))) (by intro _; rfl))))))))
 (qs_one (q_ret qbl))
 qs_nil)
 (qs_cons (q_expr (q_bl rfl PySem.F.slot_list_append PySem.F.type_list_append mt_append v_append (qv 4) (qa_cons (q_tup (qa_cons (q_call (okLPlace T) (hr.mono (by decide)) (by rfl) T.gLPlace T.FLPlace.kp T.bLPlace (qa_cons (qv 0) (qa_cons (qv 5) qa_nil))) (qa_cons (q_call (okLPlace T) (hr.mono (by decide)) (by rfl) T.gLPlace T.FLPlace.kp T.bLPlace (qa_cons (qv 1) (qa_cons (qv 5) qa_nil))) qa_nil))) qa_nil)))
 (qs_one (q_if (PW.pt (qw_or (qt_cmp o_lt v_ord (q_ix (q_ix (qv 4) (q_un un_neg v_neg qint) rfl (fun _ _ => rfl)) qint rfl (fun _ _ => rfl)) qint) (qw_or1 (qt_cmp o_lt v_ord (q_ix (q_ix (qv 4) (q_un un_neg v_neg qint) rfl (fun _ _ => rfl)) qint rfl (fun _ _ => rfl)) qint))))
 (qs_one (q_ret qbl))
 qs_nil)))))
 (qs_cons (q_for PassesOwn.never rfl (q_range2 (by rfl) T.n_range (qa_cons qint (qa_cons (q_callB c_len' v_len (by rfl) T.n_len boot_len (qa_cons (qv 4) qa_nil)) qa_nil))) (qg_name (i := 6) scLGoes.nd rfl (.inl rfl))
 (qs_one (q_if (PW.pt (qw_or (qt_cmp o_le v_ord (q_ix (q_ix (qv 4) (qv 6) rfl (fun _ _ => rfl)) qint rfl (fun _ _ => rfl)) (q_ix (q_ix (qv 4) (q_op op_sub v_sub (qv 6) qint) rfl (fun _ _ => rfl)) qint rfl (fun _ _ => rfl))) (qw_or1 (qt_cmp o_le v_ord (q_op op_mulW v_mul (qv 3) (q_op op_sub v_sub (q_ix (q_ix (qv 4) (qv 6) rfl (fun _ _ => rfl)) qint rfl (fun _ _ => rfl)) (q_ix (q_ix (qv 4) (q_op op_sub v_sub (qv 6) qint) rfl (fun _ _ => rfl)) qint rfl (fun _ _ => rfl)))) qint))))
 (qs_one (q_ret qbl))
 qs_nil)))
 (qs_one (q_ret qbl))))))
noncomputable def mbLCovers : MS :=
 (mSeq (mIfS (mNot (mTr (mCB fIsi (mCons (mVar 2) (mCons (mC (.ty "list")) mNil)))))
 (mRet (mC (.bl false)))
 mNext)
 (mSeq (mAsg (mLst mNil) (gNm 3))
 (mSeq (mFor (mIt (mVar 2)) (gNm 4)
 (mSeq (mIfS (mOr (mNot (mTr (mCall 4 (nx mLGoes) (mCons (mVar 0) (mCons (mVar 1) (mCons (mVar 4) (mCons (m1 fNeg (mC (.int 1))) mNil))))))) (mB (m2 (fEq false) (mCB fLen (mCons (mVar 4) mNil)) (mC (.int 0)))))
 (mRet (mC (.bl false)))
 mNext)
 (mFor (mIt (mVar 4)) (gNm 5)
 (mSeq (mIfS (mB (m2 fGe (mCall 2 (nx mLPlace) (mCons (mVar 3) (mCons (mVar 5) mNil))) (mC (.int 0))))
 (mRet (mC (.bl false)))
 mNext)
 (mDrop (mBL fAppend (mVar 3) (mCons (mVar 5) mNil)))))))
 (mRet (m2 (fEq false) (mCB fLen (mCons (mVar 3) mNil)) (mCB fLen (mCons (mCall 2 (nx mLCommon) (mCons (mVar 0) (mCons (mVar 1) mNil))) mNil)))))))
noncomputable def mLCovers : Fn := fnM 6 mbLCovers
theorem okLCovers (T : TX K mg) : FnOk P w K mg base CX0 3 T.fLCovers T.dLCovers ["_law_old", "_law_new", "_law_rows_here"] (spM ⟨K, cm⟩ 3 mLCovers) := ok_def T.FLCovers scLCovers fun cdv A outer s H E hr => by
  unfold mbLCovers
  exact (qs_cons (q_if (qt_not (qt_tr rfl (q_callB call_isi v_isi (by rfl) T.n_isinstance boot_isinstance (qa_cons (qv 2) (qa_cons (q_ty (by rfl) T.n_list boot_list) qa_nil))) (by intro _; rfl)))
 (qs_one (q_ret qbl))
 qs_nil)
 (qs_cons (q_set (i := 3) scLCovers.nd rfl (.inl rfl) (q_lst qa_nil))
 (qs_cons (q_for PassesOwn.never rfl (q_it rfl (qv 2)) (qg_name (i := 4) scLCovers.nd rfl (.inl rfl))
 (qs_cons (q_if (PW.pt (qw_or (qt_not (qt_tr rfl (q_call (okLGoes T) (hr.mono (by decide)) (by rfl) T.gLGoes T.FLGoes.kp T.bLGoes (qa_cons (qv 0) (qa_cons (qv 1) (qa_cons (qv 4) (qa_cons (q_un un_neg v_neg qint) qa_nil))))) (by intro _; rfl))) (qw_or1 (qt_cmp (o_eq hr.units) v_eq (q_callB c_len' v_len (by rfl) T.n_len boot_len (qa_cons (qv 4) qa_nil)) qint))))
 (qs_one (q_ret qbl))
 qs_nil)
 (qs_one (q_for PassesOwn.never rfl (q_it rfl (qv 4)) (qg_name (i := 5) scLCovers.nd rfl (.inl rfl))
 (qs_cons (q_if (qt_cmp o_ge v_ord (q_call (okLPlace T) (hr.mono (by decide)) (by rfl) T.gLPlace T.FLPlace.kp T.bLPlace (qa_cons (qv 3) (qa_cons (qv 5) qa_nil))) qint)
 (qs_one (q_ret qbl))
 qs_nil)
 (qs_one (q_expr (q_bl rfl PySem.F.slot_list_append PySem.F.type_list_append mt_append v_append (qv 3) (qa_cons (qv 5) qa_nil)))))))))
 (qs_one (q_ret (q_cmp (o_eq hr.units) v_eq (q_callB c_len' v_len (by rfl) T.n_len boot_len (qa_cons (qv 3) qa_nil)) (q_callB c_len' v_len (by rfl) T.n_len boot_len (qa_cons (q_call (okLCommon T) (hr.mono (by decide)) (by rfl) T.gLCommon T.FLCommon.kp T.bLCommon (qa_cons (qv 0) (qa_cons (qv 1) qa_nil))) qa_nil))))))))
noncomputable def mbLaw : MS :=
 (mSeq (mAsg (mLst (mCons (mCB fList (mCons (mVar 0) mNil)) (mCons (mC (.int 0)) (mCons (mC (.int 0)) (mCons (mC (.int 0)) mNil))))) (gNm 1))
 (mSeq (mAsg (mCall 1 (nx mLRows) (mCons (mVar 1) mNil)) (gNm 2))
 (mSeq (mAsg (m2 fIx (mVar 2) (mC (.int 0))) (gNm 3))
 (mSeq (mAsg (m2 fIx (mVar 2) (mC (.int 1))) (gNm 4))
 (mSeq (mIfS (mAnd (mB (m2 fGt (mCall 2 (nx mLTake) (mCons (mVar 1) (mCons (mC (.int 2)) mNil))) (mC (.int 0)))) (mAnd (mB (m2 fLt (mCall 2 (nx mLPlace) (mCons (mVar 3) (mCons (mC (.int 1)) mNil))) (mC (.int 0)))) (mB (m2 fLt (mCall 2 (nx mLPlace) (mCons (mVar 4) (mCons (mC (.int 1)) mNil))) (mC (.int 0))))))
 (mSeq (mDrop (mCall 4 (nx mLPutIn) (mCons (mVar 1) (mCons (mVar 3) (mCons (mC (.int 1)) (mCons (mC (.int 0)) mNil))))))
 (mDrop (mCall 4 (nx mLPutIn) (mCons (mVar 1) (mCons (mVar 4) (mCons (mC (.int 1)) (mCons (mC (.int 0)) mNil)))))))
 mNext)
 (mSeq (mAsg (mCall 2 (nx mLOtherThing) (mCons (mVar 1) (mCons (mCall 4 (nx mLSpoilt) (mCons (mVar 1) (mCons (mCall 3 (nx mLUp) (mCons (mVar 1) (mCons (mVar 3) (mCons (mVar 4) mNil)))) (mCons (mVar 3) (mCons (mVar 4) mNil))))) mNil))) (gNm 5))
 (mSeq (mAsg (mCall 2 (nx mLOtherThing) (mCons (mVar 1) (mCons (mCall 4 (nx mLSpoiltRows) (mCons (mVar 1) (mCons (mCall 3 (nx mLDown) (mCons (mVar 1) (mCons (mVar 3) (mCons (mVar 4) mNil)))) (mCons (mVar 3) (mCons (mVar 4) mNil))))) mNil))) (gNm 6))
 (mSeq (mAsg (mCall 4 (nx mLGoes) (mCons (mVar 3) (mCons (mVar 4) (mCons (mVar 5) (mCons (mC (.int 1)) mNil))))) (gNm 7))
 (mSeq (mAsg (mCall 3 (nx mLCovers) (mCons (mVar 3) (mCons (mVar 4) (mCons (mVar 6) mNil)))) (gNm 8))
 (mSeq (mFor (mRange1 (mCons (mC (.int 2)) mNil)) (gNm 9)
 (mSeq (mAsg (mLst (mCons (mCB fList (mCons (mVar 3) mNil)) (mCons (mCB fList (mCons (mVar 4) mNil)) mNil))) (gNm 10))
 (mSeq (mAsg (mLst (mCons (mCall 3 (nx mIsRising) (mCons (m2 fIx (mVar 10) (mC (.int 0))) (mCons (m2 fIx (mVar 10) (mC (.int 1))) (mCons (mVar 5) mNil)))) (mCons (mCall 3 (nx mIsFalling) (mCons (m2 fIx (mVar 10) (mC (.int 0))) (mCons (m2 fIx (mVar 10) (mC (.int 1))) (mCons (mVar 6) mNil)))) mNil))) (gNm 11))
 (mSeq (mIfS (mOr (mNot (mTr (mCB fIsi (mCons (m2 fIx (mVar 11) (mC (.int 0))) (mCons (mC (.ty "bool")) mNil))))) (mOr (mNot (mTr (mCB fIsi (mCons (m2 fIx (mVar 11) (mC (.int 1))) (mCons (mC (.ty "bool")) mNil))))) (mB (m2 (fEq true) (mVar 11) (mLst (mCons (mVar 7) (mCons (mVar 8) mNil)))))))
 (mRet (mC (.bl false)))
 mNext)
 (mIfS (mB (m2 (fEq true) (mVar 10) (mLst (mCons (mVar 3) (mCons (mVar 4) mNil)))))
 (mRet (mC (.bl false)))
 mNext)))))
 (mRet (mC (.bl true)))))))))))))
noncomputable def mLaw : Fn := fnM 12 mbLaw
theorem okLaw (T : TX K mg) : FnOk P w K mg base CX0 5 T.fLaw T.dLaw ["_law_script"] (spM ⟨K, cm⟩ 1 mLaw) := ok_def T.FLaw scLaw fun cdv A outer s H E hr => by
  unfold mbLaw
  exact (qs_cons (q_set (i := 1) scLaw.nd rfl (.inl rfl) (q_lst (qa_cons (q_callTy (r := qListOf K) c_list v_list (by rfl) T.n_list boot_list (qa_cons (qv 0) qa_nil)) (qa_cons qint (qa_cons qint (qa_cons qint qa_nil))))))
 (qs_cons (q_set (i := 2) scLaw.nd rfl (.inl rfl) (q_call (okLRows T) (hr.mono (by decide)) (by rfl) T.gLRows T.FLRows.kp T.bLRows (qa_cons (qv 1) qa_nil)))
 (qs_cons (q_set (i := 3) scLaw.nd rfl (.inl rfl) (q_ix (qv 2) qint rfl (fun _ _ => rfl)))
 (qs_cons (q_set (i := 4) scLaw.nd rfl (.inl rfl) (q_ix (qv 2) qint rfl (fun _ _ => rfl)))
 (qs_cons (q_if (PW.pt (qw_and (qt_cmp o_gt v_ord (q_call (okLTake T) (hr.mono (by decide)) (by rfl) T.gLTake T.FLTake.kp T.bLTake (qa_cons (qv 1) (qa_cons qint qa_nil))) qint) (qw_and (qt_cmp o_lt v_ord (q_call (okLPlace T) (hr.mono (by decide)) (by rfl) T.gLPlace T.FLPlace.kp T.bLPlace (qa_cons (qv 3) (qa_cons qint qa_nil))) qint) (qw_and1 (qt_cmp o_lt v_ord (q_call (okLPlace T) (hr.mono (by decide)) (by rfl) T.gLPlace T.FLPlace.kp T.bLPlace (qa_cons (qv 4) (qa_cons qint qa_nil))) qint)))))
 (qs_cons (q_expr (q_call (okLPutIn T) (hr.mono (by decide)) (by rfl) T.gLPutIn T.FLPutIn.kp T.bLPutIn (qa_cons (qv 1) (qa_cons (qv 3) (qa_cons qint (qa_cons qint qa_nil))))))
 (qs_one (q_expr (q_call (okLPutIn T) (hr.mono (by decide)) (by rfl) T.gLPutIn T.FLPutIn.kp T.bLPutIn (qa_cons (qv 1) (qa_cons (qv 4) (qa_cons qint (qa_cons qint qa_nil))))))))
 qs_nil)
 (qs_cons (q_set (i := 5) scLaw.nd rfl (.inl rfl) (q_call (okLOtherThing T) (hr.mono (by decide)) (by rfl) T.gLOtherThing T.FLOtherThing.kp T.bLOtherThing (qa_cons (qv 1) (qa_cons (q_call (okLSpoilt T) (hr.mono (by decide)) (by rfl) T.gLSpoilt T.FLSpoilt.kp T.bLSpoilt (qa_cons (qv 1) (qa_cons (q_call (okLUp T) (hr.mono (by decide)) (by rfl) T.gLUp T.FLUp.kp T.bLUp (qa_cons (qv 1) (qa_cons (qv 3) (qa_cons (qv 4) qa_nil)))) (qa_cons (qv 3) (qa_cons (qv 4) qa_nil))))) qa_nil))))
 (qs_cons (q_set (i := 6) scLaw.nd rfl (.inl rfl) (q_call (okLOtherThing T) (hr.mono (by decide)) (by rfl) T.gLOtherThing T.FLOtherThing.kp T.bLOtherThing (qa_cons (qv 1) (qa_cons (q_call (okLSpoiltRows T) (hr.mono (by decide)) (by rfl) T.gLSpoiltRows T.FLSpoiltRows.kp T.bLSpoiltRows (qa_cons (qv 1) (qa_cons (q_call (okLDown T) (hr.mono (by decide)) (by rfl) T.gLDown T.FLDown.kp T.bLDown (qa_cons (qv 1) (qa_cons (qv 3) (qa_cons (qv 4) qa_nil)))) (qa_cons (qv 3) (qa_cons (qv 4) qa_nil))))) qa_nil))))
 (qs_cons (q_set (i := 7) scLaw.nd rfl (.inl rfl) (q_call (okLGoes T) (hr.mono (by decide)) (by rfl) T.gLGoes T.FLGoes.kp T.bLGoes (qa_cons (qv 3) (qa_cons (qv 4) (qa_cons (qv 5) (qa_cons qint qa_nil))))))
 (qs_cons (q_set (i := 8) scLaw.nd rfl (.inl rfl) (q_call (okLCovers T) (hr.mono (by decide)) (by rfl) T.gLCovers T.FLCovers.kp T.bLCovers (qa_cons (qv 3) (qa_cons (qv 4) (qa_cons (qv 6) qa_nil)))))
 (qs_cons (q_for PassesOwn.never rfl (q_range1 (by rfl) T.n_range (qa_cons qint qa_nil)) (qg_name (i := 9) scLaw.nd rfl (.inl rfl))
 (qs_cons (q_set (i := 10) scLaw.nd rfl (.inl rfl) (q_lst (qa_cons (q_callTy (r := qListOf K) c_list v_list (by rfl) T.n_list boot_list (qa_cons (qv 3) qa_nil)) (qa_cons (q_callTy (r := qListOf K) c_list v_list (by rfl) T.n_list boot_list (qa_cons (qv 4) qa_nil)) qa_nil))))
 (qs_cons (q_set (i := 11) scLaw.nd rfl (.inl rfl) (q_lst (qa_cons (q_call (okIsRising T) (hr.mono (by decide)) (by rfl) T.gIsRising T.FIsRising.kp T.bIsRising (qa_cons (q_ix (qv 10) qint rfl (fun _ _ => rfl)) (qa_cons (q_ix (qv 10) qint rfl (fun _ _ => rfl)) (qa_cons (qv 5) qa_nil)))) (qa_cons (q_call (okIsFalling T) (hr.mono (by decide)) (by rfl) T.gIsFalling T.FIsFalling.kp T.bIsFalling (qa_cons (q_ix (qv 10) qint rfl (fun _ _ => rfl)) (qa_cons (q_ix (qv 10) qint rfl (fun _ _ => rfl)) (qa_cons (qv 6) qa_nil)))) qa_nil))))
 (qs_cons (q_if (PW.pt (qw_or (qt_not (qt_tr rfl (q_callB call_isi v_isi (by rfl) T.n_isinstance boot_isinstance (qa_cons (q_ix (qv 11) qint rfl (fun _ _ => rfl)) (qa_cons (q_ty (by rfl) T.n_bool boot_bool) qa_nil))) (by intro _; rfl))) (qw_or (qt_not (qt_tr rfl (q_callB call_isi v_isi (by rfl) T.n_isinstance boot_isinstance (qa_cons (q_ix (qv 11) qint rfl (fun _ _ => rfl)) (qa_cons (q_ty (by rfl) T.n_bool boot_bool) qa_nil))) (by intro _; rfl))) (qw_or1 (qt_cmp (o_ne hr.units) v_ne (qv 11) (q_lst (qa_cons (qv 7) (qa_cons (qv 8) qa_nil))))))))
 (qs_one (q_ret qbl))
 qs_nil)
 (qs_one (q_if (qt_cmp (o_ne hr.units) v_ne (qv 10) (q_lst (qa_cons (qv 3) (qa_cons (qv 4) qa_nil))))
 (qs_one (q_ret qbl))
 qs_nil))))))
 (qs_one (q_ret qbl))))))))))))
end
end Kp

namespace Kp
open PySem PySem.Spec PyProof.Rows L2 Lb Mm
local macro_rules | `(tactic| wtm_at "ev") => `(tactic| simp only [mSeq, mAsg, mVar, mC, m2, m1, mIfS, mRet, mRetN, mDrop, mNext, mBrk, mCnt, mB, mTr, mAnd, mOr, mNot, mAndV, mOrV, mNotV, mIf, mNil, mCons, mTup, mLst, mCB, mCall, mBL, mDnew, mSl, mNoPart, mPart, mRev, mIt, mRange1, mRange2, mEnum, mZip, mAug, mIsiT, mChain, mYes,
  gNm, gTp, gCn, gNl, gSb, R.bind, R.bindS, Rt.bindN, startM, List.map, List.length, List.replicate, List.set, List.getElem?_cons_zero, List.getElem?_cons_succ, List.cons_append, List.nil_append, List.append_eq, Nat.reduceAdd, Nat.reduceSub, Nat.zero_add, nx, if_true, ite_true, if_pos, ↓reduceIte, reduceCtorEq, Bool.false_eq_true, fadd_int, fsub_int, fneg_int, lt_int', le_int', gt_int', ge_int', fint_int, feq_int, feq_str, feq_bl, ng, truD, Bool.not_true, Bool.not_false, Bool.true_and, Bool.false_and, Bool.and_true, Bool.or_true, Bool.or_false, Bool.true_or, Bool.false_or])
local macro_rules | `(tactic| wtm_at "evs") => `(tactic| simp only [mSeq, mAsg, mVar, mC, m2, m1, mIfS, mRet, mRetN, mDrop, mNext, mBrk, mCnt, mB, mTr, mAnd, mOr, mNot, mAndV, mOrV, mNotV, mIf, mNil, mCons, mTup, mLst, mCB, mCall, mBL, mDnew, mSl, mNoPart, mPart, mRev, mIt, mRange1, mRange2, mEnum, mZip, mAug, mIsiT, mChain, mYes,
  gNm, gTp, gCn, gNl, gSb, R.bind, R.bindS, Rt.bindN, startM, List.map, List.length, List.replicate, List.set, List.getElem?_cons_zero, List.getElem?_cons_succ, List.cons_append, List.nil_append, List.append_eq, Nat.reduceAdd, Nat.reduceSub, Nat.zero_add, nx, if_true, ite_true, if_pos, ↓reduceIte, reduceCtorEq, Bool.false_eq_true, fadd_int, fsub_int, fneg_int, lt_int', le_int', gt_int', ge_int', fint_int, feq_int, feq_str, feq_bl, ng, truD, Bool.not_true, Bool.not_false, Bool.true_and, Bool.false_and, Bool.and_true, Bool.or_true, Bool.or_false, Bool.true_or, Bool.false_or, *])

def isV : D → Bool
  | .int _ => true
  | .str _ => true
  | _ => false
theorem isi_of {st : S} {d : D} {t c : String} {b : Bool} (h : tyD st d = some t) (h2 : isiT t c = some b) : fIsi [d, .ty c] st = .ok (.bl b) st := by
  unfold fIsi
  simp only [h, h2]
theorem ty_kinds {st : S} {d : D} {t : String} (h : tyD st d = some t) : (t = "NoneType" ∨ t = "bool" ∨ t = "tuple" ∨ t = "list" ∨ t = "dict") ∧ isV d = false ∨ (t = "int" ∨ t = "str") ∧ isV d = true := by
  cases d with
  | non => cases h; exact .inl ⟨.inl rfl, rfl⟩
  | bl b => cases h; exact .inl ⟨.inr (.inl rfl), rfl⟩
  | int b => cases h; exact .inr ⟨.inl rfl, rfl⟩
  | str b => cases h; exact .inr ⟨.inr rfl, rfl⟩
  | ty b => cases h
  | tup b => cases h; exact .inl ⟨.inr (.inr (.inl rfl)), rfl⟩
  | fl b => cases h; exact .inl ⟨.inr (.inr (.inr (.inl rfl))), rfl⟩
  | loc n =>
    have h' : (match st[n]? with | some (.lst _) => some "list" | some (.dic _) => some "dict" | _ => none) = some t := h
    split at h'
    · cases h'; exact .inl ⟨.inr (.inr (.inr (.inl rfl))), rfl⟩
    · cases h'; exact .inl ⟨.inr (.inr (.inr (.inr rfl))), rfl⟩
    · cases h'
theorem mIsValue_eq {st : S} {d : D} {t : String} (h : tyD st d = some t) : mIsValue [d] st = .ok (.bl (isV d)) st := by
  unfold mIsValue fnM mbIsValue
  wtm_at "ev"
  rcases ty_kinds h with ⟨rfl | rfl | rfl | rfl | rfl, e⟩ | ⟨rfl | rfl, e⟩
  · rw [isi_of h (b := false) rfl]
    simp only
    rw [isi_of h (b := false) rfl]
    simp only [fin, finD_same, e]
  · rw [isi_of h (b := false) rfl]
    simp only
    rw [isi_of h (b := true) rfl]
    simp only
    rw [isi_of h (b := true) rfl]
    simp only [fin, finD_same, e, Bool.not_true]
  · rw [isi_of h (b := false) rfl]
    simp only
    rw [isi_of h (b := false) rfl]
    simp only [fin, finD_same, e]
  · rw [isi_of h (b := false) rfl]
    simp only
    rw [isi_of h (b := false) rfl]
    simp only [fin, finD_same, e]
  · rw [isi_of h (b := false) rfl]
    simp only
    rw [isi_of h (b := false) rfl]
    simp only [fin, finD_same, e]
  · rw [isi_of h (b := false) rfl]
    simp only
    rw [isi_of h (b := true) rfl]
    simp only
    rw [isi_of h (b := false) rfl]
    simp only [fin, finD_same, e, Bool.not_false]
  · rw [isi_of h (b := true) rfl]
    simp only [fin, finD_same, e]

def enK (ks : List Key) : List D := (ks.map dk).mapIdx fun i d => .tup [.int (i : Nat), d]
def ek : D → Key
  | .tup [_, d] => (keyD d).getD (.inl 0)
  | _ => .inl 0
def eh : D → D
  | .tup [d, _] => d
  | _ => .non
/-- kvs is the dict of the places of ks -/
def PlM (ks : List Key) (kvs : List (Key × D)) : Prop := ∀ k, getK kvs k = (ixK ks k).map fun i : Nat => D.int (i : Int)
theorem mPlacesOf_eq {st : S} {n : Nat} {ks : List Key} (h : st[n]? = some (.lst (ks.map dk))) (nd : ks.Nodup) (hl : ks.length ≤ 1000) : ∃ kvs, PlM ks kvs ∧ mPlacesOf [.loc n] st = .ok (.loc st.length) (st ++ [O.dic kvs]) := by
  have hn := (List.getElem?_eq_some_iff.mp h).1
  have r : ∀ acc, rdL (st ++ [O.dic acc]) n = some (ks.map dk) := fun acc => by rw [rdL_app hn]; exact rdL_of h
  have gi : ∀ i, (enK ks)[i]? = (ks[i]?).map fun k => D.tup [.int (i : Nat), dk k] := fun i => by
    unfold enK
    rw [List.getElem?_mapIdx, List.getElem?_map]
    cases ks[i]? <;> rfl
  have len : (enK ks).length = ks.length := by simp [enK]
  obtain ⟨kvs, ⟨p1, p2⟩, e⟩ := dc_pure (mi := mEnum (mCons (mVar 0) mNil)) (it := itEL n) (g := gTp 2 (gCn (gNm 1) (gCn (gNm 2) gNl))) (t := mYes) (mk := mVar 2) (mv := mVar 1) (vs := [1, 2]) (env := [some (.loc n), none, none]) (st0 := st) (st := st) (l := enK ks) ek eh
    (by wtm_at "ev"; rw [rdL_of h]) (by rw [len]; omega) (fun acc i hi => by
      unfold itEL
      rw [r, gi]
      simp only [Option.map_some, List.getElem?_map, Option.map_map]
      rfl)
    (fun i x acc hx => by
      rw [gi] at hx
      obtain ⟨k, k1, rfl⟩ := Option.map_eq_some_iff.mp hx
      refine ⟨[some (.loc n), some (.int (i : Nat)), some (dk k)], dk k, ?_, rfl, rfl, by simp only [ek, keyD_dk]; rfl, rfl⟩
      simp only [gTp, List.length, if_true, gCn, gNm, R.bind, gNl, wipeM, List.set])
    (fun i acc => acc.length ≤ i ∧ PlM (ks.take i) acc) ⟨Nat.le_refl _, fun k => by simp [getK, ixK]⟩ (fun i x acc hx hp => by
      rw [gi] at hx
      obtain ⟨k, k1, rfl⟩ := Option.map_eq_some_iff.mp hx
      obtain ⟨p1, p2⟩ := hp
      refine ⟨p1, Nat.le_trans putD_len (by omega), fun j => ?_⟩
      have hi := (List.getElem?_eq_some_iff.mp k1).1
      rw [getK_put, take_snoc k1, ixK_snoc, p2 j]
      simp only [ek, eh, keyD_dk, Option.getD_some]
      by_cases hj : j = k
      · subst hj
        rw [if_pos rfl, ixK_none.mpr (nodup_take nd k1), if_pos rfl, List.length_take, Nat.min_eq_left (by omega)]
        rfl
      · rw [if_neg hj, if_neg (fun z => hj z.symm)]
        cases ixK (ks.take i) j <;> rfl)
  rw [len, List.take_length] at p2
  refine ⟨kvs, p2, ?_⟩
  unfold mPlacesOf fnM mbPlacesOf mRet
  show fin st (R.bindS (mDc (mEnum (mCons (mVar 0) mNil)) (gTp 2 (gCn (gNm 1) (gCn (gNm 2) gNl))) mYes (mVar 2) (mVar 1) [1, 2] [some (D.loc n), none, none] st) _ _) = _
  rw [e]
  simp only [R.bindS, fin, finD_new1]

/-- the places go up (down) from item to item -/
def ordB (p : Key → Int) (s : Int) : List Key → Bool
  | [] => true
  | a :: r => match r with
    | [] => true
    | b :: _ => !decide (s * (p b - p a) ≤ 0) && ordB p s r
theorem ordB_drop {p : Key → Int} {s : Int} {ks : List Key} {i : Nat} {a b : Key} (h1 : ks[i]? = some a) (h2 : ks[i + 1]? = some b) : ordB p s (ks.drop i) = (!decide (s * (p b - p a) ≤ 0) && ordB p s (ks.drop (i + 1))) := by
  have l1 := (List.getElem?_eq_some_iff.mp h1)
  have l2 := (List.getElem?_eq_some_iff.mp h2)
  obtain ⟨k1, e1⟩ := l1
  obtain ⟨k2, e2⟩ := l2
  rw [List.drop_eq_getElem_cons k1, List.drop_eq_getElem_cons k2, e1, e2]
  rfl
theorem mInOrder_eq {st : S} {n pd : Nat} {ks : List Key} {kvs : List (Key × D)} {p : Key → Int} {s : Int} (h : st[n]? = some (.lst (ks.map dk))) (hp : st[pd]? = some (.dic kvs)) (hk : ∀ k ∈ ks, getK kvs k = some (.int (p k)) ∧ 0 ≤ p k ∧ p k < 10000) (hs : s = 1 ∨ s = -1) (hl : ks.length ≤ 1000) :
    mInOrder [.loc pd, .loc n, .int s] st = .ok (.bl (ordB p s ks)) st := by
  have hn := (List.getElem?_eq_some_iff.mp h).1
  have hpd := (List.getElem?_eq_some_iff.mp hp).1
  let st1 : S := st ++ [O.lst ((ks.map dk).drop 1)]
  have r1 : rdL st1 n = some (ks.map dk) := by rw [rdL_app hn]; exact rdL_of h
  have r2 : rdL st1 st.length = some ((ks.map dk).drop 1) := rdL_of (app_last _ _)
  have hp1 : st1[pd]? = some (.dic kvs) := by rw [List.getElem?_append_left hpd]; exact hp
  have fn : ∀ b, fin st (.rt (.bl b) st1) = .ok (.bl b) st := fun b => finD_cut (Chk.refl st) rfl (by simp [low])
  unfold mInOrder fnM mbInOrder
  refine seq_inv (P := fun r => fin st r = .ok (.bl (ordB p s ks)) st) (fun e s' => s' = st1 ∧ ordB p s ks = true) ?_ ?_
  · refine for_inv (it := itZL n st.length) (st1 := st1) ?_ (fun i e s' => s' = st1 ∧ (∃ x y, e = [some (.loc pd), some (.loc n), some (.int s), x, y]) ∧ ordB p s ks = ordB p s (ks.drop i)) (ks.length - 1) (by show _ < 100000; omega) ?_ ?_ ?_
    · wtm_at "ev"
      simp only [fSl, rdL_of h, show (1 : Int) = ((1 : Nat) : Int) from rfl, cut_drop]
      rw [r1, r2]
    · exact ⟨rfl, ⟨none, none, rfl⟩, rfl⟩
    · rintro i e s' hi ⟨rfl, ⟨x, y, rfl⟩, ho⟩
      have g1 := List.getElem?_eq_getElem (show i < ks.length by omega)
      have g2 := List.getElem?_eq_getElem (show i + 1 < ks.length by omega)
      generalize ks[i] = a at g1
      generalize ks[i + 1] = b at g2
      refine ⟨.tup [dk a, dk b], [some (.loc pd), some (.loc n), some (.int s), some (dk a), some (dk b)], st1, ?_, ?_, ?_⟩
      · unfold itZL
        rw [r1, r2]
        simp only [Option.bind_some, Option.map_some, List.getElem?_map, List.getElem?_drop, g1, Nat.add_comm 1 i, g2]
      · simp only [gTp, List.length, if_true, gCn, gNm, R.bind, gNl, List.set]
      · obtain ⟨ga, a0, a1⟩ := hk a (List.mem_of_getElem? g1)
        obtain ⟨gb, b0, b1⟩ := hk b (List.mem_of_getElem? g2)
        rw [ordB_drop g1 g2] at ho
        have hm : cMul s (p b - p a) = true := mul_ok (Nat.lt_of_lt_of_le (show s.natAbs < 2 ^ 20 by omega) (Nat.pow_le_pow_right (by decide) (by decide))) (Nat.lt_of_lt_of_le (show (p b - p a).natAbs < 2 ^ 20 by omega) (Nat.pow_le_pow_right (by decide) (by decide)))
        wtm_at "ev"
        rw [dix_dk hp1 gb]
        simp only
        rw [dix_dk hp1 ga]
        simp only [fSub, fMul, fI, if_true, hm, fLe, fOrd]
        by_cases hc : s * (p b - p a) ≤ 0
        · rw [decide_eq_true hc] at ho ⊢
          simp only [if_true, LP]
          show fin st (.rt (.bl false) st1) = _
          rw [fn, ho]
          rfl
        · rw [decide_eq_false hc] at ho ⊢
          simp only [LP]
          exact ⟨rfl, ⟨_, _, rfl⟩, by rw [ho]; rfl⟩
    · rintro e s' ⟨rfl, ⟨x, y, rfl⟩, ho⟩
      have last : ordB p s (ks.drop (ks.length - 1)) = true := by
        cases ks with
        | nil => rfl
        | cons a r =>
          have : ((a :: r).drop ((a :: r).length - 1)).length ≤ 1 := by rw [List.length_drop]; omega
          generalize (a :: r).drop ((a :: r).length - 1) = w at this
          match w, this with
          | [], _ => rfl
          | [_], _ => rfl
      refine ⟨?_, rfl, by rw [ho, last]⟩
      unfold itZL
      rw [r1, r2]
      simp only [Option.bind_some, Option.map_some, List.getElem?_map, List.getElem?_drop]
      cases hks : ks[ks.length - 1]? with
      | none => rfl
      | some a =>
        have := (List.getElem?_eq_some_iff.mp hks).1
        rw [List.getElem?_eq_none (show ks.length ≤ 1 + (ks.length - 1) by omega)]
        rfl
  · rintro e s' ⟨rfl, ho⟩
    show fin st (.rt (.bl true) st1) = _
    rw [fn, ho]

/-- an item whose kind is known -/
def Item (st : S) (d : D) : Prop := ∃ t, tyD st d = some t
theorem isV_dk {d : D} (h : isV d = true) : ∃ k, d = dk k := by
  cases d with
  | int i => exact ⟨.inl i, rfl⟩
  | str s => exact ⟨.inr s, rfl⟩
  | _ => cases h
theorem isV_of (k : Key) : isV (dk k) = true := by cases k <;> rfl
/-- the keys of a list, if it holds keys alone -/
def keysOf : List D → Option (List Key)
  | [] => some []
  | d :: r => match keyD d with
    | some k => (keysOf r).map (k :: ·)
    | none => none
theorem keysOf_dk : ∀ ks : List Key, keysOf (ks.map dk) = some ks
  | [] => rfl
  | k :: r => by simp only [List.map_cons, keysOf, keyD_dk, keysOf_dk r, Option.map_some]
theorem keysOf_some : ∀ {l : List D} {ks : List Key}, keysOf l = some ks → l = ks.map dk
  | [], ks, h => by cases h; rfl
  | d :: r, ks, h => by
    unfold keysOf at h
    split at h
    · rename_i k e
      obtain ⟨ks', h1, rfl⟩ := Option.map_eq_some_iff.mp h
      rw [keysOf_some h1]
      cases d with
      | int i => cases e; rfl
      | str s => cases e; rfl
      | _ => cases e
    · cases h
def oneC (old new : List Key) (d : D) : Bool := match keyD d with
  | some k => kIn k old && kIn k new
  | none => false
def comB (old new : List Key) (l : List D) : Bool := l.all (oneC old new)
theorem mAreCommon_list {st : S} {a b n : Nat} {old new : List Key} {l : List D} (ha : st[a]? = some (.lst (old.map dk))) (hb : st[b]? = some (.lst (new.map dk))) (hn : st[n]? = some (.lst l)) (hi : ∀ d ∈ l, Item st d) (hl : l.length ≤ 1000) :
    mAreCommon [.loc a, .loc b, .loc n] st = .ok (.bl (comB old new l)) st := by
  have la := (List.getElem?_eq_some_iff.mp ha).1
  have lb := (List.getElem?_eq_some_iff.mp hb).1
  have ln := (List.getElem?_eq_some_iff.mp hn).1
  unfold mAreCommon fnM mbAreCommon
  refine seq_inv (P := fun r => fin st r = _) (fun e s' => s' = st ∧ e = startM 4 [.loc a, .loc b, .loc n]) ?_ ?_
  · wtm_at "ev"
    rw [isi_of (t := "list") (b := true) (by simp only [tyD, hn]) rfl]
    exact ⟨rfl, rfl⟩
  · rintro e s' ⟨rfl, rfl⟩
    have lc := lc_pure (mi := mIt (mVar 2)) (it := itL n) (g := gNm 3) (t := mYes)
      (m := mAndV (mCall 1 (nx mIsValue) (mCons (mVar 3) mNil)) (mAndV (m2 (fIn false) (mVar 3) (mVar 0)) (m2 (fIn false) (mVar 3) (mVar 1)))) (vs := [3]) (env := startM 4 [.loc a, .loc b, .loc n]) (st0 := s') (st := s') (l := l) (fun _ => true) (fun d => .bl (oneC old new d))
      (by wtm_at "ev"; rw [rdL_of hn]) (by omega) (fun acc i hi => by
        unfold itL
        rw [rdL_app ln, rdL_of hn]
        rfl)
      (fun i x acc hx => by
        obtain ⟨t, ht⟩ := hi x (List.mem_of_getElem? hx)
        have ht' : tyD (s' ++ [O.lst acc]) x = some t := by
          cases x with
          | loc k =>
            have h' : (match s'[k]? with | some (.lst _) => some "list" | some (.dic _) => some "dict" | _ => none) = some t := ht
            have hk : k < s'.length := by
              cases q : s'[k]? with
              | none => rw [q] at h'; cases h'
              | some o => exact (List.getElem?_eq_some_iff.mp q).1
            simp only [tyD, List.getElem?_append_left hk]
            exact h'
          | _ => exact ht
        refine ⟨[some (.loc a), some (.loc b), some (.loc n), some x], rfl, rfl, fun _ => ?_⟩
        have ra : seqD (s' ++ [O.lst acc]) (.loc a) = some (old.map dk) := by show rdL _ a = _; rw [rdL_app la]; exact rdL_of ha
        have rb : seqD (s' ++ [O.lst acc]) (.loc b) = some (new.map dk) := by show rdL _ b = _; rw [rdL_app lb]; exact rdL_of hb
        wtm_at "ev"
        rw [mIsValue_eq ht']
        cases hv : isV x with
        | false =>
          have : keyD x = none := by cases x <;> first | rfl | cases hv
          simp only [oneC, this]
        | true =>
          obtain ⟨k, rfl⟩ := isV_dk hv
          simp only
          rw [in_dk ra]
          simp only [ng, oneC, keyD_dk, if_false, Bool.false_eq_true]
          cases hk : kIn k old with
          | false => simp only [Bool.false_and]
          | true =>
            simp only
            rw [in_dk rb]
            simp only [ng, Bool.true_and, if_false, Bool.false_eq_true])
    have bs : ∀ m : List D, blsD (m.map fun d => D.bl (oneC old new d)) = some (m.map (oneC old new)) := fun m => by
      induction m with
      | nil => rfl
      | cons d r ih => simp only [List.map_cons, blsD, ih, Option.map_some]
    have flt : l.filter (fun _ => true) = l := List.filter_eq_self.mpr fun _ _ => rfl
    have al : (l.map (oneC old new)).all id = comB old new l := by rw [List.all_map]; rfl
    rw [flt] at lc
    simp only [mRet, mCB, mCons, lc, R.bind, R.bindS, mNil, fAllAny, rdL_of (app_last _ _), bs, if_true, al]
    exact finD_cut (Chk.refl s') rfl (by simp [low])
/-- the things judged: a list of items, or no list at all -/
theorem mAreCommon_no {st : S} {a b : Nat} {d : D} {t : String} (ht : tyD st d = some t) (hn : t ≠ "list") : mAreCommon [.loc a, .loc b, d] st = .ok (.bl false) st := by
  have e : isiT t "list" = some false := by
    rcases ty_kinds ht with ⟨rfl | rfl | rfl | rfl | rfl, _⟩ | ⟨rfl | rfl, _⟩ <;> first | rfl | exact absurd rfl hn
  unfold mAreCommon fnM mbAreCommon
  wtm_at "ev"
  rw [isi_of ht e]
  exact finD_same rfl
/-- is a thing a rising (falling) row: s = 1 up -/
def upB (old new : List Key) (l : List D) (s : Int) : Bool := comB old new l && match keysOf l with
  | some ks => ordB (fun k => (pl old k : Int)) 1 ks && ordB (fun k => (pl new k : Int)) s ks
  | none => false
theorem comB_keys {old new : List Key} : ∀ {l : List D}, comB old new l = true → ∃ ks : List Key, l = ks.map dk ∧ ∀ k ∈ ks, k ∈ old ∧ k ∈ new
  | [], _ => ⟨[], rfl, by simp⟩
  | d :: r, h => by
    unfold comB at h
    rw [List.all_cons, Bool.and_eq_true] at h
    obtain ⟨ks, rfl, h2⟩ := comB_keys (l := r) h.2
    have h1 := h.1
    unfold oneC at h1
    split at h1
    · rename_i k e
      rw [Bool.and_eq_true, kIn_iff, kIn_iff] at h1
      refine ⟨k :: ks, ?_, fun j hj => ?_⟩
      · cases d with
        | int i => cases e; rfl
        | str s => cases e; rfl
        | _ => cases e
      · rcases List.mem_cons.mp hj with rfl | hj
        · exact h1
        · exact h2 j hj
    · cases h1
theorem PlM.get {ks : List Key} {kvs : List (Key × D)} (h : PlM ks kvs) {k : Key} (hk : k ∈ ks) : getK kvs k = some (.int (pl ks k : Nat)) := by rw [h k, pl_some hk]; rfl
theorem mIsRising_eq {st : S} {a b n : Nat} {old new : List Key} {l : List D} (ha : st[a]? = some (.lst (old.map dk))) (hb : st[b]? = some (.lst (new.map dk))) (hn : st[n]? = some (.lst l)) (hi : ∀ d ∈ l, Item st d) (hl : l.length ≤ 1000) (lo : old.length ≤ 1000) (ln' : new.length ≤ 1000) (no : old.Nodup) (nn : new.Nodup) :
    mIsRising [.loc a, .loc b, .loc n] st = .ok (.bl (upB old new l 1)) st := by
  unfold mIsRising fnM mbIsRising
  wtm_at "ev"
  rw [mAreCommon_list ha hb hn hi hl]
  unfold upB
  cases hc : comB old new l with
  | false => exact finD_same rfl
  | true =>
    obtain ⟨ks, rfl, hk⟩ := comB_keys hc
    rw [keysOf_dk]
    rw [List.length_map] at hl
    obtain ⟨kv1, p1, e1⟩ := mPlacesOf_eq ha no lo
    have lb := (List.getElem?_eq_some_iff.mp hb).1
    have lnn := (List.getElem?_eq_some_iff.mp hn).1
    obtain ⟨kv2, p2, e2⟩ := mPlacesOf_eq (st := st ++ [O.dic kv1]) (n := b) (ks := new) (by rw [List.getElem?_append_left lb]; exact hb) nn ln'
    simp only [truD, Bool.not_true]
    wtm_at "ev"
    rw [e1]
    simp only
    rw [mInOrder_eq (st := st ++ [O.dic kv1]) (n := n) (ks := ks) (kvs := kv1) (p := fun k => (pl old k : Int)) (by rw [List.getElem?_append_left lnn]; exact hn) (app_last _ _) (fun k h => ⟨p1.get (hk k h).1, by have := pl_lt (hk k h).1; omega⟩) (.inl rfl) hl]
    cases h1 : ordB (fun k => (pl old k : Int)) 1 ks with
    | false =>
      simp only [Bool.true_and, Bool.false_and]
      exact finD_cut (Chk.refl st) rfl (by simp [low])
    | true =>
      simp only [Bool.true_and]
      wtm_at "ev"
      rw [e2]
      wtm_at "ev"
      rw [mInOrder_eq (st := st ++ [O.dic kv1] ++ [O.dic kv2]) (n := n) (ks := ks) (kvs := kv2) (p := fun k => (pl new k : Int)) (by rw [List.append_assoc, List.getElem?_append_left lnn]; exact hn) (app_last _ _) (fun k h => ⟨p2.get (hk k h).2, by have := pl_lt (hk k h).2; omega⟩) (.inl rfl) hl]
      simp only [fin]
      rw [List.append_assoc]
      exact finD_cut (Chk.refl st) rfl (by simp [low])
theorem mIsRising_no {st : S} {a b : Nat} {d : D} {t : String} (ht : tyD st d = some t) (hn : t ≠ "list") : mIsRising [.loc a, .loc b, d] st = .ok (.bl false) st := by
  unfold mIsRising fnM mbIsRising
  wtm_at "ev"
  rw [mAreCommon_no ht hn]
  exact finD_same rfl

theorem item_app {st J : S} {d : D} {t : String} (h : tyD st d = some t) : tyD (st ++ J) d = some t := by
  cases d with
  | loc k =>
    have h' : (match st[k]? with | some (.lst _) => some "list" | some (.dic _) => some "dict" | _ => none) = some t := h
    have hk : k < st.length := by
      cases q : st[k]? with
      | none => rw [q] at h'; cases h'
      | some o => exact (List.getElem?_eq_some_iff.mp q).1
    simp only [tyD, List.getElem?_append_left hk]
    exact h'
  | _ => exact h
/-- what a row of the thing is -/
inductive Row (st : S) : D → Option (List D) → Prop where
  | yes {n : Nat} {l : List D} : st[n]? = some (.lst l) → (∀ x ∈ l, Item st x) → l.length ≤ 1000 → Row st (.loc n) (some l)
  | no {d : D} {t : String} : tyD st d = some t → t ≠ "list" → Row st d none
theorem Row.app {st J : S} {d : D} {o : Option (List D)} (h : Row st d o) : Row (st ++ J) d o := by
  cases h with
  | yes h1 h2 h3 => exact .yes (by rw [List.getElem?_append_left (List.getElem?_eq_some_iff.mp h1).1]; exact h1) (fun x hx => (h2 x hx).imp fun t ht => item_app ht) h3
  | no h1 h2 => exact .no (item_app h1) h2
/-- the keys of a row, one by one: none was met -/
def metGo : List Key → List Key → Option (List Key)
  | met, [] => some met
  | met, k :: r => if kIn k met then none else metGo (met ++ [k]) r
theorem metGo_cons (met : List Key) (k : Key) (r : List Key) : metGo met (k :: r) = if kIn k met then none else metGo (met ++ [k]) r := rfl
def fallGo (old new : List Key) : List Key → List (Option (List D)) → Option (List Key)
  | met, [] => some met
  | _, none :: _ => none
  | met, some l :: r => if upB old new l (-1) && !l.isEmpty then match metGo met ((keysOf l).getD []) with
    | some met' => fallGo old new met' r
    | none => none
    else none
def fallB (old new : List Key) (rs : List (Option (List D))) : Bool := match fallGo old new [] rs with
  | some met => decide (met.length = (old.filter fun k => kIn k new).length)
  | none => false
structure MetD (met : List Key) (kv : List (Key × D)) : Prop where
  len : kv.length = met.length
  has : ∀ k, (getK kv k).isSome = kIn k met
theorem MetD.put {met : List Key} {kv : List (Key × D)} (h : MetD met kv) {k : Key} {d : D} (hk : kIn k met = false) : MetD (met ++ [k]) (putD kv k d) := by
  have e0 : getK kv k = none := by
    have := h.has k
    rw [hk] at this
    cases q : getK kv k with
    | none => rfl
    | some v => rw [q] at this; cases this
  have na : (kv.any fun kv => decide (kv.1 = k)) = false := by
    rw [Bool.eq_false_iff]
    intro z
    obtain ⟨p, hp, e⟩ := List.any_eq_true.mp z
    unfold getK at e0
    rw [Option.map_eq_none_iff, List.find?_eq_none] at e0
    exact e0 p hp e
  refine ⟨?_, fun j => ?_⟩
  · unfold putD
    rw [if_neg (by rw [na]; exact Bool.false_ne_true), List.length_append, List.length_append, h.len]
    rfl
  · rw [getK_put]
    unfold kIn
    rw [List.any_append]
    by_cases hj : j = k
    · subst hj
      rw [if_pos rfl]
      simp
    · rw [if_neg hj, h.has j]
      have : decide (k = j) = false := decide_eq_false fun z => hj z.symm
      simp [kIn, this]
theorem metGo_len : ∀ {ks met m : List Key}, metGo met ks = some m → m.length = met.length + ks.length
  | [], met, m, h => by cases h; rfl
  | k :: r, met, m, h => by
    unfold metGo at h
    split at h
    · cases h
    · have := metGo_len h
      rw [this, List.length_append]
      simp only [List.length_cons, List.length_nil]
      omega
theorem upB_keys {old new : List Key} {l : List D} {s : Int} (h : upB old new l s = true) : ∃ ks : List Key, l = ks.map dk ∧ (keysOf l).getD [] = ks ∧ (∀ k ∈ ks, k ∈ old ∧ k ∈ new) ∧ ordB (fun k => (pl old k : Int)) 1 ks = true ∧ ordB (fun k => (pl new k : Int)) s ks = true := by
  unfold upB at h
  rw [Bool.and_eq_true] at h
  obtain ⟨ks, rfl, hk⟩ := comB_keys h.1
  rw [keysOf_dk] at h
  rw [keysOf_dk]
  have h2 := h.2
  rw [Bool.and_eq_true] at h2
  exact ⟨ks, rfl, rfl, hk, h2.1, h2.2⟩

theorem mIsFalling_list {st : S} {a b n : Nat} {old new : List Key} {l : List D} {rs : List (Option (List D))} (ha : st[a]? = some (.lst (old.map dk))) (hb : st[b]? = some (.lst (new.map dk))) (hn : st[n]? = some (.lst l)) (lo : old.length ≤ 1000) (lw : new.length ≤ 1000) (no : old.Nodup) (nn : new.Nodup)
    (hl : l.length ≤ 1000) (hrl : rs.length = l.length) (hr : ∀ (i : Nat) d o, l[i]? = some d → rs[i]? = some o → Row st d o) : mIsFalling [.loc a, .loc b, .loc n] st = .ok (.bl (fallB old new rs)) st := by
  have la := (List.getElem?_eq_some_iff.mp ha).1
  have lb := (List.getElem?_eq_some_iff.mp hb).1
  have lnn := (List.getElem?_eq_some_iff.mp hn).1
  obtain ⟨kv1, p1, e1⟩ := mPlacesOf_eq ha no lo
  obtain ⟨kv2, p2, e2⟩ := mPlacesOf_eq (st := st ++ [O.dic kv1]) (n := b) (ks := new) (by rw [List.getElem?_append_left lb]; exact hb) nn lw
  let B : S := [O.dic kv1] ++ [O.dic kv2]
  let T : List (Key × D) → S := fun kv => st ++ B ++ [O.dic kv]
  have Tlen : (st ++ B).length = st.length + 2 := by simp [B]
  have T1 : ∀ kv : List (Key × D), (T kv)[st.length]? = some (.dic kv1) := fun kv => by
    show (st ++ B ++ [O.dic kv])[st.length]? = _
    rw [List.append_assoc, List.getElem?_append_right (Nat.le_refl _), Nat.sub_self]
    rfl
  have T2 : ∀ kv : List (Key × D), (T kv)[st.length + 1]? = some (.dic kv2) := fun kv => by
    show (st ++ B ++ [O.dic kv])[st.length + 1]? = _
    rw [List.append_assoc, List.getElem?_append_right (by omega), show st.length + 1 - st.length = 1 by omega]
    rfl
  have T3 : ∀ kv : List (Key × D), (T kv)[st.length + 2]? = some (.dic kv) := fun kv => by
    rw [← Tlen]
    exact app_last _ _
  have Tset : ∀ (kv kv' : List (Key × D)), (T kv).set (st.length + 2) (.dic kv') = T kv' := fun kv kv' => by
    rw [← Tlen]
    exact set_last _ _ _
  have Told : ∀ kv {i : Nat} {o : O}, st[i]? = some o → (T kv)[i]? = some o := fun kv {i o} h => by
    show (st ++ B ++ [O.dic kv])[i]? = _
    rw [List.append_assoc, List.getElem?_append_left (List.getElem?_eq_some_iff.mp h).1]
    exact h
  have Tapp : ∀ kv, T kv = st ++ (B ++ [O.dic kv]) := fun kv => List.append_assoc _ _ _
  have fn : ∀ kv x, fin st (.rt (.bl x) (T kv)) = .ok (.bl x) st := fun kv x => by
    rw [Tapp]
    exact finD_cut (Chk.refl st) rfl (by simp [low])
  unfold mIsFalling fnM mbIsFalling
  -- if not isinstance ..; elder, younger, met
  refine seq_inv (P := fun r => fin st r = _) (fun e s' => s' = st ∧ e = startM 8 [.loc a, .loc b, .loc n]) ?_ ?_
  · wtm_at "ev"
    rw [isi_of (t := "list") (b := true) (by simp only [tyD, hn]) rfl]
    exact ⟨rfl, rfl⟩
  rintro e s' ⟨rfl, rfl⟩
  refine seq_inv (P := fun r => fin s' r = _) (fun e s1 => s1 = s' ++ [O.dic kv1] ∧ e = [some (.loc a), some (.loc b), some (.loc n), some (.loc s'.length), none, none, none, none]) ?_ ?_
  · wtm_at "ev"
    rw [e1]
    exact ⟨rfl, rfl⟩
  rintro e s1 ⟨rfl, rfl⟩
  refine seq_inv (P := fun r => fin s' r = _) (fun e s2 => s2 = s' ++ B ∧ e = [some (.loc a), some (.loc b), some (.loc n), some (.loc s'.length), some (.loc (s'.length + 1)), none, none, none]) ?_ ?_
  · wtm_at "ev"
    rw [e2]
    exact ⟨List.append_assoc _ _ _, by simp⟩
  rintro e s2 ⟨rfl, rfl⟩
  refine seq_inv (P := fun r => fin s' r = _) (fun e s3 => s3 = T [] ∧ e = [some (.loc a), some (.loc b), some (.loc n), some (.loc s'.length), some (.loc (s'.length + 1)), some (.loc (s'.length + 2)), none, none]) ?_ ?_
  · wtm_at "ev"
    exact ⟨rfl, by rw [Tlen]⟩
  rintro e s3 ⟨rfl, rfl⟩
  -- the rows
  refine seq_inv (P := fun r => fin s' r = _) (fun e s4 => ∃ kv met x y, s4 = T kv ∧ MetD met kv ∧ e = [some (.loc a), some (.loc b), some (.loc n), some (.loc s'.length), some (.loc (s'.length + 1)), some (.loc (s'.length + 2)), x, y] ∧ fallGo old new [] rs = some met) ?_ ?_
  · refine for_inv (it := itL n) (st1 := T []) ?_ (fun i e s4 => ∃ kv met x y, s4 = T kv ∧ MetD met kv ∧ e = [some (.loc a), some (.loc b), some (.loc n), some (.loc s'.length), some (.loc (s'.length + 1)), some (.loc (s'.length + 2)), x, y] ∧ fallGo old new [] rs = fallGo old new met (rs.drop i) ∧ met.length ≤ i * 1000) l.length (by show _ < 100000; omega) ?_ ?_ ?_
    · wtm_at "ev"
      rw [rdL_of (Told [] hn)]
    · exact ⟨[], [], none, none, rfl, ⟨rfl, fun k => rfl⟩, rfl, rfl, Nat.le_refl _⟩
    · rintro i e s4 hi ⟨kv, met, x, y, rfl, hm, rfl, hf, hml⟩
      have g1 := List.getElem?_eq_getElem hi
      have g2 := List.getElem?_eq_getElem (show i < rs.length by omega)
      have gd : rs.drop i = rs[i] :: rs.drop (i + 1) := List.drop_eq_getElem_cons (by omega)
      rw [gd] at hf
      generalize l[i] = d at g1
      generalize rs[i] = o at g2 hf
      have hrow := hr i d o g1 g2
      refine ⟨d, [some (.loc a), some (.loc b), some (.loc n), some (.loc s'.length), some (.loc (s'.length + 1)), some (.loc (s'.length + 2)), some d, y], T kv, by unfold itL; rw [rdL_of (Told kv hn), Option.map_some, g1], rfl, ?_⟩
      have hrowT : Row (T kv) d o := by rw [Tapp]; exact hrow.app
      cases hrowT with
      | no h1 h2 =>
        refine (?_ : LP _ _ _)
        have ff : fallB old new rs = false := by unfold fallB; rw [hf]; rfl
        wtm_at "ev"
        rw [mAreCommon_no h1 h2]
        wtm_at "ev"
        simp only [truD, Bool.not_false, LP, if_true]
        show fin s' (.rt (.bl false) (T kv)) = _
        rw [fn, ff]
      | @yes rn rl h1 h2 h3 =>
        have bad : (upB old new rl (-1) && !rl.isEmpty) = false → fallB old new rs = false := fun hu => by
          unfold fallB
          rw [hf]
          unfold fallGo
          rw [hu]
          rfl
        cases hc : comB old new rl with
        | false =>
          have ff := bad (by unfold upB; rw [hc]; rfl)
          wtm_at "ev"
          rw [mAreCommon_list (Told kv ha) (Told kv hb) h1 h2 h3, hc]
          wtm_at "ev"
          simp only [truD, Bool.not_false, LP, if_true]
          show fin s' (.rt (.bl false) (T kv)) = _
          rw [fn, ff]
        | true =>
          obtain ⟨ks, rfl, hk⟩ := comB_keys hc
          rw [List.length_map] at h3
          refine seq_inv (P := LP _ _) (fun e s5 => s5 = T kv ∧ e = [some (.loc a), some (.loc b), some (.loc n), some (.loc s'.length), some (.loc (s'.length + 1)), some (.loc (s'.length + 2)), some (.loc rn), y] ∧ ks ≠ []) ?_ ?_
          · wtm_at "ev"
            rw [mAreCommon_list (Told kv ha) (Told kv hb) h1 h2 (by rw [List.length_map]; exact h3), hc]
            wtm_at "ev"
            simp only [truD, Bool.not_true, Bool.false_eq_true, if_false, len_lst h1, List.length_map]
            rw [feq_int]
            cases ks with
            | nil =>
              have ff := bad (by simp)
              simp only [List.length_nil, ng, if_false, Bool.false_eq_true]
              show fin s' (.rt (.bl false) (T kv)) = _
              rw [fn, ff]
            | cons k r =>
              simp only [List.length_cons, ng, if_false, Bool.false_eq_true]
              rw [decide_eq_false (by omega)]
              exact ⟨rfl, rfl, by simp⟩
          rintro e s5 ⟨rfl, rfl, kne⟩
          have hne : ks.isEmpty = false := by cases ks <;> first | rfl | exact absurd rfl kne
          have up : upB old new (ks.map dk) (-1) = (ordB (fun k => (pl old k : Int)) 1 ks && ordB (fun k => (pl new k : Int)) (-1) ks) := by
            unfold upB
            rw [hc, keysOf_dk]
            rfl
          have io1 : mInOrder [.loc s'.length, .loc rn, .int 1] (T kv) = .ok (.bl (ordB (fun k => (pl old k : Int)) 1 ks)) (T kv) := mInOrder_eq h1 (T1 kv) (fun k h => ⟨p1.get (hk k h).1, by have := pl_lt (hk k h).1; omega⟩) (.inl rfl) h3
          have io2 : mInOrder [.loc (s'.length + 1), .loc rn, .int (-1)] (T kv) = .ok (.bl (ordB (fun k => (pl new k : Int)) (-1) ks)) (T kv) := mInOrder_eq h1 (T2 kv) (fun k h => ⟨p2.get (hk k h).2, by have := pl_lt (hk k h).2; omega⟩) (.inr rfl) h3
          refine seq_inv (P := LP _ _) (fun e s5 => s5 = T kv ∧ e = [some (.loc a), some (.loc b), some (.loc n), some (.loc s'.length), some (.loc (s'.length + 1)), some (.loc (s'.length + 2)), some (.loc rn), y] ∧ upB old new (ks.map dk) (-1) = true) ?_ ?_
          · wtm_at "ev"
            rw [io1]
            cases h1' : ordB (fun k => (pl old k : Int)) 1 ks with
            | false =>
              have ff := bad (by rw [up, h1']; rfl)
              simp only [truD, Bool.not_false, if_true]
              show fin s' (.rt (.bl false) (T kv)) = _
              rw [fn, ff]
            | true =>
              simp only [truD, Bool.not_true, Bool.false_eq_true, if_false, fneg_int]
              try wtm_at "ev"
              rw [io2]
              cases h2' : ordB (fun k => (pl new k : Int)) (-1) ks with
              | false =>
                have ff := bad (by rw [up, h1', h2']; rfl)
                simp only [truD, Bool.not_false, if_true]
                show fin s' (.rt (.bl false) (T kv)) = _
                rw [fn, ff]
              | true =>
                simp only [truD, Bool.not_true, Bool.false_eq_true, if_false]
                exact ⟨rfl, rfl, by rw [up, h1', h2']; rfl⟩
          rintro e s5 ⟨rfl, rfl, hup⟩
          have hf2 : fallGo old new [] rs = match metGo met ks with | some met' => fallGo old new met' (rs.drop (i + 1)) | none => none := by
            rw [hf]
            conv => lhs; unfold fallGo
            rw [hup, keysOf_dk, List.isEmpty_map, hne]
            rfl
          -- for value in row
          refine for_inv (it := itL rn) (st1 := T kv) ?_ (fun j e s6 => ∃ kv6 met6 y6, s6 = T kv6 ∧ MetD met6 kv6 ∧ e = [some (.loc a), some (.loc b), some (.loc n), some (.loc s'.length), some (.loc (s'.length + 1)), some (.loc (s'.length + 2)), some (.loc rn), y6] ∧ metGo met ks = metGo met6 (ks.drop j) ∧ met6.length ≤ i * 1000 + j) ks.length (by show _ < 100000; omega) ?_ ?_ ?_
          · wtm_at "ev"
            rw [rdL_of h1]
          · exact ⟨kv, met, y, rfl, hm, rfl, rfl, hml⟩
          · rintro j e s6 hj ⟨kv6, met6, y6, rfl, hm6, rfl, hg6, hl6⟩
            have gk := List.getElem?_eq_getElem hj
            have gd6 : ks.drop j = ks[j] :: ks.drop (j + 1) := List.drop_eq_getElem_cons hj
            rw [gd6] at hg6
            generalize ks[j] = k at gk hg6
            have rnl : s'.length ≤ rn ∨ rn < s'.length := by omega
            have h1T : (T kv6)[rn]? = some (.lst (ks.map dk)) := by
              rcases hrow with ⟨q1, _, _⟩ | ⟨q1, q2⟩
              exact Told kv6 q1
            refine ⟨dk k, [some (.loc a), some (.loc b), some (.loc n), some (.loc s'.length), some (.loc (s'.length + 1)), some (.loc (s'.length + 2)), some (.loc rn), some (dk k)], T kv6, ?_, rfl, ?_⟩
            · unfold itL
              rw [rdL_of h1T, Option.map_some, List.getElem?_map, gk]
              rfl
            wtm_at "ev"
            rw [din_dk (T3 kv6), hm6.has k]
            rw [metGo_cons] at hg6
            cases hkm : kIn k met6 with
            | true =>
              rw [hkm, if_pos rfl] at hg6
              have ff : fallB old new rs = false := by unfold fallB; rw [hf2, hg6]
              simp only [ng, if_false, Bool.false_eq_true, LP, if_true]
              show fin s' (.rt (.bl false) (T kv6)) = _
              rw [fn, ff]
            | false =>
              rw [hkm, if_neg Bool.false_ne_true] at hg6
              have hlt : kv6.length < sizeLine := by
                have := hm6.len
                have := big_line
                have : i * 1000 ≤ 999 * 1000 := Nat.mul_le_mul_right _ (by omega)
                omega
              simp only [ng, if_false, Bool.false_eq_true]
              wtm_at "ev"
              simp only [fSet, T3 kv6, keyD_dk, hlt, if_true, LP, Tset]
              exact ⟨_, met6 ++ [k], _, rfl, hm6.put hkm, rfl, hg6, by rw [List.length_append]; simp only [List.length_cons, List.length_nil]; omega⟩
          · rintro e s6 ⟨kv6, met6, y6, rfl, hm6, rfl, hg6, hl6⟩
            have h1T : (T kv6)[rn]? = some (.lst (ks.map dk)) := by
              rcases hrow with ⟨q1, _, _⟩ | ⟨q1, q2⟩
              exact Told kv6 q1
            rw [List.drop_eq_nil_of_le (Nat.le_refl _)] at hg6
            refine ⟨by unfold itL; rw [rdL_of h1T, Option.map_some, List.getElem?_eq_none (by simp)], ?_⟩
            have hg7 : metGo met ks = some met6 := hg6
            refine ⟨kv6, met6, some (.loc rn), y6, rfl, hm6, rfl, by rw [hf2, hg7], ?_⟩
            rw [Nat.add_mul]
            omega
    · rintro e s4 ⟨kv, met, x, y, rfl, hm, rfl, hf, hml⟩
      refine ⟨by unfold itL; rw [rdL_of (Told kv hn), Option.map_some, List.getElem?_eq_none (Nat.le_refl _)], kv, met, x, y, rfl, hm, rfl, ?_⟩
      rw [hf, List.drop_eq_nil_of_le (by omega)]
      rfl
  -- the end
  · rintro e s4 ⟨kv, met, x, y, rfl, hm, rfl, hf⟩
    have ff : fallB old new rs = decide (met.length = (old.filter fun k => kIn k new).length) := by unfold fallB; rw [hf]
    have hmT := T3 kv
    have lc := lc_pure (mi := mIt (mVar 0)) (it := itL a) (g := gNm 7) (t := mB (m2 (fDin false) (mVar 7) (mVar 4))) (m := mVar 7) (vs := [7]) (env := [some (.loc a), some (.loc b), some (.loc n), some (.loc s'.length), some (.loc (s'.length + 1)), some (.loc (s'.length + 2)), x, y]) (st0 := T kv) (st := T kv) (l := old.map dk)
      (fun d => match keyD d with | some k => kIn k new | none => false) (fun d => d)
      (by wtm_at "ev"; rw [rdL_of (Told kv ha)]) (by rw [List.length_map]; omega) (fun acc i hi => by
        unfold itL
        rw [Tapp, List.append_assoc, rdL_app la, rdL_of ha]
        rfl)
      (fun i d acc hd => by
        rw [List.getElem?_map] at hd
        obtain ⟨k, _, rfl⟩ := Option.map_eq_some_iff.mp hd
        refine ⟨[some (.loc a), some (.loc b), some (.loc n), some (.loc s'.length), some (.loc (s'.length + 1)), some (.loc (s'.length + 2)), x, some (dk k)], rfl, ?_, fun _ => rfl⟩
        have t2 : (T kv ++ [O.lst acc])[s'.length + 1]? = some (.dic kv2) := by
          rw [List.getElem?_append_left (List.getElem?_eq_some_iff.mp (T2 kv)).1]
          exact T2 kv
        wtm_at "ev"
        rw [din_dk t2]
        simp only [keyD_dk, ng, Bool.false_eq_true, if_false]
        have : (getK kv2 k).isSome = kIn k new := by
          rw [p2 k]
          cases e : ixK new k with
          | none => rw [kIn_no.mpr (ixK_none.mp e)]; rfl
          | some j => rw [kIn_iff.mpr (List.mem_of_getElem? (ixK_some e))]; rfl
        rw [this])
    have cnt : ((((old.map dk).filter fun d => match keyD d with | some k => kIn k new | none => false)).map fun d => d).length = (old.filter fun k => kIn k new).length := by
      rw [List.map_id', List.filter_map, List.length_map]
      congr 1
      refine List.filter_congr fun k _ => ?_
      show (match keyD (dk k) with | some k => kIn k new | none => false) = _
      rw [keyD_dk]
    wtm_at "ev"
    rw [len_dic hmT]
    simp only
    rw [lc]
    simp only
    rw [len_lst (app_last _ _)]
    simp only
    rw [feq_int, hm.len, cnt]
    simp only [fin]
    rw [Tapp, List.append_assoc]
    rw [show ng false (decide (((met.length : Nat) : Int) = ((old.filter fun k => kIn k new).length : Nat))) = fallB old new rs from by
      rw [ff]
      simp only [ng, Bool.false_eq_true, if_false]
      exact decide_eq_decide.mpr (by omega)]
    exact finD_cut (Chk.refl s') rfl (by simp [low])

/-- the bag at b: the cells' list at k, n draws done -/
def bagL (k : Nat) (i r n : Int) : O := .lst [.loc k, .int i, .int r, .int n]
structure Bag (st : S) (b k : Nat) (cells : List Int) (n : Int) : Prop where
  at_ : ∃ i r : Int, st[b]? = some (bagL k i r n) ∧ 0 ≤ i ∧ 0 ≤ r
  cells : st[k]? = some (.lst (cells.map .int))
  ne : b ≠ k
  pos : 0 ≤ n
theorem mLTake_eq {st : S} {b k : Nat} {cells : List Int} {n m : Int} (hB : Bag st b k cells n) (hn : n < 100000) (hm : 0 < m) (hm2 : m < 2 ^ 90) :
    ∃ d i r : Int, mLTake [.loc b, .int m] st = .ok (.int d) (st.set b (bagL k i r (n + 1))) ∧ 0 ≤ d ∧ d < m ∧ Bag (st.set b (bagL k i r (n + 1))) b k cells (n + 1) := by
  obtain ⟨i0, r0, hb, hi0, hr0⟩ := hB.at_
  have hc := hB.cells
  have ne := hB.ne
  have hn0 := hB.pos
  have hbl := (List.getElem?_eq_some_iff.mp hb).1
  let B : Int → Int → S := fun i r => st.set b (bagL k i r (n + 1))
  have Bb : ∀ i r, (B i r)[b]? = some (.lst [.loc k, .int i, .int r, .int (n + 1)]) := fun i r => List.getElem?_set_self hbl
  have Bk : ∀ i r, (B i r)[k]? = some (.lst (cells.map .int)) := fun i r => by
    show (st.set b _)[k]? = _
    rw [List.getElem?_set_ne ne]
    exact hc
  have Bs : ∀ i r i' r', (B i r).set b (.lst [.loc k, .int i', .int r', .int (n + 1)]) = B i' r' := fun i r i' r' => List.set_set ..
  have ix1 : ∀ i r, fIx (.loc b) (.int 1) (B i r) = .ok (.int i) (B i r) := fun i r => ix_lst (Bb i r) rfl
  have ix2 : ∀ i r, fIx (.loc b) (.int 2) (B i r) = .ok (.int r) (B i r) := fun i r => ix_lst (Bb i r) rfl
  have ix3 : ∀ i r, fIx (.loc b) (.int 3) (B i r) = .ok (.int (n + 1)) (B i r) := fun i r => ix_lst (Bb i r) rfl
  have se1 : ∀ i r v, fSet (.loc b) (.int 1) (.int v) (B i r) = .ok () (B v r) := fun i r v => by
    rw [set_lst (Bb i r) (j := 1) rfl, ← Bs i r v r]
    rfl
  have se2 : ∀ i r v, fSet (.loc b) (.int 2) (.int v) (B i r) = .ok () (B i v) := fun i r v => by
    rw [set_lst (Bb i r) (j := 2) rfl, ← Bs i r i v]
    rfl
  have lenk : ∀ i r, fLen [.loc k] (B i r) = .ok (.int cells.length) (B i r) := fun i r => by rw [len_lst (Bk i r), List.length_map]
  have fn : ∀ d i r, fin st (.rt (.int d) (B i r)) = .ok (.int d) (B i r) := fun d i r => finD_same (by simp [B])
  have fini : ∀ d i r : Int, 0 ≤ d → d < m → 0 ≤ i → 0 ≤ r → (fun res : R D => ∃ d i r : Int, res = .ok (.int d) (st.set b (bagL k i r (n + 1))) ∧ 0 ≤ d ∧ d < m ∧ Bag (st.set b (bagL k i r (n + 1))) b k cells (n + 1)) (fin st (.rt (.int d) (B i r))) := fun d i r h1 h2 h3 h4 =>
    ⟨d, i, r, fn d i r, h1, h2, ⟨⟨i, r, List.getElem?_set_self hbl, h3, h4⟩, Bk i r, ne, by omega⟩⟩
  generalize hP : (fun res : R D => ∃ d i r : Int, res = .ok (.int d) (st.set b (bagL k i r (n + 1))) ∧ 0 ≤ d ∧ d < m ∧ Bag (st.set b (bagL k i r (n + 1))) b k cells (n + 1)) = P at fini
  have goal : P (mLTake [.loc b, .int m] st) := by
    unfold mLTake fnM mbLTake
    refine seq_inv (P := fun r => P (fin st r)) (fun e s => s = st ∧ e = [some (.loc b), some (.int m), some (.loc k), none, none, none]) ?_ ?_
    · wtm_at "ev"
      rw [ix_lst hb (d := .loc k) rfl]
      exact ⟨rfl, rfl⟩
    rintro e s ⟨rfl, rfl⟩
    refine seq_inv (P := fun r => P (fin s r)) (fun e s1 => s1 = B i0 r0 ∧ e = [some (.loc b), some (.int m), some (.loc k), none, none, none]) ?_ ?_
    · wtm_at "ev"
      rw [ix_lst hb (d := .int n) rfl]
      simp only [fadd_int]
      rw [set_lst hb (j := 3) rfl]
      exact ⟨rfl, rfl⟩
    rintro e s1 ⟨rfl, rfl⟩
    refine seq_inv (P := fun r => P (fin s r)) (fun e s2 => ∃ i r : Int, s2 = B i r ∧ 0 ≤ i ∧ 0 ≤ r ∧ e = [some (.loc b), some (.int m), some (.loc k), none, none, none]) ?_ ?_
    · have no : NP (fun e s2 => ∃ i r : Int, s2 = B i r ∧ 0 ≤ i ∧ 0 ≤ r ∧ e = [some (.loc b), some (.int m), some (.loc k), none, none, none]) (fun r => P (fin s r)) (.nx [some (.loc b), some (.int m), some (.loc k), none, none, none] (B i0 r0)) := ⟨i0, r0, rfl, hi0, hr0, rfl⟩
      wtm_at "ev"
      simp only [ix2, feq_int]
      by_cases h1 : r0 = 0
      · simp only [decide_eq_true h1, ng, Bool.false_eq_true, if_false, if_true]
        try wtm_at "ev"
        simp only [ix1, lenk, lt_int']
        by_cases h2 : i0 < (cells.length : Int)
        · obtain ⟨j, rfl⟩ : ∃ j : Nat, i0 = (j : Int) := ⟨i0.toNat, by omega⟩
          have hj : j < cells.length := by omega
          have hcj : ∀ i r, fIx (.loc k) (.int ((j : Nat) : Int)) (B i r) = .ok (.int cells[j]) (B i r) := fun i r => ix_lst (Bk i r) (L2.atI_nat (by rw [List.getElem?_map, List.getElem?_eq_getElem hj]; rfl))
          have pw : ∀ s : S, fPow (.int 10) (.int 18) s = .ok (.int (10 ^ 18)) s := fun s => rfl
          simp only [decide_eq_true h2, if_true, ix1, hcj, pw, ge_int']
          by_cases h3 : (10 : Int) ^ 18 ≤ cells[j]
          · simp only [decide_eq_true h3, if_true]
            try wtm_at "ev"
            simp only [ix1, hcj, se2, fadd_int, se1]
            try wtm_at "ev"
            try simp only [ix1, hcj, se2, fadd_int, se1]
            exact ⟨_, _, rfl, by omega, by omega, rfl⟩
          · simp only [decide_eq_false h3, Bool.false_eq_true, if_false]
            exact no
        · simp only [decide_eq_false h2, Bool.false_eq_true, if_false]
          exact no
      · simp only [decide_eq_false h1, ng, Bool.false_eq_true, if_false]
        exact no
    rintro e s2 ⟨i, r, rfl, hi, hr, rfl⟩
    refine seq_inv (P := fun r => P (fin s r)) (fun e s3 => s3 = B i r ∧ e = [some (.loc b), some (.int m), some (.loc k), none, none, none]) ?_ ?_
    · wtm_at "ev"
      simp only [ix2, gt_int']
      by_cases h1 : 0 < r
      · simp only [decide_eq_true h1, if_true]
        try wtm_at "ev"
        simp only [ix2, fint_int, mod_int' hm, div_int' hm (show m.natAbs < 2 ^ 200 from Nat.lt_of_lt_of_le (show m.natAbs < 2 ^ 90 by omega) (Nat.pow_le_pow_right (by decide) (by decide))), se2]
        try wtm_at "ev"
        simp only [ix2, fint_int, div_int' hm (show m.natAbs < 2 ^ 200 from Nat.lt_of_lt_of_le (show m.natAbs < 2 ^ 90 by omega) (Nat.pow_le_pow_right (by decide) (by decide))), se2]
        try wtm_at "ev"
        exact fini _ _ _ (Int.emod_nonneg _ (by omega)) (Int.emod_lt_of_pos _ hm) hi (Int.ediv_nonneg hr (by omega))
      · simp only [decide_eq_false h1, Bool.false_eq_true, if_false]
        exact ⟨rfl, rfl⟩
    rintro e s3 ⟨rfl, rfl⟩
    refine seq_inv (P := fun r => P (fin s r)) (fun e s3 => s3 = B i r ∧ e = [some (.loc b), some (.int m), some (.loc k), none, some (.int 0), none]) ⟨rfl, rfl⟩ ?_
    rintro e s3 ⟨rfl, rfl⟩
    refine seq_inv (P := fun r => P (fin s r)) (fun e s4 => ∃ c i2 : Int, s4 = B i2 r ∧ 0 ≤ i2 ∧ e = [some (.loc b), some (.int m), some (.loc k), none, some (.int c), none]) ?_ ?_
    · wtm_at "ev"
      simp only [lenk, gt_int']
      by_cases h1 : (0 : Int) < cells.length
      · simp only [decide_eq_true h1, if_true]
        obtain ⟨j, hj, hjl⟩ : ∃ j : Nat, i % (cells.length : Int) = (j : Int) ∧ j < cells.length := by
          have a1 := Int.emod_nonneg i (b := (cells.length : Int)) (by omega)
          have a2 := Int.emod_lt_of_pos i h1
          exact ⟨(i % (cells.length : Int)).toNat, by omega, by omega⟩
        have hcj : ∀ i r, fIx (.loc k) (.int ((j : Nat) : Int)) (B i r) = .ok (.int cells[j]) (B i r) := fun i r => ix_lst (Bk i r) (L2.atI_nat (by rw [List.getElem?_map, List.getElem?_eq_getElem hjl]; rfl))
        try wtm_at "ev"
        simp only [ix1, fint_int, lenk, mod_int' h1, hj, hcj, fadd_int, se1]
        try wtm_at "ev"
        try simp only [ix1, fadd_int, se1]
        exact ⟨_, _, rfl, by omega, rfl⟩
      · simp only [decide_eq_false h1, Bool.false_eq_true, if_false]
        exact ⟨0, i, rfl, hi, rfl⟩
    rintro e s4 ⟨c, i2, rfl, hi2, rfl⟩
    refine seq_inv (P := fun r => P (fin s r)) (fun e s5 => ∃ x : Int, s5 = B i2 r ∧ 0 ≤ x ∧ x < 2147483647 ∧ e = [some (.loc b), some (.int m), some (.loc k), none, some (.int c), some (.int x)]) ?_ ?_
    · wtm_at "ev"
      have b1 : (7919 * (n + 1)).natAbs < 2 ^ 60 := by omega
      simp only [ix3, mul_int' (mul_small (show (7919 : Int).natAbs < 2 ^ 20 by decide) (show (n + 1).natAbs < 2 ^ 30 by omega) (by decide) (by decide) (by decide)), mul_int' (mul_small b1 (show (n + 1).natAbs < 2 ^ 30 by omega) (by decide) (by decide) (by decide)),
        mul_int' (mul_small (show (104729 : Int).natAbs < 2 ^ 20 by decide) (show (n + 1).natAbs < 2 ^ 30 by omega) (by decide) (by decide) (by decide)), fadd_int, fint_int, mod_int' (show (0 : Int) < 2147483647 by decide)]
      exact ⟨_, rfl, Int.emod_nonneg _ (by decide), Int.emod_lt_of_pos _ (by decide), rfl⟩
    rintro e s5 ⟨x, rfl, x0, x1, rfl⟩
    refine seq_inv (P := fun r => P (fin s r)) (fun e s5 => ∃ x : Int, s5 = B i2 r ∧ 0 ≤ x ∧ x < 2147483647 ∧ e = [some (.loc b), some (.int m), some (.loc k), none, some (.int c), some (.int x)]) ?_ ?_
    · wtm_at "ev"
      simp only [div_int' (show (0 : Int) < 1009 by decide) (by decide), fadd_int]
      have b2 : (x / 1009 + 69621).natAbs < 2 ^ 60 := by omega
      simp only [mul_int' (mul_small (show x.natAbs < 2 ^ 40 by omega) b2 (by decide) (by decide) (by decide)), fint_int, mod_int' (show (0 : Int) < 2147483647 by decide)]
      exact ⟨_, rfl, Int.emod_nonneg _ (by decide), Int.emod_lt_of_pos _ (by decide), rfl⟩
    rintro e s5 ⟨x, rfl, x0, x1, rfl⟩
    refine seq_inv (P := fun r => P (fin s r)) (fun e s5 => ∃ x : Int, s5 = B i2 r ∧ e = [some (.loc b), some (.int m), some (.loc k), none, some (.int c), some (.int x)]) ?_ ?_
    · wtm_at "ev"
      simp only [div_int' (show (0 : Int) < 2003 by decide) (by decide), fadd_int]
      have b2 : (x / 2003 + 40692).natAbs < 2 ^ 60 := by omega
      simp only [mul_int' (mul_small (show x.natAbs < 2 ^ 40 by omega) b2 (by decide) (by decide) (by decide)), fint_int, mod_int' (show (0 : Int) < 2147483399 by decide)]
      exact ⟨_, rfl, rfl⟩
    rintro e s5 ⟨x, rfl, rfl⟩
    wtm_at "ev"
    simp only [div_int' (show (0 : Int) < 16 by decide) (by decide), fint_int, mod_int' hm]
    exact fini _ _ _ (Int.emod_nonneg _ (by omega)) (Int.emod_lt_of_pos _ hm) hi2 hr
  rw [← hP] at goal
  exact goal

theorem mLValue_eq {st : S} {b k : Nat} {cells : List Int} {n : Int} {j : Nat} (hB : Bag st b k cells n) (hn : n + 3 < 100000) (hj : j < 100) :
    ∃ (key : Key) (i r : Int), mLValue [.loc b, .int (j : Int)] st = .ok (dk key) (st.set b (bagL k i r (n + 3))) ∧ KeyT j key ∧ Bag (st.set b (bagL k i r (n + 3))) b k cells (n + 3) := by
  obtain ⟨d1, i1, r1, e1, a1, b1, B1⟩ := mLTake_eq (m := 10 ^ 24) hB (by omega) (by decide) (by decide)
  obtain ⟨d2, i2, r2, e2, a2, b2, B2⟩ := mLTake_eq (m := 2) B1 (by omega) (by decide) (by decide)
  rw [List.set_set] at e2 B2
  obtain ⟨d3, i3, r3, e3, a3, b3, B3⟩ := mLTake_eq (m := 3) B2 (by omega) (by decide) (by decide)
  rw [List.set_set] at e3 B3
  rw [show n + 1 + 1 = n + 2 by omega] at e2 e3 B2 B3
  rw [show n + 2 + 1 = n + 3 by omega] at e3 B3
  have b1' : d1 < 10 ^ 24 := b1
  have pw : ∀ s : S, fPow (.int 10) (.int 24) s = .ok (.int (10 ^ 24)) s := fun s => rfl
  have hm : cMul d1 100 = true := mul_small (show d1.natAbs < 2 ^ 90 by omega) (show (100 : Int).natAbs < 2 ^ 20 by decide) (by decide) (by decide) (by decide)
  have hl : ∀ x, (st.set b x).length = st.length := fun x => by simp
  suffices main : ∀ PP : R D → Prop, (∀ (key : Key) (i r : Int), KeyT j key → Bag (st.set b (bagL k i r (n + 3))) b k cells (n + 3) → PP (.ok (dk key) (st.set b (bagL k i r (n + 3))))) → PP (mLValue [.loc b, .int (j : Int)] st) from main (fun res => ∃ (key : Key) (i r : Int), res = .ok (dk key) (st.set b (bagL k i r (n + 3))) ∧ KeyT j key ∧ Bag (st.set b (bagL k i r (n + 3))) b k cells (n + 3)) fun key i r h1 h2 => ⟨key, i, r, rfl, h1, h2⟩
  intro PP fini
  have key : ∀ z : Int, z.natAbs % 100 = j → z.natAbs < 10 ^ 27 → PP
      (fin st (mSeq (mIfS (mB (m2 (fEq false) (mCall 2 (nx mLTake) (mCons (mVar 0) (mCons (mC (.int 3)) mNil))) (mC (.int 0)))) (mRet (mCB fStr (mCons (mVar 2) mNil))) mNext) (mRet (mVar 2)) [some (.loc b), some (.int (j : Int)), some (.int z)] (st.set b (bagL k i2 r2 (n + 2))))) := fun z hz1 hz2 => by
    have hz3 : z.natAbs.log2 < 1920 := log_small (Nat.lt_of_lt_of_le hz2 (by decide +kernel)) (by decide)
    wtm_at "ev"
    simp only [e3]
    wtm_at "ev"
    by_cases h3 : d3 = 0
    · simp only [decide_eq_true h3, fStr, hz3]
      wtm_at "ev"
      rw [show fin st (.rt (.str (toString z)) (st.set b (bagL k i3 r3 (n + 3)))) = .ok (dk (.inr (Str.ofString (toString z)))) (st.set b (bagL k i3 r3 (n + 3))) from finD_same (hl _)]
      exact fini _ _ _ ⟨z, hz1, hz2, .inr rfl⟩ B3
    · simp only [decide_eq_false h3]
      wtm_at "ev"
      rw [show fin st (.rt (.int z) (st.set b (bagL k i3 r3 (n + 3)))) = .ok (dk (.inl z)) (st.set b (bagL k i3 r3 (n + 3))) from finD_same (hl _)]
      exact fini _ _ _ ⟨z, hz1, hz2, .inl rfl⟩ B3
  have main : PP (mLValue [.loc b, .int (j : Int)] st) := by
    unfold mLValue fnM mbLValue
    refine seq_inv (P := fun r => PP (fin st r)) (fun e s => s = st.set b (bagL k i1 r1 (n + 1)) ∧ e = [some (.loc b), some (.int (j : Int)), some (.int (d1 * 100 + j))]) ?_ ?_
    · wtm_at "ev"
      simp only [pw, e1]
      try wtm_at "ev"
      simp only [mul_int' hm, fadd_int]
      try wtm_at "ev"
      exact ⟨rfl, rfl⟩
    rintro e s ⟨rfl, rfl⟩
    refine seq_inv (P := fun r => PP (fin st r)) (fun e s => s = st.set b (bagL k i2 r2 (n + 2)) ∧ ∃ z : Int, z.natAbs % 100 = j ∧ z.natAbs < 10 ^ 27 ∧ e = [some (.loc b), some (.int (j : Int)), some (.int z)]) ?_ ?_
    · wtm_at "ev"
      simp only [e2]
      wtm_at "ev"
      by_cases h2 : 0 < d2
      · simp only [decide_eq_true h2]
        wtm_at "ev"
        exact ⟨rfl, _, by omega, by omega, rfl⟩
      · simp only [decide_eq_false h2]
        wtm_at "ev"
        exact ⟨rfl, _, by omega, by omega, rfl⟩
    rintro e s ⟨rfl, z, hz1, hz2, rfl⟩
    exact key z hz1 hz2
  exact main
theorem mLPutIn_eq {st : S} {b k r : Nat} {cells : List Int} {n sh : Int} {l : List D} {v : D} (hB : Bag st b k cells n) (hn : n < 90000) (hr : st[r]? = some (.lst l)) (rb : r ≠ b) (rk : r ≠ k) (hl : l.length ≤ 1000) :
    ∃ (i : Nat) (i1 r1 : Int), mLPutIn [.loc b, .loc r, v, .int sh] st = .ok .non ((st.set b (bagL k i1 r1 (n + 1))).set r (.lst (l.take i ++ [v] ++ l.drop i))) ∧ i ≤ l.length ∧ Bag ((st.set b (bagL k i1 r1 (n + 1))).set r (.lst (l.take i ++ [v] ++ l.drop i))) b k cells (n + 1) := by
  obtain ⟨d1, i1, r1, e1, a1, b1, B1⟩ := mLTake_eq (m := (l.length : Int) + 1) hB (by omega) (by omega) (by omega)
  have hr1 : (st.set b (bagL k i1 r1 (n + 1)))[r]? = some (.lst l) := by rw [List.getElem?_set_ne (Ne.symm rb)]; exact hr
  have rl := (List.getElem?_eq_some_iff.mp hr).1
  have BB : ∀ o, Bag ((st.set b (bagL k i1 r1 (n + 1))).set r o) b k cells (n + 1) := fun o => by
    obtain ⟨⟨i, rr, q1, q2, q3⟩, q4, q5, q6⟩ := B1
    exact ⟨⟨i, rr, by rw [List.getElem?_set_ne rb]; exact q1, q2, q3⟩, by rw [List.getElem?_set_ne rk]; exact q4, q5, q6⟩
  suffices main : ∀ PP : R D → Prop, (∀ (i : Nat), i ≤ l.length → PP (.ok .non ((st.set b (bagL k i1 r1 (n + 1))).set r (.lst (l.take i ++ [v] ++ l.drop i))))) → PP (mLPutIn [.loc b, .loc r, v, .int sh] st) from main (fun res => ∃ (i : Nat) (i1 r1 : Int), res = .ok .non ((st.set b (bagL k i1 r1 (n + 1))).set r (.lst (l.take i ++ [v] ++ l.drop i))) ∧ i ≤ l.length ∧ Bag ((st.set b (bagL k i1 r1 (n + 1))).set r (.lst (l.take i ++ [v] ++ l.drop i))) b k cells (n + 1)) fun i hi => ⟨i, i1, r1, rfl, hi, BB _⟩
  intro PP fini
  have main : PP (mLPutIn [.loc b, .loc r, v, .int sh] st) := by
    unfold mLPutIn fnM mbLPutIn
    refine seq_inv (P := fun r => PP (fin st r)) (fun e s => s = st.set b (bagL k i1 r1 (n + 1)) ∧ e = [some (.loc b), some (.loc r), some v, some (.int sh), some (.int d1)]) ?_ ?_
    · wtm_at "ev"
      simp only [len_lst hr]
      try wtm_at "ev"
      simp only [e1]
      try wtm_at "ev"
      exact ⟨rfl, rfl⟩
    rintro e s ⟨rfl, rfl⟩
    refine seq_inv (P := fun r => PP (fin st r)) (fun e s => s = st.set b (bagL k i1 r1 (n + 1)) ∧ ∃ i : Nat, i ≤ l.length ∧ e = [some (.loc b), some (.loc r), some v, some (.int sh), some (.int (i : Int))]) ?_ ?_
    · wtm_at "ev"
      by_cases h : sh = 1
      · simp only [decide_eq_true h]
        wtm_at "ev"
        simp only [len_lst hr1]
        exact ⟨rfl, l.length, Nat.le_refl _, rfl⟩
      · simp only [decide_eq_false h]
        exact ⟨rfl, d1.toNat, by omega, by rw [Int.toNat_of_nonneg a1]⟩
    rintro e s ⟨rfl, i, hi, rfl⟩
    refine seq_inv (P := fun r => PP (fin st r)) (fun e s => s = st.set b (bagL k i1 r1 (n + 1)) ∧ ∃ i : Nat, i ≤ l.length ∧ e = [some (.loc b), some (.loc r), some v, some (.int sh), some (.int (i : Int))]) ?_ ?_
    · wtm_at "ev"
      by_cases h : sh = 2
      · simp only [decide_eq_true h]
        exact ⟨rfl, 0, Nat.zero_le _, rfl⟩
      · simp only [decide_eq_false h]
        exact ⟨rfl, i, hi, rfl⟩
    rintro e s ⟨rfl, i, hi, rfl⟩
    wtm_at "ev"
    have hz : l.length < sizeLine := Nat.lt_of_le_of_lt hl (by have := big_line; omega)
    simp only [rdL_of hr1, fInsert, hr1, hz, show (0 : Int) ≤ (i : Int) by omega, okR_mk (show (0 : Int) ≤ (i : Int) by omega) (show (i : Int) ≤ 100000 by omega), and_self, if_true, Int.toNat_natCast]
    rw [show fin st (.nx [some (.loc b), some (.loc r), some v, some (.int sh), some (.int (i : Int))] ((st.set b (bagL k i1 r1 (n + 1))).set r (.lst (l.take i ++ [v] ++ l.drop i)))) = .ok .non ((st.set b (bagL k i1 r1 (n + 1))).set r (.lst (l.take i ++ [v] ++ l.drop i))) from finD_same (by simp)]
    exact fini i hi
  exact main

theorem mLRows_eq {st : S} {b k : Nat} {cells : List Int} (hB : Bag st b k cells 0) :
    ∃ (i r n : Int) (old new : List Key) (N : Nat), mLRows [.loc b] st = .ok (.loc (st.length + 2)) (st.set b (bagL k i r n) ++ [O.lst (old.map dk), O.lst (new.map dk), O.lst [.loc st.length, .loc (st.length + 1)]]) ∧
      Bag (st.set b (bagL k i r n) ++ [O.lst (old.map dk), O.lst (new.map dk), O.lst [.loc st.length, .loc (st.length + 1)]]) b k cells n ∧ n ≤ 1000 ∧ N ≤ 30 ∧ RowN N old ∧ RowN N new := by
  obtain ⟨i0, r0, hb0, _, _⟩ := hB.at_
  have hbl := (List.getElem?_eq_some_iff.mp hb0).1
  have hkl := (List.getElem?_eq_some_iff.mp hB.cells).1
  let T : O → List Key → List Key → S := fun g old new => st.set b g ++ [O.lst (old.map dk), O.lst (new.map dk), O.lst [.loc st.length, .loc (st.length + 1)]]
  have T0 : ∀ g old new, (T g old new)[st.length]? = some (.lst (old.map dk)) := fun g old new => by
    show (st.set b g ++ _)[st.length]? = _
    rw [List.getElem?_append_right (by simp)]
    simp
  have T1 : ∀ g old new, (T g old new)[st.length + 1]? = some (.lst (new.map dk)) := fun g old new => by
    show (st.set b g ++ _)[st.length + 1]? = _
    rw [List.getElem?_append_right (by simp), List.length_set, show st.length + 1 - st.length = 1 by omega]
    rfl
  have T2 : ∀ g old new, (T g old new)[st.length + 2]? = some (.lst [.loc st.length, .loc (st.length + 1)]) := fun g old new => by
    show (st.set b g ++ _)[st.length + 2]? = _
    rw [List.getElem?_append_right (by simp), List.length_set, show st.length + 2 - st.length = 2 by omega]
    rfl
  have Sb : ∀ g g' old new, (T g old new).set b g' = T g' old new := fun g g' old new => by
    show (st.set b g ++ _).set b g' = _
    rw [List.set_append_left _ _ (by simpa using hbl), List.set_set]
  have S0 : ∀ g old new (l : List Key), (T g old new).set st.length (.lst (l.map dk)) = T g l new := fun g old new l => by
    show (st.set b g ++ _).set st.length _ = _
    rw [List.set_append_right _ _ (by simp), List.length_set, Nat.sub_self]
    rfl
  have S1 : ∀ g old new (l : List Key), (T g old new).set (st.length + 1) (.lst (l.map dk)) = T g old l := fun g old new l => by
    show (st.set b g ++ _).set (st.length + 1) _ = _
    rw [List.set_append_right _ _ (by simp), List.length_set, show st.length + 1 - st.length = 1 by omega]
    rfl
  suffices main : ∀ PP : R D → Prop, (∀ (g : O) (n : Int) (old new : List Key) (N : Nat), Bag (T g old new) b k cells n → (∃ i r, g = bagL k i r n) → n ≤ 1000 → N ≤ 30 → RowN N old → RowN N new → PP (.ok (.loc (st.length + 2)) (T g old new))) → PP (mLRows [.loc b] st) from
    main (fun res => ∃ (i r n : Int) (old new : List Key) (N : Nat), res = .ok (.loc (st.length + 2)) (st.set b (bagL k i r n) ++ [O.lst (old.map dk), O.lst (new.map dk), O.lst [.loc st.length, .loc (st.length + 1)]]) ∧
      Bag (st.set b (bagL k i r n) ++ [O.lst (old.map dk), O.lst (new.map dk), O.lst [.loc st.length, .loc (st.length + 1)]]) b k cells n ∧ n ≤ 1000 ∧ N ≤ 30 ∧ RowN N old ∧ RowN N new) fun g n old new N h1 ⟨i, r, h2⟩ h3 h4 h5 h6 => by
        subst h2
        exact ⟨i, r, n, old, new, N, rfl, h1, h3, h4, h5, h6⟩
  intro PP fini
  have main : PP (mLRows [.loc b] st) := by
    unfold mLRows fnM mbLRows
    obtain ⟨d1, i1, r1, e1, a1, b1, B1⟩ := mLTake_eq (m := 9) hB (by omega) (by decide) (by decide)
    refine seq_inv (P := fun r => PP (fin st r)) (fun e s => s = st.set b (bagL k i1 r1 1) ∧ e = [some (.loc b), some (.int d1), none, none, none, none, none, none]) ?_ ?_
    · wtm_at "ev"
      simp only [e1]
      exact ⟨rfl, rfl⟩
    rintro e s ⟨rfl, rfl⟩
    have B1 : Bag (st.set b (bagL k i1 r1 1)) b k cells 1 := B1
    obtain ⟨d2, i2, r2, e2, a2, b2, B2⟩ := mLTake_eq (m := 8) B1 (by omega) (by decide) (by decide)
    rw [List.set_set] at e2 B2
    refine seq_inv (P := fun r => PP (fin st r)) (fun e s => s = st.set b (bagL k i2 r2 2) ∧ ∃ N : Nat, N ≤ 30 ∧ e = [some (.loc b), some (.int (N : Int)), none, none, none, none, none, none]) ?_ ?_
    · wtm_at "ev"
      simp only [e2]
      wtm_at "ev"
      by_cases h : d2 = 0
      · simp only [decide_eq_true h]
        wtm_at "ev"
        exact ⟨rfl, (d1 + 20).toNat, by omega, by rw [Int.toNat_of_nonneg (by omega)]⟩
      · simp only [decide_eq_false h]
        wtm_at "ev"
        exact ⟨rfl, d1.toNat, by omega, by rw [Int.toNat_of_nonneg a1]⟩
    rintro e s ⟨rfl, N, hN, rfl⟩
    have B2 : Bag (st.set b (bagL k i2 r2 2)) b k cells 2 := B2
    obtain ⟨d3, i3, r3, e3, a3, b3, B3⟩ := mLTake_eq (m := 4) B2 (by omega) (by decide) (by decide)
    rw [List.set_set] at e3 B3
    have B3 : Bag (st.set b (bagL k i3 r3 3)) b k cells 3 := B3
    obtain ⟨d4, i4, r4, e4, a4, b4, B4⟩ := mLTake_eq (m := 3) B3 (by omega) (by decide) (by decide)
    rw [List.set_set] at e4 B4
    have B4 : Bag (st.set b (bagL k i4 r4 4)) b k cells 4 := B4
    refine seq_inv (P := fun r => PP (fin st r)) (fun e s => s = st.set b (bagL k i3 r3 3) ∧ e = [some (.loc b), some (.int (N : Int)), some (.int d3), none, none, none, none, none]) ?_ ?_
    · wtm_at "ev"
      simp only [e3]
      exact ⟨rfl, rfl⟩
    rintro e s ⟨rfl, rfl⟩
    refine seq_inv (P := fun r => PP (fin st r)) (fun e s => s = st.set b (bagL k i4 r4 4) ∧ e = [some (.loc b), some (.int (N : Int)), some (.int d3), some (.int d4), none, none, none, none]) ?_ ?_
    · wtm_at "ev"
      simp only [show (3 : Int) + 1 = 4 from rfl] at e4
      simp only [e4]
      exact ⟨rfl, rfl⟩
    rintro e s ⟨rfl, rfl⟩
    refine seq_inv (P := fun r => PP (fin st r)) (fun e s => s = T (bagL k i4 r4 4) [] [] ∧ e = [some (.loc b), some (.int (N : Int)), some (.int d3), some (.int d4), some (.loc (st.length + 2)), none, none, none]) ?_ ?_
    · wtm_at "ev"
      rw [if_pos (Nat.zero_le _)]
      simp only
      rw [if_pos (Nat.zero_le _)]
      simp only
      try wtm_at "ev"
      rw [if_pos (show (2 : Nat) ≤ sizeLine by decide +kernel)]
      refine ⟨?_, ?_⟩
      · simp [T]
      · simp
    rintro e s ⟨rfl, rfl⟩
    have BT : ∀ {g g' : O} {o w o' w' : List Key} {n : Int}, Bag (T g o w) b k cells n → Bag (T g o' w') b k cells n := fun {g g' o w o' w' n} h => by
      obtain ⟨⟨i, r, q1, q2, q3⟩, q4, q5, q6⟩ := h
      have lb : b < (st.set b g).length := by simpa using hbl
      have lk : k < (st.set b g).length := by simpa using hkl
      refine ⟨⟨i, r, ?_, q2, q3⟩, ?_, q5, q6⟩
      · show (st.set b g ++ _)[b]? = _
        have q1 : (st.set b g ++ _)[b]? = _ := q1
        rw [List.getElem?_append_left lb] at q1 ⊢
        exact q1
      · show (st.set b g ++ _)[k]? = _
        have q4 : (st.set b g ++ _)[k]? = _ := q4
        rw [List.getElem?_append_left lk] at q4 ⊢
        exact q4
    have BT4 : Bag (T (bagL k i4 r4 4) [] []) b k cells 4 := by
      obtain ⟨⟨i, r, q1, q2, q3⟩, q4, q5, q6⟩ := B4
      refine ⟨⟨i, r, ?_, q2, q3⟩, ?_, q5, q6⟩
      · show (st.set b _ ++ _)[b]? = _
        rw [List.getElem?_append_left (by simpa using hbl)]
        exact q1
      · show (st.set b _ ++ _)[k]? = _
        rw [List.getElem?_append_left (by simpa using hkl)]
        exact q4
    -- the loop
    refine seq_inv (P := fun r => PP (fin st r)) (fun e s => ∃ (g : O) (n : Int) (old new : List Key) (x y w : Option D), s = T g old new ∧ Bag (T g old new) b k cells n ∧ (∃ i r, g = bagL k i r n) ∧ n ≤ 1000 ∧ RowN N old ∧ RowN N new ∧ e = [some (.loc b), some (.int (N : Int)), some (.int d3), some (.int d4), some (.loc (st.length + 2)), x, y, w]) ?_ ?_
    · refine for_inv (P := NP _ _) (it := itR 0 N) (st1 := T (bagL k i4 r4 4) [] []) ?_ (fun (j : Nat) (e : Ev) (s : S) => ∃ (g : O) (n : Int) (old new : List Key) (x y w : Option D), s = T g old new ∧ Bag (T g old new) b k cells n ∧ (∃ i r, g = bagL k i r n) ∧ n ≤ 4 + 7 * (j : Int) ∧ RowN j old ∧ RowN j new ∧ e = [some (.loc b), some (.int (N : Int)), some (.int d3), some (.int d4), some (.loc (st.length + 2)), x, y, w]) N (fuel_lt (by omega)) ?_ ?_ ?_
      · wtm_at "ev"
        have ok : okR (N : Int) = true := okR_mk (by omega) (by omega)
        simp only [ok, if_true, Int.toNat_natCast]
      · exact ⟨_, 4, [], [], none, none, none, rfl, BT4, ⟨_, _, rfl⟩, by omega, ⟨List.nodup_nil, by simp, by simp⟩, ⟨List.nodup_nil, by simp, by simp⟩, rfl⟩
      · rintro j e s hj ⟨g, n, old, new, x, y, w, rfl, hBg, ⟨gi, gr, hg⟩, hn, ro, rn, rfl⟩
        refine ⟨.int (j : Int), [some (.loc b), some (.int (N : Int)), some (.int d3), some (.int d4), some (.loc (st.length + 2)), some (.int (j : Int)), y, w], T g old new, by unfold itR; rw [if_pos hj, Int.zero_add], rfl, ?_⟩
        obtain ⟨key, i5, r5, e5, kt, B5⟩ := mLValue_eq hBg (by omega) (show j < 100 by omega)
        rw [Sb] at e5 B5
        refine seq_inv (P := LP _ _) (fun e s => s = T (bagL k i5 r5 (n + 3)) old new ∧ e = [some (.loc b), some (.int (N : Int)), some (.int d3), some (.int d4), some (.loc (st.length + 2)), some (.int (j : Int)), some (dk key), w]) ?_ ?_
        · wtm_at "ev"
          simp only [e5]
          exact ⟨rfl, rfl⟩
        rintro e s ⟨rfl, rfl⟩
        obtain ⟨d6, i6, r6, e6, a6, b6, B6⟩ := mLTake_eq (m := 5) B5 (by omega) (by decide) (by decide)
        rw [Sb] at e6 B6
        rw [show n + 3 + 1 = n + 4 by omega] at e6 B6
        refine seq_inv (P := LP _ _) (fun e s => s = T (bagL k i6 r6 (n + 4)) old new ∧ e = [some (.loc b), some (.int (N : Int)), some (.int d3), some (.int d4), some (.loc (st.length + 2)), some (.int (j : Int)), some (dk key), some (.int d6)]) ?_ ?_
        · wtm_at "ev"
          simp only [e6]
          exact ⟨rfl, rfl⟩
        rintro e s ⟨rfl, rfl⟩
        have hne0 : st.length ≠ b := by omega
        have hne0' : st.length ≠ k := by omega
        have hne1 : st.length + 1 ≠ b := by omega
        have hne1' : st.length + 1 ≠ k := by omega
        have lo : old.length ≤ 1000 := by have := ro.len; omega
        have ln : new.length ≤ 1000 := by have := rn.len; omega
        have ix0 : ∀ g o w, fIx (.loc (st.length + 2)) (.int 0) (T g o w) = .ok (.loc st.length) (T g o w) := fun g o w => ix_lst (T2 g o w) rfl
        have ix1 : ∀ g o w, fIx (.loc (st.length + 2)) (.int 1) (T g o w) = .ok (.loc (st.length + 1)) (T g o w) := fun g o w => ix_lst (T2 g o w) rfl
        -- put in: any key at any of the two rows
        have put0 : ∀ {g : O} {n : Int} {o w : List Key} {sh : Int} {ky : Key}, Bag (T g o w) b k cells n → n < 90000 → o.length ≤ 1000 → ∃ (i : Nat) (i1 r1 : Int), mLPutIn [.loc b, .loc st.length, dk ky, .int sh] (T g o w) = .ok .non (T (bagL k i1 r1 (n + 1)) (insK o i ky) w) ∧ Bag (T (bagL k i1 r1 (n + 1)) (insK o i ky) w) b k cells (n + 1) := fun {g n o w sh ky} h1 h2 h3 => by
          obtain ⟨i, i1, r1, e, hi, B⟩ := mLPutIn_eq (sh := sh) (v := dk ky) h1 h2 (T0 g o w) hne0 hne0' (by simpa using h3)
          rw [Sb, insK_map, S0] at e B
          exact ⟨i, i1, r1, e, B⟩
        have put1 : ∀ {g : O} {n : Int} {o w : List Key} {sh : Int} {ky : Key}, Bag (T g o w) b k cells n → n < 90000 → w.length ≤ 1000 → ∃ (i : Nat) (i1 r1 : Int), mLPutIn [.loc b, .loc (st.length + 1), dk ky, .int sh] (T g o w) = .ok .non (T (bagL k i1 r1 (n + 1)) o (insK w i ky)) ∧ Bag (T (bagL k i1 r1 (n + 1)) o (insK w i ky)) b k cells (n + 1) := fun {g n o w sh ky} h1 h2 h3 => by
          obtain ⟨i, i1, r1, e, hi, B⟩ := mLPutIn_eq (sh := sh) (v := dk ky) h1 h2 (T1 g o w) hne1 hne1' (by simpa using h3)
          rw [Sb, insK_map, S1] at e B
          exact ⟨i, i1, r1, e, B⟩
        have nko := ro.no kt
        have nkn := rn.no kt
        refine seq_inv (P := LP _ _) (fun e s => ∃ g n' o', s = T g o' new ∧ Bag (T g o' new) b k cells n' ∧ (∃ i r, g = bagL k i r n') ∧ n' ≤ n + 5 ∧ RowM j 1 o' ∧ (∀ z ∈ o', z ∈ old ∨ z = key) ∧ e = [some (.loc b), some (.int (N : Int)), some (.int d3), some (.int d4), some (.loc (st.length + 2)), some (.int (j : Int)), some (dk key), some (.int d6)]) ?_ ?_
        · wtm_at "ev"
          by_cases h : d6 = 1
          · simp only [decide_eq_true h]
            wtm_at "ev"
            exact ⟨_, _, old, rfl, B6, ⟨_, _, rfl⟩, by omega, ro.m.mono (by omega), fun z hz => .inl hz, rfl⟩
          · simp only [decide_eq_false h]
            wtm_at "ev"
            obtain ⟨i, i1, r1, e, B⟩ := put0 (sh := 1) (ky := key) B6 (by omega) lo
            simp only [ix0]
            wtm_at "ev"
            simp only [e]
            exact ⟨_, _, _, rfl, B, ⟨_, _, rfl⟩, by omega, ro.m.ins kt nko i, fun z hz => insK_mem hz, rfl⟩
        rintro e s ⟨g7, n7, o7, rfl, B7, hg7, hn7, rm7, mem7, rfl⟩
        refine seq_inv (P := LP _ _) (fun e s => ∃ g n' w', s = T g o7 w' ∧ Bag (T g o7 w') b k cells n' ∧ (∃ i r, g = bagL k i r n') ∧ n' ≤ n + 6 ∧ RowM j 1 w' ∧ (∀ z ∈ w', z ∈ new ∨ z = key) ∧ e = [some (.loc b), some (.int (N : Int)), some (.int d3), some (.int d4), some (.loc (st.length + 2)), some (.int (j : Int)), some (dk key), some (.int d6)]) ?_ ?_
        · wtm_at "ev"
          by_cases h : d6 = 0
          · simp only [decide_eq_true h]
            wtm_at "ev"
            exact ⟨_, _, new, rfl, B7, hg7, by omega, rn.m.mono (by omega), fun z hz => .inl hz, rfl⟩
          · simp only [decide_eq_false h]
            wtm_at "ev"
            obtain ⟨i, i1, r1, e, B⟩ := put1 (sh := d3) (ky := key) B7 (by omega) ln
            simp only [ix1]
            wtm_at "ev"
            simp only [e]
            exact ⟨_, _, _, rfl, B, ⟨_, _, rfl⟩, by omega, rn.m.ins kt nkn i, fun z hz => insK_mem hz, rfl⟩
        rintro e s ⟨g8, n8, w8, rfl, B8, hg8, hn8, rm8, mem8, rfl⟩
        have stop : LP (fun e s => ∃ (g : O) (n : Int) (old new : List Key) (x y w : Option D), s = T g old new ∧ Bag (T g old new) b k cells n ∧ (∃ i r, g = bagL k i r n) ∧ n ≤ 4 + 7 * ((j + 1 : Nat) : Int) ∧ RowN (j + 1) old ∧ RowN (j + 1) new ∧ e = [some (.loc b), some (.int (N : Int)), some (.int d3), some (.int d4), some (.loc (st.length + 2)), x, y, w]) (NP (fun e s => ∃ (g : O) (n : Int) (old new : List Key) (x y w : Option D), s = T g old new ∧ Bag (T g old new) b k cells n ∧ (∃ i r, g = bagL k i r n) ∧ n ≤ 1000 ∧ RowN N old ∧ RowN N new ∧ e = [some (.loc b), some (.int (N : Int)), some (.int d3), some (.int d4), some (.loc (st.length + 2)), x, y, w]) fun r => PP (fin st r)) (.nx [some (.loc b), some (.int (N : Int)), some (.int d3), some (.int d4), some (.loc (st.length + 2)), some (.int (j : Int)), some (dk key), some (.int d6)] (T g8 o7 w8)) :=
          ⟨g8, n8, o7, w8, _, _, _, rfl, B8, hg8, by omega, rm7.n (by omega), rm8.n (by omega), rfl⟩
        wtm_at "ev"
        by_cases h1 : d4 = 0
        · simp only [decide_eq_true h1]
          wtm_at "ev"
          by_cases h2 : (j : Int) < 3
          · simp only [decide_eq_true h2]
            rw [isi_str_dk]
            cases key with
            | inr z => exact stop
            | inl z =>
              wtm_at "ev"
              have kt' : KeyT j (.inr (Str.ofString (toString z))) := by
                obtain ⟨i, c1, c2, c3⟩ := kt
                rcases c3 with c3 | c3
                · cases c3
                  exact ⟨z, c1, c2, .inr rfl⟩
                · cases c3
              have hz : z.natAbs.log2 < 1920 := by
                obtain ⟨i, c1, c2, c3⟩ := kt
                rcases c3 with c3 | c3
                · cases c3
                  exact log_small (Nat.lt_of_lt_of_le c2 (by decide +kernel)) (by decide)
                · cases c3
              have no7 : (.inr (Str.ofString (toString z)) : Key) ∉ o7 := fun m => by
                rcases mem7 _ m with m | m
                · exact ro.no kt' m
                · cases m
              have no8 : (.inr (Str.ofString (toString z)) : Key) ∉ w8 := fun m => by
                rcases mem8 _ m with m | m
                · exact rn.no kt' m
                · cases m
              have lo7 : o7.length ≤ 1000 := by have := rm7.len; omega
              have lw8 : w8.length ≤ 1000 := by have := rm8.len; omega
              simp only [mod_int' (show (0 : Int) < 2 by decide)]
              have fs : ∀ s : S, fStr [dk (.inl z)] s = .ok (dk (.inr (Str.ofString (toString z)))) s := fun s => by
                show (if z.natAbs.log2 < 1920 then _ else _) = _
                rw [if_pos hz]
                rfl
              rcases (show d6 % 2 = 0 ∨ d6 % 2 = 1 by omega) with h3 | h3
              · obtain ⟨i, i1, r1, e, B⟩ := put0 (sh := 0) (ky := .inr (Str.ofString (toString z))) B8 (by omega) lo7
                simp only [h3, ix0, fs]
                try wtm_at "ev"
                simp only [e]
                exact ⟨_, _, _, _, _, _, _, rfl, B, ⟨_, _, rfl⟩, by omega, (rm7.ins kt' no7 i).n (by omega), rm8.n (by omega), rfl⟩
              · obtain ⟨i, i1, r1, e, B⟩ := put1 (sh := 0) (ky := .inr (Str.ofString (toString z))) B8 (by omega) lw8
                simp only [h3, ix1, fs]
                try wtm_at "ev"
                simp only [e]
                exact ⟨_, _, _, _, _, _, _, rfl, B, ⟨_, _, rfl⟩, by omega, rm7.n (by omega), (rm8.ins kt' no8 i).n (by omega), rfl⟩
          · simp only [decide_eq_false h2]
            exact stop
        · simp only [decide_eq_false h1]
          exact stop
      · rintro e s ⟨g, n, old, new, x, y, w, rfl, hBg, hg, hn, ro, rn, rfl⟩
        exact ⟨by unfold itR; rw [if_neg (Nat.lt_irrefl _)], g, n, old, new, x, y, w, rfl, hBg, hg, by omega, ro, rn, rfl⟩
    rintro e s ⟨g, n, old, new, x, y, w, rfl, hBg, hg, hn, ro, rn, rfl⟩
    show PP (finD st (.loc (st.length + 2)) (T g old new))
    rw [finD_deep (by omega) (T2 g old new) (by simp [lowO, lows, low])]
    exact fini g n old new N hBg hg hn hN ro rn
  exact main

/-- the first yes -/
def firstT (bs : List Bool) : Int := match bs.findIdx? id with
  | some j => (j : Int)
  | none => -1
theorem firstT_le (bs : List Bool) : -1 ≤ firstT bs ∧ firstT bs < bs.length := by
  unfold firstT
  cases e : bs.findIdx? id with
  | none => simp; omega
  | some j =>
    have := (List.findIdx?_eq_some_iff_getElem.mp e).1
    simp only
    omega
theorem mLPlace_gen {st : S} {r : Nat} {l : List D} {v : D} {vs : Bool} {bs : List Bool} (h : st[r]? = some (.lst l)) (hl : l.length ≤ 90000) (hbl : bs.length = l.length) (hv : fIsi [v, .ty "str"] st = .ok (.bl vs) st)
    (hb : ∀ (i : Nat) x b, l[i]? = some x → bs[i]? = some b → ∃ xs, fIsi [x, .ty "str"] st = .ok (.bl xs) st ∧ (xs = vs → fEq false x v st = .ok (.bl b) st) ∧ (xs ≠ vs → b = false)) :
    mLPlace [.loc r, v] st = .ok (.int (firstT bs)) st := by
  have fn : ∀ d, fin st (.rt d st) = .ok d st := fun d => finD_same rfl
  unfold mLPlace fnM mbLPlace
  refine seq_inv (P := fun r => fin st r = _) (fun e s => s = st ∧ (bs.findIdx? id = none)) ?_ ?_
  · refine for_inv (it := itR 0 l.length) (st1 := st) ?_ (fun i e s => s = st ∧ (∃ y, e = [some (.loc r), some v, y]) ∧ ∀ j, j < i → bs[j]? = some false) l.length (fuel_lt (by omega)) ?_ ?_ ?_
    · wtm_at "ev"
      simp only [len_lst h, okR_mk (show (0 : Int) ≤ (l.length : Int) by omega) (show (l.length : Int) ≤ 100000 by omega), if_true, Int.toNat_natCast]
    · exact ⟨rfl, ⟨none, rfl⟩, fun j hj => by omega⟩
    · rintro i e s hi ⟨rfl, ⟨y, rfl⟩, hf⟩
      have g1 := List.getElem?_eq_getElem hi
      have g2 := List.getElem?_eq_getElem (show i < bs.length by omega)
      generalize l[i] = x at g1
      generalize bs[i] = b at g2
      refine ⟨.int (i : Int), [some (.loc r), some v, some (.int (i : Int))], s, by unfold itR; rw [if_pos hi, Int.zero_add], rfl, ?_⟩
      have ix : fIx (.loc r) (.int (i : Int)) s = .ok x s := ix_lst h (L2.atI_nat g1)
      obtain ⟨xs, x1, x2, x3⟩ := hb i x b g1 g2
      have go : b = false → LP (fun e s' => s' = s ∧ (∃ y, e = [some (.loc r), some v, y]) ∧ ∀ j, j < i + 1 → bs[j]? = some false) (NP (fun e s' => s' = s ∧ (bs.findIdx? id = none)) fun r => fin s r = .ok (.int (firstT bs)) s) (.nx [some (.loc r), some v, some (.int (i : Int))] s) := fun hb0 =>
        ⟨rfl, ⟨_, rfl⟩, fun j hj => by
          by_cases hji : j = i
          · rw [hji, g2, hb0]
          · exact hf j (by omega)⟩
      wtm_at "ev"
      simp only [ix]
      try wtm_at "ev"
      simp only [x1, hv]
      try wtm_at "ev"
      by_cases hx : xs = vs
      · simp only [decide_eq_true hx]
        try wtm_at "ev"
        simp only [ix]
        try wtm_at "ev"
        simp only [x2 hx]
        cases b with
        | false => exact go rfl
        | true =>
          show fin s (.rt (.int (i : Int)) s) = _
          rw [fn]
          have : bs.findIdx? id = some i := by
            rw [List.findIdx?_eq_some_iff_getElem]
            have hib := (List.getElem?_eq_some_iff.mp g2)
            obtain ⟨w1, w2⟩ := hib
            refine ⟨w1, by rw [w2]; rfl, fun j hj => ?_⟩
            have := hf j hj
            rw [List.getElem?_eq_getElem (by omega)] at this
            simp [Option.some.inj this]
          unfold firstT
          rw [this]
      · simp only [decide_eq_false hx]
        try wtm_at "ev"
        exact go (x3 hx)
    · rintro e s ⟨rfl, ⟨y, rfl⟩, hf⟩
      refine ⟨by unfold itR; rw [if_neg (Nat.lt_irrefl _)], rfl, ?_⟩
      rw [List.findIdx?_eq_none_iff]
      intro b hb
      obtain ⟨j, hj⟩ := List.mem_iff_getElem?.mp hb
      have hjl := (List.getElem?_eq_some_iff.mp hj).1
      rw [hf j (by omega)] at hj
      cases hj
      rfl
  · rintro e s ⟨rfl, hn⟩
    wtm_at "ev"
    rw [fn]
    unfold firstT
    rw [hn]
/-- the place of a key, as the law tells it -/
def plI (l : List Key) (k : Key) : Int := match ixK l k with
  | some i => (i : Int)
  | none => -1
theorem plI_mem {l : List Key} {k : Key} (h : k ∈ l) : plI l k = (pl l k : Int) := by unfold plI; rw [pl_some h]
theorem plI_out {l : List Key} {k : Key} (h : k ∉ l) : plI l k = -1 := by unfold plI; rw [ixK_none.mpr h]
theorem plI_pos {l : List Key} {k : Key} : 0 ≤ plI l k ↔ k ∈ l := by
  by_cases h : k ∈ l
  · rw [plI_mem h]
    exact ⟨fun _ => h, fun _ => by omega⟩
  · rw [plI_out h]
    exact ⟨fun z => by omega, fun z => absurd z h⟩
theorem first_keys (k : Key) : ∀ ks : List Key, (ks.map fun a => decide (a = k)).findIdx? id = ixK ks k
  | [] => rfl
  | a :: r => by
    rw [List.map_cons, List.findIdx?_cons, first_keys k r, show ixK (a :: r) k = if a = k then some 0 else (ixK r k).map (· + 1) from rfl]
    by_cases h : a = k
    · simp [h]
    · rw [if_neg h]
      simp only [id, decide_eq_false h, Bool.false_eq_true, if_false]
theorem mLPlace_keys {st : S} {r : Nat} {ks : List Key} {k : Key} (h : st[r]? = some (.lst (ks.map dk))) (hl : ks.length ≤ 90000) : mLPlace [.loc r, dk k] st = .ok (.int (plI ks k)) st := by
  have := mLPlace_gen (v := dk k) (bs := ks.map fun a => decide (a = k)) h (by simpa using hl) (by simp) isi_str_dk (fun i x b hx hb => by
    rw [List.getElem?_map] at hx hb
    obtain ⟨a, a1, rfl⟩ := Option.map_eq_some_iff.mp hx
    rw [a1] at hb
    cases hb
    refine ⟨_, isi_str_dk, fun _ => by rw [feq_dk]; rfl, fun hne => decide_eq_false fun e => hne (by rw [e])⟩)
  rw [this]
  unfold firstT plI
  rw [first_keys]

theorem mLCommon_eq {st : S} {a b : Nat} {old new : List Key} (ha : st[a]? = some (.lst (old.map dk))) (hb : st[b]? = some (.lst (new.map dk))) (lo : old.length ≤ 1000) (lw : new.length ≤ 1000) :
    mLCommon [.loc a, .loc b] st = .ok (.loc st.length) (st ++ [O.lst ((old.filter fun k => kIn k new).map dk)]) := by
  have la := (List.getElem?_eq_some_iff.mp ha).1
  have lb := (List.getElem?_eq_some_iff.mp hb).1
  have lc := lc_pure (mi := mIt (mVar 0)) (it := itL a) (g := gNm 2) (t := mB (m2 fGe (mCall 2 (nx mLPlace) (mCons (mVar 1) (mCons (mVar 2) mNil))) (mC (.int 0)))) (m := mVar 2) (vs := [2]) (env := startM 3 [.loc a, .loc b]) (st0 := st) (st := st) (l := old.map dk)
    (fun d => match keyD d with | some k => kIn k new | none => false) (fun d => d)
    (by wtm_at "ev"; rw [rdL_of ha]) (by rw [List.length_map]; omega) (fun acc i hi => by
      unfold itL
      rw [rdL_app la, rdL_of ha]
      rfl)
    (fun i d acc hd => by
      rw [List.getElem?_map] at hd
      obtain ⟨k, _, rfl⟩ := Option.map_eq_some_iff.mp hd
      refine ⟨[some (.loc a), some (.loc b), some (dk k)], rfl, ?_, fun _ => rfl⟩
      wtm_at "ev"
      rw [mLPlace_keys (by rw [List.getElem?_append_left lb]; exact hb) (by omega)]
      wtm_at "ev"
      simp only [keyD_dk]
      congr 1
      by_cases h : k ∈ new
      · rw [kIn_iff.mpr h, decide_eq_true (plI_pos.mpr h)]
      · rw [kIn_no.mpr h, decide_eq_false fun z => h (plI_pos.mp z)])
  have cnt : (((old.map dk).filter fun d => match keyD d with | some k => kIn k new | none => false)).map (fun d => d) = (old.filter fun k => kIn k new).map dk := by
    rw [List.map_id', List.filter_map]
    congr 1
    refine List.filter_congr fun k _ => ?_
    show (match keyD (dk k) with | some k => kIn k new | none => false) = _
    rw [keyD_dk]
  rw [cnt] at lc
  unfold mLCommon fnM mbLCommon mRet
  rw [show mLc (mIt (mVar 0)) (gNm 2) (mB (m2 fGe (mCall 2 (nx mLPlace) (mCons (mVar 1) (mCons (mVar 2) mNil))) (mC (.int 0)))) (mVar 2) [2] (startM 3 [.loc a, .loc b]) st = _ from lc]
  exact finD_new1
/-- what the law's check of a row tells, by the places -/
def goB (old new : List Key) (l : List D) (s : Int) : Bool := comB old new l && match keysOf l with
  | some ks => ordG (fun k => (pl old k : Int)) (fun k => (pl new k : Int)) s ks
  | none => false
where ordG (p q : Key → Int) (s : Int) : List Key → Bool
  | [] => true
  | a :: r => match r with
    | [] => true
    | b :: _ => !(decide (p b ≤ p a) || decide (s * (q b - q a) ≤ 0)) && ordG p q s r
theorem ordG_eq (p q : Key → Int) (s : Int) : ∀ ks : List Key, goB.ordG p q s ks = (ordB p 1 ks && ordB q s ks)
  | [] => rfl
  | [a] => rfl
  | a :: b :: r => by
    have ih := ordG_eq p q s (b :: r)
    have e1 : goB.ordG p q s (a :: b :: r) = (!(decide (p b ≤ p a) || decide (s * (q b - q a) ≤ 0)) && goB.ordG p q s (b :: r)) := rfl
    have e2 : ordB p 1 (a :: b :: r) = (!decide (1 * (p b - p a) ≤ 0) && ordB p 1 (b :: r)) := rfl
    have e3 : ordB q s (a :: b :: r) = (!decide (s * (q b - q a) ≤ 0) && ordB q s (b :: r)) := rfl
    have e4 : decide (1 * (p b - p a) ≤ 0) = decide (p b ≤ p a) := decide_eq_decide.mpr (by omega)
    rw [e1, e2, e3, e4, ih]
    cases decide (p b ≤ p a) <;> cases decide (s * (q b - q a) ≤ 0) <;> cases ordB p 1 (b :: r) <;> cases ordB q s (b :: r) <;> rfl
theorem goB_up (old new : List Key) (l : List D) (s : Int) : goB old new l s = upB old new l s := by
  unfold goB upB
  cases keysOf l with
  | none => rfl
  | some ks => simp only [ordG_eq]
theorem ordG_drop {p q : Key → Int} {s : Int} {ks : List Key} {i : Nat} {a b : Key} (h1 : ks[i]? = some a) (h2 : ks[i + 1]? = some b) : goB.ordG p q s (ks.drop i) = (!(decide (p b ≤ p a) || decide (s * (q b - q a) ≤ 0)) && goB.ordG p q s (ks.drop (i + 1))) := by
  obtain ⟨k1, e1⟩ := List.getElem?_eq_some_iff.mp h1
  obtain ⟨k2, e2⟩ := List.getElem?_eq_some_iff.mp h2
  rw [List.drop_eq_getElem_cons k1, List.drop_eq_getElem_cons k2, e1, e2]
  rfl
theorem mLGoes_no {st : S} {a b : Nat} {d : D} {t : String} {s : Int} (ht : tyD st d = some t) (hn : t ≠ "list") : mLGoes [.loc a, .loc b, d, .int s] st = .ok (.bl false) st := by
  have e : isiT t "list" = some false := by
    rcases ty_kinds ht with ⟨rfl | rfl | rfl | rfl | rfl, _⟩ | ⟨rfl | rfl, _⟩ <;> first | rfl | exact absurd rfl hn
  unfold mLGoes fnM mbLGoes
  wtm_at "ev"
  rw [isi_of ht e]
  try wtm_at "ev"
  exact finD_same rfl

theorem atI_last (l : List D) (x : D) : atI (l ++ [x]) (-1) = some x := by
  unfold atI ixN
  rw [if_neg (by omega), if_pos (by rw [List.length_append]; simp; omega)]
  simp only [Option.bind_some, List.length_append, List.length_cons, List.length_nil]
  rw [show ((-1 : Int) + ((l.length + (0 + 1) : Nat) : Int)).toNat = l.length by omega, List.getElem?_append_right (Nat.le_refl _), Nat.sub_self]
  rfl
theorem comB_no {old new : List Key} {l : List D} {i : Nat} {x : D} (h : l[i]? = some x) (hx : oneC old new x = false) : comB old new l = false := by
  unfold comB
  rw [List.all_eq_false]
  exact ⟨x, List.mem_of_getElem? h, by rw [hx]; exact Bool.false_ne_true⟩
def pairD (old new : List Key) (k : Key) : D := .tup [.int (pl old k : Nat), .int (pl new k : Nat)]
theorem mLGoes_list {st : S} {a b n : Nat} {old new : List Key} {l : List D} {s : Int} (ha : st[a]? = some (.lst (old.map dk))) (hb : st[b]? = some (.lst (new.map dk))) (hn : st[n]? = some (.lst l)) (hi : ∀ d ∈ l, Item st d) (hl : l.length ≤ 1000) (lo : old.length ≤ 1000) (lw : new.length ≤ 1000) (hs : s = 1 ∨ s = -1) :
    mLGoes [.loc a, .loc b, .loc n, .int s] st = .ok (.bl (goB old new l s)) st := by
  have la := (List.getElem?_eq_some_iff.mp ha).1
  have lb := (List.getElem?_eq_some_iff.mp hb).1
  have ln := (List.getElem?_eq_some_iff.mp hn).1
  let T : List D → S := fun pl => st ++ [O.lst pl]
  have Told : ∀ pl {i : Nat} {o : O}, st[i]? = some o → (T pl)[i]? = some o := fun pl {i o} h => by
    show (st ++ _)[i]? = _
    rw [List.getElem?_append_left (List.getElem?_eq_some_iff.mp h).1]
    exact h
  have Tl : ∀ pl, (T pl)[st.length]? = some (.lst pl) := fun pl => app_last _ _
  have Ts : ∀ pl pl', (T pl).set st.length (.lst pl') = T pl' := fun pl pl' => set_last _ _ _
  have fn : ∀ pl x, fin st (.rt (.bl x) (T pl)) = .ok (.bl x) st := fun pl x => finD_cut (Chk.refl st) rfl (by simp [low])
  unfold mLGoes fnM mbLGoes
  refine seq_inv (P := fun r => fin st r = _) (fun e s' => s' = st ∧ e = startM 7 [.loc a, .loc b, .loc n, .int s]) ?_ ?_
  · wtm_at "ev"
    rw [isi_of (t := "list") (b := true) (by simp only [tyD, hn]) rfl]
    try wtm_at "ev"
    exact ⟨rfl, rfl⟩
  rintro e s' ⟨rfl, rfl⟩
  refine seq_inv (P := fun r => fin s' r = _) (fun e s1 => s1 = T [] ∧ e = [some (.loc a), some (.loc b), some (.loc n), some (.int s), some (.loc s'.length), none, none]) ?_ ?_
  · wtm_at "ev"
    rw [if_pos (Nat.zero_le _)]
    exact ⟨rfl, rfl⟩
  rintro e s1 ⟨rfl, rfl⟩
  refine seq_inv (P := fun r => fin s' r = _) (fun e s1 => ∃ (ks : List Key) (x : Option D), l = ks.map dk ∧ (∀ k ∈ ks, k ∈ old ∧ k ∈ new) ∧ s1 = T (ks.map (pairD old new)) ∧ e = [some (.loc a), some (.loc b), some (.loc n), some (.int s), some (.loc s'.length), x, none]) ?_ ?_
  · refine for_inv (it := itL n) (st1 := T []) ?_ (fun i e s1 => ∃ (ks : List Key) (x : Option D), l.take i = ks.map dk ∧ (∀ k ∈ ks, k ∈ old ∧ k ∈ new) ∧ s1 = T (ks.map (pairD old new)) ∧ e = [some (.loc a), some (.loc b), some (.loc n), some (.int s), some (.loc s'.length), x, none]) l.length (fuel_lt (by omega)) ?_ ?_ ?_
    · wtm_at "ev"
      rw [rdL_of (Told _ hn)]
    · exact ⟨[], none, rfl, by simp, rfl, rfl⟩
    · rintro i e s1 hil ⟨ks, x, tk, hk, rfl, rfl⟩
      have g1 := List.getElem?_eq_getElem hil
      generalize l[i] = d at g1
      obtain ⟨t, ht⟩ := hi d (List.mem_of_getElem? g1)
      have htT : tyD (T (ks.map (pairD old new))) d = some t := item_app ht
      have lks : ks.length = i := by
        have := congrArg List.length tk
        rw [List.length_take, List.length_map] at this
        omega
      refine ⟨d, [some (.loc a), some (.loc b), some (.loc n), some (.int s), some (.loc s'.length), some d, none], T (ks.map (pairD old new)), by unfold itL; rw [rdL_of (Told _ hn), Option.map_some, g1], rfl, ?_⟩
      have no : oneC old new d = false → ∀ pl, fin s' (.rt (.bl false) (T pl)) = .ok (.bl (goB old new l s)) s' := fun h pl => by
        rw [fn]
        unfold goB
        rw [comB_no g1 h]
        rfl
      refine seq_inv (P := LP _ _) (fun e s1 => (∃ k, d = dk k) ∧ s1 = T (ks.map (pairD old new)) ∧ e = [some (.loc a), some (.loc b), some (.loc n), some (.int s), some (.loc s'.length), some d, none]) ?_ ?_
      · have bad : isV d = false → LP (fun e s1 => ∃ (ks : List Key) (x : Option D), l.take (i + 1) = ks.map dk ∧ (∀ k ∈ ks, k ∈ old ∧ k ∈ new) ∧ s1 = T (ks.map (pairD old new)) ∧ e = [some (.loc a), some (.loc b), some (.loc n), some (.int s), some (.loc s'.length), x, none]) (NP (fun e s1 => ∃ (ks : List Key) (x : Option D), l = ks.map dk ∧ (∀ k ∈ ks, k ∈ old ∧ k ∈ new) ∧ s1 = T (ks.map (pairD old new)) ∧ e = [some (.loc a), some (.loc b), some (.loc n), some (.int s), some (.loc s'.length), x, none]) fun r => fin s' r = .ok (.bl (goB old new l s)) s') (.rt (.bl false) (T (ks.map (pairD old new)))) := fun hv =>
          no (by cases d <;> first | rfl | cases hv) _
        wtm_at "ev"
        rcases ty_kinds htT with ⟨rfl | rfl | rfl | rfl | rfl, hv⟩ | ⟨rfl | rfl, hv⟩
        · rw [isi_of htT (b := false) rfl]
          try wtm_at "ev"
          rw [isi_of htT (b := false) rfl]
          exact bad hv
        · rw [isi_of htT (b := false) rfl]
          try wtm_at "ev"
          rw [isi_of htT (b := true) rfl]
          try wtm_at "ev"
          rw [isi_of htT (b := true) rfl]
          exact bad hv
        · rw [isi_of htT (b := false) rfl]
          try wtm_at "ev"
          rw [isi_of htT (b := false) rfl]
          exact bad hv
        · rw [isi_of htT (b := false) rfl]
          try wtm_at "ev"
          rw [isi_of htT (b := false) rfl]
          exact bad hv
        · rw [isi_of htT (b := false) rfl]
          try wtm_at "ev"
          rw [isi_of htT (b := false) rfl]
          exact bad hv
        · rw [isi_of htT (b := false) rfl]
          try wtm_at "ev"
          rw [isi_of htT (b := true) rfl]
          try wtm_at "ev"
          rw [isi_of htT (b := false) rfl]
          exact ⟨isV_dk hv, rfl, rfl⟩
        · rw [isi_of htT (b := true) rfl]
          exact ⟨isV_dk hv, rfl, rfl⟩
      rintro e s1 ⟨⟨k, rfl⟩, rfl, rfl⟩
      have pa : mLPlace [.loc a, dk k] (T (ks.map (pairD old new))) = .ok (.int (plI old k)) (T (ks.map (pairD old new))) := mLPlace_keys (Told _ ha) (by omega)
      have pb : mLPlace [.loc b, dk k] (T (ks.map (pairD old new))) = .ok (.int (plI new k)) (T (ks.map (pairD old new))) := mLPlace_keys (Told _ hb) (by omega)
      let x : D := .tup [.int (plI old k), .int (plI new k)]
      have hz : (ks.map (pairD old new)).length < sizeLine := by rw [List.length_map, lks]; have := big_line; omega
      refine seq_inv (P := LP _ _) (fun e s1 => s1 = T (ks.map (pairD old new) ++ [x]) ∧ e = [some (.loc a), some (.loc b), some (.loc n), some (.int s), some (.loc s'.length), some (dk k), none]) ?_ ?_
      · wtm_at "ev"
        simp only [rdL_of (Tl _), pa]
        try wtm_at "ev"
        simp only [pb]
        try wtm_at "ev"
        rw [if_pos (show (2 : Nat) ≤ sizeLine by decide +kernel)]
        simp only [fAppend, Tl, if_pos hz, Ts]
        exact ⟨rfl, rfl⟩
      rintro e s1 ⟨rfl, rfl⟩
      have i1 : fIx (.loc s'.length) (.int (-1)) (T (ks.map (pairD old new) ++ [x])) = .ok x (T (ks.map (pairD old new) ++ [x])) := ix_lst (Tl _) (atI_last _ _)
      have i2 : ∀ s : S, fIx x (.int 0) s = .ok (.int (plI old k)) s := fun s => rfl
      have i3 : ∀ s : S, fIx x (.int 1) s = .ok (.int (plI new k)) s := fun s => rfl
      wtm_at "ev"
      simp only [i1, i2]
      try wtm_at "ev"
      by_cases h1 : k ∈ old
      · simp only [decide_eq_false (show ¬ plI old k < 0 by have := plI_pos.mpr h1; omega)]
        try wtm_at "ev"
        simp only [i1, i3]
        try wtm_at "ev"
        by_cases h2 : k ∈ new
        · simp only [decide_eq_false (show ¬ plI new k < 0 by have := plI_pos.mpr h2; omega)]
          try wtm_at "ev"
          refine ⟨ks ++ [k], some (dk k), by rw [take_snoc g1, tk, List.map_append]; rfl, fun j hj => ?_, ?_, rfl⟩
          · rcases List.mem_append.mp hj with hj | hj
            · exact hk j hj
            · rw [List.mem_singleton.mp hj]
              exact ⟨h1, h2⟩
          · rw [List.map_append]
            show T _ = T _
            congr 2
            show [x] = [pairD old new k]
            simp only [x, pairD, plI_mem h1, plI_mem h2]
        · simp only [decide_eq_true (show plI new k < 0 by rw [plI_out h2]; decide)]
          try wtm_at "ev"
          exact no (by unfold oneC; rw [keyD_dk]; simp only; rw [kIn_no.mpr h2, Bool.and_false]) _
      · simp only [decide_eq_true (show plI old k < 0 by rw [plI_out h1]; decide)]
        try wtm_at "ev"
        exact no (by unfold oneC; rw [keyD_dk]; simp only; rw [kIn_no.mpr h1, Bool.false_and]) _
    · rintro e s1 ⟨ks, x, tk, hk, rfl, rfl⟩
      exact ⟨by unfold itL; rw [rdL_of (Told _ hn), Option.map_some, List.getElem?_eq_none (Nat.le_refl _)], ks, x, by rw [← tk, List.take_length], hk, rfl, rfl⟩
  rintro e s1 ⟨ks, x, rfl, hk, rfl, rfl⟩
  have gb : goB old new (ks.map dk) s = goB.ordG (fun k => (pl old k : Int)) (fun k => (pl new k : Int)) s ks := by
    unfold goB
    rw [keysOf_dk]
    have : comB old new (ks.map dk) = true := by
      unfold comB
      rw [List.all_map, List.all_eq_true]
      intro k hkk
      show oneC old new (dk k) = true
      unfold oneC
      rw [keyD_dk]
      simp only
      rw [kIn_iff.mpr (hk k hkk).1, kIn_iff.mpr (hk k hkk).2]
      rfl
    rw [this]
    rfl
  rw [gb]
  rw [List.length_map] at hl
  have plen : (ks.map (pairD old new)).length = ks.length := List.length_map ..
  refine seq_inv (P := fun r => fin s' r = _) (fun e s1 => s1 = T (ks.map (pairD old new)) ∧ goB.ordG (fun k => (pl old k : Int)) (fun k => (pl new k : Int)) s ks = true) ?_ ?_
  · refine for_inv (it := itR 1 (ks.length - 1)) (st1 := T (ks.map (pairD old new))) ?_ (fun i e s1 => s1 = T (ks.map (pairD old new)) ∧ (∃ y, e = [some (.loc a), some (.loc b), some (.loc n), some (.int s), some (.loc s'.length), x, y]) ∧ goB.ordG (fun k => (pl old k : Int)) (fun k => (pl new k : Int)) s ks = goB.ordG (fun k => (pl old k : Int)) (fun k => (pl new k : Int)) s (ks.drop i)) (ks.length - 1) (fuel_lt (by omega)) ?_ ?_ ?_
    · wtm_at "ev"
      simp only [len_lst (Tl _), plen]
      try wtm_at "ev"
      rw [if_pos ⟨okR_mk (by decide) (by decide), okR_mk (by omega) (by omega)⟩, show ((ks.length : Int) - 1).toNat = ks.length - 1 by omega]
    · exact ⟨rfl, ⟨none, rfl⟩, rfl⟩
    · rintro i e s1 hi' ⟨rfl, ⟨y, rfl⟩, ho⟩
      have g1 := List.getElem?_eq_getElem (show i < ks.length by omega)
      have g2 := List.getElem?_eq_getElem (show i + 1 < ks.length by omega)
      generalize ks[i] = k1 at g1
      generalize ks[i + 1] = k2 at g2
      rw [ordG_drop g1 g2] at ho
      refine ⟨.int (1 + (i : Int)), [some (.loc a), some (.loc b), some (.loc n), some (.int s), some (.loc s'.length), x, some (.int (1 + (i : Int)))], T (ks.map (pairD old new)), by unfold itR; rw [if_pos hi'], rfl, ?_⟩
      have j1 : fIx (.loc s'.length) (.int (1 + (i : Int))) (T (ks.map (pairD old new))) = .ok (pairD old new k2) (T (ks.map (pairD old new))) := by
        rw [show (1 : Int) + (i : Int) = ((i + 1 : Nat) : Int) by omega]
        exact ix_lst (Tl _) (L2.atI_nat (by rw [List.getElem?_map, g2]; rfl))
      have j2 : fIx (.loc s'.length) (.int (1 + (i : Int) - 1)) (T (ks.map (pairD old new))) = .ok (pairD old new k1) (T (ks.map (pairD old new))) := by
        rw [show (1 : Int) + (i : Int) - 1 = ((i : Nat) : Int) by omega]
        exact ix_lst (Tl _) (L2.atI_nat (by rw [List.getElem?_map, g1]; rfl))
      have q0 : ∀ k (s : S), fIx (pairD old new k) (.int 0) s = .ok (.int (pl old k : Nat)) s := fun k s => rfl
      have q1 : ∀ k (s : S), fIx (pairD old new k) (.int 1) s = .ok (.int (pl new k : Nat)) s := fun k s => rfl
      have b1 : pl new k1 < 10000 := by have := pl_lt (hk k1 (List.mem_of_getElem? g1)).2; omega
      have b2 : pl new k2 < 10000 := by have := pl_lt (hk k2 (List.mem_of_getElem? g2)).2; omega
      have hm : cMul s ((pl new k2 : Int) - (pl new k1 : Int)) = true := mul_small (show s.natAbs < 2 ^ 20 by omega) (show ((pl new k2 : Int) - (pl new k1 : Int)).natAbs < 2 ^ 20 by omega) (by decide) (by decide) (by decide)
      wtm_at "ev"
      simp only [j1, j2, q0]
      try wtm_at "ev"
      by_cases h1 : (pl old k2 : Int) ≤ (pl old k1 : Int)
      · rw [decide_eq_true h1] at ho ⊢
        try wtm_at "ev"
        show fin s' (.rt (.bl false) (T _)) = _
        rw [fn, ho]
        rfl
      · rw [decide_eq_false h1] at ho ⊢
        try wtm_at "ev"
        simp only [j1, j2, q1]
        try wtm_at "ev"
        simp only [j2, q1, mul_int' hm, fsub_int, le_int']
        by_cases h2 : s * ((pl new k2 : Int) - (pl new k1 : Int)) ≤ 0
        · rw [decide_eq_true h2] at ho ⊢
          try wtm_at "ev"
          show fin s' (.rt (.bl false) (T _)) = _
          rw [fn, ho]
          rfl
        · rw [decide_eq_false h2] at ho ⊢
          try wtm_at "ev"
          exact ⟨rfl, ⟨_, rfl⟩, by rw [ho]; rfl⟩
    · rintro e s1 ⟨rfl, ⟨y, rfl⟩, ho⟩
      have last : goB.ordG (fun k => (pl old k : Int)) (fun k => (pl new k : Int)) s (ks.drop (ks.length - 1)) = true := by
        have : (ks.drop (ks.length - 1)).length ≤ 1 := by rw [List.length_drop]; omega
        generalize ks.drop (ks.length - 1) = w at this
        match w, this with
        | [], _ => rfl
        | [_], _ => rfl
      exact ⟨by unfold itR; rw [if_neg (Nat.lt_irrefl _)], rfl, by rw [ho, last]⟩
  · rintro e s1 ⟨rfl, ho⟩
    wtm_at "ev"
    rw [fn, ho]

theorem mLCovers_no {st : S} {a b : Nat} {d : D} {t : String} (ht : tyD st d = some t) (hn : t ≠ "list") : mLCovers [.loc a, .loc b, d] st = .ok (.bl false) st := by
  have e : isiT t "list" = some false := by
    rcases ty_kinds ht with ⟨rfl | rfl | rfl | rfl | rfl, _⟩ | ⟨rfl | rfl, _⟩ <;> first | rfl | exact absurd rfl hn
  unfold mLCovers fnM mbLCovers
  wtm_at "ev"
  rw [isi_of ht e]
  try wtm_at "ev"
  exact finD_same rfl
theorem mIsFalling_no {st : S} {a b : Nat} {d : D} {t : String} (ht : tyD st d = some t) (hn : t ≠ "list") : mIsFalling [.loc a, .loc b, d] st = .ok (.bl false) st := by
  have e : isiT t "list" = some false := by
    rcases ty_kinds ht with ⟨rfl | rfl | rfl | rfl | rfl, _⟩ | ⟨rfl | rfl, _⟩ <;> first | rfl | exact absurd rfl hn
  unfold mIsFalling fnM mbIsFalling
  wtm_at "ev"
  rw [isi_of ht e]
  try wtm_at "ev"
  exact finD_same rfl
theorem mLCovers_list {st : S} {a b n : Nat} {old new : List Key} {l : List D} {rs : List (Option (List D))} (ha : st[a]? = some (.lst (old.map dk))) (hb : st[b]? = some (.lst (new.map dk))) (hn : st[n]? = some (.lst l)) (lo : old.length ≤ 1000) (lw : new.length ≤ 1000)
    (hl : l.length ≤ 80) (hrl : rs.length = l.length) (hr : ∀ (i : Nat) d o, l[i]? = some d → rs[i]? = some o → Row st d o) : mLCovers [.loc a, .loc b, .loc n] st = .ok (.bl (fallB old new rs)) st := by
  have la := (List.getElem?_eq_some_iff.mp ha).1
  have lb := (List.getElem?_eq_some_iff.mp hb).1
  have lnn := (List.getElem?_eq_some_iff.mp hn).1
  let T : List Key → S := fun met => st ++ [O.lst (met.map dk)]
  have Tl : ∀ met, (T met)[st.length]? = some (.lst (met.map dk)) := fun met => app_last _ _
  have Ts : ∀ met met' : List Key, (T met).set st.length (.lst (met'.map dk)) = T met' := fun met met' => set_last _ _ _
  have Told : ∀ met {i : Nat} {o : O}, st[i]? = some o → (T met)[i]? = some o := fun met {i o} h => by
    show (st ++ _)[i]? = _
    rw [List.getElem?_append_left (List.getElem?_eq_some_iff.mp h).1]
    exact h
  have fn : ∀ met x, fin st (.rt (.bl x) (T met)) = .ok (.bl x) st := fun met x => finD_cut (Chk.refl st) rfl (by simp [low])
  unfold mLCovers fnM mbLCovers
  refine seq_inv (P := fun r => fin st r = _) (fun e s' => s' = st ∧ e = startM 6 [.loc a, .loc b, .loc n]) ?_ ?_
  · wtm_at "ev"
    rw [isi_of (t := "list") (b := true) (by simp only [tyD, hn]) rfl]
    try wtm_at "ev"
    exact ⟨rfl, rfl⟩
  rintro e s' ⟨rfl, rfl⟩
  refine seq_inv (P := fun r => fin s' r = _) (fun e s1 => s1 = T [] ∧ e = [some (.loc a), some (.loc b), some (.loc n), some (.loc s'.length), none, none]) ?_ ?_
  · wtm_at "ev"
    rw [if_pos (Nat.zero_le _)]
    exact ⟨rfl, rfl⟩
  rintro e s1 ⟨rfl, rfl⟩
  refine seq_inv (P := fun r => fin s' r = _) (fun e s4 => ∃ met x y, s4 = T met ∧ e = [some (.loc a), some (.loc b), some (.loc n), some (.loc s'.length), x, y] ∧ fallGo old new [] rs = some met) ?_ ?_
  · refine for_inv (it := itL n) (st1 := T []) ?_ (fun i e s4 => ∃ met x y, s4 = T met ∧ e = [some (.loc a), some (.loc b), some (.loc n), some (.loc s'.length), x, y] ∧ fallGo old new [] rs = fallGo old new met (rs.drop i) ∧ met.length ≤ i * 1000) l.length (fuel_lt (by omega)) ?_ ?_ ?_
    · wtm_at "ev"
      rw [rdL_of (Told [] hn)]
    · exact ⟨[], none, none, rfl, rfl, rfl, Nat.le_refl _⟩
    · rintro i e s4 hi ⟨met, x, y, rfl, rfl, hf, hml⟩
      have g1 := List.getElem?_eq_getElem hi
      have g2 := List.getElem?_eq_getElem (show i < rs.length by omega)
      have gd : rs.drop i = rs[i] :: rs.drop (i + 1) := List.drop_eq_getElem_cons (by omega)
      rw [gd] at hf
      generalize l[i] = d at g1
      generalize rs[i] = o at g2 hf
      have hrow := hr i d o g1 g2
      refine ⟨d, [some (.loc a), some (.loc b), some (.loc n), some (.loc s'.length), some d, y], T met, by unfold itL; rw [rdL_of (Told met hn), Option.map_some, g1], rfl, ?_⟩
      have hrowT : Row (T met) d o := hrow.app
      have bad : ∀ rl, o = some rl → (upB old new rl (-1) && !rl.isEmpty) = false → fallB old new rs = false := fun rl ho hu => by
        subst ho
        unfold fallB
        rw [hf]
        unfold fallGo
        rw [hu]
        rfl
      cases hrowT with
      | no h1 h2 =>
        have ff : fallB old new rs = false := by unfold fallB; rw [hf]; rfl
        wtm_at "ev"
        rw [mLGoes_no h1 h2]
        try wtm_at "ev"
        show fin s' (.rt (.bl false) (T met)) = _
        rw [fn, ff]
      | @yes rn rl h1 h2 h3 =>
        have go := mLGoes_list (s := -1) (Told met ha) (Told met hb) h1 h2 h3 lo lw (.inr rfl)
        rw [goB_up] at go
        refine seq_inv (P := LP _ _) (fun e s5 => s5 = T met ∧ e = [some (.loc a), some (.loc b), some (.loc n), some (.loc s'.length), some (.loc rn), y] ∧ (upB old new rl (-1) && !rl.isEmpty) = true) ?_ ?_
        · wtm_at "ev"
          rw [go]
          cases hu : upB old new rl (-1) with
          | false =>
            have ff := bad rl rfl (by rw [hu]; rfl)
            try wtm_at "ev"
            show fin s' (.rt (.bl false) (T met)) = _
            rw [fn, ff]
          | true =>
            try wtm_at "ev"
            simp only [len_lst h1]
            try wtm_at "ev"
            cases rl with
            | nil =>
              have ff := bad [] rfl (by simp)
              show fin s' (.rt (.bl false) (T met)) = _
              rw [fn, ff]
            | cons w r =>
              have hne : decide ((((w :: r).length : Nat) : Int) = 0) = false := decide_eq_false (by rw [List.length_cons]; omega)
              simp only [hne]
              try wtm_at "ev"
              exact ⟨rfl, rfl, rfl⟩
        rintro e s5 ⟨rfl, rfl, hup⟩
        rw [Bool.and_eq_true] at hup
        obtain ⟨ks, rfl, k0, hk, _, _⟩ := upB_keys hup.1
        rw [List.length_map] at h3
        have hf2 : fallGo old new [] rs = match metGo met ks with | some met' => fallGo old new met' (rs.drop (i + 1)) | none => none := by
          rw [hf]
          conv => lhs; unfold fallGo
          rw [hup.1, hup.2, k0]
          rfl
        refine for_inv (it := itL rn) (st1 := T met) ?_ (fun j e s6 => ∃ met6 y6, s6 = T met6 ∧ e = [some (.loc a), some (.loc b), some (.loc n), some (.loc s'.length), some (.loc rn), y6] ∧ metGo met ks = metGo met6 (ks.drop j) ∧ met6.length ≤ i * 1000 + j) ks.length (fuel_lt (by omega)) ?_ ?_ ?_
        · wtm_at "ev"
          rw [rdL_of h1]
        · exact ⟨met, y, rfl, rfl, rfl, hml⟩
        · rintro j e s6 hj ⟨met6, y6, rfl, rfl, hg6, hl6⟩
          have gk := List.getElem?_eq_getElem hj
          have gd6 : ks.drop j = ks[j] :: ks.drop (j + 1) := List.drop_eq_getElem_cons hj
          rw [gd6] at hg6
          generalize ks[j] = k at gk hg6
          have h1T : (T met6)[rn]? = some (.lst (ks.map dk)) := by
            rcases hrow with ⟨q1, _, _⟩ | ⟨q1, q2⟩
            exact Told met6 q1
          refine ⟨dk k, [some (.loc a), some (.loc b), some (.loc n), some (.loc s'.length), some (.loc rn), some (dk k)], T met6, ?_, rfl, ?_⟩
          · unfold itL
            rw [rdL_of h1T, Option.map_some, List.getElem?_map, gk]
            rfl
          have hi80 : i * 1000 ≤ 79 * 1000 := Nat.mul_le_mul_right _ (by omega)
          wtm_at "ev"
          rw [mLPlace_keys (Tl met6) (by omega)]
          rw [metGo_cons] at hg6
          try wtm_at "ev"
          by_cases hkm : k ∈ met6
          · rw [kIn_iff.mpr hkm, if_pos rfl] at hg6
            have ff : fallB old new rs = false := by unfold fallB; rw [hf2, hg6]
            simp only [decide_eq_true (plI_pos.mpr hkm)]
            try wtm_at "ev"
            show fin s' (.rt (.bl false) (T met6)) = _
            rw [fn, ff]
          · rw [kIn_no.mpr hkm, if_neg Bool.false_ne_true] at hg6
            simp only [decide_eq_false fun z => hkm (plI_pos.mp z)]
            try wtm_at "ev"
            have hz : (met6.map dk).length < sizeLine := by rw [List.length_map]; have := big_line; omega
            have ta : (T met6).set s'.length (.lst (met6.map dk ++ [dk k])) = T (met6 ++ [k]) := by
              rw [← Ts met6 (met6 ++ [k]), List.map_append]
              rfl
            simp only [rdL_of (Tl met6), fAppend, Tl met6, if_pos hz, ta]
            exact ⟨met6 ++ [k], _, rfl, rfl, hg6, by rw [List.length_append]; simp only [List.length_cons, List.length_nil]; omega⟩
        · rintro e s6 ⟨met6, y6, rfl, rfl, hg6, hl6⟩
          have h1T : (T met6)[rn]? = some (.lst (ks.map dk)) := by
            rcases hrow with ⟨q1, _, _⟩ | ⟨q1, q2⟩
            exact Told met6 q1
          rw [List.drop_eq_nil_of_le (Nat.le_refl _)] at hg6
          refine ⟨by unfold itL; rw [rdL_of h1T, Option.map_some, List.getElem?_eq_none (by simp)], ?_⟩
          have hg7 : metGo met ks = some met6 := hg6
          refine ⟨met6, some (.loc rn), y6, rfl, rfl, by rw [hf2, hg7], ?_⟩
          rw [Nat.add_mul]
          omega
    · rintro e s4 ⟨met, x, y, rfl, rfl, hf, hml⟩
      refine ⟨by unfold itL; rw [rdL_of (Told met hn), Option.map_some, List.getElem?_eq_none (Nat.le_refl _)], met, x, y, rfl, rfl, ?_⟩
      rw [hf, List.drop_eq_nil_of_le (by omega)]
      rfl
  · rintro e s4 ⟨met, x, y, rfl, rfl, hf⟩
    have ff : fallB old new rs = decide (met.length = (old.filter fun k => kIn k new).length) := by unfold fallB; rw [hf]
    wtm_at "ev"
    rw [len_lst (Tl met)]
    try wtm_at "ev"
    rw [mLCommon_eq (Told met ha) (Told met hb) lo lw]
    try wtm_at "ev"
    rw [len_lst (app_last _ _)]
    try wtm_at "ev"
    rw [ff]
    simp only [List.length_map]
    rw [show decide ((met.length : Int) = ((old.filter fun k => kIn k new).length : Nat)) = decide (met.length = (old.filter fun k => kIn k new).length) from decide_eq_decide.mpr (by omega)]
    simp only [fin]
    show finD s' _ (s' ++ _ ++ _) = _
    rw [List.append_assoc]
    exact finD_cut (Chk.refl s') rfl (by simp [low])

/-- all but the bag stands -/
structure Fr (b : Nat) (st st' : S) : Prop where
  len : st.length ≤ st'.length
  at_ : ∀ (i : Nat) o, i ≠ b → st[i]? = some o → st'[i]? = some o
theorem Fr.refl {b : Nat} {st : S} : Fr b st st := ⟨Nat.le_refl _, fun _ _ _ h => h⟩
theorem Fr.trans {b : Nat} {s1 s2 s3 : S} (h : Fr b s1 s2) (h' : Fr b s2 s3) : Fr b s1 s3 := ⟨Nat.le_trans h.len h'.len, fun i o n e => h'.at_ i o n (h.at_ i o n e)⟩
theorem Fr.setb {b : Nat} {st : S} {o : O} : Fr b st (st.set b o) := ⟨by simp, fun i u n e => by rw [List.getElem?_set_ne (Ne.symm n)]; exact e⟩
theorem Fr.app {b : Nat} {st J : S} : Fr b st (st ++ J) := ⟨by simp, fun i u n e => by rw [List.getElem?_append_left (List.getElem?_eq_some_iff.mp e).1]; exact e⟩
/-- a change of what is new -/
theorem Fr.setn {b : Nat} {st st' : S} (h : Fr b st st') {i : Nat} {o : O} (hi : st.length ≤ i) : Fr b st (st'.set i o) := ⟨by have := h.len; simp; omega, fun j u n e => by
  have := (List.getElem?_eq_some_iff.mp e).1
  rw [List.getElem?_set_ne (by omega)]
  exact h.at_ j u n e⟩
theorem Bag.app {st J : S} {b k : Nat} {cells : List Int} {n : Int} (h : Bag st b k cells n) : Bag (st ++ J) b k cells n := by
  obtain ⟨⟨i, r, q1, q2, q3⟩, q4, q5, q6⟩ := h
  exact ⟨⟨i, r, by rw [List.getElem?_append_left (List.getElem?_eq_some_iff.mp q1).1]; exact q1, q2, q3⟩, by rw [List.getElem?_append_left (List.getElem?_eq_some_iff.mp q4).1]; exact q4, q5, q6⟩
theorem Bag.setn {st : S} {b k : Nat} {cells : List Int} {n : Int} (h : Bag st b k cells n) {i : Nat} {o : O} (h1 : i ≠ b) (h2 : i ≠ k) : Bag (st.set i o) b k cells n := by
  obtain ⟨⟨j, r, q1, q2, q3⟩, q4, q5, q6⟩ := h
  exact ⟨⟨j, r, by rw [List.getElem?_set_ne h1]; exact q1, q2, q3⟩, by rw [List.getElem?_set_ne h2]; exact q4, q5, q6⟩
theorem mLUp_eq {st : S} {b k a c : Nat} {cells : List Int} {n : Int} {old new : List Key} (hB : Bag st b k cells n) (hn : n < 50000) (ha : st[a]? = some (.lst (old.map dk))) (hc : st[c]? = some (.lst (new.map dk))) (nab : a ≠ b) (ncb : c ≠ b) (lo : old.length ≤ 62) (lw : new.length ≤ 62) :
    ∃ (ks : List Key) (st' : S) (n' : Int), mLUp [.loc b, .loc a, .loc c] st = .ok (.loc st.length) st' ∧ Fr b st st' ∧ Bag st' b k cells n' ∧ n' ≤ n + 62 ∧ st'[st.length]? = some (.lst (ks.map dk)) ∧ (∀ x ∈ ks, x ∈ old) ∧ ks.length ≤ 62 := by
  obtain ⟨i0, r0, hb0, _, _⟩ := hB.at_
  have hbl := (List.getElem?_eq_some_iff.mp hb0).1
  have hkl := (List.getElem?_eq_some_iff.mp hB.cells).1
  have la := (List.getElem?_eq_some_iff.mp ha).1
  have lc := (List.getElem?_eq_some_iff.mp hc).1
  let com := old.filter fun k => kIn k new
  have lcom : com.length ≤ old.length := List.length_filter_le _ _
  let T : O → List Key → S := fun g ks => st.set b g ++ [O.lst (ks.map dk), O.lst (com.map dk)]
  have T0 : ∀ g ks, (T g ks)[st.length]? = some (.lst (ks.map dk)) := fun g ks => by
    show (st.set b g ++ _)[st.length]? = _
    rw [List.getElem?_append_right (by simp), List.length_set, Nat.sub_self]
    rfl
  have T1 : ∀ g ks, (T g ks)[st.length + 1]? = some (.lst (com.map dk)) := fun g ks => by
    show (st.set b g ++ _)[st.length + 1]? = _
    rw [List.getElem?_append_right (by simp), List.length_set, show st.length + 1 - st.length = 1 by omega]
    rfl
  have Sb : ∀ g g' ks, (T g ks).set b g' = T g' ks := fun g g' ks => by
    show (st.set b g ++ _).set b g' = _
    rw [List.set_append_left _ _ (by simpa using hbl), List.set_set]
  have S0 : ∀ g ks ks' , (T g ks).set st.length (.lst (ks'.map dk)) = T g ks' := fun g ks ks' => by
    show (st.set b g ++ _).set st.length _ = _
    rw [List.set_append_right _ _ (by simp), List.length_set, Nat.sub_self]
    rfl
  have Told : ∀ g ks {i : Nat} {o : O}, i ≠ b → st[i]? = some o → (T g ks)[i]? = some o := fun g ks {i o} ni h => by
    show (st.set b g ++ _)[i]? = _
    rw [List.getElem?_append_left (by simpa using (List.getElem?_eq_some_iff.mp h).1), List.getElem?_set_ne (Ne.symm ni)]
    exact h
  have Bk : ∀ {g ks ks' n}, Bag (T g ks) b k cells n → Bag (T g ks') b k cells n := fun {g ks ks' n} h => by
    rw [← S0 g ks ks']
    exact h.setn (by omega) (by omega)
  suffices main : ∀ PP : R D → Prop, (∀ (g : O) (ks : List Key) (n' : Int), Bag (T g ks) b k cells n' → (∃ i r, g = bagL k i r n') → n' ≤ n + 62 → (∀ x ∈ ks, x ∈ old) → ks.length ≤ 62 → PP (.ok (.loc st.length) (st.set b g ++ [O.lst (ks.map dk)]))) → PP (mLUp [.loc b, .loc a, .loc c] st) from
    main (fun res => ∃ (ks : List Key) (st' : S) (n' : Int), res = .ok (.loc st.length) st' ∧ Fr b st st' ∧ Bag st' b k cells n' ∧ n' ≤ n + 62 ∧ st'[st.length]? = some (.lst (ks.map dk)) ∧ (∀ x ∈ ks, x ∈ old) ∧ ks.length ≤ 62) fun g ks n' h1 _ h2 h3 h4 => by
      refine ⟨ks, _, n', rfl, Fr.setb.trans Fr.app, ?_, h2, ?_, h3, h4⟩
      · obtain ⟨⟨i, r, q1, q2, q3⟩, q4, q5, q6⟩ := h1
        have q1 : (st.set b g ++ _)[b]? = _ := q1
        have q4 : (st.set b g ++ _)[k]? = _ := q4
        rw [List.getElem?_append_left (by simpa using hbl)] at q1
        rw [List.getElem?_append_left (by simpa using hkl)] at q4
        exact (Bag.mk ⟨i, r, q1, q2, q3⟩ q4 q5 q6).app
      · rw [List.getElem?_append_right (by simp), List.length_set, Nat.sub_self]
        rfl
  intro PP fini
  have main : PP (mLUp [.loc b, .loc a, .loc c] st) := by
    unfold mLUp fnM mbLUp
    refine seq_inv (P := fun r => PP (fin st r)) (fun e s => s = st ++ [O.lst []] ∧ e = [some (.loc b), some (.loc a), some (.loc c), some (.loc st.length), none, none, none]) ?_ ?_
    · wtm_at "ev"
      rw [if_pos (Nat.zero_le _)]
      exact ⟨rfl, rfl⟩
    rintro e s ⟨rfl, rfl⟩
    refine seq_inv (P := fun r => PP (fin st r)) (fun e s => s = st ++ [O.lst []] ∧ e = [some (.loc b), some (.loc a), some (.loc c), some (.loc st.length), some (.int (-1)), none, none]) ⟨rfl, rfl⟩ ?_
    rintro e s ⟨rfl, rfl⟩
    have e0 : T (bagL k i0 r0 n) [] = st ++ [O.lst []] ++ [O.lst (com.map dk)] := by
      show st.set b _ ++ _ = _
      have : st.set b (bagL k i0 r0 n) = st := by
        refine List.ext_getElem? fun j => ?_
        by_cases hj : b = j
        · subst hj
          rw [List.getElem?_set_self hbl, hb0]
        · rw [List.getElem?_set_ne hj]
      rw [this, List.append_assoc]
      rfl
    have B0 : Bag (T (bagL k i0 r0 n) []) b k cells n := by
      rw [e0, List.append_assoc]
      exact hB.app
    refine seq_inv (P := fun r => PP (fin st r)) (fun e s => ∃ g ks n' x y z, s = T g ks ∧ Bag (T g ks) b k cells n' ∧ (∃ i r, g = bagL k i r n') ∧ n' ≤ n + 62 ∧ (∀ x ∈ ks, x ∈ old) ∧ ks.length ≤ 62 ∧ e = [some (.loc b), some (.loc a), some (.loc c), some (.loc st.length), x, y, z]) ?_ ?_
    · refine for_inv (it := itL (st.length + 1)) (st1 := T (bagL k i0 r0 n) []) ?_ (fun i e s => ∃ (g : O) (ks : List Key) (n' : Int) (x : Int) (y z : Option D), s = T g ks ∧ Bag (T g ks) b k cells n' ∧ (∃ i r, g = bagL k i r n') ∧ n' ≤ n + i ∧ (∀ x ∈ ks, x ∈ old) ∧ ks.length ≤ i ∧ e = [some (.loc b), some (.loc a), some (.loc c), some (.loc st.length), some (.int x), y, z]) com.length (fuel_lt (by omega)) ?_ ?_ ?_
      · wtm_at "ev"
        rw [mLCommon_eq (st := st ++ [O.lst []]) (by rw [List.getElem?_append_left la]; exact ha) (by rw [List.getElem?_append_left lc]; exact hc) (by omega) (by omega)]
        try wtm_at "ev"
        rw [rdL_of (app_last _ _), e0]
        simp
        rfl
      · exact ⟨_, [], n, -1, none, none, rfl, B0, ⟨_, _, rfl⟩, by omega, by simp, Nat.le_refl _, rfl⟩
      · rintro i e s hi ⟨g, ks, n', x, y, z, rfl, hBg, hg, hn', hks, hkl', rfl⟩
        have g1 := List.getElem?_eq_getElem hi
        have hmem : com[i] ∈ old := (List.mem_filter.mp (List.getElem_mem hi)).1
        generalize com[i] = v at g1 hmem
        refine ⟨dk v, [some (.loc b), some (.loc a), some (.loc c), some (.loc st.length), some (.int x), some (dk v), z], T g ks, by unfold itL; rw [rdL_of (T1 g ks), Option.map_some, List.getElem?_map, g1]; rfl, rfl, ?_⟩
        refine seq_inv (P := LP _ _) (fun e s => s = T g ks ∧ e = [some (.loc b), some (.loc a), some (.loc c), some (.loc st.length), some (.int x), some (dk v), some (.int (plI new v))]) ?_ ?_
        · wtm_at "ev"
          rw [mLPlace_keys (Told g ks ncb hc) (by omega)]
          exact ⟨rfl, rfl⟩
        rintro e s ⟨rfl, rfl⟩
        wtm_at "ev"
        by_cases h1 : x < plI new v
        · simp only [decide_eq_true h1]
          try wtm_at "ev"
          obtain ⟨d, i1, r1, e1, a1, b1, B1⟩ := mLTake_eq (m := 4) hBg (by omega) (by decide) (by decide)
          rw [Sb] at e1 B1
          simp only [e1]
          try wtm_at "ev"
          by_cases h2 : 0 < d
          · simp only [decide_eq_true h2]
            try wtm_at "ev"
            have hz : (ks.map dk).length < sizeLine := by rw [List.length_map]; have := big_line; omega
            have ta : (T (bagL k i1 r1 (n' + 1)) ks).set st.length (.lst (ks.map dk ++ [dk v])) = T (bagL k i1 r1 (n' + 1)) (ks ++ [v]) := by
              rw [← S0 _ ks (ks ++ [v]), List.map_append]
              rfl
            simp only [rdL_of (T0 _ _), fAppend, T0, if_pos hz, ta]
            try wtm_at "ev"
            exact ⟨_, ks ++ [v], _, _, _, _, rfl, Bk B1, ⟨_, _, rfl⟩, by omega, fun w hw => by
              rcases List.mem_append.mp hw with hw | hw
              · exact hks w hw
              · rw [List.mem_singleton.mp hw]; exact hmem, by rw [List.length_append]; simp only [List.length_cons, List.length_nil]; omega, rfl⟩
          · simp only [decide_eq_false h2]
            try wtm_at "ev"
            exact ⟨_, ks, _, _, _, _, rfl, B1, ⟨_, _, rfl⟩, by omega, hks, by omega, rfl⟩
        · simp only [decide_eq_false h1]
          try wtm_at "ev"
          exact ⟨_, ks, _, _, _, _, rfl, hBg, hg, by omega, hks, by omega, rfl⟩
      · rintro e s ⟨g, ks, n', x, y, z, rfl, hBg, hg, hn', hks, hkl', rfl⟩
        exact ⟨by unfold itL; rw [rdL_of (T1 g ks), Option.map_some, List.getElem?_eq_none (by simp)], g, ks, n', _, y, z, rfl, hBg, hg, by omega, hks, by omega, rfl⟩
    rintro e s ⟨g, ks, n', x, y, z, rfl, hBg, ⟨gi, gr, hg⟩, hn', hks, hkl', rfl⟩
    show PP (finD st (.loc st.length) (st.set b g ++ [O.lst (ks.map dk), O.lst (com.map dk)]))
    have lg : lowO st.length g = true := by
      rw [hg]
      simp only [bagL, lowO, lows, low, Bool.and_true, decide_eq_true_eq]
      exact hkl
    rw [show (D.loc st.length) = D.loc (st.length + 0) from rfl, finD_new (Chk.set (Chk.refl st) lg) (by simp) (j := 0) rfl (by simp [lowO, lows_dk])]
    exact fini g ks n' hBg ⟨gi, gr, hg⟩ hn' hks hkl'
  exact main

/-- falling rows that were laid since place m -/
def Rws (st : S) (m : Nat) (old : List Key) (B : Nat) (rows : List D) : Prop := ∀ d ∈ rows, ∃ (q : Nat) (ks : List Key), d = .loc q ∧ m ≤ q ∧ st[q]? = some (.lst (ks.map dk)) ∧ ks ≠ [] ∧ (∀ x ∈ ks, x ∈ old) ∧ ks.length ≤ B
theorem Rws.fr {st st' : S} {m b B B' : Nat} {old : List Key} {rows : List D} (h : Rws st m old B rows) (f : Fr b st st') (hb : b < m) (hB : B ≤ B') : Rws st' m old B' rows := fun d hd => by
  obtain ⟨q, ks, h1, h2, h3, h4, h5, h6⟩ := h d hd
  exact ⟨q, ks, h1, h2, f.at_ q _ (by omega) h3, h4, h5, by omega⟩
theorem mLDown_eq {st : S} {b k a c : Nat} {cells : List Int} {n : Int} {old new : List Key} (hB : Bag st b k cells n) (hn : n < 50000) (ha : st[a]? = some (.lst (old.map dk))) (hc : st[c]? = some (.lst (new.map dk))) (nab : a ≠ b) (ncb : c ≠ b) (lo : old.length ≤ 62) (lw : new.length ≤ 62) :
    ∃ (rows : List D) (st' : S) (n' : Int), mLDown [.loc b, .loc a, .loc c] st = .ok (.loc st.length) st' ∧ Fr b st st' ∧ Bag st' b k cells n' ∧ n' ≤ n + 62 ∧ st'[st.length]? = some (.lst rows) ∧ rows.length ≤ 62 ∧ Rws st' (st.length + 2) old 62 rows := by
  obtain ⟨i0, r0, hb0, _, _⟩ := hB.at_
  have hbl := (List.getElem?_eq_some_iff.mp hb0).1
  have hkl := (List.getElem?_eq_some_iff.mp hB.cells).1
  have la := (List.getElem?_eq_some_iff.mp ha).1
  have lc := (List.getElem?_eq_some_iff.mp hc).1
  let com := old.filter fun k => kIn k new
  have lcom : com.length ≤ old.length := List.length_filter_le _ _
  let I : Nat → S → List D → Int → Prop := fun i s rows n' => Fr b st s ∧ Bag s b k cells n' ∧ n' ≤ n + i ∧ s[st.length]? = some (.lst rows) ∧ s[st.length + 1]? = some (.lst (com.map dk)) ∧ rows.length ≤ i ∧ Rws s (st.length + 2) old i rows
  suffices main : ∀ PP : R D → Prop, (∀ (s : S) (rows : List D) (n' : Int), Fr b st s → Bag s b k cells n' → n' ≤ n + 62 → s[st.length]? = some (.lst rows) → rows.length ≤ 62 → Rws s (st.length + 2) old 62 rows → PP (.ok (.loc st.length) s)) → PP (mLDown [.loc b, .loc a, .loc c] st) from
    main (fun res => ∃ (rows : List D) (st' : S) (n' : Int), res = .ok (.loc st.length) st' ∧ Fr b st st' ∧ Bag st' b k cells n' ∧ n' ≤ n + 62 ∧ st'[st.length]? = some (.lst rows) ∧ rows.length ≤ 62 ∧ Rws st' (st.length + 2) old 62 rows) fun s rows n' h1 h2 h3 h4 h5 h6 => ⟨rows, s, n', rfl, h1, h2, h3, h4, h5, h6⟩
  intro PP fini
  have main : PP (mLDown [.loc b, .loc a, .loc c] st) := by
    unfold mLDown fnM mbLDown
    refine seq_inv (P := fun r => PP (fin st r)) (fun e s => s = st ++ [O.lst []] ∧ e = [some (.loc b), some (.loc a), some (.loc c), some (.loc st.length), none, none, none]) ?_ ?_
    · wtm_at "ev"
      rw [if_pos (Nat.zero_le _)]
      exact ⟨rfl, rfl⟩
    rintro e s ⟨rfl, rfl⟩
    refine seq_inv (P := fun r => PP (fin st r)) (fun e s => ∃ rows n' x y z, I com.length s rows n' ∧ e = [some (.loc b), some (.loc a), some (.loc c), some (.loc st.length), x, y, z]) ?_ ?_
    · refine for_inv (it := itL (st.length + 1)) (st1 := st ++ [O.lst []] ++ [O.lst (com.map dk)]) ?_ (fun i e s => ∃ rows n' x y z, I i s rows n' ∧ e = [some (.loc b), some (.loc a), some (.loc c), some (.loc st.length), x, y, z]) com.length (fuel_lt (by omega)) ?_ ?_ ?_
      · wtm_at "ev"
        rw [mLCommon_eq (st := st ++ [O.lst []]) (by rw [List.getElem?_append_left la]; exact ha) (by rw [List.getElem?_append_left lc]; exact hc) (by omega) (by omega)]
        try wtm_at "ev"
        rw [rdL_of (app_last _ _)]
        simp
        rfl
      · refine ⟨[], n, none, none, none, ⟨Fr.app.trans Fr.app, hB.app.app, by omega, ?_, ?_, Nat.le_refl _, fun d hd => by simp at hd⟩, rfl⟩
        · rw [List.getElem?_append_left (by simp)]
          exact app_last _ _
        · rw [show st.length + 1 = (st ++ [O.lst []]).length by simp]
          exact app_last _ _
      · rintro i e s hi ⟨rows, n', x, y, z, ⟨hf, hBg, hn', hr, hcm, hrl, hrw⟩, rfl⟩
        have g1 := List.getElem?_eq_getElem hi
        have hmem : com[i] ∈ old := (List.mem_filter.mp (List.getElem_mem hi)).1
        generalize com[i] = v at g1 hmem
        have hsl : st.length + 1 < s.length := (List.getElem?_eq_some_iff.mp hcm).1
        refine ⟨dk v, [some (.loc b), some (.loc a), some (.loc c), some (.loc st.length), some (dk v), y, z], s, by unfold itL; rw [rdL_of hcm, Option.map_some, List.getElem?_map, g1]; rfl, rfl, ?_⟩
        refine seq_inv (P := LP _ _) (fun e s' => s' = s ∧ e = [some (.loc b), some (.loc a), some (.loc c), some (.loc st.length), some (dk v), some (.int (-1)), z]) ⟨rfl, rfl⟩ ?_
        rintro e s' ⟨rfl, rfl⟩
        have hcs := hf.at_ c _ ncb hc
        -- the row that is found
        refine seq_inv (P := LP _ _) (fun e s1 => s1 = s' ∧ ∃ (f : Int) (z : Option D), -1 ≤ f ∧ f < rows.length ∧ e = [some (.loc b), some (.loc a), some (.loc c), some (.loc st.length), some (dk v), some (.int f), z]) ?_ ?_
        · refine for_inv (P := NP _ _) (it := itR 0 rows.length) (st1 := s') ?_ (fun j e s1 => s1 = s' ∧ ∃ (f : Int) (z : Option D), -1 ≤ f ∧ f < rows.length ∧ e = [some (.loc b), some (.loc a), some (.loc c), some (.loc st.length), some (dk v), some (.int f), z]) rows.length (fuel_lt (by omega)) ?_ ?_ ?_
          · wtm_at "ev"
            rw [len_lst hr]
            try wtm_at "ev"
            rw [if_pos (okR_mk (by omega) (by omega)), Int.toNat_natCast]
          · exact ⟨rfl, -1, z, by omega, by omega, rfl⟩
          · rintro j e s1 hj ⟨rfl, f, z, f0, f1, rfl⟩
            have g2 := List.getElem?_eq_getElem hj
            generalize rows[j] = d at g2
            obtain ⟨q, ks, rfl, hq, hqs, hkn, hko, hkl2⟩ := hrw d (List.mem_of_getElem? g2)
            refine ⟨.int (j : Int), [some (.loc b), some (.loc a), some (.loc c), some (.loc st.length), some (dk v), some (.int f), some (.int (j : Int))], s1, by unfold itR; rw [if_pos hj, Int.zero_add], rfl, ?_⟩
            have ix : fIx (.loc st.length) (.int (j : Int)) s1 = .ok (.loc q) s1 := ix_lst hr (L2.atI_nat g2)
            obtain ⟨kl, hkl3⟩ : ∃ kl, ks.getLast? = some kl := ⟨_, List.getLast?_eq_some_getLast hkn⟩
            have ks' : ks = ks.dropLast ++ [kl] := by
              rw [List.getLast?_eq_some_getLast hkn] at hkl3
              rw [← Option.some.inj hkl3]
              exact (List.dropLast_concat_getLast hkn).symm
            have ix2 : fIx (.loc q) (.int (-1)) s1 = .ok (dk kl) s1 := ix_lst hqs (by
              rw [ks', List.map_append]
              exact atI_last _ _)
            wtm_at "ev"
            simp only [ix]
            try wtm_at "ev"
            simp only [ix2]
            try wtm_at "ev"
            rw [mLPlace_keys hcs (by omega)]
            try wtm_at "ev"
            rw [mLPlace_keys hcs (by omega)]
            try wtm_at "ev"
            by_cases h1 : plI new v < plI new kl
            · simp only [decide_eq_true h1]
              try wtm_at "ev"
              by_cases h2 : f < 0
              · simp only [decide_eq_true h2]
                try wtm_at "ev"
                exact ⟨rfl, (j : Int), _, by omega, by omega, rfl⟩
              · simp only [decide_eq_false h2]
                try wtm_at "ev"
                exact ⟨rfl, f, _, by omega, by omega, rfl⟩
            · simp only [decide_eq_false h1]
              try wtm_at "ev"
              exact ⟨rfl, f, _, by omega, by omega, rfl⟩
          · rintro e s1 ⟨rfl, f, z, f0, f1, rfl⟩
            exact ⟨by unfold itR; rw [if_neg (Nat.lt_irrefl _)], rfl, f, z, f0, f1, rfl⟩
        rintro e s1 ⟨rfl, f, z, f0, f1, rfl⟩
        -- a new row
        have new_ : ∀ s2 n2, Fr b s1 s2 → Bag s2 b k cells n2 → n2 ≤ n' + 1 → s2[st.length]? = some (.lst rows) → LP (fun e s => ∃ rows n' x y z, I (i + 1) s rows n' ∧ e = [some (.loc b), some (.loc a), some (.loc c), some (.loc st.length), x, y, z]) (NP (fun e s => ∃ rows n' x y z, I com.length s rows n' ∧ e = [some (.loc b), some (.loc a), some (.loc c), some (.loc st.length), x, y, z]) fun r => PP (fin st r))
            (mDrop (mBL fAppend (mVar 3) (mCons (mLst (mCons (mVar 4) mNil)) mNil)) [some (.loc b), some (.loc a), some (.loc c), some (.loc st.length), some (dk v), some (.int f), z] s2) := fun s2 n2 f2 B2 hn2 hr2 => by
          have hz : rows.length < sizeLine := by have := big_line; omega
          have hr3 : (s2 ++ [O.lst [dk v]])[st.length]? = some (.lst rows) := by
            rw [List.getElem?_append_left (List.getElem?_eq_some_iff.mp hr2).1]
            exact hr2
          wtm_at "ev"
          rw [rdL_of hr2]
          try wtm_at "ev"
          rw [if_pos (show (1 : Nat) ≤ sizeLine by decide +kernel)]
          simp only [fAppend, hr3, if_pos hz]
          try wtm_at "ev"
          have ff : Fr b st (s2 ++ [O.lst [dk v]]) := (hf.trans f2).trans Fr.app
          refine ⟨rows ++ [.loc s2.length], n2, _, _, _, ⟨ff.setn (Nat.le_refl _), B2.app.setn (by omega) (by omega), by omega, ?_, ?_, by rw [List.length_append]; simp only [List.length_cons, List.length_nil]; omega, ?_⟩, rfl⟩
          · rw [List.getElem?_set_self (List.getElem?_eq_some_iff.mp hr3).1]
          · rw [List.getElem?_set_ne (by omega), List.getElem?_append_left (by have := f2.len; omega)]
            exact f2.at_ _ _ (by omega) hcm
          · intro d hd
            rcases List.mem_append.mp hd with hd | hd
            · obtain ⟨q, ks, rfl, h2, h3, h4, h5, h6⟩ := hrw d hd
              have h3' := f2.at_ q _ (by omega) h3
              exact ⟨q, ks, rfl, h2, by rw [List.getElem?_set_ne (by omega), List.getElem?_append_left (List.getElem?_eq_some_iff.mp h3').1]; exact h3', h4, h5, by omega⟩
            · rw [List.mem_singleton.mp hd]
              exact ⟨s2.length, [v], rfl, by have := f2.len; omega, by rw [List.getElem?_set_ne (by have := f2.len; omega)]; exact app_last _ _, by simp, fun w hw => by rw [List.mem_singleton.mp hw]; exact hmem, by simp⟩
        by_cases h1 : f < 0
        · rw [mIfS_T (s1 := s1) (by wtm_at "ev"; simp only [decide_eq_true h1]; rw [if_pos trivial])]
          exact new_ s1 n' Fr.refl hBg (by omega) hr
        · obtain ⟨d, i1, r1, e1, a1, b1, B1⟩ := mLTake_eq (m := 6) hBg (by omega) (by decide) (by decide)
          have f2 : Fr b s1 (s1.set b (bagL k i1 r1 (n' + 1))) := Fr.setb
          have hr2 := f2.at_ _ _ (by omega) hr
          by_cases h2 : d = 0
          · rw [mIfS_T (s1 := s1.set b (bagL k i1 r1 (n' + 1))) (by wtm_at "ev"; simp only [decide_eq_false h1]; try wtm_at "ev"
                                                                    simp only [e1]; try wtm_at "ev"
                                                                    simp only [decide_eq_true h2])]
            exact new_ _ _ f2 B1 (by omega) hr2
          · rw [mIfS_F (s1 := s1.set b (bagL k i1 r1 (n' + 1))) (by wtm_at "ev"; simp only [decide_eq_false h1]; try wtm_at "ev"
                                                                    simp only [e1]; try wtm_at "ev"
                                                                    simp only [decide_eq_false h2])]
            obtain ⟨j, rfl⟩ : ∃ j : Nat, f = (j : Int) := ⟨f.toNat, by omega⟩
            have g2 := List.getElem?_eq_getElem (show j < rows.length by omega)
            generalize rows[j] = d2 at g2
            obtain ⟨q, ks, rfl, hq, hqs, hkn, hko, hkl2⟩ := hrw d2 (List.mem_of_getElem? g2)
            have hq2 := f2.at_ q _ (by omega) hqs
            have ix : fIx (.loc st.length) (.int (j : Int)) (s1.set b (bagL k i1 r1 (n' + 1))) = .ok (.loc q) (s1.set b (bagL k i1 r1 (n' + 1))) := ix_lst hr2 (L2.atI_nat g2)
            have hz : (ks.map dk).length < sizeLine := by rw [List.length_map]; have := big_line; omega
            wtm_at "ev"
            simp only [ix]
            try wtm_at "ev"
            simp only [rdL_of hq2]
            try wtm_at "ev"
            simp only [fAppend, hq2, if_pos hz]
            try wtm_at "ev"
            refine ⟨rows, n' + 1, _, _, _, ⟨(hf.trans f2).setn (by omega), B1.setn (by omega) (by omega), by omega, ?_, ?_, by omega, ?_⟩, rfl⟩
            · rw [List.getElem?_set_ne (by omega)]
              exact hr2
            · rw [List.getElem?_set_ne (by omega)]
              exact f2.at_ _ _ (by omega) hcm
            · intro d hd
              obtain ⟨q', ks', rfl, h2', h3, h4, h5, h6⟩ := hrw d hd
              have h3' := f2.at_ q' _ (by omega) h3
              by_cases hqq : q = q'
              · subst hqq
                rw [hqs] at h3
                have hke : ks = ks' := by
                  have := (O.lst.inj (Option.some.inj h3))
                  exact (List.map_inj_right (fun _ _ => dk_inj)).mp this
                subst hke
                exact ⟨q, ks ++ [v], rfl, h2', by rw [List.getElem?_set_self (List.getElem?_eq_some_iff.mp hq2).1, List.map_append]; rfl, by simp, fun w hw => by
                  rcases List.mem_append.mp hw with hw | hw
                  · exact hko w hw
                  · rw [List.mem_singleton.mp hw]; exact hmem, by rw [List.length_append]; simp only [List.length_cons, List.length_nil]; omega⟩
              · exact ⟨q', ks', rfl, h2', by rw [List.getElem?_set_ne hqq]; exact h3', h4, h5, by omega⟩
      · rintro e s ⟨rows, n', x, y, z, hI, rfl⟩
        obtain ⟨h1, h2, h3, h4, h5, h6⟩ := hI
        exact ⟨by unfold itL; rw [rdL_of h5, Option.map_some, List.getElem?_eq_none (by simp)], rows, n', x, y, z, ⟨h1, h2, h3, h4, h5, h6⟩, rfl⟩
    rintro e s ⟨rows, n', x, y, z, hI, rfl⟩
    show PP (finD st (.loc st.length) s)
    obtain ⟨h1, h2, h3, h4, h5, h6, h7⟩ := hI
    rcases finD_head h4 with e | e
    · rw [e]
      exact fini s rows n' h1 h2 (by omega) h4 (by omega) (h7.fr (b := b) Fr.refl (by omega) (by omega))
    · by_cases hrow : rows = []
      · subst hrow
        rw [e]
        have hl := h1.len
        have tk : ∀ (i : Nat) o, i < st.length → s[i]? = some o → (s.take st.length ++ [O.lst []])[i]? = some o := fun i o hi h => by
          rw [List.getElem?_append_left (by rw [List.length_take]; omega), List.getElem?_take_of_lt hi]
          exact h
        refine fini _ [] n' ⟨by simp; omega, fun i o ni hio => tk i o (List.getElem?_eq_some_iff.mp hio).1 (h1.at_ i o ni hio)⟩ ?_ (by omega) ?_ (by simp) (fun d hd => by simp at hd)
        · obtain ⟨⟨i, r, q1, q2, q3⟩, q4, q5, q6⟩ := h2
          exact ⟨⟨i, r, tk b _ hbl q1, q2, q3⟩, tk k _ hkl q4, q5, q6⟩
        · rw [List.getElem?_append_right (by rw [List.length_take]; omega), List.length_take, show st.length - min st.length s.length = 0 by omega]
          rfl
      · have : finD st (.loc st.length) s = .ok (.loc st.length) s := by
          refine finD_deep (Nat.le_refl _) h4 ?_
          cases rows with
          | nil => exact absurd rfl hrow
          | cons d r =>
            obtain ⟨q, ks, rfl, hq, _⟩ := h7 d (List.mem_cons_self ..)
            simp only [lowO, lows, low]
            rw [decide_eq_false (by omega), Bool.false_and]
        rw [this]
        exact fini s rows n' h1 h2 (by omega) h4 (by omega) (h7.fr (b := b) Fr.refl (by omega) (by omega))
  exact main

/-- what stands in the place of an item -/
def Odd (st : S) (d : D) : Prop := d = .bl true ∨ d = .non ∨ d = .tup [.int 1] ∨ (∃ q, d = .loc q ∧ st[q]? = some (.lst [.int 1])) ∨ ∃ k, d = dk k
theorem mLOddItem_eq {st : S} {b k a c : Nat} {cells : List Int} {n : Int} {old new : List Key} (hB : Bag st b k cells n) (hn : n < 50000) (ha : st[a]? = some (.lst (old.map dk))) (hc : st[c]? = some (.lst (new.map dk))) (nab : a ≠ b) (ncb : c ≠ b) (lo : old.length ≤ 62) (lw : new.length ≤ 62) :
    ∃ (d : D) (st' : S) (n' : Int), mLOddItem [.loc b, .loc a, .loc c] st = .ok d st' ∧ Fr b st st' ∧ Bag st' b k cells n' ∧ n' ≤ n + 2 ∧ Odd st' d ∧ (∀ q, d = .loc q → st.length ≤ q) := by
  obtain ⟨i0, r0, hb0, _, _⟩ := hB.at_
  have hbl := (List.getElem?_eq_some_iff.mp hb0).1
  have hkl := (List.getElem?_eq_some_iff.mp hB.cells).1
  obtain ⟨d1, i1, r1, e1, a1, b1, B1⟩ := mLTake_eq (m := 7) hB (by omega) (by decide) (by decide)
  have lg : ∀ i r n, lowO st.length (bagL k i r n) = true := fun i r n => by
    simp only [bagL, lowO, lows, low, Bool.and_true, decide_eq_true_eq]
    exact hkl
  let s1 : S := st.set b (bagL k i1 r1 (n + 1))
  have fl1 : s1.length = st.length := by simp [s1]
  have f1 : Fr b st s1 := Fr.setb
  suffices main : ∀ PP : R D → Prop, (∀ (d : D) (st' : S) (n' : Int), Fr b st st' → Bag st' b k cells n' → n' ≤ n + 2 → Odd st' d → (∀ q, d = .loc q → st.length ≤ q) → PP (.ok d st')) → PP (mLOddItem [.loc b, .loc a, .loc c] st) from
    main (fun res => ∃ (d : D) (st' : S) (n' : Int), res = .ok d st' ∧ Fr b st st' ∧ Bag st' b k cells n' ∧ n' ≤ n + 2 ∧ Odd st' d ∧ (∀ q, d = .loc q → st.length ≤ q)) fun d st' n' h1 h2 h3 h4 h5 => ⟨d, st', n', rfl, h1, h2, h3, h4, h5⟩
  intro PP fini
  have main : PP (mLOddItem [.loc b, .loc a, .loc c] st) := by
    unfold mLOddItem fnM mbLOddItem
    refine seq_inv (P := fun r => PP (fin st r)) (fun e s => s = s1 ∧ e = [some (.loc b), some (.loc a), some (.loc c), some (.int d1), none, none]) ?_ ?_
    · wtm_at "ev"
      simp only [e1]
      exact ⟨rfl, rfl⟩
    rintro e s ⟨rfl, rfl⟩
    refine seq_inv (P := fun r => PP (fin st r)) (fun e s => s = s1 ∧ e = [some (.loc b), some (.loc a), some (.loc c), some (.int d1), none, none]) ?_ ?_
    · by_cases h : d1 = 0
      · rw [mIfS_T (s1 := s1) (by wtm_at "ev"; simp only [decide_eq_true h])]
        show PP (fin st (.rt (.bl true) s1))
        rw [show fin st (.rt (.bl true) s1) = .ok (.bl true) s1 from finD_same fl1]
        exact fini _ _ _ f1 B1 (by omega) (.inl rfl) (fun _ z => by cases z)
      · rw [mIfS_F (s1 := s1) (by wtm_at "ev"; simp only [decide_eq_false h])]
        exact ⟨rfl, rfl⟩
    rintro e s ⟨rfl, rfl⟩
    refine seq_inv (P := fun r => PP (fin st r)) (fun e s => s = s1 ∧ e = [some (.loc b), some (.loc a), some (.loc c), some (.int d1), none, none]) ?_ ?_
    · by_cases h : d1 = 1
      · rw [mIfS_T (s1 := s1) (by wtm_at "ev"; simp only [decide_eq_true h])]
        show PP (fin st (.rt .non s1))
        rw [show fin st (.rt .non s1) = .ok .non s1 from finD_same fl1]
        exact fini _ _ _ f1 B1 (by omega) (.inr (.inl rfl)) (fun _ z => by cases z)
      · rw [mIfS_F (s1 := s1) (by wtm_at "ev"; simp only [decide_eq_false h])]
        exact ⟨rfl, rfl⟩
    rintro e s ⟨rfl, rfl⟩
    refine seq_inv (P := fun r => PP (fin st r)) (fun e s => s = s1 ∧ e = [some (.loc b), some (.loc a), some (.loc c), some (.int d1), none, none]) ?_ ?_
    · by_cases h : d1 = 2
      · rw [mIfS_T (s1 := s1) (by wtm_at "ev"; simp only [decide_eq_true h])]
        wtm_at "ev"
        rw [if_pos (show (1 : Nat) ≤ sizeLine by decide +kernel)]
        show PP (fin st (.rt (.tup [.int 1]) s1))
        rw [show fin st (.rt (.tup [.int 1]) s1) = .ok (.tup [.int 1]) s1 from finD_same fl1]
        exact fini _ _ _ f1 B1 (by omega) (.inr (.inr (.inl rfl))) (fun _ z => by cases z)
      · rw [mIfS_F (s1 := s1) (by wtm_at "ev"; simp only [decide_eq_false h])]
        exact ⟨rfl, rfl⟩
    rintro e s ⟨rfl, rfl⟩
    refine seq_inv (P := fun r => PP (fin st r)) (fun e s => s = s1 ∧ e = [some (.loc b), some (.loc a), some (.loc c), some (.int d1), none, none]) ?_ ?_
    · by_cases h : d1 = 3
      · rw [mIfS_T (s1 := s1) (by wtm_at "ev"; simp only [decide_eq_true h])]
        wtm_at "ev"
        rw [if_pos (show (1 : Nat) ≤ sizeLine by decide +kernel)]
        show PP (finD st (.loc s1.length) (s1 ++ [O.lst [.int 1]]))
        rw [fl1, show (D.loc st.length) = D.loc (st.length + 0) from rfl, finD_new (Chk.set (Chk.refl st) (lg _ _ _)) fl1 (j := 0) rfl (by simp [lowO, lows, low])]
        refine fini _ _ _ (f1.trans Fr.app) B1.app (by omega) (.inr (.inr (.inr (.inl ⟨_, rfl, ?_⟩)))) (fun q z => by cases z; exact Nat.le_refl _)
        rw [← fl1]
        exact app_last _ _
      · rw [mIfS_F (s1 := s1) (by wtm_at "ev"; simp only [decide_eq_false h])]
        exact ⟨rfl, rfl⟩
    rintro e s ⟨rfl, rfl⟩
    -- the strangers
    let s2 : S := s1 ++ [O.lst ((old ++ new).map dk)]
    let ks := (old ++ new).filter fun x => decide (plI old x < 0) || decide (plI new x < 0)
    have ha1 := f1.at_ a _ nab ha
    have hc1 := f1.at_ c _ ncb hc
    have la1 := (List.getElem?_eq_some_iff.mp ha1).1
    have lc1 := (List.getElem?_eq_some_iff.mp hc1).1
    have hs2 : s2[s1.length]? = some (.lst ((old ++ new).map dk)) := app_last _ _
    have ls2 : s1.length < s2.length := (List.getElem?_eq_some_iff.mp hs2).1
    have lc := lc_pure (mi := mIt (m2 fAdd (mVar 1) (mVar 2))) (it := itL s1.length) (g := gNm 5) (t := mOr (mB (m2 fLt (mCall 2 (nx mLPlace) (mCons (mVar 1) (mCons (mVar 5) mNil))) (mC (.int 0)))) (mB (m2 fLt (mCall 2 (nx mLPlace) (mCons (mVar 2) (mCons (mVar 5) mNil))) (mC (.int 0))))) (m := mVar 5) (vs := [5]) (env := [some (.loc b), some (.loc a), some (.loc c), some (.int d1), none, none]) (st0 := s1) (st := s2) (l := (old ++ new).map dk)
      (fun d => match keyD d with | some x => decide (plI old x < 0) || decide (plI new x < 0) | none => false) (fun d => d)
      (by
        wtm_at "ev"
        simp only [fAdd, ha1, hc1, List.length_map]
        have hz : old.length + new.length ≤ sizeLine := by have := big_line; omega
        rw [if_pos hz]
        try wtm_at "ev"
        rw [← List.map_append, rdL_of hs2]) (by rw [List.length_map, List.length_append]; omega) (fun acc i hi => by
        unfold itL
        rw [rdL_app ls2, rdL_of hs2]
        rfl)
      (fun i d acc hd => by
        rw [List.getElem?_map] at hd
        obtain ⟨x, _, rfl⟩ := Option.map_eq_some_iff.mp hd
        refine ⟨[some (.loc b), some (.loc a), some (.loc c), some (.int d1), none, some (dk x)], rfl, ?_, fun _ => rfl⟩
        have ha2 : (s2 ++ [O.lst acc])[a]? = some (.lst (old.map dk)) := by
          show (s1 ++ _ ++ _)[a]? = _
          rw [List.append_assoc, List.getElem?_append_left la1]
          exact ha1
        have hc2 : (s2 ++ [O.lst acc])[c]? = some (.lst (new.map dk)) := by
          show (s1 ++ _ ++ _)[c]? = _
          rw [List.append_assoc, List.getElem?_append_left lc1]
          exact hc1
        wtm_at "ev"
        rw [mLPlace_keys ha2 (by omega)]
        try wtm_at "ev"
        simp only [keyD_dk]
        by_cases h1 : plI old x < 0
        · simp only [decide_eq_true h1, Bool.true_or]
          try wtm_at "ev"
        · simp only [decide_eq_false h1, Bool.false_or]
          try wtm_at "ev"
          rw [mLPlace_keys hc2 (by omega)]
          rfl)
    have cnt : ((((old ++ new).map dk).filter fun d => match keyD d with | some x => decide (plI old x < 0) || decide (plI new x < 0) | none => false)).map (fun d => d) = ks.map dk := by
      rw [List.map_id', List.filter_map]
      congr 1
      refine List.filter_congr fun x _ => ?_
      show (match keyD (dk x) with | some x => decide (plI old x < 0) || decide (plI new x < 0) | none => false) = _
      rw [keyD_dk]
    rw [cnt] at lc
    let s3 : S := s2 ++ [O.lst (ks.map dk)]
    have hs3 : s3[s2.length]? = some (.lst (ks.map dk)) := app_last _ _
    refine seq_inv (P := fun r => PP (fin st r)) (fun e s => s = s3 ∧ e = [some (.loc b), some (.loc a), some (.loc c), some (.int d1), some (.loc s2.length), none]) ?_ ?_
    · show NP _ _ (R.bindS (mLc (mIt (m2 fAdd (mVar 1) (mVar 2))) (gNm 5) (mOr (mB (m2 fLt (mCall 2 (nx mLPlace) (mCons (mVar 1) (mCons (mVar 5) mNil))) (mC (.int 0)))) (mB (m2 fLt (mCall 2 (nx mLPlace) (mCons (mVar 2) (mCons (mVar 5) mNil))) (mC (.int 0))))) (mVar 5) [5] [some (.loc b), some (.loc a), some (.loc c), some (.int d1), none, none] s1) _ _)
      rw [lc]
      exact ⟨rfl, rfl⟩
    rintro e s ⟨rfl, rfl⟩
    have s3e : s3 = s1 ++ ([O.lst ((old ++ new).map dk)] ++ [O.lst (ks.map dk)]) := List.append_assoc _ _ _
    have ks_ne : ∀ x, (s3.set b x).length = s3.length := fun x => by simp
    refine seq_inv (P := fun r => PP (fin st r)) (fun e s => s = s3 ∧ ks ≠ [] ∧ e = [some (.loc b), some (.loc a), some (.loc c), some (.int d1), some (.loc s2.length), none]) ?_ ?_
    · have oth : PP (fin st (.rt (.str "other") s3)) := by
        rw [show fin st (.rt (.str "other") s3) = .ok (.str "other") s1 from by
          show finD st _ s3 = _
          rw [s3e]
          exact finD_cut (Chk.set (Chk.refl st) (lg _ _ _)) fl1 (by simp [low])]
        exact fini _ _ _ f1 B1 (by omega) (.inr (.inr (.inr (.inr ⟨.inr "other", rfl⟩)))) (fun _ z => by cases z)
      by_cases h1 : ((ks.map dk).length : Int) = 0
      · rw [mIfS_T (s1 := s3) (by wtm_at "ev"; rw [len_lst hs3]; try wtm_at "ev"
                                  simp only [decide_eq_true h1]; rw [if_pos trivial])]
        exact oth
      · by_cases h2 : d1 = 4
        · rw [mIfS_T (s1 := s3) (by wtm_at "ev"; rw [len_lst hs3]; try wtm_at "ev"
                                    simp only [decide_eq_false h1]; try wtm_at "ev"
                                    simp only [decide_eq_true h2])]
          exact oth
        · rw [mIfS_F (s1 := s3) (by wtm_at "ev"; rw [len_lst hs3]; try wtm_at "ev"
                                    simp only [decide_eq_false h1]; try wtm_at "ev"
                                    simp only [decide_eq_false h2])]
          exact ⟨rfl, fun z => h1 (by rw [z]; rfl), rfl⟩
    rintro e s ⟨rfl, kne, rfl⟩
    have hkl1 : 0 < ks.length := by cases h : ks with | nil => exact absurd h kne | cons _ _ => simp
    have lks : ks.length ≤ 124 := by
      have := List.length_filter_le (fun x => decide (plI old x < 0) || decide (plI new x < 0)) (old ++ new)
      rw [List.length_append] at this
      show (List.filter _ _).length ≤ 124
      omega
    have B3 : Bag s3 b k cells (n + 1) := by rw [s3e]; exact B1.app
    obtain ⟨d2, i2, r2, e2, a2, b2, B2⟩ := mLTake_eq (m := (ks.length : Int)) B3 (by omega) (by omega) (by omega)
    obtain ⟨j, rfl⟩ : ∃ j : Nat, d2 = (j : Int) := ⟨d2.toNat, by omega⟩
    have g2 := List.getElem?_eq_getElem (show j < ks.length by omega)
    generalize ks[j] = x at g2
    have hs4 : (s3.set b (bagL k i2 r2 (n + 1 + 1)))[s2.length]? = some (.lst (ks.map dk)) := by
      rw [List.getElem?_set_ne (by have : s1.length < s2.length := ls2; omega)]
      exact hs3
    wtm_at "ev"
    simp only [len_lst hs3, List.length_map]
    try wtm_at "ev"
    simp only [e2]
    try wtm_at "ev"
    rw [ix_lst hs4 (L2.atI_nat (show (ks.map dk)[j]? = some (dk x) by rw [List.getElem?_map, g2]; rfl))]
    show PP (finD st (dk x) (s3.set b (bagL k i2 r2 (n + 1 + 1))))
    have e5 : s3.set b (bagL k i2 r2 (n + 1 + 1)) = st.set b (bagL k i2 r2 (n + 1 + 1)) ++ ([O.lst ((old ++ new).map dk)] ++ [O.lst (ks.map dk)]) := by
      rw [s3e, List.set_append_left _ _ (by omega)]
      show (List.set (List.set st b _) b _) ++ _ = _
      rw [List.set_set]
    rw [e5, finD_cut (Chk.set (Chk.refl st) (lg _ _ _)) (by simp) (low_dk _ _)]
    refine fini _ _ (n + 1 + 1) Fr.setb ?_ (by omega) (.inr (.inr (.inr (.inr ⟨x, rfl⟩)))) (fun _ z => by cases x <;> cases z)
    rw [e5] at B2
    obtain ⟨⟨i, r, q1, q2, q3⟩, q4, q5, q6⟩ := B2
    rw [List.getElem?_append_left (by simpa using hbl)] at q1
    rw [List.getElem?_append_left (by simpa using hkl)] at q4
    exact ⟨⟨i, r, q1, q2, q3⟩, q4, q5, q6⟩
  exact main

theorem item_dk (s : S) (k : Key) : Item s (dk k) := ty_dk s k
theorem Odd.item {s : S} {d : D} (h : Odd s d) : Item s d := by
  rcases h with rfl | rfl | rfl | ⟨q, rfl, h⟩ | ⟨k, rfl⟩
  · exact ⟨_, rfl⟩
  · exact ⟨_, rfl⟩
  · exact ⟨_, rfl⟩
  · exact ⟨"list", by simp only [tyD, h]⟩
  · exact item_dk s k
/-- a row of items at R -/
structure Rw (st : S) (b k : Nat) (cells : List Int) (s : S) (R : Nat) (n' : Int) (items : List D) : Prop where
  fr : Fr b st s
  bag : Bag s b k cells n'
  new_ : st.length ≤ R
  at_ : s[R]? = some (.lst items)
  it : ∀ x ∈ items, Item s x
theorem item_set {s : S} {q : Nat} {l l' : List D} {x : D} (h : s[q]? = some (.lst l)) (hx : Item s x) : Item (s.set q (.lst l')) x := by
  obtain ⟨t, ht⟩ := hx
  cases x with
  | loc j =>
    by_cases hj : q = j
    · subst hj
      exact ⟨"list", by simp only [tyD, List.getElem?_set_self (List.getElem?_eq_some_iff.mp h).1]⟩
    · exact ⟨t, by simp only [tyD, List.getElem?_set_ne hj]; exact ht⟩
  | _ => exact ⟨t, ht⟩
theorem lows_mem {n : Nat} : ∀ {l : List D} {x : D}, lows n l = true → x ∈ l → low n x = true
  | [], x, _, h => by simp at h
  | d :: l, x, hl, h => by
    unfold lows at hl
    rw [Bool.and_eq_true] at hl
    rcases List.mem_cons.mp h with rfl | h
    · exact hl.1
    · exact lows_mem hl.2 h
theorem fin_row {st s : S} {b k R : Nat} {cells : List Int} {n' : Int} {items : List D} (hbl : b < st.length) (hkl : k < st.length) (h : Rw st b k cells s R n' items) : ∃ (R' : Nat) (s' : S), finD st (.loc R) s = .ok (.loc R') s' ∧ Rw st b k cells s' R' n' items := by
  have hl := h.fr.len
  unfold finD
  split
  · exact ⟨R, s, rfl, h⟩
  · split
    · rw [if_neg (by have := h.new_; simp only [low, decide_eq_true_eq]; omega)]
      simp only [h.at_]
      split
      · rename_i hlow
        have tk : ∀ (i : Nat) o, i < st.length → s[i]? = some o → (s.take st.length ++ [O.lst items])[i]? = some o := fun i o hi h => by
          rw [List.getElem?_append_left (by rw [List.length_take]; omega), List.getElem?_take_of_lt hi]
          exact h
        refine ⟨st.length, _, rfl, ⟨⟨by simp; omega, fun i o ni hio => tk i o (List.getElem?_eq_some_iff.mp hio).1 (h.fr.at_ i o ni hio)⟩, ?_, Nat.le_refl _, ?_, fun x hx => ?_⟩⟩
        · obtain ⟨⟨i, r, q1, q2, q3⟩, q4, q5, q6⟩ := h.bag
          exact ⟨⟨i, r, tk b _ hbl q1, q2, q3⟩, tk k _ hkl q4, q5, q6⟩
        · rw [List.getElem?_append_right (by rw [List.length_take]; omega), List.length_take, show st.length - min st.length s.length = 0 by omega]
          rfl
        · obtain ⟨t, ht⟩ := h.it x hx
          have lx := lows_mem (show lows st.length items = true from hlow.1) hx
          cases x with
          | loc j =>
            have hj : j < st.length := by
              simp only [low, decide_eq_true_eq] at lx
              exact lx
            have ht' : (match s[j]? with | some (.lst _) => some "list" | some (.dic _) => some "dict" | _ => none) = some t := ht
            refine ⟨t, ?_⟩
            show (match (s.take st.length ++ [O.lst items])[j]? with | some (.lst _) => some "list" | some (.dic _) => some "dict" | _ => none) = some t
            rw [List.getElem?_append_left (by rw [List.length_take]; omega), List.getElem?_take_of_lt hj]
            exact ht'
          | _ => exact ⟨t, ht⟩
      · exact ⟨R, s, rfl, h⟩
    · exact ⟨R, s, rfl, h⟩
theorem item_fr {st s : S} {b : Nat} {x : D} {l : List D} (hb : st[b]? = some (.lst l)) (hb' : ∃ l', s[b]? = some (.lst l')) (f : Fr b st s) (h : Item st x) : Item s x := by
  obtain ⟨t, ht⟩ := h
  cases x with
  | loc j =>
    by_cases hj : j = b
    · subst hj
      obtain ⟨l', hl'⟩ := hb'
      exact ⟨"list", by simp only [tyD, hl']⟩
    · have ht' : (match st[j]? with | some (.lst _) => some "list" | some (.dic _) => some "dict" | _ => none) = some t := ht
      cases q : st[j]? with
      | none => rw [q] at ht'; cases ht'
      | some o =>
        rw [q] at ht'
        exact ⟨t, by simp only [tyD, f.at_ j o hj q]; exact ht'⟩
  | _ => exact ⟨t, ht⟩
theorem Bag.lst {st : S} {b k : Nat} {cells : List Int} {n : Int} (h : Bag st b k cells n) : ∃ l, st[b]? = some (.lst l) := by
  obtain ⟨i, r, q, _⟩ := h.at_
  exact ⟨_, q⟩
/-- the bag is drawn from -/
theorem Rw.fr' {st s s' : S} {b k R : Nat} {cells : List Int} {n' n2 : Int} {items : List D} (hbR : b < st.length) (h : Rw st b k cells s R n' items) (f : Fr b s s') (B : Bag s' b k cells n2) : Rw st b k cells s' R n2 items := by
  obtain ⟨l, hl⟩ := h.bag.lst
  exact ⟨h.fr.trans f, B, h.new_, f.at_ R _ (by have := h.new_; omega) h.at_, fun x hx => item_fr hl B.lst f (h.it x hx)⟩
/-- the row is changed -/
theorem Rw.set {st s : S} {b k R : Nat} {cells : List Int} {n' : Int} {items items' : List D} (hbR : b < st.length) (hkR : k < st.length) (h : Rw st b k cells s R n' items) (hi : ∀ x ∈ items', Item s x) : Rw st b k cells (s.set R (.lst items')) R n' items' := by
  have := h.new_
  exact ⟨h.fr.setn h.new_, h.bag.setn (by omega) (by omega), h.new_, List.getElem?_set_self (List.getElem?_eq_some_iff.mp h.at_).1, fun x hx => item_set h.at_ (hi x hx)⟩
/-- another row -/
theorem Rw.new2 {st s J : S} {b k R R' : Nat} {cells : List Int} {n' : Int} {items items' : List D} (h : Rw st b k cells s R n' items) (hR : s.length ≤ R') (hJ : (s ++ J)[R']? = some (.lst items')) (hi : ∀ x ∈ items', Item s x) : Rw st b k cells (s ++ J) R' n' items' :=
  ⟨h.fr.trans Fr.app, h.bag.app, Nat.le_trans h.fr.len hR, hJ, fun x hx => by
    obtain ⟨t, ht⟩ := hi x hx
    exact ⟨t, item_app ht⟩⟩
theorem one_bools {s : S} {items : List D} (h : ∀ x ∈ items, Odd s x) : ∃ bs : List Bool, bs.length = items.length ∧ ∀ (i : Nat) x b, items[i]? = some x → bs[i]? = some b → ∃ xs, fIsi [x, .ty "str"] s = .ok (.bl xs) s ∧ (xs = false → fEq false x (.int 1) s = .ok (.bl b) s) ∧ (xs ≠ false → b = false) := by
  induction items with
  | nil => exact ⟨[], rfl, fun i x b h => by simp at h⟩
  | cons d r ih =>
    obtain ⟨bs, l1, h1⟩ := ih fun x hx => h x (List.mem_cons_of_mem _ hx)
    have hd : ∃ b xs, fIsi [d, .ty "str"] s = .ok (.bl xs) s ∧ (xs = false → fEq false d (.int 1) s = .ok (.bl b) s) ∧ (xs ≠ false → b = false) := by
      rcases h d (List.mem_cons_self ..) with rfl | rfl | rfl | ⟨q, rfl, hq⟩ | ⟨k, rfl⟩
      · exact ⟨true, false, isi_of (t := "bool") rfl rfl, fun _ => rfl, fun z => absurd rfl z⟩
      · exact ⟨false, false, isi_of (t := "NoneType") rfl rfl, fun _ => rfl, fun z => absurd rfl z⟩
      · refine ⟨false, false, isi_of (t := "tuple") rfl rfl, fun _ => ?_, fun z => absurd rfl z⟩
        rfl
      · refine ⟨false, false, isi_of (t := "list") (by simp only [tyD, hq]) rfl, fun _ => ?_, fun z => absurd rfl z⟩
        unfold fEq
        rw [if_neg (by simp [scal2, flat])]
        have : toP s 50 (.loc q) = some (.list [.int 1]) := by
          show (match rdL s q with | some l => (l.mapM (toP s 49)).map PyData.list | none => none) = _
          rw [rdL_of hq]
          rfl
        rw [this]
        rfl
      · cases k with
        | inl i => exact ⟨_, false, isi_str_dk, fun _ => feq_int, fun z => absurd rfl z⟩
        | inr z => exact ⟨false, true, isi_str_dk, (fun z => absurd z (by simp)), fun _ => rfl⟩
    obtain ⟨b, xs, c1, c2, c3⟩ := hd
    refine ⟨b :: bs, by simp [l1], fun i x b' hx hb => ?_⟩
    cases i with
    | zero =>
      simp only [List.getElem?_cons_zero, Option.some.injEq] at hx hb
      subst hx hb
      exact ⟨xs, c1, c2, c3⟩
    | succ i =>
      simp only [List.getElem?_cons_succ] at hx hb
      exact h1 i x b' hx hb

theorem ixN_nt {n j : Nat} (hj : j < n) : ixN n (j : Int) = some j := by
  unfold ixN
  rw [if_pos (by omega), if_pos (by omega), Int.toNat_natCast]
theorem ixN_ge {n : Nat} {i : Int} (h1 : -1 ≤ i) (h2 : i < n) (h3 : 0 < n) : ∃ j, ixN n i = some j := by
  unfold ixN
  by_cases h : 0 ≤ i
  · exact ⟨i.toNat, by rw [if_pos h, if_pos h2]⟩
  · exact ⟨(i + n).toNat, by rw [if_neg h, if_pos (by omega)]⟩
theorem Odd.fr {st s : S} {b : Nat} {x : D} {l l' : List D} (hx : Odd st x) (f : Fr b st s) (hb : st[b]? = some (.lst l)) (hb' : ∀ q, x = .loc q → q ≠ b) : Odd s x := by
  rcases hx with rfl | rfl | rfl | ⟨q, rfl, h⟩ | ⟨k, rfl⟩
  · exact .inl rfl
  · exact .inr (.inl rfl)
  · exact .inr (.inr (.inl rfl))
  · exact .inr (.inr (.inr (.inl ⟨q, rfl, f.at_ q _ (hb' q rfl) h⟩)))
  · exact .inr (.inr (.inr (.inr ⟨k, rfl⟩)))
theorem mLSpoilt_eq {st : S} {b k a c q : Nat} {cells : List Int} {n : Int} {old new ks : List Key} (hB : Bag st b k cells n) (hn : n < 40000) (ha : st[a]? = some (.lst (old.map dk))) (hc : st[c]? = some (.lst (new.map dk))) (hq : st[q]? = some (.lst (ks.map dk))) (nab : a ≠ b) (ncb : c ≠ b) (nqb : q ≠ b) (lo : old.length ≤ 62) (lw : new.length ≤ 62) (lk : ks.length ≤ 62) (hko : ∀ x ∈ ks, x ∈ old) :
    ∃ (R : Nat) (s' : S) (n' : Int) (items : List D), mLSpoilt [.loc b, .loc q, .loc a, .loc c] st = .ok (.loc R) s' ∧ Rw st b k cells s' R n' items ∧ n' ≤ n + 10 ∧ items.length ≤ 63 := by
  obtain ⟨i0, r0, hb0, _, _⟩ := hB.at_
  have hbl := (List.getElem?_eq_some_iff.mp hb0).1
  have hkl := (List.getElem?_eq_some_iff.mp hB.cells).1
  have hal := (List.getElem?_eq_some_iff.mp ha).1
  have hcl := (List.getElem?_eq_some_iff.mp hc).1
  obtain ⟨d1, i1, r1, e1, a1, b1, B1⟩ := mLTake_eq (m := 6) hB (by omega) (by decide) (by decide)
  let s1 : S := st.set b (bagL k i1 r1 (n + 1))
  have fl1 : s1.length = st.length := by simp [s1]
  have f1 : Fr b st s1 := Fr.setb
  suffices main : ∀ PP : R D → Prop, (∀ (R : Nat) (s' : S) (n' : Int) (items : List D), Rw st b k cells s' R n' items → n' ≤ n + 10 → items.length ≤ 63 → PP (.ok (.loc R) s')) → PP (mLSpoilt [.loc b, .loc q, .loc a, .loc c] st) from
    main (fun res => ∃ (R : Nat) (s' : S) (n' : Int) (items : List D), res = .ok (.loc R) s' ∧ Rw st b k cells s' R n' items ∧ n' ≤ n + 10 ∧ items.length ≤ 63) fun R s' n' items h1 h2 h3 => ⟨R, s', n', items, rfl, h1, h2, h3⟩
  intro PP fini
  have fini' : ∀ (R : Nat) (s' : S) (n' : Int) (items : List D), Rw st b k cells s' R n' items → n' ≤ n + 10 → items.length ≤ 63 → PP (fin st (.rt (.loc R) s')) := fun R s' n' items h h2 h3 => by
    obtain ⟨R', s'', e, h'⟩ := fin_row hbl hkl h
    show PP (finD st (.loc R) s')
    rw [e]
    exact fini _ _ _ _ h' h2 h3
  have hq1 := f1.at_ q _ nqb hq
  let s2 : S := s1 ++ [O.lst (ks.map dk)]
  have ikey : ∀ s : S, ∀ x ∈ ks.map dk, Item s x := fun s x hx => by
    obtain ⟨z, _, rfl⟩ := List.mem_map.mp hx
    exact item_dk s z
  have R2 : Rw st b k cells s2 st.length (n + 1) (ks.map dk) := ⟨f1.trans Fr.app, B1.app, Nat.le_refl _, by rw [← fl1]; exact app_last _ _, ikey _⟩
  have main : PP (mLSpoilt [.loc b, .loc q, .loc a, .loc c] st) := by
    unfold mLSpoilt fnM mbLSpoilt
    refine seq_inv (P := fun r => PP (fin st r)) (fun e s => s = s1 ∧ e = [some (.loc b), some (.loc q), some (.loc a), some (.loc c), some (.int d1), none, none]) ?_ ?_
    · wtm_at "ev"
      simp only [e1]
      exact ⟨rfl, rfl⟩
    rintro e s ⟨rfl, rfl⟩
    refine seq_inv (P := fun r => PP (fin st r)) (fun e s => s = s2 ∧ e = [some (.loc b), some (.loc st.length), some (.loc a), some (.loc c), some (.int d1), none, none]) ?_ ?_
    · wtm_at "ev"
      simp only [fList, seqD, rdL_of hq1]
      try wtm_at "ev"
      exact ⟨rfl, by rw [fl1]⟩
    rintro e s ⟨rfl, rfl⟩
    refine seq_inv (P := fun r => PP (fin st r)) (fun e s => ks ≠ [] ∧ s = s2 ∧ e = [some (.loc b), some (.loc st.length), some (.loc a), some (.loc c), some (.int d1), none, none]) ?_ ?_
    · by_cases h0 : ks = []
      · have lz : ((ks.map dk).length : Int) = 0 := by rw [h0]; rfl
        rw [mIfS_T (s1 := s2) (by wtm_at "ev"; rw [len_lst R2.at_]; try wtm_at "ev"
                                  simp only [decide_eq_true lz])]
        by_cases h1 : 2 < d1
        · obtain ⟨d, s3, n3, o1, o2, o3, o4, o5, o6⟩ := mLOddItem_eq (old := old) (new := new) R2.bag (by omega) (R2.fr.at_ a _ nab ha) (R2.fr.at_ c _ ncb hc) nab ncb lo lw
          have R3 := R2.fr' hbl o2 o3
          wtm_at "ev"
          simp only [decide_eq_true h1]
          try wtm_at "ev"
          simp only [rdL_of R2.at_, o1]
          try wtm_at "ev"
          simp only [fAppend, R3.at_]
          rw [if_pos (by have := big_line; rw [List.length_map]; omega)]
          try wtm_at "ev"
          refine fini' _ _ n3 _ (R3.set hbl hkl (items' := ks.map dk ++ [d]) fun x hx => ?_) (by omega) (by simp; omega)
          rcases List.mem_append.mp hx with hx | hx
          · exact R3.it x hx
          · obtain rfl := List.mem_singleton.mp hx
            exact o5.item
        · wtm_at "ev"
          simp only [decide_eq_false h1]
          try wtm_at "ev"
          exact fini' _ _ _ _ R2 (by omega) (by rw [List.length_map]; omega)
      · have lz : ¬ ((ks.map dk).length : Int) = 0 := fun z => h0 (by cases ks with | nil => rfl | cons _ _ => simp at z; omega)
        rw [mIfS_F (s1 := s2) (by wtm_at "ev"; rw [len_lst R2.at_]; try wtm_at "ev"
                                  simp only [decide_eq_false lz])]
        exact ⟨h0, rfl, rfl⟩
    rintro e s ⟨kne, rfl, rfl⟩
    have kpos : 0 < ks.length := by cases h : ks with | nil => exact absurd h kne | cons _ _ => simp
    have opos : 0 < old.length := by
      cases h : ks with
      | nil => exact absurd h kne
      | cons x r =>
        have := hko x (by rw [h]; exact List.mem_cons_self ..)
        cases old with
        | nil => cases this
        | cons _ _ => simp
    obtain ⟨d2, i2, r2, e2, a2, b2, B2⟩ := mLTake_eq (m := (ks.length : Int)) R2.bag (by omega) (by omega) (by omega)
    obtain ⟨j, rfl⟩ : ∃ j : Nat, d2 = (j : Int) := ⟨d2.toNat, by omega⟩
    have hj : j < ks.length := by omega
    generalize hs3 : s2.set b (bagL k i2 r2 (n + 1 + 1)) = s3 at e2 B2
    have R3 : Rw st b k cells s3 st.length (n + 1 + 1) (ks.map dk) := R2.fr' hbl (by rw [← hs3]; exact Fr.setb) B2
    have ha3 := R3.fr.at_ a _ nab ha
    have hc3 := R3.fr.at_ c _ ncb hc
    let I : Int → Ev → S → Prop := fun m e s => (m ≤ d1 → s = s3 ∧ e = [some (.loc b), some (.loc st.length), some (.loc a), some (.loc c), some (.int d1), some (.int (j : Nat)), none]) ∧ ∃ (R : Nat) (n' : Int) (items : List D) (x6 : Option D), e = [some (.loc b), some (.loc R), some (.loc a), some (.loc c), some (.int d1), some (.int (j : Nat)), x6] ∧ Rw st b k cells s R n' items ∧ n' ≤ n + 10 ∧ items.length ≤ 63
    have I_no : ∀ {m : Int} {e s}, I m e s → d1 ≠ m → I (m + 1) e s := fun h hm => ⟨fun z => h.1 (by omega), h.2⟩
    have I_yes : ∀ {m : Int} {R : Nat} {n' : Int} {items : List D} {x6 : Option D} {s : S}, d1 = m → Rw st b k cells s R n' items → n' ≤ n + 10 → items.length ≤ 63 → I (m + 1) [some (.loc b), some (.loc R), some (.loc a), some (.loc c), some (.int d1), some (.int (j : Nat)), x6] s := fun hm h1 h2 h3 => ⟨fun z => by omega, _, _, _, _, rfl, h1, h2, h3⟩
    have lkm : (ks.map dk).length = ks.length := List.length_map _
    refine seq_inv (P := fun r => PP (fin st r)) (I 1) ?_ ?_
    · wtm_at "ev"
      rw [len_lst R2.at_, lkm]
      try wtm_at "ev"
      simp only [e2]
      exact ⟨fun _ => ⟨rfl, rfl⟩, _, _, _, _, rfl, R3, by omega, by omega⟩
    have gj : (ks.map dk)[j]? = some (dk ks[j]) := by rw [List.getElem?_map, List.getElem?_eq_getElem hj]; rfl
    -- kind 1
    intro e s h1
    refine seq_inv (P := fun r => PP (fin st r)) (I 2) ?_ ?_
    · by_cases hd : d1 = 1
      · obtain ⟨es, ee⟩ := h1.1 (by omega)
        rw [es, ee]
        by_cases hl : (j : Int) + 1 < (ks.length : Int)
        · rw [mIfS_T (s1 := s3) (by wtm_at "ev"; simp only [decide_eq_true hd]; try wtm_at "ev"
                                    rw [len_lst R3.at_, lkm]; try wtm_at "ev"
                                    simp only [decide_eq_true hl])]
          have g2 : (ks.map dk)[j + 1]? = some (dk ks[j + 1]) := by rw [List.getElem?_map, List.getElem?_eq_getElem (by omega)]; rfl
          have R4 := R3.set hbl hkl (items' := (ks.map dk).set j (dk ks[j + 1])) fun x hx => by
            rcases List.mem_or_eq_of_mem_set hx with hx | rfl
            · exact ikey _ x hx
            · exact item_dk _ _
          obtain ⟨d3, i3, r3, e3, a3, b3, B3⟩ := mLTake_eq (m := (old.length : Int)) R4.bag (by omega) (by omega) (by omega)
          obtain ⟨j3, rfl⟩ : ∃ j : Nat, d3 = (j : Int) := ⟨d3.toNat, by omega⟩
          have R5 := R4.fr' hbl Fr.setb B3
          have ha4 := R4.fr.at_ a _ nab ha
          have ha5 := R5.fr.at_ a _ nab ha
          have go : (old.map dk)[j3]? = some (dk old[j3]) := by rw [List.getElem?_map, List.getElem?_eq_getElem (by omega)]; rfl
          wtm_at "ev"
          rw [show (j : Int) + 1 = ((j + 1 : Nat) : Int) from rfl, ix_lst R3.at_ (L2.atI_nat g2)]
          try wtm_at "ev"
          rw [set_lst R3.at_ (ixN_nt (by omega))]
          try wtm_at "ev"
          rw [len_lst ha4, List.length_map]
          try wtm_at "ev"
          simp only [e3]
          try wtm_at "ev"
          rw [ix_lst ha5 (L2.atI_nat go)]
          try wtm_at "ev"
          rw [show (j : Int) + 1 = ((j + 1 : Nat) : Int) from rfl, set_lst R5.at_ (ixN_nt (by rw [List.length_set]; omega))]
          try wtm_at "ev"
          refine I_yes (m := 1) hd (R5.set hbl hkl fun x hx => ?_) (by omega) (by simp; omega)
          rcases List.mem_or_eq_of_mem_set hx with hx | rfl
          · exact R5.it x hx
          · exact item_dk _ _
        · rw [mIfS_F (s1 := s3) (by wtm_at "ev"; simp only [decide_eq_true hd]; try wtm_at "ev"
                                    rw [len_lst R3.at_, lkm]; try wtm_at "ev"
                                    simp only [decide_eq_false hl])]
          exact I_yes (m := 1) hd R3 (by omega) (by omega)
      · obtain ⟨_, R, n', items, x6, rfl, hh⟩ := id h1
        rw [mIfS_F (s1 := s) (by wtm_at "ev"; simp only [decide_eq_false hd]; try wtm_at "ev")]
        exact I_no h1 hd
    clear h1 e s
    -- kind 2
    intro e s h1
    refine seq_inv (P := fun r => PP (fin st r)) (I 3) ?_ ?_
    · by_cases hd : d1 = 2
      · obtain ⟨es, ee⟩ := h1.1 (by omega)
        rw [es, ee]
        rw [mIfS_T (s1 := s3) (by wtm_at "ev"; simp only [decide_eq_true hd])]
        have hR3 := (List.getElem?_eq_some_iff.mp R3.at_).1
        have q1 : (s3 ++ [O.lst ((ks.map dk).take j)])[st.length]? = some (.lst (ks.map dk)) := by
          rw [List.getElem?_append_left hR3]
          exact R3.at_
        have q2 : (s3 ++ [O.lst ((ks.map dk).take j)] ++ [O.lst ((ks.map dk).drop (j + 1))])[s3.length]? = some (.lst ((ks.map dk).take j)) := by
          rw [List.getElem?_append_left (by simp)]
          exact app_last _ _
        have q3 : (s3 ++ [O.lst ((ks.map dk).take j)] ++ [O.lst ((ks.map dk).drop (j + 1))])[(s3 ++ [O.lst ((ks.map dk).take j)]).length]? = some (.lst ((ks.map dk).drop (j + 1))) := app_last _ _
        have l1 : ((ks.map dk).take j).length + ((ks.map dk).drop (j + 1)).length ≤ 62 := by simp; omega
        wtm_at "ev"
        simp only [fSl, rdL_of R3.at_, cut_take]
        try wtm_at "ev"
        rw [show (j : Int) + 1 = ((j + 1 : Nat) : Int) from rfl]
        simp only [rdL_of q1, cut_drop]
        try wtm_at "ev"
        simp only [fAdd, q2, q3]
        rw [if_pos (by have := big_line; omega)]
        try wtm_at "ev"
        have e5 : s3 ++ [O.lst ((ks.map dk).take j)] ++ [O.lst ((ks.map dk).drop (j + 1))] ++ [O.lst ((ks.map dk).take j ++ (ks.map dk).drop (j + 1))] = s3 ++ ([O.lst ((ks.map dk).take j)] ++ [O.lst ((ks.map dk).drop (j + 1))] ++ [O.lst ((ks.map dk).take j ++ (ks.map dk).drop (j + 1))]) := by
          simp only [List.append_assoc]
        have R4 := R3.new2 (R' := (s3 ++ [O.lst ((ks.map dk).take j)] ++ [O.lst ((ks.map dk).drop (j + 1))]).length) (J := [O.lst ((ks.map dk).take j)] ++ [O.lst ((ks.map dk).drop (j + 1))] ++ [O.lst ((ks.map dk).take j ++ (ks.map dk).drop (j + 1))]) (by simp) (by rw [← e5]; exact app_last _ _) (fun x hx => ikey _ x (by
          rcases List.mem_append.mp hx with hx | hx
          · exact List.mem_of_mem_take hx
          · exact List.mem_of_mem_drop hx))
        rw [← e5] at R4
        exact I_yes (m := 2) hd R4 (by omega) (by rw [List.length_append]; omega)
      · obtain ⟨_, R, n', items, x6, rfl, hh⟩ := id h1
        rw [mIfS_F (s1 := s) (by wtm_at "ev"; simp only [decide_eq_false hd])]
        exact I_no h1 hd
    clear h1 e s
    -- kind 3
    intro e s h1
    refine seq_inv (P := fun r => PP (fin st r)) (I 4) ?_ ?_
    · by_cases hd : d1 = 3
      · obtain ⟨es, ee⟩ := h1.1 (by omega)
        rw [es, ee]
        rw [mIfS_T (s1 := s3) (by wtm_at "ev"; simp only [decide_eq_true hd])]
        obtain ⟨d3, i3, r3, e3, a3, b3, B3⟩ := mLTake_eq (m := (ks.length : Int) + 1) R3.bag (by omega) (by omega) (by omega)
        obtain ⟨j3, rfl⟩ : ∃ j : Nat, d3 = (j : Int) := ⟨d3.toNat, by omega⟩
        have R4 := R3.fr' hbl Fr.setb B3
        wtm_at "ev"
        simp only [rdL_of R3.at_]
        try wtm_at "ev"
        rw [len_lst R3.at_, lkm]
        try wtm_at "ev"
        simp only [e3]
        try wtm_at "ev"
        rw [ix_lst R4.at_ (L2.atI_nat gj)]
        try wtm_at "ev"
        simp only [fInsert, R4.at_]
        rw [if_pos ⟨by have := big_line; omega, by omega, okR_mk (by omega) (by omega)⟩]
        try wtm_at "ev"
        refine I_yes (m := 3) hd (R4.set hbl hkl fun x hx => ?_) (by omega) (by simp; omega)
        rcases List.mem_append.mp hx with hx | hx
        · rcases List.mem_append.mp hx with hx | hx
          · exact ikey _ x (List.mem_of_mem_take hx)
          · obtain rfl := List.mem_singleton.mp hx
            exact item_dk _ _
        · exact ikey _ x (List.mem_of_mem_drop hx)
      · obtain ⟨_, R, n', items, x6, rfl, hh⟩ := id h1
        rw [mIfS_F (s1 := s) (by wtm_at "ev"; simp only [decide_eq_false hd])]
        exact I_no h1 hd
    clear h1 e s
    -- kind 4
    intro e s h1
    refine seq_inv (P := fun r => PP (fin st r)) (I 5) ?_ ?_
    · by_cases hd : d1 = 4
      · obtain ⟨es, ee⟩ := h1.1 (by omega)
        rw [es, ee]
        rw [mIfS_T (s1 := s3) (by wtm_at "ev"; simp only [decide_eq_true hd])]
        obtain ⟨d, s4, n4, o1, o2, o3, o4, o5, o6⟩ := mLOddItem_eq (old := old) (new := new) R3.bag (by omega) ha3 hc3 nab ncb lo lw
        have R4 := R3.fr' hbl o2 o3
        have bl4 : ∃ l, s4[b]? = some (.lst l) := R4.bag.lst
        have nRb : st.length ≠ b := by omega
        have hR3 := (List.getElem?_eq_some_iff.mp R3.at_).1
        have ne5 : ∀ q, d = .loc q → q ≠ b ∧ q ≠ st.length := fun q z => by have := o6 q z; have := R3.fr.len; exact ⟨by omega, by omega⟩
        let it5 : List D := (ks.map dk).set j d
        have od5 : ∀ s : S, (∀ q, d = .loc q → s[q]? = some (.lst [.int 1])) → ∀ x ∈ it5, Odd s x := fun s hs x hx => by
          rcases List.mem_or_eq_of_mem_set hx with hx | rfl
          · obtain ⟨z, _, rfl⟩ := List.mem_map.mp hx
            exact .inr (.inr (.inr (.inr ⟨z, rfl⟩)))
          · rcases o5 with h | h | h | ⟨q, h, _⟩ | h
            · exact .inl h
            · exact .inr (.inl h)
            · exact .inr (.inr (.inl h))
            · exact .inr (.inr (.inr (.inl ⟨q, h, hs q h⟩)))
            · exact .inr (.inr (.inr (.inr h)))
        have at4 : ∀ q, d = .loc q → s4[q]? = some (.lst [.int 1]) := fun q z => by
          rcases o5 with h | h | h | ⟨q', h, h'⟩ | ⟨y, h⟩
          · rw [h] at z; cases z
          · rw [h] at z; cases z
          · rw [h] at z; cases z
          · rw [h] at z; cases z; exact h'
          · rw [h] at z; cases y <;> cases z
        have l5 : it5.length = ks.length := by simp [it5]
        have R5 := R4.set hbl hkl (items' := it5) fun x hx => by
          rcases List.mem_or_eq_of_mem_set hx with hx | rfl
          · exact ikey _ x hx
          · exact o5.item
        generalize hs5 : s4.set st.length (.lst it5) = s5 at R5
        have od5' : ∀ x ∈ it5, Odd s5 x := od5 s5 fun q z => by
          rw [← hs5, List.getElem?_set_ne (ne5 q z).2.symm]
          exact at4 q z
        have ha5 := R5.fr.at_ a _ nab ha
        have w1 := mLPlace_keys (k := .inl 1) ha5 (by omega)
        obtain ⟨bs, bl, bp⟩ := one_bools od5'
        have w2 := mLPlace_gen (v := .int 1) (vs := false) R5.at_ (by omega) bl (by rfl) bp
        refine seq_inv (P := NP (I 5) fun r => PP (fin st r)) (fun e s => s = s4.set st.length (.lst it5) ∧ e = [some (.loc b), some (.loc st.length), some (.loc a), some (.loc c), some (.int d1), some (.int (j : Nat)), none]) ?_ ?_
        · wtm_at "ev"
          simp only [o1]
          try wtm_at "ev"
          rw [set_lst R4.at_ (ixN_nt (by omega))]
          try wtm_at "ev"
          exact ⟨rfl, rfl⟩
        rintro _ _ ⟨rfl, rfl⟩
        rw [hs5]
        refine seq_inv (P := NP (I 5) fun r => PP (fin st r)) (fun e s => s = s4.set st.length (.lst it5) ∧ e = [some (.loc b), some (.loc st.length), some (.loc a), some (.loc c), some (.int d1), some (.int (j : Nat)), some (.int (plI old (.inl 1)))]) ?_ ?_
        · wtm_at "ev"
          simp only [show (D.int 1) = dk (.inl 1) from rfl, w1]
          try wtm_at "ev"
          exact ⟨hs5.symm, rfl⟩
        rintro _ _ ⟨rfl, rfl⟩
        rw [hs5]
        by_cases p1 : 0 ≤ plI old (.inl 1)
        · by_cases p2 : 0 ≤ firstT bs
          · obtain ⟨d6, i6, r6, e6, a6, b6, B6⟩ := mLTake_eq (m := 2) R5.bag (by omega) (by decide) (by decide)
            generalize hs6 : s5.set b (bagL k i6 r6 (n4 + 1)) = s6 at e6 B6
            have R6 := R5.fr' hbl (by rw [← hs6]; exact Fr.setb) B6
            by_cases p3 : 0 < d6
            · rw [mIfS_T (s1 := s6) (by wtm_at "ev"; simp only [decide_eq_true p1]; try wtm_at "ev"
                                        simp only [w2]; try wtm_at "ev"
                                        simp only [decide_eq_true p2]; try wtm_at "ev"
                                        simp only [e6]; try wtm_at "ev"
                                        simp only [decide_eq_true p3])]
              have od6 : ∀ x ∈ it5, Odd s6 x := od5 s6 fun q z => by
                rw [← hs6, List.getElem?_set_ne (ne5 q z).1.symm, ← hs5, List.getElem?_set_ne (ne5 q z).2.symm]
                exact at4 q z
              obtain ⟨bs6, bl6, bp6⟩ := one_bools od6
              have w3 := mLPlace_gen (v := .int 1) (vs := false) R6.at_ (by omega) bl6 (by rfl) bp6
              obtain ⟨f1, f2⟩ := firstT_le bs6
              obtain ⟨j6, ej⟩ := ixN_ge (n := it5.length) f1 (by omega) (by omega)
              wtm_at "ev"
              simp only [w3]
              try wtm_at "ev"
              rw [set_lst R6.at_ ej]
              try wtm_at "ev"
              refine I_yes (m := 4) hd (R6.set hbl hkl fun x hx => ?_) (by omega) (by rw [List.length_set]; omega)
              rcases List.mem_or_eq_of_mem_set hx with hx | rfl
              · exact R6.it x hx
              · exact ⟨_, rfl⟩
            · rw [mIfS_F (s1 := s6) (by wtm_at "ev"; simp only [decide_eq_true p1]; try wtm_at "ev"
                                        simp only [w2]; try wtm_at "ev"
                                        simp only [decide_eq_true p2]; try wtm_at "ev"
                                        simp only [e6]; try wtm_at "ev"
                                        simp only [decide_eq_false p3])]
              exact I_yes (m := 4) hd R6 (by omega) (by omega)
          · rw [mIfS_F (s1 := s5) (by wtm_at "ev"; simp only [decide_eq_true p1]; try wtm_at "ev"
                                      simp only [w2]; try wtm_at "ev"
                                      simp only [decide_eq_false p2]; try wtm_at "ev")]
            exact I_yes (m := 4) hd R5 (by omega) (by omega)
        · rw [mIfS_F (s1 := s5) (by wtm_at "ev"; simp only [decide_eq_false p1]; try wtm_at "ev")]
          exact I_yes (m := 4) hd R5 (by omega) (by omega)
      · obtain ⟨_, R, n', items, x6, rfl, hh⟩ := id h1
        rw [mIfS_F (s1 := s) (by wtm_at "ev"; simp only [decide_eq_false hd])]
        exact I_no h1 hd
    clear h1 e s
    -- kind 5
    intro e s h1
    refine seq_inv (P := fun r => PP (fin st r)) (I 6) ?_ ?_
    · by_cases hd : d1 = 5
      · obtain ⟨es, ee⟩ := h1.1 (by omega)
        rw [es, ee]
        by_cases hl : (j : Int) + 1 < (ks.length : Int)
        · rw [mIfS_T (s1 := s3) (by wtm_at "ev"; simp only [decide_eq_true hd]; try wtm_at "ev"
                                    rw [len_lst R3.at_, lkm]; try wtm_at "ev"
                                    simp only [decide_eq_true hl])]
          have g2 : (ks.map dk)[j + 1]? = some (dk ks[j + 1]) := by rw [List.getElem?_map, List.getElem?_eq_getElem (by omega)]; rfl
          have hR3 := (List.getElem?_eq_some_iff.mp R3.at_).1
          have up : ∀ J : S, (s3 ++ J)[st.length]? = some (.lst (ks.map dk)) := fun J => by
            rw [List.getElem?_append_left hR3]
            exact R3.at_
          wtm_at "ev"
          simp only [fSl, rdL_of R3.at_, cut_take]
          try wtm_at "ev"
          rw [show (j : Int) + 1 = ((j + 1 : Nat) : Int) from rfl, ix_lst (up _) (L2.atI_nat g2)]
          try wtm_at "ev"
          rw [ix_lst (up _) (L2.atI_nat gj)]
          try wtm_at "ev"
          rw [if_pos (by have := big_line; omega)]
          try wtm_at "ev"
          have ad : ∀ (t J1 J2 : S) (x y : O) (i1 i2 : Nat) (xs ys : List D), t[i1]? = some (.lst xs) → t[i2]? = some (.lst ys) → xs.length + ys.length ≤ 100 → fAdd (.loc i1) (.loc i2) t = .ok (.loc t.length) (t ++ [O.lst (xs ++ ys)]) := fun t J1 J2 x y i1 i2 xs ys h1 h2 h3 => by
            simp only [fAdd, h1, h2]
            rw [if_pos (by have := big_line; omega)]
          have la : ((ks.map dk).take j).length = j := by simp; omega
          have lc : ((ks.map dk).drop (j + 2)).length = ks.length - (j + 2) := by simp
          have mA : ∀ x ∈ (ks.map dk).take j, x ∈ ks.map dk := fun x hx => List.mem_of_mem_take hx
          have mC : ∀ x ∈ (ks.map dk).drop (j + 2), x ∈ ks.map dk := fun x hx => List.mem_of_mem_drop hx
          have cd := cut_drop (ks.map dk) (j + 2)
          generalize (ks.map dk).take j = A at la mA
          generalize (ks.map dk).drop (j + 2) = C at lc mC cd
          have v1 : (s3 ++ [O.lst A] ++ [O.lst [dk ks[j + 1], dk ks[j]]])[s3.length]? = some (.lst A) := by
            rw [List.getElem?_append_left (by simp)]
            exact app_last _ _
          rw [ad _ [] [] (.lst []) (.lst []) _ _ _ _ v1 (app_last _ _) (by simp; omega)]
          try wtm_at "ev"
          rw [rdL_of (n := st.length) (by rw [List.append_assoc, List.append_assoc]; exact up _)]
          try wtm_at "ev"
          rw [show (j : Int) + 2 = ((j + 2 : Nat) : Int) from rfl, cd]
          rw [ad _ [] [] (.lst []) (.lst []) _ _ (A ++ [dk ks[j + 1], dk ks[j]]) C (by
            rw [List.getElem?_append_left (by simp)]
            exact app_last _ _) (app_last _ _) (by simp; omega)]
          try wtm_at "ev"
          have mm : ∀ x ∈ A ++ [dk ks[j + 1], dk ks[j]] ++ C, Item s3 x := fun x hx => by
            rcases List.mem_append.mp hx with hx | hx
            · rcases List.mem_append.mp hx with hx | hx
              · exact ikey _ x (mA x hx)
              · rcases List.mem_cons.mp hx with rfl | hx
                · exact item_dk _ _
                · obtain rfl := List.mem_singleton.mp hx
                  exact item_dk _ _
            · exact ikey _ x (mC x hx)
          generalize dk ks[j + 1] = x1 at mm ⊢
          generalize dk ks[j] = x2 at mm ⊢
          have lm : (A ++ [x1, x2] ++ C).length ≤ 63 := by simp; omega
          generalize A ++ [x1, x2] ++ C = M at mm lm ⊢
          have R7 := R3.new2 (R' := (s3 ++ [O.lst A] ++ [O.lst [x1, x2]] ++ [O.lst (A ++ [x1, x2])] ++ [O.lst C]).length) (J := [O.lst A] ++ [O.lst [x1, x2]] ++ [O.lst (A ++ [x1, x2])] ++ [O.lst C] ++ [O.lst M]) (items' := M) (by simp) (by
            rw [show s3 ++ ([O.lst A] ++ [O.lst [x1, x2]] ++ [O.lst (A ++ [x1, x2])] ++ [O.lst C] ++ [O.lst M]) = s3 ++ [O.lst A] ++ [O.lst [x1, x2]] ++ [O.lst (A ++ [x1, x2])] ++ [O.lst C] ++ [O.lst M] by simp only [List.append_assoc]]
            exact app_last _ _) mm
          rw [show s3 ++ ([O.lst A] ++ [O.lst [x1, x2]] ++ [O.lst (A ++ [x1, x2])] ++ [O.lst C] ++ [O.lst M]) = s3 ++ [O.lst A] ++ [O.lst [x1, x2]] ++ [O.lst (A ++ [x1, x2])] ++ [O.lst C] ++ [O.lst M] by simp only [List.append_assoc]] at R7
          exact I_yes (m := 5) hd R7 (by omega) lm
        · rw [mIfS_F (s1 := s3) (by wtm_at "ev"; simp only [decide_eq_true hd]; try wtm_at "ev"
                                    rw [len_lst R3.at_, lkm]; try wtm_at "ev"
                                    simp only [decide_eq_false hl])]
          exact I_yes (m := 5) hd R3 (by omega) (by omega)
      · obtain ⟨_, R, n', items, x6, rfl, hh⟩ := id h1
        rw [mIfS_F (s1 := s) (by wtm_at "ev"; simp only [decide_eq_false hd]; try wtm_at "ev")]
        exact I_no h1 hd
    clear h1 e s
    intro e s h1
    obtain ⟨_, R, n', items, x6, rfl, h2, h3, h4⟩ := h1
    wtm_at "ev"
    exact fini' _ _ _ _ h2 h3 h4
  exact main

/-- a row of the judged rows -/
def RowD (s : S) (x : D) : Prop := (∃ (p : Nat) (l : List D), x = .loc p ∧ s[p]? = some (.lst l) ∧ (∀ y ∈ l, Item s y) ∧ l.length ≤ 200) ∨ ∃ t, (∀ p, x ≠ .loc p) ∧ (∀ s', tyD s' x = some t) ∧ t ≠ "list"
theorem RowD.row {s : S} {x : D} (h : RowD s x) : ∃ o, Row s x o := by
  rcases h with ⟨p, l, rfl, h1, h2, h3⟩ | ⟨t, _, h1, h2⟩
  · exact ⟨_, .yes h1 h2 (by omega)⟩
  · exact ⟨_, .no (h1 s) h2⟩
theorem RowD.set {s : S} {x : D} {p : Nat} {l0 l' : List D} (h : RowD s x) (hp : s[p]? = some (.lst l0)) (hi : ∀ y ∈ l', Item s y) (hl : l'.length ≤ 200) : RowD (s.set p (.lst l')) x := by
  rcases h with ⟨j, l, rfl, h1, h2, h3⟩ | h
  · by_cases e : p = j
    · subst e
      exact .inl ⟨_, l', rfl, List.getElem?_set_self (List.getElem?_eq_some_iff.mp hp).1, fun y hy => item_set hp (hi y hy), hl⟩
    · exact .inl ⟨_, l, rfl, by rw [List.getElem?_set_ne e]; exact h1, fun y hy => item_set hp (h2 y hy), h3⟩
  · exact .inr h
theorem RowD.setR {s : S} {x : D} {R : Nat} {l0 l' : List D} (h : RowD s x) (hp : s[R]? = some (.lst l0)) (hn : ∀ j, x = .loc j → j ≠ R) : RowD (s.set R (.lst l')) x := by
  rcases h with ⟨j, l, rfl, h1, h2, h3⟩ | h
  · exact .inl ⟨_, l, rfl, by rw [List.getElem?_set_ne (hn j rfl).symm]; exact h1, fun y hy => item_set hp (h2 y hy), h3⟩
  · exact .inr h
theorem RowD.fr {s s' : S} {x : D} {b k : Nat} {cells cells' : List Int} {n n' : Int} (h : RowD s x) (f : Fr b s s') (B : Bag s b k cells n) (B' : Bag s' b k cells' n') (hn : ∀ j, x = .loc j → j ≠ b) : RowD s' x := by
  obtain ⟨l0, hl0⟩ := B.lst
  rcases h with ⟨j, l, rfl, h1, h2, h3⟩ | h
  · exact .inl ⟨_, l, rfl, f.at_ j _ (hn j rfl) h1, fun y hy => item_fr hl0 B'.lst f (h2 y hy), h3⟩
  · exact .inr h
theorem RowD.app {s J : S} {x : D} (h : RowD s x) : RowD (s ++ J) x := by
  rcases h with ⟨j, l, rfl, h1, h2, h3⟩ | h
  · exact .inl ⟨_, l, rfl, by rw [List.getElem?_append_left (List.getElem?_eq_some_iff.mp h1).1]; exact h1, fun y hy => by
      obtain ⟨t, ht⟩ := h2 y hy
      exact ⟨t, item_app ht⟩, h3⟩
  · exact .inr h
def GoodR (st : S) (z : Prop) (s : S) (R : Nat) (x : D) : Prop := RowD s x ∧ (∀ j, x = .loc j → st.length ≤ j ∧ j ≠ R) ∧ (z → ∃ j, x = .loc j)
structure Rs (st : S) (b k : Nat) (cells : List Int) (z : Prop) (s : S) (R : Nat) (n' : Int) (items : List D) : Prop where
  fr : Fr b st s
  bag : Bag s b k cells n'
  new_ : st.length ≤ R
  at_ : s[R]? = some (.lst items)
  it : ∀ x ∈ items, GoodR st z s R x
section
variable {st s s' J : S} {b k R R' p : Nat} {cells : List Int} {z : Prop} {n' n2 : Int} {items items' l0 l' : List D}
theorem Rs.fr' (hb : b < st.length) (h : Rs st b k cells z s R n' items) (f : Fr b s s') (B : Bag s' b k cells n2) : Rs st b k cells z s' R n2 items :=
  ⟨h.fr.trans f, B, h.new_, f.at_ R _ (by have := h.new_; omega) h.at_, fun x hx => by
    obtain ⟨g1, g2, g3⟩ := h.it x hx
    exact ⟨g1.fr f h.bag B fun j e => by have := (g2 j e).1; omega, g2, g3⟩⟩
theorem Rs.setR (hb : b < st.length) (hk : k < st.length) (h : Rs st b k cells z s R n' items) (hi : ∀ x ∈ items', GoodR st z s R x) : Rs st b k cells z (s.set R (.lst items')) R n' items' := by
  have := h.new_
  exact ⟨h.fr.setn h.new_, h.bag.setn (by omega) (by omega), h.new_, List.getElem?_set_self (List.getElem?_eq_some_iff.mp h.at_).1, fun x hx => by
    obtain ⟨g1, g2, g3⟩ := hi x hx
    exact ⟨g1.setR h.at_ fun j e => (g2 j e).2, g2, g3⟩⟩
theorem Rs.row (hb : b < st.length) (hk : k < st.length) (h : Rs st b k cells z s R n' items) (hp : s[p]? = some (.lst l0)) (pR : p ≠ R) (ps : st.length ≤ p) (hi : ∀ y ∈ l', Item s y) (hl : l'.length ≤ 200) : Rs st b k cells z (s.set p (.lst l')) R n' items :=
  ⟨h.fr.setn ps, h.bag.setn (by omega) (by omega), h.new_, by rw [List.getElem?_set_ne pR]; exact h.at_, fun x hx => by
    obtain ⟨g1, g2, g3⟩ := h.it x hx
    exact ⟨g1.set hp hi hl, g2, g3⟩⟩
theorem Rs.app (h : Rs st b k cells z s R n' items) : Rs st b k cells z (s ++ J) R n' items :=
  ⟨h.fr.trans Fr.app, h.bag.app, h.new_, by rw [List.getElem?_append_left (List.getElem?_eq_some_iff.mp h.at_).1]; exact h.at_, fun x hx => by
    obtain ⟨g1, g2, g3⟩ := h.it x hx
    exact ⟨g1.app, g2, g3⟩⟩
theorem Rs.new2 (h : Rs st b k cells z s R n' items) (hR : s.length ≤ R') (hJ : (s ++ J)[R']? = some (.lst items')) (hi : ∀ x ∈ items', RowD s x ∧ (∀ j, x = .loc j → st.length ≤ j ∧ j < s.length) ∧ (z → ∃ j, x = .loc j)) : Rs st b k cells z (s ++ J) R' n' items' :=
  ⟨h.fr.trans Fr.app, h.bag.app, Nat.le_trans h.fr.len hR, hJ, fun x hx => by
    obtain ⟨g1, g2, g3⟩ := hi x hx
    exact ⟨g1.app, fun j e => ⟨(g2 j e).1, by have := (g2 j e).2; omega⟩, g3⟩⟩
theorem GoodR.lt {x : D} (h : GoodR st z s R x) : RowD s x ∧ (∀ j, x = .loc j → st.length ≤ j ∧ j < s.length) ∧ (z → ∃ j, x = .loc j) := by
  obtain ⟨g1, g2, g3⟩ := h
  refine ⟨g1, fun j e => ⟨(g2 j e).1, ?_⟩, g3⟩
  rcases g1 with ⟨j', l, e', h1, _⟩ | ⟨t, h1, _⟩
  · rw [e] at e'; cases e'; exact (List.getElem?_eq_some_iff.mp h1).1
  · exact absurd e (h1 j)
theorem fin_rows (hbl : b < st.length) (hkl : k < st.length) (h : Rs st b k cells z s R n' items) : ∃ (R' : Nat) (s' : S), finD st (.loc R) s = .ok (.loc R') s' ∧ Rs st b k cells z s' R' n' items := by
  have hl := h.fr.len
  unfold finD
  split
  · exact ⟨R, s, rfl, h⟩
  · split
    · rw [if_neg (by have := h.new_; simp only [low, decide_eq_true_eq]; omega)]
      simp only [h.at_]
      split
      · rename_i hlow
        have tk : ∀ (i : Nat) o, i < st.length → s[i]? = some o → (s.take st.length ++ [O.lst items])[i]? = some o := fun i o hi h => by
          rw [List.getElem?_append_left (by rw [List.length_take]; omega), List.getElem?_take_of_lt hi]
          exact h
        refine ⟨st.length, _, rfl, ⟨⟨by simp; omega, fun i o ni hio => tk i o (List.getElem?_eq_some_iff.mp hio).1 (h.fr.at_ i o ni hio)⟩, ?_, Nat.le_refl _, ?_, fun x hx => ?_⟩⟩
        · obtain ⟨⟨i, r, q1, q2, q3⟩, q4, q5, q6⟩ := h.bag
          exact ⟨⟨i, r, tk b _ hbl q1, q2, q3⟩, tk k _ hkl q4, q5, q6⟩
        · rw [List.getElem?_append_right (by rw [List.length_take]; omega), List.length_take, show st.length - min st.length s.length = 0 by omega]
          rfl
        · obtain ⟨g1, g2, g3⟩ := h.it x hx
          have lx := lows_mem (show lows st.length items = true from hlow.1) hx
          have nl : ∀ j, x ≠ .loc j := fun j e => by
            subst e
            have := (g2 j rfl).1
            simp only [low, decide_eq_true_eq] at lx
            omega
          refine ⟨?_, fun j e => absurd e (nl j), g3⟩
          rcases g1 with ⟨j, l, e, _⟩ | g1
          · exact absurd e (nl j)
          · exact .inr g1
      · exact ⟨R, s, rfl, h⟩
    · exact ⟨R, s, rfl, h⟩
end
/-- fresh copies of rows of keys -/
def Cps (m : Nat) (old : List Key) (s : S) (acc : List D) : Prop := ∀ x ∈ acc, ∃ (p : Nat) (ks : List Key), x = .loc p ∧ m < p ∧ s[p]? = some (.lst (ks.map dk)) ∧ ks ≠ [] ∧ (∀ y ∈ ks, y ∈ old) ∧ ks.length ≤ 62
theorem cp_go {st : S} {q : Nat} {rows : List D} {old : List Key} {env : Ev} (hq : st[q]? = some (.lst rows)) (hz : rows.length ≤ 100) (hr : ∀ d ∈ rows, ∃ (q : Nat) (ks : List Key), d = .loc q ∧ st[q]? = some (.lst (ks.map dk)) ∧ ks ≠ [] ∧ (∀ x ∈ ks, x ∈ old) ∧ ks.length ≤ 62) (he : env.length = 8) :
    ∀ (n i : Nat) (acc : List D) (J : S), i ≤ rows.length → rows.length < n + i → acc.length = i → Cps st.length old (st ++ [O.lst acc] ++ J) acc →
      ∃ (acc' : List D) (J' : S), lcM (itL q) (gNm 7) mYes (mCB fList (mCons (mVar 7) mNil)) env st.length n i (st ++ [O.lst acc] ++ J) = .ok (.loc st.length) (st ++ [O.lst acc'] ++ J') ∧ acc'.length = rows.length ∧ Cps st.length old (st ++ [O.lst acc'] ++ J') acc'
  | 0, i, acc, J, h1, h2, h3, h4 => by omega
  | n + 1, i, acc, J, h1, h2, h3, h4 => by
    have lq := (List.getElem?_eq_some_iff.mp hq).1
    have up : ∀ (j : Nat) o, st[j]? = some o → (st ++ [O.lst acc] ++ J)[j]? = some o := fun j o e => by
      rw [List.append_assoc, List.getElem?_append_left (List.getElem?_eq_some_iff.mp e).1]
      exact e
    unfold lcM
    unfold itL
    rw [rdL_of (up q _ hq)]
    by_cases hi' : i = rows.length
    · subst hi'
      simp only [Option.map_some, List.getElem?_eq_none (Nat.le_refl _)]
      exact ⟨acc, J, rfl, h3, h4⟩
    · have hlt : i < rows.length := by omega
      have ex := List.getElem?_eq_getElem hlt
      generalize rows[i] = x at ex
      obtain ⟨p, ks, rfl, r1, r2, r3, r4⟩ := hr x (List.mem_of_getElem? ex)
      have ln : (st ++ [O.lst acc] ++ J)[st.length]? = some (.lst acc) := by
        rw [List.append_assoc, List.getElem?_append_right (Nat.le_refl _), Nat.sub_self]
        rfl
      have ln2 : ∀ o : O, (st ++ [O.lst acc] ++ J ++ [o])[st.length]? = some (.lst acc) := fun o => by
        rw [List.getElem?_append_left (List.getElem?_eq_some_iff.mp ln).1]
        exact ln
      have g7 : (env.set 7 (some (.loc p)))[7]? = some (some (.loc p)) := List.getElem?_set_self (by omega)
      simp only [Option.map_some, ex, gNm, mYes, mCB, mCons, mNil, mVar, R.bind, g7, fList, seqD, rdL_of (up p _ r1), ln2]
      rw [if_pos (by have := big_line; omega)]
      have e1 : (st ++ [O.lst acc] ++ J ++ [O.lst (ks.map dk)]).set st.length (.lst (acc ++ [.loc (st ++ [O.lst acc] ++ J).length])) = st ++ [O.lst (acc ++ [.loc (st ++ [O.lst acc] ++ J).length])] ++ (J ++ [O.lst (ks.map dk)]) := by
        generalize (st ++ [O.lst acc] ++ J).length = w
        rw [show st ++ [O.lst acc] ++ J ++ [O.lst (ks.map dk)] = st ++ (O.lst acc :: (J ++ [O.lst (ks.map dk)])) by simp, List.set_append_right _ _ (Nat.le_refl _), Nat.sub_self]
        simp
      rw [e1]
      refine cp_go hq hz hr he n (i + 1) _ _ (by omega) (by omega) (by simp [h3]) fun y hy => ?_
      rw [← e1]
      have lz : (st ++ [O.lst acc] ++ J).length = st.length + 1 + J.length := by simp; omega
      rcases List.mem_append.mp hy with hy | hy
      · obtain ⟨p', ks', z1, z2, z3, z4⟩ := h4 y hy
        refine ⟨p', ks', z1, z2, ?_, z4⟩
        rw [List.getElem?_set_ne (by omega), List.getElem?_append_left (List.getElem?_eq_some_iff.mp z3).1]
        exact z3
      · obtain rfl := List.mem_singleton.mp hy
        refine ⟨_, ks, rfl, by omega, ?_, r2, r3, r4⟩
        rw [List.getElem?_set_ne (by omega)]
        exact app_last _ _

theorem Rs.weak {st s : S} {b k R : Nat} {cells : List Int} {z z' : Prop} {n' : Int} {items : List D} (h : Rs st b k cells z s R n' items) (hz : z' → z) : Rs st b k cells z' s R n' items :=
  ⟨h.fr, h.bag, h.new_, h.at_, fun x hx => ⟨(h.it x hx).1, (h.it x hx).2.1, fun w => (h.it x hx).2.2 (hz w)⟩⟩
theorem mLSpoiltRows_eq {st : S} {b k a c q m : Nat} {cells : List Int} {n : Int} {old new : List Key} {rows : List D} (hB : Bag st b k cells n) (hn : n < 30000) (ha : st[a]? = some (.lst (old.map dk))) (hc : st[c]? = some (.lst (new.map dk))) (hq : st[q]? = some (.lst rows)) (nab : a ≠ b) (ncb : c ≠ b) (nqb : q ≠ b) (hm : b < m) (lo : old.length ≤ 62) (lw : new.length ≤ 62) (lr : rows.length ≤ 62) (hr : Rws st m old 62 rows) :
    ∃ (R : Nat) (s' : S) (n' : Int) (items : List D), mLSpoiltRows [.loc b, .loc q, .loc a, .loc c] st = .ok (.loc R) s' ∧ Rs st b k cells False s' R n' items ∧ n' ≤ n + 20 ∧ items.length ≤ 63 := by
  obtain ⟨i0, r0, hb0, _, _⟩ := hB.at_
  have hbl := (List.getElem?_eq_some_iff.mp hb0).1
  have hkl := (List.getElem?_eq_some_iff.mp hB.cells).1
  have hal := (List.getElem?_eq_some_iff.mp ha).1
  have hcl := (List.getElem?_eq_some_iff.mp hc).1
  obtain ⟨d1, i1, r1, e1, a1, b1, B1⟩ := mLTake_eq (m := 8) hB (by omega) (by decide) (by decide)
  let s1 : S := st.set b (bagL k i1 r1 (n + 1))
  have fl1 : s1.length = st.length := by simp [s1]
  have f1 : Fr b st s1 := Fr.setb
  suffices main : ∀ PP : R D → Prop, (∀ (R : Nat) (s' : S) (n' : Int) (items : List D), Rs st b k cells False s' R n' items → n' ≤ n + 20 → items.length ≤ 63 → PP (.ok (.loc R) s')) → PP (mLSpoiltRows [.loc b, .loc q, .loc a, .loc c] st) from
    main (fun res => ∃ (R : Nat) (s' : S) (n' : Int) (items : List D), res = .ok (.loc R) s' ∧ Rs st b k cells False s' R n' items ∧ n' ≤ n + 20 ∧ items.length ≤ 63) fun R s' n' items h1 h2 h3 => ⟨R, s', n', items, rfl, h1, h2, h3⟩
  intro PP fini
  have fini' : ∀ (R : Nat) (s' : S) (n' : Int) (items : List D), Rs st b k cells False s' R n' items → n' ≤ n + 20 → items.length ≤ 63 → PP (fin st (.rt (.loc R) s')) := fun R s' n' items h h2 h3 => by
    obtain ⟨R', s'', e, h'⟩ := fin_rows hbl hkl h
    show PP (finD st (.loc R) s')
    rw [e]
    exact fini _ _ _ _ h' h2 h3
  have hq1 := f1.at_ q _ nqb hq
  have hr1 : ∀ d ∈ rows, ∃ (q : Nat) (ks : List Key), d = .loc q ∧ s1[q]? = some (.lst (ks.map dk)) ∧ ks ≠ [] ∧ (∀ x ∈ ks, x ∈ old) ∧ ks.length ≤ 62 := fun d hd => by
    obtain ⟨q', ks, h1, h2, h3, h4⟩ := hr d hd
    exact ⟨q', ks, h1, f1.at_ q' _ (by omega) h3, h4⟩
  obtain ⟨acc, J, c1, c2, c3⟩ := cp_go (env := [some (.loc b), some (.loc q), some (.loc a), some (.loc c), some (.int d1), none, none, none]) hq1 (by omega) hr1 rfl fuel 0 [] [] (Nat.zero_le _) (by show rows.length < 100000 + 0; omega) rfl (fun x hx => by simp at hx)
  rw [fl1] at c1 c3
  generalize hs2 : s1 ++ [O.lst acc] ++ J = s2 at c1 c3
  have at2 : s2[st.length]? = some (.lst acc) := by
    rw [← hs2, List.append_assoc, ← fl1, List.getElem?_append_right (Nat.le_refl _), Nat.sub_self]
    rfl
  have ikey : ∀ s : S, ∀ (ks : List Key), ∀ x ∈ ks.map dk, Item s x := fun s ks x hx => by
    obtain ⟨z, _, rfl⟩ := List.mem_map.mp hx
    exact item_dk s z
  have R2 : Rs st b k cells (6 ≤ d1) s2 st.length (n + 1) acc := by
    refine ⟨?_, ?_, Nat.le_refl _, at2, fun x hx => ?_⟩
    · rw [← hs2, List.append_assoc]
      exact f1.trans Fr.app
    · rw [← hs2, List.append_assoc]
      exact B1.app
    · obtain ⟨p, ks, rfl, z2, z3, z4, z5, z6⟩ := c3 x hx
      exact ⟨.inl ⟨p, _, rfl, z3, ikey _ _, by rw [List.length_map]; omega⟩, fun j e => by cases e; exact ⟨by omega, by omega⟩, fun _ => ⟨_, rfl⟩⟩
  have main : PP (mLSpoiltRows [.loc b, .loc q, .loc a, .loc c] st) := by
    unfold mLSpoiltRows fnM mbLSpoiltRows
    refine seq_inv (P := fun r => PP (fin st r)) (fun e s => s = s1 ∧ e = [some (.loc b), some (.loc q), some (.loc a), some (.loc c), some (.int d1), none, none, none]) ?_ ?_
    · wtm_at "ev"
      simp only [e1]
      exact ⟨rfl, rfl⟩
    rintro e s ⟨rfl, rfl⟩
    refine seq_inv (P := fun r => PP (fin st r)) (fun e s => s = s1 ++ [O.lst acc] ++ J ∧ e = [some (.loc b), some (.loc st.length), some (.loc a), some (.loc c), some (.int d1), none, none, none]) ?_ ?_
    · have lc : mLc (mIt (mVar 1)) (gNm 7) mYes (mCB fList (mCons (mVar 7) mNil)) [7] [some (.loc b), some (.loc q), some (.loc a), some (.loc c), some (.int d1), none, none, none] s1 = .ok (.loc st.length) s2 := by
        unfold mLc
        simp only [mIt, mVar, List.getElem?_cons_zero, List.getElem?_cons_succ, R.bind, rdL_of hq1]
        rw [fl1]
        have c1' := c1
        rw [List.append_nil] at c1'
        exact c1'
      show NP _ _ (R.bindS (mLc (mIt (mVar 1)) (gNm 7) mYes (mCB fList (mCons (mVar 7) mNil)) [7] [some (.loc b), some (.loc q), some (.loc a), some (.loc c), some (.int d1), none, none, none] s1) _ _)
      rw [lc]
      exact ⟨hs2.symm, rfl⟩
    rintro _ _ ⟨rfl, rfl⟩
    rw [hs2]
    refine seq_inv (P := fun r => PP (fin st r)) (fun e s => rows ≠ [] ∧ s = s1 ++ [O.lst acc] ++ J ∧ e = [some (.loc b), some (.loc st.length), some (.loc a), some (.loc c), some (.int d1), none, none, none]) ?_ ?_
    · by_cases h0 : rows = []
      · have lz : ((acc).length : Int) = 0 := by rw [c2, h0]; rfl
        have ac0 : acc = [] := List.eq_nil_of_length_eq_zero (by omega)
        rw [mIfS_T (s1 := s2) (by wtm_at "ev"; rw [len_lst R2.at_]; try wtm_at "ev"
                                  simp only [decide_eq_true lz])]
        wtm_at "ev"
        have z0 : 0 ≤ sizeLine := Nat.zero_le _
        have z1 : 1 ≤ sizeLine := by have := big_line; omega
        have z4 : 4 ≤ sizeLine := by have := big_line; omega
        try simp only [z0, z1, if_true]
        try wtm_at "ev"
        try simp only [z0, z1, if_true]
        try wtm_at "ev"
        try simp only [z0, z1, if_true]
        try wtm_at "ev"
        try simp only [z4, if_true]
        try wtm_at "ev"
        rw [Mm.mod_int' (by decide)]
        try wtm_at "ev"
        have W0 := R2.weak (z' := False) (fun z => z.elim)
        have W1 := W0.app (J := [O.lst []])
        have h2l := (List.getElem?_eq_some_iff.mp at2).1
        have W2 := W1.new2 (R' := (s2 ++ [O.lst []]).length) (J := [O.lst [.loc s2.length]]) (items' := [.loc s2.length]) (Nat.le_refl _) (app_last _ _) (fun x hx => by
          obtain rfl := List.mem_singleton.mp hx
          exact ⟨.inl ⟨_, [], rfl, app_last _ _, (fun y hy => by cases hy), Nat.zero_le _⟩, fun j e => by cases e; simp; omega, fun z => z.elim⟩)
        have W3 := (W1.app (J := [O.lst [.loc s2.length]])).new2 (R' := (s2 ++ [O.lst []] ++ [O.lst [.loc s2.length]]).length) (J := [O.lst [.str (Str.ofString "other")]]) (items' := [.str (Str.ofString "other")]) (Nat.le_refl _) (app_last _ _) (fun x hx => by
          obtain rfl := List.mem_singleton.mp hx
          exact ⟨.inr ⟨"str", (fun p z => by cases z), (fun _ => rfl), by decide⟩, (fun j z => by cases z), fun z => z.elim⟩)
        have d4 : d1 % 4 = 0 ∨ d1 % 4 = 1 ∨ d1 % 4 = 2 ∨ d1 % 4 = 3 := by omega
        rcases d4 with d4 | d4 | d4 | d4
        · rw [d4, ix_lst (app_last _ _) (d := .loc (s2 ++ [O.lst []]).length) rfl]
          exact fini' _ _ _ _ W2.app.app (by omega) (by simp)
        · rw [d4, ix_lst (app_last _ _) (d := .loc st.length) rfl]
          exact fini' _ _ _ _ W1.app.app.app (by omega) (by omega)
        · rw [d4, ix_lst (app_last _ _) (d := .loc (s2 ++ [O.lst []] ++ [O.lst [.loc s2.length]]).length) rfl]
          exact fini' _ _ _ _ W3.app (by omega) (by simp)
        · rw [d4, ix_lst (app_last _ _) (d := .loc st.length) rfl]
          exact fini' _ _ _ _ W1.app.app.app (by omega) (by omega)
      · have lz : ¬ ((acc).length : Int) = 0 := fun z => h0 (List.eq_nil_of_length_eq_zero (by omega))
        rw [mIfS_F (s1 := s2) (by wtm_at "ev"; rw [len_lst R2.at_]; try wtm_at "ev"
                                  simp only [decide_eq_false lz])]
        exact ⟨h0, hs2.symm, rfl⟩
    rintro _ _ ⟨rne, rfl, rfl⟩
    rw [hs2]
    have apos : 0 < acc.length := by
      rw [c2]
      cases h : rows with | nil => exact absurd h rne | cons _ _ => simp
    obtain ⟨d2, i2, r2, e2, a2, b2, B2⟩ := mLTake_eq (m := (acc.length : Int)) R2.bag (by omega) (by omega) (by omega)
    obtain ⟨j, rfl⟩ : ∃ j : Nat, d2 = (j : Int) := ⟨d2.toNat, by omega⟩
    generalize hs3 : s2.set b (bagL k i2 r2 (n + 1 + 1)) = s3 at e2 B2
    have f3 : Fr b s2 s3 := by rw [← hs3]; exact Fr.setb
    have R3 := R2.fr' hbl f3 B2
    obtain ⟨d3, i3, r3, e3, a3, b3, B3⟩ := mLTake_eq (m := (acc.length : Int)) R3.bag (by omega) (by omega) (by omega)
    obtain ⟨t, rfl⟩ : ∃ j : Nat, d3 = (j : Int) := ⟨d3.toNat, by omega⟩
    generalize hs4 : s3.set b (bagL k i3 r3 (n + 1 + 1 + 1)) = s4 at e3 B3
    have f4 : Fr b s3 s4 := by rw [← hs4]; exact Fr.setb
    have R4 := R3.fr' hbl f4 B3
    have ha4 := R4.fr.at_ a _ nab ha
    have hc4 := R4.fr.at_ c _ ncb hc
    have hR4 := (List.getElem?_eq_some_iff.mp R4.at_).1
    have c4 : Cps st.length old s4 acc := fun x hx => by
      obtain ⟨p, ks, z1, z2, z3, z4⟩ := c3 x hx
      exact ⟨p, ks, z1, z2, (f3.trans f4).at_ p _ (by omega) z3, z4⟩
    have gA := List.getElem?_eq_getElem (show j < acc.length by omega)
    generalize acc[j] = xa at gA
    obtain ⟨p, ks, rfl, p1, p2, p3, p4, p5⟩ := c4 xa (List.mem_of_getElem? gA)
    have gT := List.getElem?_eq_getElem (show t < acc.length by omega)
    generalize acc[t] = xt at gT
    obtain ⟨p', ks', rfl, p1', p2', p3', p4', p5'⟩ := c4 xt (List.mem_of_getElem? gT)
    let I : Int → Ev → S → Prop := fun m e s => (m ≤ d1 → s = s4 ∧ e = [some (.loc b), some (.loc st.length), some (.loc a), some (.loc c), some (.int d1), some (.int (j : Nat)), some (.int (t : Nat)), none]) ∧ ∃ (R : Nat) (n' : Int) (items : List D), e = [some (.loc b), some (.loc R), some (.loc a), some (.loc c), some (.int d1), some (.int (j : Nat)), some (.int (t : Nat)), none] ∧ Rs st b k cells (6 ≤ d1) s R n' items ∧ n' ≤ n + 20 ∧ items.length ≤ 63
    have I_no : ∀ {m : Int} {e s}, I m e s → d1 ≠ m → I (m + 1) e s := fun h hm => ⟨fun z => h.1 (by omega), h.2⟩
    have I_yes : ∀ {m : Int} {R : Nat} {n' : Int} {items : List D} {s : S}, d1 = m → Rs st b k cells (6 ≤ d1) s R n' items → n' ≤ n + 20 → items.length ≤ 63 → I (m + 1) [some (.loc b), some (.loc R), some (.loc a), some (.loc c), some (.int d1), some (.int (j : Nat)), some (.int (t : Nat)), none] s := fun hm h1 h2 h3 => ⟨fun z => by omega, _, _, _, rfl, h1, h2, h3⟩
    refine seq_inv (P := fun r => PP (fin st r)) (fun e s => s = s2.set b (bagL k i2 r2 (n + 1 + 1)) ∧ e = [some (.loc b), some (.loc st.length), some (.loc a), some (.loc c), some (.int d1), some (.int (j : Nat)), none, none]) ?_ ?_
    · wtm_at "ev"
      rw [len_lst R2.at_]
      try wtm_at "ev"
      simp only [e2]
      exact ⟨hs3.symm, rfl⟩
    rintro _ _ ⟨rfl, rfl⟩
    rw [hs3]
    refine seq_inv (P := fun r => PP (fin st r)) (I 1) ?_ ?_
    · wtm_at "ev"
      rw [len_lst R3.at_]
      try wtm_at "ev"
      simp only [e3]
      exact ⟨fun _ => ⟨rfl, rfl⟩, _, _, _, rfl, R4, by omega, by omega⟩
    -- kind 1
    intro e s h1
    refine seq_inv (P := fun r => PP (fin st r)) (I 2) ?_ ?_
    · by_cases hd : d1 = 1
      · obtain ⟨es, ee⟩ := h1.1 (by omega)
        rw [es, ee]
        rw [mIfS_T (s1 := s4) (by wtm_at "ev"; simp only [decide_eq_true hd])]
        obtain ⟨R1, s5, n5, it5, o1, o2, o3, o4⟩ := mLSpoilt_eq R4.bag (by omega) ha4 hc4 p2 nab ncb (by omega) lo lw p5 p4
        have R5 := R4.fr' hbl o2.fr o2.bag
        wtm_at "ev"
        rw [ix_lst R4.at_ (L2.atI_nat gA)]
        try wtm_at "ev"
        simp only [o1]
        try wtm_at "ev"
        rw [set_lst R5.at_ (ixN_nt (by omega))]
        try wtm_at "ev"
        refine I_yes (m := 1) hd (R5.setR hbl hkl fun x hx => ?_) (by omega) (by rw [List.length_set]; omega)
        rcases List.mem_or_eq_of_mem_set hx with hx | rfl
        · exact R5.it x hx
        · exact ⟨.inl ⟨R1, it5, rfl, o2.at_, o2.it, by omega⟩, fun j e => by cases e; have := o2.new_; exact ⟨by omega, by omega⟩, fun _ => ⟨_, rfl⟩⟩
      · obtain ⟨_, R, n', items, rfl, hh⟩ := id h1
        rw [mIfS_F (s1 := s) (by wtm_at "ev"; simp only [decide_eq_false hd])]
        exact I_no h1 hd
    clear h1 e s
    -- kind 2
    intro e s h1
    refine seq_inv (P := fun r => PP (fin st r)) (I 3) ?_ ?_
    · by_cases hd : d1 = 2
      · obtain ⟨es, ee⟩ := h1.1 (by omega)
        rw [es, ee]
        rw [mIfS_T (s1 := s4) (by wtm_at "ev"; simp only [decide_eq_true hd])]
        obtain ⟨d5, i5, r5, e5, a5, b5, B5⟩ := mLTake_eq (m := (acc.length : Int) + 1) R4.bag (by omega) (by omega) (by omega)
        obtain ⟨v, rfl⟩ : ∃ j : Nat, d5 = (j : Int) := ⟨d5.toNat, by omega⟩
        have R5 := R4.fr' hbl Fr.setb B5
        have R6 := R5.app (J := [O.lst []])
        wtm_at "ev"
        simp only [rdL_of R4.at_]
        try wtm_at "ev"
        rw [len_lst R4.at_]
        try wtm_at "ev"
        simp only [e5]
        try wtm_at "ev"
        rw [if_pos (Nat.zero_le _)]
        try wtm_at "ev"
        simp only [fInsert, R6.at_]
        rw [if_pos ⟨by have := big_line; omega, by omega, okR_mk (by omega) (by omega)⟩]
        try wtm_at "ev"
        refine I_yes (m := 2) hd (R6.setR hbl hkl fun x hx => ?_) (by omega) (by simp; omega)
        rcases List.mem_append.mp hx with hx | hx
        · rcases List.mem_append.mp hx with hx | hx
          · exact R6.it x (List.mem_of_mem_take hx)
          · obtain rfl := List.mem_singleton.mp hx
            exact ⟨.inl ⟨_, [], rfl, app_last _ _, (fun y hy => by cases hy), Nat.zero_le _⟩, fun j e => by cases e; simp only [List.length_set]; exact ⟨by omega, by omega⟩, fun _ => ⟨_, rfl⟩⟩
        · exact R6.it x (List.mem_of_mem_drop hx)
      · obtain ⟨_, R, n', items, rfl, hh⟩ := id h1
        rw [mIfS_F (s1 := s) (by wtm_at "ev"; simp only [decide_eq_false hd])]
        exact I_no h1 hd
    clear h1 e s
    -- kind 3
    intro e s h1
    refine seq_inv (P := fun r => PP (fin st r)) (I 4) ?_ ?_
    · by_cases hd : d1 = 3
      · obtain ⟨es, ee⟩ := h1.1 (by omega)
        rw [es, ee]
        rw [mIfS_T (s1 := s4) (by wtm_at "ev"; simp only [decide_eq_true hd])]
        have q1 : (s4 ++ [O.lst (acc.take j)])[st.length]? = some (.lst acc) := by
          rw [List.getElem?_append_left hR4]
          exact R4.at_
        have q2 : (s4 ++ [O.lst (acc.take j)] ++ [O.lst (acc.drop (j + 1))])[s4.length]? = some (.lst (acc.take j)) := by
          rw [List.getElem?_append_left (by simp)]
          exact app_last _ _
        have q3 : (s4 ++ [O.lst (acc.take j)] ++ [O.lst (acc.drop (j + 1))])[(s4 ++ [O.lst (acc.take j)]).length]? = some (.lst (acc.drop (j + 1))) := app_last _ _
        have l1 : (acc.take j).length + (acc.drop (j + 1)).length ≤ 62 := by simp; omega
        wtm_at "ev"
        simp only [fSl, rdL_of R4.at_, cut_take]
        try wtm_at "ev"
        rw [show (j : Int) + 1 = ((j + 1 : Nat) : Int) from rfl]
        simp only [rdL_of q1, cut_drop]
        try wtm_at "ev"
        simp only [fAdd, q2, q3]
        rw [if_pos (by have := big_line; omega)]
        try wtm_at "ev"
        have e5 : s4 ++ [O.lst (acc.take j)] ++ [O.lst (acc.drop (j + 1))] ++ [O.lst (acc.take j ++ acc.drop (j + 1))] = s4 ++ ([O.lst (acc.take j)] ++ [O.lst (acc.drop (j + 1))] ++ [O.lst (acc.take j ++ acc.drop (j + 1))]) := by
          simp only [List.append_assoc]
        have R5 := R4.new2 (R' := (s4 ++ [O.lst (acc.take j)] ++ [O.lst (acc.drop (j + 1))]).length) (J := [O.lst (acc.take j)] ++ [O.lst (acc.drop (j + 1))] ++ [O.lst (acc.take j ++ acc.drop (j + 1))]) (by simp) (by rw [← e5]; exact app_last _ _) (fun x hx => (R4.it x (by
          rcases List.mem_append.mp hx with hx | hx
          · exact List.mem_of_mem_take hx
          · exact List.mem_of_mem_drop hx)).lt)
        rw [← e5] at R5
        exact I_yes (m := 3) hd R5 (by omega) (by rw [List.length_append]; omega)
      · obtain ⟨_, R, n', items, rfl, hh⟩ := id h1
        rw [mIfS_F (s1 := s) (by wtm_at "ev"; simp only [decide_eq_false hd])]
        exact I_no h1 hd
    clear h1 e s
    -- kind 4
    intro e s h1
    refine seq_inv (P := fun r => PP (fin st r)) (I 5) ?_ ?_
    · by_cases hd : d1 = 4
      · obtain ⟨es, ee⟩ := h1.1 (by omega)
        rw [es, ee]
        rw [mIfS_T (s1 := s4) (by wtm_at "ev"; simp only [decide_eq_true hd])]
        have kl : (ks.map dk).length - 1 < (ks.map dk).length := by
          cases h : ks with | nil => exact absurd h p3 | cons _ _ => simp
        have gp := List.getElem?_eq_getElem kl
        have md : (ks.map dk)[(ks.map dk).length - 1] ∈ ks.map dk := List.getElem_mem _
        generalize (ks.map dk)[(ks.map dk).length - 1] = y at gp md
        have R5 := R4.row (l' := (ks.map dk).dropLast) hbl hkl p2 (by omega) (by omega) (fun y hy => ikey _ ks y (List.dropLast_subset _ hy)) (by rw [List.length_dropLast, List.length_map]; omega)
        obtain ⟨l2, g2, g3, g4⟩ : ∃ l2, (s4.set p (.lst (ks.map dk).dropLast))[p']? = some (.lst l2) ∧ (∀ y ∈ l2, ∃ z, y = dk z) ∧ l2.length ≤ 62 := by
          by_cases e : p = p'
          · subst e
            refine ⟨_, List.getElem?_set_self (List.getElem?_eq_some_iff.mp p2).1, fun y hy => ?_, by rw [List.length_dropLast, List.length_map]; omega⟩
            obtain ⟨z, _, rfl⟩ := List.mem_map.mp (List.dropLast_subset _ hy)
            exact ⟨z, rfl⟩
          · refine ⟨_, by rw [List.getElem?_set_ne e]; exact p2', fun y hy => ?_, by rw [List.length_map]; omega⟩
            obtain ⟨z, _, rfl⟩ := List.mem_map.mp hy
            exact ⟨z, rfl⟩
        wtm_at "ev"
        rw [ix_lst R4.at_ (L2.atI_nat gT)]
        try wtm_at "ev"
        simp only [rdL_of p2']
        try wtm_at "ev"
        rw [ix_lst R4.at_ (L2.atI_nat gA)]
        try wtm_at "ev"
        simp only [rdL_of p2]
        try wtm_at "ev"
        simp only [fPop, p2, gp]
        try wtm_at "ev"
        simp only [fAppend, g2]
        rw [if_pos (by have := big_line; omega)]
        try wtm_at "ev"
        refine I_yes (m := 4) hd (R5.row (l' := l2 ++ [y]) hbl hkl g2 (by omega) (by omega) (fun w hw => ?_) (by rw [List.length_append]; simp; omega)) (by omega) (by omega)
        rcases List.mem_append.mp hw with hw | hw
        · obtain ⟨z, rfl⟩ := g3 w hw
          exact item_dk _ _
        · obtain rfl := List.mem_singleton.mp hw
          exact ikey _ _ _ md
      · obtain ⟨_, R, n', items, rfl, hh⟩ := id h1
        rw [mIfS_F (s1 := s) (by wtm_at "ev"; simp only [decide_eq_false hd])]
        exact I_no h1 hd
    clear h1 e s
    -- kind 5
    intro e s h1
    refine seq_inv (P := fun r => PP (fin st r)) (I 6) ?_ ?_
    · by_cases hd : d1 = 5
      · obtain ⟨es, ee⟩ := h1.1 (by omega)
        rw [es, ee]
        rw [mIfS_T (s1 := s4) (by wtm_at "ev"; simp only [decide_eq_true hd])]
        wtm_at "ev"
        rw [ix_lst R4.at_ (L2.atI_nat gA)]
        try wtm_at "ev"
        simp only [fTuple, seqD, rdL_of p2]
        try wtm_at "ev"
        rw [set_lst R4.at_ (ixN_nt (by omega))]
        try wtm_at "ev"
        refine I_yes (m := 5) hd (R4.setR hbl hkl fun x hx => ?_) (by omega) (by rw [List.length_set]; omega)
        rcases List.mem_or_eq_of_mem_set hx with hx | rfl
        · exact R4.it x hx
        · exact ⟨.inr ⟨"tuple", (fun p z => by cases z), (fun _ => rfl), by decide⟩, (fun j z => by cases z), fun z => absurd z (by omega)⟩
      · obtain ⟨_, R, n', items, rfl, hh⟩ := id h1
        rw [mIfS_F (s1 := s) (by wtm_at "ev"; simp only [decide_eq_false hd])]
        exact I_no h1 hd
    clear h1 e s
    -- kind 6
    intro e s h1
    refine seq_inv (P := fun r => PP (fin st r)) (I 7) ?_ ?_
    · by_cases hd : d1 = 6
      · obtain ⟨es, ee⟩ := h1.1 (by omega)
        rw [es, ee]
        by_cases hl : (j : Int) = (t : Int)
        · rw [mIfS_F (s1 := s4) (by wtm_at "ev"; simp only [decide_eq_true hd]; try wtm_at "ev"
                                    simp only [decide_eq_true hl]; try wtm_at "ev")]
          exact I_yes (m := 6) hd R4 (by omega) (by omega)
        · rw [mIfS_T (s1 := s4) (by wtm_at "ev"; simp only [decide_eq_true hd]; try wtm_at "ev"
                                    simp only [decide_eq_false hl]; try wtm_at "ev")]
          have R5 := R4.app (J := [O.lst (ks.map dk ++ ks'.map dk)])
          have R6 := R5.setR (items' := acc.set j (.loc s4.length)) hbl hkl fun x hx => by
            rcases List.mem_or_eq_of_mem_set hx with hx | rfl
            · exact R5.it x hx
            · exact ⟨.inl ⟨_, _, rfl, app_last _ _, (fun y hy => by
                rcases List.mem_append.mp hy with hy | hy
                · exact ikey _ _ _ hy
                · exact ikey _ _ _ hy), by simp; omega⟩, fun j e => by cases e; exact ⟨by omega, by omega⟩, fun _ => ⟨_, rfl⟩⟩
          have R7 := R6.app (J := [O.lst []])
          wtm_at "ev"
          rw [ix_lst R4.at_ (L2.atI_nat gA)]
          try wtm_at "ev"
          rw [ix_lst R4.at_ (L2.atI_nat gT)]
          try wtm_at "ev"
          simp only [fAdd, p2, p2']
          rw [if_pos (by have := big_line; simp; omega)]
          try wtm_at "ev"
          rw [set_lst R5.at_ (ixN_nt (by omega))]
          try wtm_at "ev"
          rw [if_pos (Nat.zero_le _)]
          try wtm_at "ev"
          rw [set_lst R7.at_ (ixN_nt (by rw [List.length_set]; omega))]
          try wtm_at "ev"
          refine I_yes (m := 6) hd (R7.setR hbl hkl fun x hx => ?_) (by omega) (by simp; omega)
          rcases List.mem_or_eq_of_mem_set hx with hx | rfl
          · exact R7.it x hx
          · exact ⟨.inl ⟨_, [], rfl, app_last _ _, (fun y hy => by cases hy), Nat.zero_le _⟩, fun j e => by cases e; simp; exact ⟨by omega, by omega⟩, fun _ => ⟨_, rfl⟩⟩
      · obtain ⟨_, R, n', items, rfl, hh⟩ := id h1
        rw [mIfS_F (s1 := s) (by wtm_at "ev"; simp only [decide_eq_false hd]; try wtm_at "ev")]
        exact I_no h1 hd
    clear h1 e s
    -- kind 7
    intro e s h1
    refine seq_inv (P := fun r => PP (fin st r)) (I 8) ?_ ?_
    · by_cases hd : d1 = 7
      · obtain ⟨es, ee⟩ := h1.1 (by omega)
        rw [es, ee]
        rw [mIfS_T (s1 := s4) (by wtm_at "ev"; simp only [decide_eq_true hd])]
        have kl : 0 < (ks.map dk).length := by
          cases h : ks with | nil => exact absurd h p3 | cons _ _ => simp
        have gp := List.getElem?_eq_getElem kl
        have md : (ks.map dk)[0] ∈ ks.map dk := List.getElem_mem _
        generalize (ks.map dk)[0] = y at gp md
        have R5 := R4.row (l' := (ks.map dk).eraseIdx 0) hbl hkl p2 (by omega) (by omega) (fun y hy => ikey _ ks y (List.mem_of_mem_eraseIdx hy)) (by rw [List.length_eraseIdx]; split <;> simp <;> omega)
        have R6 := R5.app (J := [O.lst [y]])
        wtm_at "ev"
        simp only [rdL_of R4.at_]
        try wtm_at "ev"
        rw [ix_lst R4.at_ (L2.atI_nat gA)]
        try wtm_at "ev"
        simp only [rdL_of p2]
        try wtm_at "ev"
        simp only [fPopAt, p2, show seqIndex? 0 (ks.map dk).length = some 0 by unfold seqIndex?; simp; omega, gp, show okR 0 = true from okR_mk (by omega) (by omega)]
        try wtm_at "ev"
        rw [if_pos (show 1 ≤ sizeLine by have := big_line; omega)]
        try wtm_at "ev"
        simp only [fAppend, R6.at_]
        rw [if_pos (by have := big_line; omega)]
        try wtm_at "ev"
        refine I_yes (m := 7) hd (R6.setR hbl hkl fun x hx => ?_) (by omega) (by simp; omega)
        rcases List.mem_append.mp hx with hx | hx
        · exact R6.it x hx
        · obtain rfl := List.mem_singleton.mp hx
          exact ⟨.inl ⟨_, [y], rfl, app_last _ _, (fun w hw => by obtain rfl := List.mem_singleton.mp hw; exact ikey _ _ _ md), by simp⟩, fun j e => by cases e; simp only [List.length_set]; exact ⟨by omega, by omega⟩, fun _ => ⟨_, rfl⟩⟩
      · obtain ⟨_, R, n', items, rfl, hh⟩ := id h1
        rw [mIfS_F (s1 := s) (by wtm_at "ev"; simp only [decide_eq_false hd])]
        exact I_no h1 hd
    clear h1 e s
    intro e s h1
    obtain ⟨_, R, n', items, rfl, h2, h3, h4⟩ := h1
    have lR := (List.getElem?_eq_some_iff.mp h2.at_).1
    have lc := lc_pure (mi := mIt (mVar 1)) (it := itL R) (g := gNm 7) (t := mOr (mB (m2 fLt (mVar 4) (mC (.int 6)))) (mB (m2 fGt (mCB fLen (mCons (mVar 7) mNil)) (mC (.int 0))))) (m := mVar 7) (vs := [7]) (env := [some (.loc b), some (.loc R), some (.loc a), some (.loc c), some (.int d1), some (.int (j : Nat)), some (.int (t : Nat)), none]) (st0 := s) (st := s) (l := items)
      (fun x => decide (d1 < 6) || (match x with | .loc i => (match rdL s i with | some l => decide (0 < (l.length : Int)) | none => false) | _ => false)) (fun d => d)
      (by
        wtm_at "ev"
        simp only [rdL_of h2.at_]) (by omega) (fun acc i hi => by
        unfold itL
        rw [rdL_app lR, rdL_of h2.at_]
        rfl)
      (fun i x acc hx => by
        refine ⟨[some (.loc b), some (.loc R), some (.loc a), some (.loc c), some (.int d1), some (.int (j : Nat)), some (.int (t : Nat)), some x], rfl, ?_, fun _ => rfl⟩
        by_cases hd : d1 < 6
        · wtm_at "ev"
          simp only [decide_eq_true hd]
          try wtm_at "ev"
        · obtain ⟨g1, g2, g3⟩ := h2.it x (List.mem_of_getElem? hx)
          obtain ⟨i', rfl⟩ := g3 (by omega)
          rcases g1 with ⟨i2, l, e, q1, q2, q3⟩ | ⟨_, q, _⟩
          · cases e
            have q4 : (s ++ [O.lst acc])[i']? = some (.lst l) := by
              rw [List.getElem?_append_left (List.getElem?_eq_some_iff.mp q1).1]
              exact q1
            wtm_at "ev"
            simp only [decide_eq_false hd, rdL_of q1]
            try wtm_at "ev"
            rw [len_lst q4]
            try wtm_at "ev"
          · exact absurd rfl (q i'))
    show PP (fin st (Mm.R.bindS (mLc (mIt (mVar 1)) (gNm 7) (mOr (mB (m2 fLt (mVar 4) (mC (.int 6)))) (mB (m2 fGt (mCB fLen (mCons (mVar 7) mNil)) (mC (.int 0))))) (mVar 7) [7] [some (.loc b), some (.loc R), some (.loc a), some (.loc c), some (.int d1), some (.int (j : Nat)), some (.int (t : Nat)), none] s) _ _))
    rw [lc, List.map_id']
    have R9 := (h2.weak (z' := False) (fun z => z.elim)).new2 (R' := s.length) (J := [O.lst (items.filter fun x => decide (d1 < 6) || (match x with | .loc i => (match rdL s i with | some l => decide (0 < (l.length : Int)) | none => false) | _ => false))]) (Nat.le_refl _) (app_last _ _) fun x hx => ((h2.weak (z' := False) (fun z => z.elim)).it x (List.mem_filter.mp hx).1).lt
    exact fini' _ _ _ _ R9 h3 (Nat.le_trans (List.length_filter_le _ _) h4)
  exact main

theorem mLOtherThing_eq {st : S} {b k R : Nat} {cells : List Int} {n : Int} {items : List D} (hB : Bag st b k cells n) (hn : n < 90000) (hR : st[R]? = some (.lst items)) (nRb : R ≠ b) :
    ∃ (d : D) (s' : S), mLOtherThing [.loc b, .loc R] st = .ok d s' ∧ Fr b st s' ∧ Bag s' b k cells (n + 1) ∧ (d = .loc R ∨ (∃ t, t ≠ "list" ∧ ∀ s, tyD s d = some t) ∨ ∃ j kvs, d = .loc j ∧ st.length ≤ j ∧ s'[j]? = some (.dic kvs)) := by
  obtain ⟨i0, r0, hb0, _, _⟩ := hB.at_
  have hbl := (List.getElem?_eq_some_iff.mp hb0).1
  have hkl := (List.getElem?_eq_some_iff.mp hB.cells).1
  obtain ⟨d1, i1, r1, e1, a1, b1, B1⟩ := mLTake_eq (m := 24) hB (by omega) (by decide) (by decide)
  let s1 : S := st.set b (bagL k i1 r1 (n + 1))
  have fl1 : s1.length = st.length := by simp [s1]
  have f1 : Fr b st s1 := Fr.setb
  have hR1 : (st.set b (bagL k i1 r1 (n + 1)))[R]? = some (.lst items) := f1.at_ R _ nRb hR
  have lg : ∀ i r n, lowO st.length (bagL k i r n) = true := fun i r n => by
    simp only [bagL, lowO, lows, low, Bool.and_true, decide_eq_true_eq]
    exact hkl
  have fs : ∀ d, fin st (.rt d s1) = .ok d s1 := fun d => finD_same fl1
  have md : ∀ (env : Ev) (s : S), mDisp [(mC (.str (Str.ofString "a")), mC (.int 1))] env s = .ok (.loc s.length) (s ++ [O.dic [(.inr (Str.ofString "a"), .int 1)]]) := fun env s => by
    simp only [mDisp, mPrs, mC, Mm.R.bind, keyD, app_last]
    rw [if_pos (by decide), set_last]
    rfl
  unfold mLOtherThing fnM mbLOtherThing
  wtm_at "ev"
  simp only [e1]
  try wtm_at "ev"
  by_cases h0 : d1 = 0
  · simp only [decide_eq_true h0]
    try wtm_at "ev"
    simp only [fTuple, seqD, rdL_of hR1]
    try wtm_at "ev"
    exact ⟨_, _, fs _, f1, B1, .inr (.inl ⟨"tuple", by decide, fun _ => rfl⟩)⟩
  · simp only [decide_eq_false h0]
    try wtm_at "ev"
    by_cases h1 : d1 = 1
    · simp only [decide_eq_true h1]
      try wtm_at "ev"
      exact ⟨_, _, fs _, f1, B1, .inr (.inl ⟨"NoneType", by decide, fun _ => rfl⟩)⟩
    · simp only [decide_eq_false h1]
      try wtm_at "ev"
      by_cases h2 : d1 = 2
      · simp only [decide_eq_true h2]
        try wtm_at "ev"
        exact ⟨_, _, fs _, f1, B1, .inr (.inl ⟨"str", by decide, fun _ => rfl⟩)⟩
      · simp only [decide_eq_false h2]
        try wtm_at "ev"
        by_cases h3 : d1 = 3
        · simp only [decide_eq_true h3]
          try wtm_at "ev"
          simp only [md]
          try wtm_at "ev"
          refine ⟨.loc st.length, s1 ++ [O.dic [(.inr (Str.ofString "a"), .int 1)]], ?_, f1.trans Fr.app, B1.app, .inr (.inr ⟨_, _, rfl, Nat.le_refl _, by rw [← fl1]; exact app_last _ _⟩)⟩
          show finD st (.loc s1.length) (s1 ++ _) = _
          rw [fl1]
          exact finD_new (Chk.set (Chk.refl st) (lg _ _ _)) fl1 (j := 0) rfl (by simp [lowO, lows, low])
        · simp only [decide_eq_false h3]
          try wtm_at "ev"
          exact ⟨_, _, fs _, f1, B1, .inl rfl⟩

def dKp : Key → PyData
  | .inl i => .int i
  | .inr s => .str s
def GR (ks : List Key) : Prop := ks.Nodup ∧ (∀ k ∈ ks, PyData.canLay0 (dKp k) = true) ∧ ks.length ≤ 62
theorem lay_kp {n : Nat} {k : Key} (h : KeyT n k) : PyData.canLay0 (dKp k) = true := by
  obtain ⟨i, _, _, rfl | rfl⟩ := h
  · rfl
  · exact strOk_of _
theorem RowN.gr {N : Nat} {ks : List Key} (h : RowN N ks) (hN : N ≤ 30) : GR ks := ⟨h.nd, fun k hk => by
  obtain ⟨m, _, q⟩ := h.tag k hk
  exact lay_kp q, by have := h.len; omega⟩
theorem toP_ks (s : S) (n : Nat) : ∀ ks : List Key, (ks.map dk).mapM (toP s (n + 1)) = some (ks.map dKp)
  | [] => rfl
  | k :: r => by
    rw [List.map_cons, List.mapM_cons, toP_ks s n r]
    cases k <;> rfl
theorem toP_lst {s : S} {p n : Nat} {ks : List Key} (h : s[p]? = some (.lst (ks.map dk))) : toP s (n + 2) (.loc p) = some (.list (ks.map dKp)) := by
  show (match rdL s p with | some l => (l.mapM (toP s (n + 1))).map PyData.list | none => none) = _
  rw [rdL_of h]
  exact congrArg (Option.map PyData.list) (toP_ks s n ks)
theorem lay_all {ks : List Key} (h : ∀ k ∈ ks, PyData.canLay0 (dKp k) = true) : PyData.canLayAll0 (ks.map dKp) = true := by
  induction ks with
  | nil => rfl
  | cons k r ih =>
    show (PyData.canLay0 (dKp k) && PyData.canLayAll0 (r.map dKp)) = true
    rw [h k (List.mem_cons_self ..), ih fun k hk => h k (List.mem_cons_of_mem _ hk)]
    rfl
theorem depth_kp (ks : List Key) : PyData.depthAll (ks.map dKp) = 0 := by
  induction ks with
  | nil => rfl
  | cons k r ih =>
    show max (PyData.depth (dKp k)) (PyData.depthAll (r.map dKp)) = 0
    rw [ih]
    cases k <;> rfl
theorem shaped_p {old new : List Key} (ro : GR old) (rn : GR new) : SeqAt.shaped (.list [.list (old.map dKp), .list (new.map dKp)]) = true := by
  show ((PyData.canLayAll0 (old.map dKp) && (PyData.canLayAll0 (new.map dKp) && true)) && decide (max (PyData.depthAll (old.map dKp) + 1) (max (PyData.depthAll (new.map dKp) + 1) 0) + 1 ≤ 64)) = true
  rw [lay_all ro.2.1, lay_all rn.2.1, depth_kp, depth_kp]
  rfl
theorem feq_rows {s : S} {p q a c a' c' : Nat} {old new : List Key} (ro : GR old) (rn : GR new) (hp : s[p]? = some (.lst [.loc a, .loc c])) (hq : s[q]? = some (.lst [.loc a', .loc c'])) (h1 : s[a]? = some (.lst (old.map dk))) (h2 : s[c]? = some (.lst (new.map dk))) (h3 : s[a']? = some (.lst (old.map dk))) (h4 : s[c']? = some (.lst (new.map dk))) :
    fEq true (.loc p) (.loc q) s = .ok (.bl false) s := by
  have go : ∀ {p a c : Nat}, s[p]? = some (.lst [.loc a, .loc c]) → s[a]? = some (.lst (old.map dk)) → s[c]? = some (.lst (new.map dk)) → toP s 50 (.loc p) = some (.list [.list (old.map dKp), .list (new.map dKp)]) := fun {p a c} hp h1 h2 => by
    show (match rdL s p with | some l => (l.mapM (toP s 49)).map PyData.list | none => none) = _
    rw [rdL_of hp]
    show (List.mapM (toP s 49) [D.loc a, D.loc c]).map PyData.list = _
    rw [List.mapM_cons, List.mapM_cons, toP_lst h1, toP_lst h2]
    rfl
  unfold fEq
  rw [if_neg (by simp [scal2, flat]), go hp h1 h2, go hq h3 h4]
  simp only [shaped_p ro rn, Bool.and_true, if_true]
  rw [SeqAt.eqv_refl _ (SeqAt.canLay_of_shaped (shaped_p ro rn))]
  rfl
theorem feq_two {s : S} {p q : Nat} {x y : Bool} (hp : s[p]? = some (.lst [.bl x, .bl y])) (hq : s[q]? = some (.lst [.bl x, .bl y])) : fEq true (.loc p) (.loc q) s = .ok (.bl false) s := by
  have go : ∀ {p : Nat}, s[p]? = some (.lst [.bl x, .bl y]) → toP s 50 (.loc p) = some (.list [.bool x, .bool y]) := fun {p} hp => by
    show (match rdL s p with | some l => (l.mapM (toP s 49)).map PyData.list | none => none) = _
    rw [rdL_of hp]
    rfl
  unfold fEq
  rw [if_neg (by simp [scal2, flat]), go hp, go hq]
  cases x <;> cases y <;> rfl
/-- the thing of keys -/
theorem rise_thing {s7 s8 : S} {R : Nat} {ns : List Int} {old new : List Key} {d : D} {items : List D} {m7 : Int} (lo : GR old) (lw : GR new) (hR : s7[R]? = some (.lst items)) (hi : ∀ x ∈ items, Item s7 x) (hl : items.length ≤ 100) (nR : R ≠ 1) (B7 : Bag s7 1 0 ns m7) (l7 : 1 < s7.length) (f : Fr 1 s7 s8)
    (h : d = .loc R ∨ (∃ t, t ≠ "list" ∧ ∀ s, tyD s d = some t) ∨ ∃ j kvs, d = .loc j ∧ s7.length ≤ j ∧ s8[j]? = some (.dic kvs)) :
    ∃ g, ∀ (s : S) (m : Int), Fr 1 s8 s → Bag s 1 0 ns m → ∀ a c, s[a]? = some (.lst (old.map dk)) → s[c]? = some (.lst (new.map dk)) → mIsRising [.loc a, .loc c, d] s = .ok (.bl g) s ∧ mLGoes [.loc a, .loc c, d, .int 1] s = .ok (.bl g) s := by
  obtain ⟨l0, hl0⟩ := B7.lst
  rcases h with rfl | ⟨t, ht, h⟩ | ⟨j, kvs, rfl, hj, h⟩
  · refine ⟨upB old new items 1, fun s m fs Bs a c ha hc => ?_⟩
    have h1 := (f.trans fs).at_ R _ nR hR
    have h2 : ∀ x ∈ items, Item s x := fun x hx => item_fr hl0 Bs.lst (f.trans fs) (hi x hx)
    have := lo.2.2
    have := lw.2.2
    refine ⟨mIsRising_eq ha hc h1 h2 (by omega) (by omega) (by omega) lo.1 lw.1, ?_⟩
    rw [mLGoes_list ha hc h1 h2 (by omega) (by omega) (by omega) (.inl rfl), goB_up]
  · exact ⟨false, fun s m fs Bs a c ha hc => ⟨mIsRising_no (h s) ht, mLGoes_no (h s) ht⟩⟩
  · refine ⟨false, fun s m fs Bs a c ha hc => ?_⟩
    have h1 := fs.at_ j _ (by omega) h
    have h2 : tyD s (.loc j) = some "dict" := by simp only [tyD, h1]
    exact ⟨mIsRising_no h2 (by decide), mLGoes_no h2 (by decide)⟩
def rowOf (s : S) : D → Option (List D)
  | .loc p => rdL s p
  | _ => none
theorem fall_thing {s7 s8 : S} {R : Nat} {ns : List Int} {old new : List Key} {d : D} {items : List D} {m7 : Int} (lo : GR old) (lw : GR new) (hR : s7[R]? = some (.lst items)) (hi : ∀ x ∈ items, RowD s7 x ∧ ∀ j, x = .loc j → j ≠ 1) (hl : items.length ≤ 70) (nR : R ≠ 1) (B7 : Bag s7 1 0 ns m7) (l7 : 1 < s7.length) (f : Fr 1 s7 s8)
    (h : d = .loc R ∨ (∃ t, t ≠ "list" ∧ ∀ s, tyD s d = some t) ∨ ∃ j kvs, d = .loc j ∧ s7.length ≤ j ∧ s8[j]? = some (.dic kvs)) :
    ∃ g, ∀ (s : S) (m : Int), Fr 1 s8 s → Bag s 1 0 ns m → ∀ a c, s[a]? = some (.lst (old.map dk)) → s[c]? = some (.lst (new.map dk)) → mIsFalling [.loc a, .loc c, d] s = .ok (.bl g) s ∧ mLCovers [.loc a, .loc c, d] s = .ok (.bl g) s := by
  obtain ⟨l0, hl0⟩ := B7.lst
  rcases h with rfl | ⟨t, ht, h⟩ | ⟨j, kvs, rfl, hj, h⟩
  · refine ⟨fallB old new (items.map (rowOf s7)), fun s m fs Bs a c ha hc => ?_⟩
    have h1 := (f.trans fs).at_ R _ nR hR
    have h2 : ∀ (i : Nat) x o, items[i]? = some x → (items.map (rowOf s7))[i]? = some o → Row s x o := fun i x o hx ho => by
      rw [List.getElem?_map, hx] at ho
      cases ho
      obtain ⟨g1, g2⟩ := hi x (List.mem_of_getElem? hx)
      rcases g1 with ⟨p, l, rfl, q1, q2, q3⟩ | ⟨t, q1, q2, q3⟩
      · rw [show rowOf s7 (.loc p) = some l from rdL_of q1]
        exact .yes ((f.trans fs).at_ p _ (g2 p rfl) q1) (fun y hy => item_fr hl0 Bs.lst (f.trans fs) (q2 y hy)) (by omega)
      · rw [show rowOf s7 x = none by cases x <;> first | rfl | exact absurd rfl (q1 _)]
        exact .no (q2 s) q3
    have := lo.2.2
    have := lw.2.2
    exact ⟨mIsFalling_list ha hc h1 (by omega) (by omega) lo.1 lw.1 (by omega) (by simp) h2, mLCovers_list ha hc h1 (by omega) (by omega) (by omega) (by simp) h2⟩
  · exact ⟨false, fun s m fs Bs a c ha hc => ⟨mIsFalling_no (h s) ht, mLCovers_no (h s) ht⟩⟩
  · refine ⟨false, fun s m fs Bs a c ha hc => ?_⟩
    have h1 := fs.at_ j _ (by omega) h
    have h2 : tyD s (.loc j) = some "dict" := by simp only [tyD, h1]
    exact ⟨mIsFalling_no h2 (by decide), mLCovers_no h2 (by decide)⟩

theorem law_true (ns : List Int) (_hl : ns.length ≤ 63) : ∃ st', mLaw [.fl (ns.map D.int)] [] = .ok (.bl true) st' := by
  suffices main : ∀ PP : R D → Prop, (∀ s, PP (fin [] (.rt (.bl true) s))) → PP (mLaw [.fl (ns.map D.int)] []) from
    main (fun res => ∃ st', res = .ok (.bl true) st') fun s => by
      show ∃ st', finD [] (.bl true) s = _
      unfold finD
      split
      · exact ⟨_, rfl⟩
      · rw [if_pos ⟨fun i o h => absurd h (Nat.not_lt_zero _), Nat.zero_le _⟩, if_pos (show low ([] : S).length (.bl true) = true by simp [low])]
        exact ⟨_, rfl⟩
  intro PP fini
  let F : D := .fl (ns.map D.int)
  let S1 : S := [O.lst (ns.map .int), bagL 0 0 0 0]
  have hB1 : Bag S1 1 0 ns 0 := ⟨⟨0, 0, rfl, by omega, by omega⟩, rfl, by decide, by omega⟩
  have z4 : 4 ≤ sizeLine := by have := big_line; omega
  have z2 : 2 ≤ sizeLine := by have := big_line; omega
  have main : PP (mLaw [.fl (ns.map D.int)] []) := by
    unfold mLaw fnM mbLaw
    refine seq_inv (P := fun r => PP (fin [] r)) (fun e s => s = S1 ∧ e = [some F, some (.loc 1), none, none, none, none, none, none, none, none, none, none]) ?_ ?_
    · wtm_at "ev"
      simp only [fList, seqD]
      try wtm_at "ev"
      simp only [z4, if_true]
      try wtm_at "ev"
      exact ⟨rfl, rfl⟩
    rintro e s ⟨rfl, rfl⟩
    obtain ⟨i1, r1, n1, old0, new0, N, e1, B2, hn1, hN, ro, rn⟩ := mLRows_eq hB1
    have e1' : mLRows [.loc 1] S1 = .ok (.loc 4) ([O.lst (ns.map .int), bagL 0 i1 r1 n1, O.lst (old0.map dk), O.lst (new0.map dk), O.lst [.loc 2, .loc 3]]) := e1
    have B2' : Bag [O.lst (ns.map .int), bagL 0 i1 r1 n1, O.lst (old0.map dk), O.lst (new0.map dk), O.lst [.loc 2, .loc 3]] 1 0 ns n1 := B2
    clear e1 B2
    let S2 : S := [O.lst (ns.map .int), bagL 0 i1 r1 n1, O.lst (old0.map dk), O.lst (new0.map dk), O.lst [.loc 2, .loc 3]]
    refine seq_inv (P := fun r => PP (fin [] r)) (fun e s => s = S2 ∧ e = [some F, some (.loc 1), some (.loc 4), none, none, none, none, none, none, none, none, none]) ?_ ?_
    · wtm_at "ev"
      simp only [e1']
      exact ⟨rfl, rfl⟩
    rintro e s ⟨rfl, rfl⟩
    have ix0 : fIx (.loc 4) (.int 0) S2 = .ok (.loc 2) S2 := ix_lst rfl rfl
    have ix1 : fIx (.loc 4) (.int 1) S2 = .ok (.loc 3) S2 := ix_lst rfl rfl
    refine seq_inv (P := fun r => PP (fin [] r)) (fun e s => s = S2 ∧ e = [some F, some (.loc 1), some (.loc 4), some (.loc 2), none, none, none, none, none, none, none, none]) ?_ ?_
    · wtm_at "ev"
      simp only [ix0]
      exact ⟨rfl, rfl⟩
    rintro e s ⟨rfl, rfl⟩
    refine seq_inv (P := fun r => PP (fin [] r)) (fun e s => s = S2 ∧ e = [some F, some (.loc 1), some (.loc 4), some (.loc 2), some (.loc 3), none, none, none, none, none, none, none]) ?_ ?_
    · wtm_at "ev"
      simp only [ix1]
      exact ⟨rfl, rfl⟩
    rintro e s ⟨rfl, rfl⟩
    have g0 : GR old0 := RowN.gr ro hN
    have w0 : GR new0 := RowN.gr rn hN
    have lo0 : old0.length ≤ 60 := by have := ro.len; omega
    have lw0 : new0.length ≤ 60 := by have := rn.len; omega
    refine seq_inv (P := fun r => PP (fin [] r)) (fun e s => e = [some F, some (.loc 1), some (.loc 4), some (.loc 2), some (.loc 3), none, none, none, none, none, none, none] ∧ ∃ (old new : List Key) (n : Int), GR old ∧ GR new ∧ s[2]? = some (.lst (old.map dk)) ∧ s[3]? = some (.lst (new.map dk)) ∧ Bag s 1 0 ns n ∧ n ≤ 1010) ?_ ?_
    · obtain ⟨d2, i2, r2, e2, a2, b2, B3⟩ := mLTake_eq (m := 2) B2' (by omega) (by decide) (by decide)
      have q2 : (S2.set 1 (bagL 0 i2 r2 (n1 + 1)))[2]? = some (.lst (old0.map dk)) := rfl
      have q3 : (S2.set 1 (bagL 0 i2 r2 (n1 + 1)))[3]? = some (.lst (new0.map dk)) := rfl
      have e2' : mLTake [.loc 1, .int 2] S2 = .ok (.int d2) (S2.set 1 (bagL 0 i2 r2 (n1 + 1))) := e2
      have B3' : Bag (S2.set 1 (bagL 0 i2 r2 (n1 + 1))) 1 0 ns (n1 + 1) := B3
      generalize S2.set 1 (bagL 0 i2 r2 (n1 + 1)) = s3 at q2 q3 e2' B3'
      have k2 : mLPlace [.loc 2, .int 1] s3 = .ok (.int (plI old0 (.inl 1))) s3 := mLPlace_keys (k := .inl 1) q2 (by omega)
      have k3 : mLPlace [.loc 3, .int 1] s3 = .ok (.int (plI new0 (.inl 1))) s3 := mLPlace_keys (k := .inl 1) q3 (by omega)
      by_cases h1 : 0 < d2
      · by_cases h2 : plI old0 (.inl 1) < 0
        · by_cases h3 : plI new0 (.inl 1) < 0
          · rw [mIfS_T (s1 := s3) (by wtm_at "ev"; simp only [e2']; try wtm_at "ev"
                                      simp only [decide_eq_true h1]; try wtm_at "ev"
                                      simp only [k2]; try wtm_at "ev"
                                      simp only [decide_eq_true h2]; try wtm_at "ev"
                                      simp only [k3]; try wtm_at "ev"
                                      simp only [decide_eq_true h3])]
            obtain ⟨j4, i4, r4, e4, l4, B4⟩ := mLPutIn_eq (v := .int 1) (sh := 0) B3' (by omega) q2 (by decide) (by decide) (by rw [List.length_map]; omega)
            have p2 : ((s3.set 1 (bagL 0 i4 r4 (n1 + 1 + 1))).set 2 (.lst ((old0.map dk).take j4 ++ [D.int 1] ++ (old0.map dk).drop j4)))[2]? = some (.lst ((insK old0 j4 (.inl 1)).map dk)) := by
              rw [← insK_map]
              exact List.getElem?_set_self (by rw [List.length_set]; exact (List.getElem?_eq_some_iff.mp q2).1)
            have p3 : ((s3.set 1 (bagL 0 i4 r4 (n1 + 1 + 1))).set 2 (.lst ((old0.map dk).take j4 ++ [D.int 1] ++ (old0.map dk).drop j4)))[3]? = some (.lst (new0.map dk)) := by
              rw [List.getElem?_set_ne (by decide), List.getElem?_set_ne (by decide)]
              exact q3
            generalize ((s3.set 1 (bagL 0 i4 r4 (n1 + 1 + 1))).set 2 (.lst ((old0.map dk).take j4 ++ [D.int 1] ++ (old0.map dk).drop j4))) = s4 at e4 B4 p2 p3
            obtain ⟨j5, i5, r5, e5, l5, B5⟩ := mLPutIn_eq (v := .int 1) (sh := 0) B4 (by omega) p3 (by decide) (by decide) (by rw [List.length_map]; omega)
            have u3 : ((s4.set 1 (bagL 0 i5 r5 (n1 + 1 + 1 + 1))).set 3 (.lst ((new0.map dk).take j5 ++ [D.int 1] ++ (new0.map dk).drop j5)))[3]? = some (.lst ((insK new0 j5 (.inl 1)).map dk)) := by
              rw [← insK_map]
              exact List.getElem?_set_self (by rw [List.length_set]; exact (List.getElem?_eq_some_iff.mp p3).1)
            have u2 : ((s4.set 1 (bagL 0 i5 r5 (n1 + 1 + 1 + 1))).set 3 (.lst ((new0.map dk).take j5 ++ [D.int 1] ++ (new0.map dk).drop j5)))[2]? = some (.lst ((insK old0 j4 (.inl 1)).map dk)) := by
              rw [List.getElem?_set_ne (by decide), List.getElem?_set_ne (by decide)]
              exact p2
            generalize ((s4.set 1 (bagL 0 i5 r5 (n1 + 1 + 1 + 1))).set 3 (.lst ((new0.map dk).take j5 ++ [D.int 1] ++ (new0.map dk).drop j5))) = s5 at e5 B5 u2 u3
            wtm_at "ev"
            simp only [e4]
            try wtm_at "ev"
            simp only [e5]
            try wtm_at "ev"
            have gi : ∀ {ks : List Key} {j : Nat}, GR ks → ks.length ≤ 60 → plI ks (.inl 1) < 0 → GR (insK ks j (.inl 1)) := fun {ks j} g l h => by
              have nm : Sum.inl 1 ∉ ks := fun m => by have := plI_pos.mpr m; omega
              refine ⟨(insK_perm ks j (.inl 1)).nodup_iff.mpr (List.nodup_cons.mpr ⟨nm, g.1⟩), fun k hk => ?_, ?_⟩
              · rcases insK_mem hk with hk | rfl
                · exact g.2.1 k hk
                · rfl
              · rw [(insK_perm ks j (.inl 1)).length_eq, List.length_cons]; omega
            exact ⟨rfl, _, _, _, gi g0 lo0 h2, gi w0 lw0 h3, u2, u3, B5, by omega⟩
          · rw [mIfS_F (s1 := s3) (by wtm_at "ev"; simp only [e2']; try wtm_at "ev"
                                      simp only [decide_eq_true h1]; try wtm_at "ev"
                                      simp only [k2]; try wtm_at "ev"
                                      simp only [decide_eq_true h2]; try wtm_at "ev"
                                      simp only [k3]; try wtm_at "ev"
                                      simp only [decide_eq_false h3])]
            exact ⟨rfl, _, _, _, g0, w0, q2, q3, B3', by omega⟩
        · rw [mIfS_F (s1 := s3) (by wtm_at "ev"; simp only [e2']; try wtm_at "ev"
                                    simp only [decide_eq_true h1]; try wtm_at "ev"
                                    simp only [k2]; try wtm_at "ev"
                                    simp only [decide_eq_false h2]; try wtm_at "ev")]
          exact ⟨rfl, _, _, _, g0, w0, q2, q3, B3', by omega⟩
      · rw [mIfS_F (s1 := s3) (by wtm_at "ev"; simp only [e2']; try wtm_at "ev"
                                  simp only [decide_eq_false h1]; try wtm_at "ev")]
        exact ⟨rfl, _, _, _, g0, w0, q2, q3, B3', by omega⟩
    clear ro rn g0 w0 lo0 lw0 B2' e1'
    rintro e s5 ⟨rfl, old, new, n, go, gw, q2, q3, B5, hn⟩
    have lo := go.2.2
    have lw := gw.2.2
    have l5 : 1 < s5.length := by have := (List.getElem?_eq_some_iff.mp q2).1; omega
    -- the row
    obtain ⟨ks, s6, n6, e6, f6, B6, hn6, h6, hk6, lk6⟩ := mLUp_eq B5 (by omega) q2 q3 (by decide) (by decide) lo lw
    have q26 := f6.at_ 2 _ (by decide) q2
    have q36 := f6.at_ 3 _ (by decide) q3
    obtain ⟨R7, s7, n7, it7, e7, W7, hn7, li7⟩ := mLSpoilt_eq B6 (by omega) q26 q36 h6 (by decide) (by decide) (by omega) lo lw lk6 hk6
    have nR7 : R7 ≠ 1 := by have := W7.new_; have := f6.len; omega
    obtain ⟨d8, s8, e8, f8, B8, h8⟩ := mLOtherThing_eq W7.bag (by omega) W7.at_ nR7
    have l7 : 1 < s7.length := by have := W7.fr.len; have := f6.len; omega
    obtain ⟨g, hg⟩ := rise_thing (old := old) (new := new) go gw W7.at_ W7.it (by omega) nR7 W7.bag l7 f8 h8
    have f58 : Fr 1 s5 s8 := (f6.trans W7.fr).trans f8
    refine seq_inv (P := fun r => PP (fin [] r)) (fun e s => s = s8 ∧ e = [some F, some (.loc 1), some (.loc 4), some (.loc 2), some (.loc 3), some d8, none, none, none, none, none, none]) ?_ ?_
    · wtm_at "ev"
      simp only [e6]
      try wtm_at "ev"
      simp only [e7]
      try wtm_at "ev"
      simp only [e8]
      exact ⟨rfl, rfl⟩
    rintro e s ⟨es, rfl⟩
    rw [es]
    clear es
    have q28 := f58.at_ 2 _ (by decide) q2
    have q38 := f58.at_ 3 _ (by decide) q3
    have l8 : 1 < s8.length := by have := f58.len; omega
    -- the rows
    obtain ⟨rows, s9, n9, e9, f9, B9, hn9, h9, lr9, hr9⟩ := mLDown_eq B8 (by omega) q28 q38 (by decide) (by decide) lo lw
    obtain ⟨R10, s10, n10, it10, e10, W10, hn10, li10⟩ := mLSpoiltRows_eq B9 (by omega) (f9.at_ 2 _ (by decide) q28) (f9.at_ 3 _ (by decide) q38) h9 (by decide) (by decide) (by omega) (show 1 < s8.length + 2 by omega) lo lw lr9 hr9
    have l9 : 1 < s9.length := by have := f9.len; omega
    have nR10 : R10 ≠ 1 := by have := W10.new_; omega
    obtain ⟨d11, s11, e11, f11, B11, h11⟩ := mLOtherThing_eq W10.bag (by omega) W10.at_ nR10
    have l10 : 1 < s10.length := by have := W10.fr.len; omega
    obtain ⟨cv, hcv⟩ := fall_thing (old := old) (new := new) go gw W10.at_ (fun x hx => ⟨(W10.it x hx).1, fun j e => by have := ((W10.it x hx).2.1 j e).1; omega⟩) (by omega) nR10 W10.bag l10 f11 h11
    have f811 : Fr 1 s8 s11 := (f9.trans W10.fr).trans f11
    refine seq_inv (P := fun r => PP (fin [] r)) (fun e s => s = s11 ∧ e = [some F, some (.loc 1), some (.loc 4), some (.loc 2), some (.loc 3), some d8, some d11, none, none, none, none, none]) ?_ ?_
    · wtm_at "ev"
      simp only [e9]
      try wtm_at "ev"
      simp only [e10]
      try wtm_at "ev"
      simp only [e11]
      exact ⟨rfl, rfl⟩
    rintro e s ⟨es, rfl⟩
    rw [es]
    clear es
    have q2z := f811.at_ 2 _ (by decide) q28
    have q3z := f811.at_ 3 _ (by decide) q38
    have gz := (hg s11 _ f811 B11 2 3 q2z q3z).2
    have cz := (hcv s11 _ Fr.refl B11 2 3 q2z q3z).2
    refine seq_inv (P := fun r => PP (fin [] r)) (fun e s => s = s11 ∧ e = [some F, some (.loc 1), some (.loc 4), some (.loc 2), some (.loc 3), some d8, some d11, some (.bl g), none, none, none, none]) ?_ ?_
    · wtm_at "ev"
      simp only [gz]
      exact ⟨rfl, rfl⟩
    rintro e s ⟨es, rfl⟩
    rw [es]
    clear es
    refine seq_inv (P := fun r => PP (fin [] r)) (fun e s => s = s11 ∧ e = [some F, some (.loc 1), some (.loc 4), some (.loc 2), some (.loc 3), some d8, some d11, some (.bl g), some (.bl cv), none, none, none]) ?_ ?_
    · wtm_at "ev"
      simp only [cz]
      exact ⟨rfl, rfl⟩
    rintro e s ⟨es, rfl⟩
    rw [es]
    clear es
    let I : Ev → S → Prop := fun e s => ∃ J x9 x10 x11, s = s11 ++ J ∧ e = [some F, some (.loc 1), some (.loc 4), some (.loc 2), some (.loc 3), some d8, some d11, some (.bl g), some (.bl cv), x9, x10, x11]
    refine seq_inv (P := fun r => PP (fin [] r)) I ?_ ?_
    · refine for_inv (st1 := s11) (it := itR 0 2) rfl (fun _ => I) 2 (by show 2 < 100000; omega) ⟨[], none, none, none, by rw [List.append_nil], rfl⟩ (fun i e s hi h => ?_) (fun e s h => ⟨rfl, h⟩)
      obtain ⟨J, x9, x10, x11, rfl, rfl⟩ := h
      refine ⟨.int (i : Nat), [some F, some (.loc 1), some (.loc 4), some (.loc 2), some (.loc 3), some d8, some d11, some (.bl g), some (.bl cv), some (.int (i : Nat)), x10, x11], s11 ++ J, (by unfold itR; rw [if_pos hi, Int.zero_add]), rfl, ?_⟩
      have up : ∀ (X : S) (j : Nat) o, s11[j]? = some o → (s11 ++ X)[j]? = some o := fun X j o e => by
        rw [List.getElem?_append_left (List.getElem?_eq_some_iff.mp e).1]
        exact e
      have ap : ∀ (t : S) (x : O) (j : Nat) o, t[j]? = some o → (t ++ [x])[j]? = some o := fun t x j o e => by
        rw [List.getElem?_append_left (List.getElem?_eq_some_iff.mp e).1]
        exact e
      refine seq_inv (P := LP _ _) (fun e s => ∃ (J : S) (Lp p p' : Nat) (x11 : Option D), s = s11 ++ J ∧ s[Lp]? = some (.lst [.loc p, .loc p']) ∧ s[p]? = some (.lst (old.map dk)) ∧ s[p']? = some (.lst (new.map dk)) ∧ e = [some F, some (.loc 1), some (.loc 4), some (.loc 2), some (.loc 3), some d8, some d11, some (.bl g), some (.bl cv), some (.int (i : Nat)), some (.loc Lp), x11]) ?_ ?_
      · wtm_at "ev"
        simp only [fList, seqD, rdL_of (up J 2 _ q2z)]
        try wtm_at "ev"
        simp only [rdL_of (ap _ (O.lst (old.map dk)) _ _ (up J 3 _ q3z))]
        try wtm_at "ev"
        simp only [z2, if_true]
        try wtm_at "ev"
        exact ⟨J ++ [O.lst (old.map dk)] ++ [O.lst (new.map dk)] ++ [O.lst [.loc (s11 ++ J).length, .loc (s11 ++ J ++ [O.lst (old.map dk)]).length]], _, _, _, _, by simp only [List.append_assoc], app_last _ _, ap _ _ _ _ (ap _ _ _ _ (app_last _ _)), ap _ _ _ _ (app_last _ _), rfl⟩
      clear x10 x11
      rintro _ _ ⟨J, Lp, p, p', x11, rfl, l1, l2, l3, rfl⟩
      refine seq_inv (P := LP _ _) (fun e s => ∃ (J : S) (Lp p p' Ou : Nat), s = s11 ++ J ∧ s[Lp]? = some (.lst [.loc p, .loc p']) ∧ s[p]? = some (.lst (old.map dk)) ∧ s[p']? = some (.lst (new.map dk)) ∧ s[Ou]? = some (.lst [.bl g, .bl cv]) ∧ e = [some F, some (.loc 1), some (.loc 4), some (.loc 2), some (.loc 3), some d8, some d11, some (.bl g), some (.bl cv), some (.int (i : Nat)), some (.loc Lp), some (.loc Ou)]) ?_ ?_
      · have k1 := (hg (s11 ++ J) _ (f811.trans Fr.app) B11.app p p' l2 l3).1
        have k2 := (hcv (s11 ++ J) _ Fr.app B11.app p p' l2 l3).1
        have j0 : fIx (.loc Lp) (.int 0) (s11 ++ J) = .ok (.loc p) (s11 ++ J) := ix_lst l1 rfl
        have j1 : fIx (.loc Lp) (.int 1) (s11 ++ J) = .ok (.loc p') (s11 ++ J) := ix_lst l1 rfl
        wtm_at "ev"
        simp only [j0]
        try wtm_at "ev"
        simp only [j1]
        try wtm_at "ev"
        simp only [k1]
        try wtm_at "ev"
        simp only [j0]
        try wtm_at "ev"
        simp only [j1]
        try wtm_at "ev"
        simp only [k2]
        try wtm_at "ev"
        simp only [z2, if_true]
        try wtm_at "ev"
        exact ⟨J ++ [O.lst [.bl g, .bl cv]], _, _, _, _, by simp only [List.append_assoc], ap _ _ _ _ l1, ap _ _ _ _ l2, ap _ _ _ _ l3, app_last _ _, rfl⟩
      clear l1 l2 l3 x11
      rintro _ _ ⟨J, Lp, p, p', Ou, rfl, l1, l2, l3, l4, rfl⟩
      refine seq_inv (P := LP _ _) (fun e s => ∃ (J : S) (Lp p p' Ou : Nat), s = s11 ++ J ∧ s[Lp]? = some (.lst [.loc p, .loc p']) ∧ s[p]? = some (.lst (old.map dk)) ∧ s[p']? = some (.lst (new.map dk)) ∧ e = [some F, some (.loc 1), some (.loc 4), some (.loc 2), some (.loc 3), some d8, some d11, some (.bl g), some (.bl cv), some (.int (i : Nat)), some (.loc Lp), some (.loc Ou)]) ?_ ?_
      · have j0 : fIx (.loc Ou) (.int 0) (s11 ++ J) = .ok (.bl g) (s11 ++ J) := ix_lst l4 rfl
        have j1 : fIx (.loc Ou) (.int 1) (s11 ++ J) = .ok (.bl cv) (s11 ++ J) := ix_lst l4 rfl
        have j2 : ∀ x, fIsi [.bl x, .ty "bool"] (s11 ++ J) = .ok (.bl true) (s11 ++ J) := fun x => rfl
        have j3 := feq_two (ap _ (O.lst [.bl g, .bl cv]) _ _ l4) (app_last (s11 ++ J) (O.lst [.bl g, .bl cv]))
        rw [mIfS_F (s1 := s11 ++ J ++ [O.lst [.bl g, .bl cv]]) (by
          wtm_at "ev"
          simp only [j0]
          try wtm_at "ev"
          simp only [j2]
          try wtm_at "ev"
          simp only [j1]
          try wtm_at "ev"
          simp only [j2]
          try wtm_at "ev"
          simp only [z2, if_true]
          try wtm_at "ev"
          simp only [j3]
          try wtm_at "ev")]
        exact ⟨J ++ [O.lst [.bl g, .bl cv]], _, _, _, _, by simp only [List.append_assoc], ap _ _ _ _ l1, ap _ _ _ _ l2, ap _ _ _ _ l3, rfl⟩
      clear l1 l2 l3 l4
      rintro _ _ ⟨J, Lp, p, p', Ou, rfl, l1, l2, l3, rfl⟩
      have j3 := feq_rows go gw (ap _ (O.lst [.loc 2, .loc 3]) _ _ l1) (app_last (s11 ++ J) (O.lst [.loc 2, .loc 3])) (ap _ _ _ _ l2) (ap _ _ _ _ l3) (ap _ _ _ _ (up J 2 _ q2z)) (ap _ _ _ _ (up J 3 _ q3z))
      rw [mIfS_F (s1 := s11 ++ J ++ [O.lst [.loc 2, .loc 3]]) (by
        wtm_at "ev"
        simp only [z2, if_true]
        try wtm_at "ev"
        simp only [j3]
        try wtm_at "ev")]
      exact ⟨J ++ [O.lst [.loc 2, .loc 3]], _, _, _, by simp only [List.append_assoc], rfl⟩
    rintro e s ⟨J, x9, x10, x11, rfl, rfl⟩
    wtm_at "ev"
    exact fini _
  exact main

theorem all_mk {l : PySem.W.OpenLaw} {w : World} {K : PySem.W.Frag} {h : Heap} {mg : Str → Option Value} {fa : Addr} (X : K.In h) (G : h.Ns mainGlobals mg) (hfa : mg "law" = some (.ref fa))
    {f0 f1 f2 f3 f4 f5 f6 f7 f8 f9 f10 f11 f12 f13 f14 f15 f16 f17 f18 f19 f20 : Addr} {od0 an0 od1 an1 od2 an2 od3 an3 od4 an4 od5 an5 od6 an6 od7 an7 od8 an8 od9 an9 od10 an10 od11 an11 od12 an12 od13 an13 od14 an14 od15 an15 od16 an16 od17 an17 od18 an18 od19 an19 od20 an20 : Option Addr} {sl0 sl1 sl2 sl3 sl4 sl5 sl6 sl7 sl8 sl9 sl10 sl11 sl12 sl13 sl14 sl15 sl16 sl17 sl18 sl19 sl20 : Array (Option Value)} {oc0 kV0 dc0 pm0 cd0 ct0 oc1 kV1 dc1 pm1 cd1 ct1 oc2 kV2 dc2 pm2 cd2 ct2 oc3 kV3 dc3 pm3 cd3 ct3 oc4 kV4 dc4 pm4 cd4 ct4 oc5 kV5 dc5 pm5 cd5 ct5 oc6 kV6 dc6 pm6 cd6 ct6 oc7 kV7 dc7 pm7 cd7 ct7 oc8 kV8 dc8 pm8 cd8 ct8 oc9 kV9 dc9 pm9 cd9 ct9 oc10 kV10 dc10 pm10 cd10 ct10 oc11 kV11 dc11 pm11 cd11 ct11 oc12 kV12 dc12 pm12 cd12 ct12 oc13 kV13 dc13 pm13 cd13 ct13 oc14 kV14 dc14 pm14 cd14 ct14 oc15 kV15 dc15 pm15 cd15 ct15 oc16 kV16 dc16 pm16 cd16 ct16 oc17 kV17 dc17 pm17 cd17 ct17 oc18 kV18 dc18 pm18 cd18 ct18 oc19 kV19 dc19 pm19 cd19 ct19 oc20 kV20 dc20 pm20 cd20 ct20 : Value}
    (a0 : PySem.W.nsIn K mainGlobals "is_value" = some (some (.ref f0))) (l0 : K.lookup f0 = some ⟨oc0, od0, .func (PySem.W.fnOf "is_value" "is_value" (defArgs sIsValue) (defBody sIsValue) (defScope sIsValue) .none kV0 dc0 pm0 an0 cd0 ct0), sl0⟩) (c0 : PySem.W.codeIn K cd0 "is_value" = true) (k0 : PySem.W.keepIn K (.ref f0) = true)
    (a1 : PySem.W.nsIn K mainGlobals "places_of" = some (some (.ref f1))) (l1 : K.lookup f1 = some ⟨oc1, od1, .func (PySem.W.fnOf "places_of" "places_of" (defArgs sPlacesOf) (defBody sPlacesOf) (defScope sPlacesOf) .none kV1 dc1 pm1 an1 cd1 ct1), sl1⟩) (c1 : PySem.W.codeIn K cd1 "places_of" = true) (k1 : PySem.W.keepIn K (.ref f1) = true)
    (a2 : PySem.W.nsIn K mainGlobals "in_order" = some (some (.ref f2))) (l2 : K.lookup f2 = some ⟨oc2, od2, .func (PySem.W.fnOf "in_order" "in_order" (defArgs sInOrder) (defBody sInOrder) (defScope sInOrder) .none kV2 dc2 pm2 an2 cd2 ct2), sl2⟩) (c2 : PySem.W.codeIn K cd2 "in_order" = true) (k2 : PySem.W.keepIn K (.ref f2) = true)
    (a3 : PySem.W.nsIn K mainGlobals "are_common" = some (some (.ref f3))) (l3 : K.lookup f3 = some ⟨oc3, od3, .func (PySem.W.fnOf "are_common" "are_common" (defArgs sAreCommon) (defBody sAreCommon) (defScope sAreCommon) .none kV3 dc3 pm3 an3 cd3 ct3), sl3⟩) (c3 : PySem.W.codeIn K cd3 "are_common" = true) (k3 : PySem.W.keepIn K (.ref f3) = true)
    (a4 : PySem.W.nsIn K mainGlobals "is_rising" = some (some (.ref f4))) (l4 : K.lookup f4 = some ⟨oc4, od4, .func (PySem.W.fnOf "is_rising" "is_rising" (defArgs sIsRising) (defBody sIsRising) (defScope sIsRising) .none kV4 dc4 pm4 an4 cd4 ct4), sl4⟩) (c4 : PySem.W.codeIn K cd4 "is_rising" = true) (k4 : PySem.W.keepIn K (.ref f4) = true)
    (a5 : PySem.W.nsIn K mainGlobals "is_falling" = some (some (.ref f5))) (l5 : K.lookup f5 = some ⟨oc5, od5, .func (PySem.W.fnOf "is_falling" "is_falling" (defArgs sIsFalling) (defBody sIsFalling) (defScope sIsFalling) .none kV5 dc5 pm5 an5 cd5 ct5), sl5⟩) (c5 : PySem.W.codeIn K cd5 "is_falling" = true) (k5 : PySem.W.keepIn K (.ref f5) = true)
    (a6 : PySem.W.nsIn K mainGlobals "_law_take" = some (some (.ref f6))) (l6 : K.lookup f6 = some ⟨oc6, od6, .func (PySem.W.fnOf "_law_take" "_law_take" (defArgs sLTake) (defBody sLTake) (defScope sLTake) .none kV6 dc6 pm6 an6 cd6 ct6), sl6⟩) (c6 : PySem.W.codeIn K cd6 "_law_take" = true) (k6 : PySem.W.keepIn K (.ref f6) = true)
    (a7 : PySem.W.nsIn K mainGlobals "_law_value" = some (some (.ref f7))) (l7 : K.lookup f7 = some ⟨oc7, od7, .func (PySem.W.fnOf "_law_value" "_law_value" (defArgs sLValue) (defBody sLValue) (defScope sLValue) .none kV7 dc7 pm7 an7 cd7 ct7), sl7⟩) (c7 : PySem.W.codeIn K cd7 "_law_value" = true) (k7 : PySem.W.keepIn K (.ref f7) = true)
    (a8 : PySem.W.nsIn K mainGlobals "_law_put_in" = some (some (.ref f8))) (l8 : K.lookup f8 = some ⟨oc8, od8, .func (PySem.W.fnOf "_law_put_in" "_law_put_in" (defArgs sLPutIn) (defBody sLPutIn) (defScope sLPutIn) .none kV8 dc8 pm8 an8 cd8 ct8), sl8⟩) (c8 : PySem.W.codeIn K cd8 "_law_put_in" = true) (k8 : PySem.W.keepIn K (.ref f8) = true)
    (a9 : PySem.W.nsIn K mainGlobals "_law_rows" = some (some (.ref f9))) (l9 : K.lookup f9 = some ⟨oc9, od9, .func (PySem.W.fnOf "_law_rows" "_law_rows" (defArgs sLRows) (defBody sLRows) (defScope sLRows) .none kV9 dc9 pm9 an9 cd9 ct9), sl9⟩) (c9 : PySem.W.codeIn K cd9 "_law_rows" = true) (k9 : PySem.W.keepIn K (.ref f9) = true)
    (a10 : PySem.W.nsIn K mainGlobals "_law_place" = some (some (.ref f10))) (l10 : K.lookup f10 = some ⟨oc10, od10, .func (PySem.W.fnOf "_law_place" "_law_place" (defArgs sLPlace) (defBody sLPlace) (defScope sLPlace) .none kV10 dc10 pm10 an10 cd10 ct10), sl10⟩) (c10 : PySem.W.codeIn K cd10 "_law_place" = true) (k10 : PySem.W.keepIn K (.ref f10) = true)
    (a11 : PySem.W.nsIn K mainGlobals "_law_common" = some (some (.ref f11))) (l11 : K.lookup f11 = some ⟨oc11, od11, .func (PySem.W.fnOf "_law_common" "_law_common" (defArgs sLCommon) (defBody sLCommon) (defScope sLCommon) .none kV11 dc11 pm11 an11 cd11 ct11), sl11⟩) (c11 : PySem.W.codeIn K cd11 "_law_common" = true) (k11 : PySem.W.keepIn K (.ref f11) = true)
    (a12 : PySem.W.nsIn K mainGlobals "_law_up" = some (some (.ref f12))) (l12 : K.lookup f12 = some ⟨oc12, od12, .func (PySem.W.fnOf "_law_up" "_law_up" (defArgs sLUp) (defBody sLUp) (defScope sLUp) .none kV12 dc12 pm12 an12 cd12 ct12), sl12⟩) (c12 : PySem.W.codeIn K cd12 "_law_up" = true) (k12 : PySem.W.keepIn K (.ref f12) = true)
    (a13 : PySem.W.nsIn K mainGlobals "_law_down" = some (some (.ref f13))) (l13 : K.lookup f13 = some ⟨oc13, od13, .func (PySem.W.fnOf "_law_down" "_law_down" (defArgs sLDown) (defBody sLDown) (defScope sLDown) .none kV13 dc13 pm13 an13 cd13 ct13), sl13⟩) (c13 : PySem.W.codeIn K cd13 "_law_down" = true) (k13 : PySem.W.keepIn K (.ref f13) = true)
    (a14 : PySem.W.nsIn K mainGlobals "_law_odd_item" = some (some (.ref f14))) (l14 : K.lookup f14 = some ⟨oc14, od14, .func (PySem.W.fnOf "_law_odd_item" "_law_odd_item" (defArgs sLOddItem) (defBody sLOddItem) (defScope sLOddItem) .none kV14 dc14 pm14 an14 cd14 ct14), sl14⟩) (c14 : PySem.W.codeIn K cd14 "_law_odd_item" = true) (k14 : PySem.W.keepIn K (.ref f14) = true)
    (a15 : PySem.W.nsIn K mainGlobals "_law_spoilt" = some (some (.ref f15))) (l15 : K.lookup f15 = some ⟨oc15, od15, .func (PySem.W.fnOf "_law_spoilt" "_law_spoilt" (defArgs sLSpoilt) (defBody sLSpoilt) (defScope sLSpoilt) .none kV15 dc15 pm15 an15 cd15 ct15), sl15⟩) (c15 : PySem.W.codeIn K cd15 "_law_spoilt" = true) (k15 : PySem.W.keepIn K (.ref f15) = true)
    (a16 : PySem.W.nsIn K mainGlobals "_law_spoilt_rows" = some (some (.ref f16))) (l16 : K.lookup f16 = some ⟨oc16, od16, .func (PySem.W.fnOf "_law_spoilt_rows" "_law_spoilt_rows" (defArgs sLSpoiltRows) (defBody sLSpoiltRows) (defScope sLSpoiltRows) .none kV16 dc16 pm16 an16 cd16 ct16), sl16⟩) (c16 : PySem.W.codeIn K cd16 "_law_spoilt_rows" = true) (k16 : PySem.W.keepIn K (.ref f16) = true)
    (a17 : PySem.W.nsIn K mainGlobals "_law_other_thing" = some (some (.ref f17))) (l17 : K.lookup f17 = some ⟨oc17, od17, .func (PySem.W.fnOf "_law_other_thing" "_law_other_thing" (defArgs sLOtherThing) (defBody sLOtherThing) (defScope sLOtherThing) .none kV17 dc17 pm17 an17 cd17 ct17), sl17⟩) (c17 : PySem.W.codeIn K cd17 "_law_other_thing" = true) (k17 : PySem.W.keepIn K (.ref f17) = true)
    (a18 : PySem.W.nsIn K mainGlobals "_law_goes" = some (some (.ref f18))) (l18 : K.lookup f18 = some ⟨oc18, od18, .func (PySem.W.fnOf "_law_goes" "_law_goes" (defArgs sLGoes) (defBody sLGoes) (defScope sLGoes) .none kV18 dc18 pm18 an18 cd18 ct18), sl18⟩) (c18 : PySem.W.codeIn K cd18 "_law_goes" = true) (k18 : PySem.W.keepIn K (.ref f18) = true)
    (a19 : PySem.W.nsIn K mainGlobals "_law_covers" = some (some (.ref f19))) (l19 : K.lookup f19 = some ⟨oc19, od19, .func (PySem.W.fnOf "_law_covers" "_law_covers" (defArgs sLCovers) (defBody sLCovers) (defScope sLCovers) .none kV19 dc19 pm19 an19 cd19 ct19), sl19⟩) (c19 : PySem.W.codeIn K cd19 "_law_covers" = true) (k19 : PySem.W.keepIn K (.ref f19) = true)
    (a20 : PySem.W.nsIn K mainGlobals "law" = some (some (.ref f20))) (l20 : K.lookup f20 = some ⟨oc20, od20, .func (PySem.W.fnOf "law" "law" (defArgs sLaw) (defBody sLaw) (defScope sLaw) .none kV20 dc20 pm20 an20 cd20 ct20), sl20⟩) (c20 : PySem.W.codeIn K cd20 "law" = true) (k20 : PySem.W.keepIn K (.ref f20) = true)
    (z_all : PySem.W.nsIn K mainGlobals "all" = some none)
    (z_bool : PySem.W.nsIn K mainGlobals "bool" = some none)
    (z_enumerate : PySem.W.nsIn K mainGlobals "enumerate" = some none)
    (z_int : PySem.W.nsIn K mainGlobals "int" = some none)
    (z_isinstance : PySem.W.nsIn K mainGlobals "isinstance" = some none)
    (z_len : PySem.W.nsIn K mainGlobals "len" = some none)
    (z_list : PySem.W.nsIn K mainGlobals "list" = some none)
    (z_range : PySem.W.nsIn K mainGlobals "range" = some none)
    (z_str : PySem.W.nsIn K mainGlobals "str" = some none)
    (z_tuple : PySem.W.nsIn K mainGlobals "tuple" = some none)
    (z_zip : PySem.W.nsIn K mainGlobals "zip" = some none)
    : ∃ fd : FuncData, (∀ (s : Shared) (v : Value), BindsTo s fd ⟨[v], []⟩ [("_law_script", v)]) ∧ ∀ base : Heap, K.In base → base.Ns mainGlobals mg → FnOk l.prog w K mg base CX0 5 fa fd ["_law_script"] (spTop mLaw K) := by
  have e := hfa.symm.trans (PySem.W.mg_of X G a20)
  cases e
  have F0 := fun_mk (st := sIsValue) l0 c0 k0
  have b0 := F0.binds (ps := ["thing"]) fun _ _ _ _ _ _ us hl => match us, hl with | [_], _ => rfl
  have F1 := fun_mk (st := sPlacesOf) l1 c1 k1
  have b1 := F1.binds (ps := ["row"]) fun _ _ _ _ _ _ us hl => match us, hl with | [_], _ => rfl
  have F2 := fun_mk (st := sInOrder) l2 c2 k2
  have b2 := F2.binds (ps := ["places", "row", "sign"]) fun _ _ _ _ _ _ us hl => match us, hl with | [_, _, _], _ => rfl
  have F3 := fun_mk (st := sAreCommon) l3 c3 k3
  have b3 := F3.binds (ps := ["old", "new", "thing"]) fun _ _ _ _ _ _ us hl => match us, hl with | [_, _, _], _ => rfl
  have F4 := fun_mk (st := sIsRising) l4 c4 k4
  have b4 := F4.binds (ps := ["old", "new", "thing"]) fun _ _ _ _ _ _ us hl => match us, hl with | [_, _, _], _ => rfl
  have F5 := fun_mk (st := sIsFalling) l5 c5 k5
  have b5 := F5.binds (ps := ["old", "new", "thing"]) fun _ _ _ _ _ _ us hl => match us, hl with | [_, _, _], _ => rfl
  have F6 := fun_mk (st := sLTake) l6 c6 k6
  have b6 := F6.binds (ps := ["_law_bag", "_law_many"]) fun _ _ _ _ _ _ us hl => match us, hl with | [_, _], _ => rfl
  have F7 := fun_mk (st := sLValue) l7 c7 k7
  have b7 := F7.binds (ps := ["_law_bag", "_law_k"]) fun _ _ _ _ _ _ us hl => match us, hl with | [_, _], _ => rfl
  have F8 := fun_mk (st := sLPutIn) l8 c8 k8
  have b8 := F8.binds (ps := ["_law_bag", "_law_row", "_law_value_here", "_law_shape"]) fun _ _ _ _ _ _ us hl => match us, hl with | [_, _, _, _], _ => rfl
  have F9 := fun_mk (st := sLRows) l9 c9 k9
  have b9 := F9.binds (ps := ["_law_bag"]) fun _ _ _ _ _ _ us hl => match us, hl with | [_], _ => rfl
  have F10 := fun_mk (st := sLPlace) l10 c10 k10
  have b10 := F10.binds (ps := ["_law_row", "_law_value_here"]) fun _ _ _ _ _ _ us hl => match us, hl with | [_, _], _ => rfl
  have F11 := fun_mk (st := sLCommon) l11 c11 k11
  have b11 := F11.binds (ps := ["_law_old", "_law_new"]) fun _ _ _ _ _ _ us hl => match us, hl with | [_, _], _ => rfl
  have F12 := fun_mk (st := sLUp) l12 c12 k12
  have b12 := F12.binds (ps := ["_law_bag", "_law_old", "_law_new"]) fun _ _ _ _ _ _ us hl => match us, hl with | [_, _, _], _ => rfl
  have F13 := fun_mk (st := sLDown) l13 c13 k13
  have b13 := F13.binds (ps := ["_law_bag", "_law_old", "_law_new"]) fun _ _ _ _ _ _ us hl => match us, hl with | [_, _, _], _ => rfl
  have F14 := fun_mk (st := sLOddItem) l14 c14 k14
  have b14 := F14.binds (ps := ["_law_bag", "_law_old", "_law_new"]) fun _ _ _ _ _ _ us hl => match us, hl with | [_, _, _], _ => rfl
  have F15 := fun_mk (st := sLSpoilt) l15 c15 k15
  have b15 := F15.binds (ps := ["_law_bag", "_law_row", "_law_old", "_law_new"]) fun _ _ _ _ _ _ us hl => match us, hl with | [_, _, _, _], _ => rfl
  have F16 := fun_mk (st := sLSpoiltRows) l16 c16 k16
  have b16 := F16.binds (ps := ["_law_bag", "_law_rows_here", "_law_old", "_law_new"]) fun _ _ _ _ _ _ us hl => match us, hl with | [_, _, _, _], _ => rfl
  have F17 := fun_mk (st := sLOtherThing) l17 c17 k17
  have b17 := F17.binds (ps := ["_law_bag", "_law_thing"]) fun _ _ _ _ _ _ us hl => match us, hl with | [_, _], _ => rfl
  have F18 := fun_mk (st := sLGoes) l18 c18 k18
  have b18 := F18.binds (ps := ["_law_old", "_law_new", "_law_row", "_law_sign"]) fun _ _ _ _ _ _ us hl => match us, hl with | [_, _, _, _], _ => rfl
  have F19 := fun_mk (st := sLCovers) l19 c19 k19
  have b19 := F19.binds (ps := ["_law_old", "_law_new", "_law_rows_here"]) fun _ _ _ _ _ _ us hl => match us, hl with | [_, _, _], _ => rfl
  have F20 := fun_mk (st := sLaw) l20 c20 k20
  have b20 := F20.binds (ps := ["_law_script"]) fun _ _ _ _ _ _ us hl => match us, hl with | [_], _ => rfl
  exact ⟨PySem.W.fnOf "law" "law" (defArgs sLaw) (defBody sLaw) (defScope sLaw) .none kV20 dc20 pm20 an20 cd20 ct20, fun s v => .of_eq rfl, fun base _ _ => top_of <| okLaw (cm := fun _ => none) (P := l.prog) (w := w) (base := base) ({
    n_all := PySem.W.mg_none_of X G z_all,
    n_bool := PySem.W.mg_none_of X G z_bool,
    n_enumerate := PySem.W.mg_none_of X G z_enumerate,
    n_int := PySem.W.mg_none_of X G z_int,
    n_isinstance := PySem.W.mg_none_of X G z_isinstance,
    n_len := PySem.W.mg_none_of X G z_len,
    n_list := PySem.W.mg_none_of X G z_list,
    n_range := PySem.W.mg_none_of X G z_range,
    n_str := PySem.W.mg_none_of X G z_str,
    n_tuple := PySem.W.mg_none_of X G z_tuple,
    n_zip := PySem.W.mg_none_of X G z_zip,
    fIsValue := _, dIsValue := _, FIsValue := F0, gIsValue := PySem.W.mg_of X G a0, bIsValue := b0,
    fPlacesOf := _, dPlacesOf := _, FPlacesOf := F1, gPlacesOf := PySem.W.mg_of X G a1, bPlacesOf := b1,
    fInOrder := _, dInOrder := _, FInOrder := F2, gInOrder := PySem.W.mg_of X G a2, bInOrder := b2,
    fAreCommon := _, dAreCommon := _, FAreCommon := F3, gAreCommon := PySem.W.mg_of X G a3, bAreCommon := b3,
    fIsRising := _, dIsRising := _, FIsRising := F4, gIsRising := PySem.W.mg_of X G a4, bIsRising := b4,
    fIsFalling := _, dIsFalling := _, FIsFalling := F5, gIsFalling := PySem.W.mg_of X G a5, bIsFalling := b5,
    fLTake := _, dLTake := _, FLTake := F6, gLTake := PySem.W.mg_of X G a6, bLTake := b6,
    fLValue := _, dLValue := _, FLValue := F7, gLValue := PySem.W.mg_of X G a7, bLValue := b7,
    fLPutIn := _, dLPutIn := _, FLPutIn := F8, gLPutIn := PySem.W.mg_of X G a8, bLPutIn := b8,
    fLRows := _, dLRows := _, FLRows := F9, gLRows := PySem.W.mg_of X G a9, bLRows := b9,
    fLPlace := _, dLPlace := _, FLPlace := F10, gLPlace := PySem.W.mg_of X G a10, bLPlace := b10,
    fLCommon := _, dLCommon := _, FLCommon := F11, gLCommon := PySem.W.mg_of X G a11, bLCommon := b11,
    fLUp := _, dLUp := _, FLUp := F12, gLUp := PySem.W.mg_of X G a12, bLUp := b12,
    fLDown := _, dLDown := _, FLDown := F13, gLDown := PySem.W.mg_of X G a13, bLDown := b13,
    fLOddItem := _, dLOddItem := _, FLOddItem := F14, gLOddItem := PySem.W.mg_of X G a14, bLOddItem := b14,
    fLSpoilt := _, dLSpoilt := _, FLSpoilt := F15, gLSpoilt := PySem.W.mg_of X G a15, bLSpoilt := b15,
    fLSpoiltRows := _, dLSpoiltRows := _, FLSpoiltRows := F16, gLSpoiltRows := PySem.W.mg_of X G a16, bLSpoiltRows := b16,
    fLOtherThing := _, dLOtherThing := _, FLOtherThing := F17, gLOtherThing := PySem.W.mg_of X G a17, bLOtherThing := b17,
    fLGoes := _, dLGoes := _, FLGoes := F18, gLGoes := PySem.W.mg_of X G a18, bLGoes := b18,
    fLCovers := _, dLCovers := _, FLCovers := F19, gLCovers := PySem.W.mg_of X G a19, bLCovers := b19,
    fLaw := _, dLaw := _, FLaw := F20, gLaw := PySem.W.mg_of X G a20, bLaw := b20 } : TX K mg)⟩
end Kp
open PySem PySem.W PyProof.Rows
set_option maxHeartbeats 0 in
theorem PySem.Challenge.cw_drawnwhole_k42_papers_judged_holds : PySem.Challenge.rw_drawnwhole_k42_papers_judged.Holds := by
  w_on; o_law; k_head; (case hw => w_witness2)
  k_fill
  refine L2.walk_of (l := PySem.Challenge.rw_drawnwhole_k42_papers_judged) (n := 63) (k := 5) (x := "_law_script") (CX := fun _ => L2.CX0) (sp := fun w => Mm.spTop Kp.mLaw _) rfl (by decide) rfl ⟨rfl, by decide, by decide⟩ (fun w h Y => PySem.W.kIn_of Y) ?F (fun _ _ a ns hl ho hS => Mm.spTop_of ho hS (Kp.law_true ns hl)) (fun _ _ _ _ _ h => h)
  case F =>
    intro w mg fa h KX G hmg
    refine' Kp.all_mk KX G hmg ?a0 ?l0 ?c0 ?k0 ?a1 ?l1 ?c1 ?k1 ?a2 ?l2 ?c2 ?k2 ?a3 ?l3 ?c3 ?k3 ?a4 ?l4 ?c4 ?k4 ?a5 ?l5 ?c5 ?k5 ?a6 ?l6 ?c6 ?k6 ?a7 ?l7 ?c7 ?k7 ?a8 ?l8 ?c8 ?k8 ?a9 ?l9 ?c9 ?k9 ?a10 ?l10 ?c10 ?k10 ?a11 ?l11 ?c11 ?k11 ?a12 ?l12 ?c12 ?k12 ?a13 ?l13 ?c13 ?k13 ?a14 ?l14 ?c14 ?k14 ?a15 ?l15 ?c15 ?k15 ?a16 ?l16 ?c16 ?k16 ?a17 ?l17 ?c17 ?k17 ?a18 ?l18 ?c18 ?k18 ?a19 ?l19 ?c19 ?k19 ?a20 ?l20 ?c20 ?k20 ?z_all ?z_bool ?z_enumerate ?z_int ?z_isinstance ?z_len ?z_list ?z_range ?z_str ?z_tuple ?z_zip
    (case a0 => k_is); (case l0 => k_is); (case c0 => k_is); (case k0 => k_is); (case a1 => k_is); (case l1 => k_is); (case c1 => k_is); (case k1 => k_is); (case a2 => k_is); (case l2 => k_is); (case c2 => k_is); (case k2 => k_is); (case a3 => k_is); (case l3 => k_is); (case c3 => k_is); (case k3 => k_is); (case a4 => k_is); (case l4 => k_is); (case c4 => k_is); (case k4 => k_is); (case a5 => k_is); (case l5 => k_is); (case c5 => k_is); (case k5 => k_is); (case a6 => k_is); (case l6 => k_is); (case c6 => k_is); (case k6 => k_is); (case a7 => k_is); (case l7 => k_is); (case c7 => k_is); (case k7 => k_is); (case a8 => k_is); (case l8 => k_is); (case c8 => k_is); (case k8 => k_is); (case a9 => k_is); (case l9 => k_is); (case c9 => k_is); (case k9 => k_is); (case a10 => k_is); (case l10 => k_is); (case c10 => k_is); (case k10 => k_is); (case a11 => k_is); (case l11 => k_is); (case c11 => k_is); (case k11 => k_is); (case a12 => k_is); (case l12 => k_is); (case c12 => k_is); (case k12 => k_is); (case a13 => k_is); (case l13 => k_is); (case c13 => k_is); (case k13 => k_is); (case a14 => k_is); (case l14 => k_is); (case c14 => k_is); (case k14 => k_is); (case a15 => k_is); (case l15 => k_is); (case c15 => k_is); (case k15 => k_is); (case a16 => k_is); (case l16 => k_is); (case c16 => k_is); (case k16 => k_is); (case a17 => k_is); (case l17 => k_is); (case c17 => k_is); (case k17 => k_is); (case a18 => k_is); (case l18 => k_is); (case c18 => k_is); (case k18 => k_is); (case a19 => k_is); (case l19 => k_is); (case c19 => k_is); (case k19 => k_is); (case a20 => k_is); (case l20 => k_is); (case c20 => k_is); (case k20 => k_is); (case z_all => k_is); (case z_bool => k_is); (case z_enumerate => k_is); (case z_int => k_is); (case z_isinstance => k_is); (case z_len => k_is); (case z_list => k_is); (case z_range => k_is); (case z_str => k_is); (case z_tuple => k_is); (case z_zip => k_is)

