import PyProof.Rows.All
import Wide.All
import OpenK.AllK
import Wide.FinOn
import HandS.ForMost
import HandS.IsInst
import HandS.DictComp
import HandS.Style
import HandS.Wide
import HandS.Deep
import HandS.More
import HandS.SetFor
import KE.DataFind
import KE.GoesMore
import HandS.TupAny
import HandS.WordsDict
import HandS.Small
import HandS.RaiseMore
import HandS.Strs
import HandS.Zip
import HandS.Star
import KE.KRevSl
import HandS.ExcInit
import HandS.Nested
import KE.KExcSuper
import KE.KSuper
import HandS.Conv
import HandS.ExcField
import HandS.ExcIs
import HandS.TryOnly
import HandS.WordsExc
import HandS.CallSlots
import KE.KExcIs
import PyProof.ReprRoads
import PyProof.Rows.NestShow
import KE.RegKSuper
import KE.RegKIsAll
import PySem.Challenge.RW_drawnwhole_k44_edits_done
set_option Elab.async false
set_option linter.all false
set_option maxRecDepth 100000
set_option maxHeartbeats 4000000
/-! what every proof of ours leans on: heaps kept but for a footprint -/
namespace Lb
open PySem PySem.Spec PyProof.Rows L2

def Keep (fp : List Addr) (H H' : Hp) : Prop := ∀ x o, H x = some o → x ∉ fp → H' x = some o
section
variable {f g : List Addr} {H H1 H2 : Hp} {x p : Addr} {o : HO} {K : PySem.W.Frag} {xs : List V}
theorem Keep.refl (f : List Addr) (H : Hp) : Keep f H H := fun _ _ h _ => h
theorem Keep.trans (a : Keep f H H1) (b : Keep f H1 H2) : Keep f H H2 := fun x o h n => b x o (a x o h n) n
theorem Keep.mono (a : Keep f H H1) (h : ∀ x, x ∈ f → x ∈ g) : Keep g H H1 := fun x o e n => a x o e fun z => n (h x z)
theorem Keep.new (h : H p = none) : Keep f H (upd H p o) := fun x u e _ => by rw [upd_ne (ne_of_none e h)]; exact e
theorem Keep.put (h : p ∈ f) : Keep f H (upd H p o) := fun x u e n => by rw [upd_ne (fun z => n (by rw [z]; exact h))]; exact e
theorem Keep.at (a : Keep f H H1) (e : H x = some o) (n : x ∉ f) : H1 x = some o := a x o e n
theorem Keep.rd (a : Keep f H H1) (e : Rd H x o) (n : x ∉ f) : Rd H1 x o := by
  rcases e with e | ⟨u, e⟩
  · exact .inl (a _ _ e n)
  · exact .inr ⟨u, a _ _ e n⟩
theorem Keep.seq (a : Keep f H H1) (e : SqL K H x xs) (n : x ∉ f) : SqL K H1 x xs := by
  rcases e with e | e
  · exact .inl (a.rd e n)
  · exact .inr e
theorem Keep.tup (a : Keep f H H1) (e : SqT K H x xs) (n : x ∉ f) : SqT K H1 x xs := by
  rcases e with e | e
  · exact .inl (a.rd e n)
  · exact .inr e
/-- free before: a new address was free, if it is none of the footprint -/
theorem Keep.free (a : Keep f H H1) (h : H1 p = none) (n : p ∉ f) : H p = none := by
  cases q : H p with
  | none => rfl
  | some u =>
    rw [a p u q n] at h
    cases h
theorem Keep.same (a : Keep [] H H1) : Same H H1 := fun x o e => a x o e (by simp)
theorem Keep.of_same (a : Same H H1) : Keep f H H1 := fun x o e _ => a x o e
/-- an object that was made since (free in H) may change -/
theorem Keep.mut (a : Keep f H H1) (h : H p = none) : Keep f H (upd H1 p o) := fun x u e n => by
  rw [upd_ne (ne_of_none e h)]
  exact a x u e n
end
theorem nin_cons {α : Type} {x a : α} {l : List α} (h : x ≠ a) (h' : x ∉ l) : x ∉ a :: l := fun z => by
  rcases List.mem_cons.mp z with z | z
  · exact h z
  · exact h' z
section
variable {f : List Addr} {H H1 : Hp} {x p a : Addr} {o u : HO} {K : PySem.W.Frag} {xs : List V}
theorem fact_new (h : H p = none) (e : H a = some u) : upd H p o a = some u := by rw [upd_ne (ne_of_none e h)]; exact e
theorem fact_ne (h : a ≠ p) (e : H a = some u) : upd H p o a = some u := by rw [upd_ne h]; exact e
theorem sq_new (h : H p = none) (e : SqL K H a xs) : SqL K (upd H p o) a xs := by
  rcases e with (e | ⟨v, e⟩) | e
  · exact .inl (.inl (fact_new h e))
  · exact .inl (.inr ⟨v, fact_new h e⟩)
  · exact .inr e
theorem sq_ne (h : a ≠ p) (e : SqL K H a xs) : SqL K (upd H p o) a xs := by
  rcases e with (e | ⟨v, e⟩) | e
  · exact .inl (.inl (fact_ne h e))
  · exact .inl (.inr ⟨v, fact_ne h e⟩)
  · exact .inr e
theorem sqt_new (h : H p = none) (e : SqT K H a xs) : SqT K (upd H p o) a xs := by
  rcases e with (e | ⟨v, e⟩) | e
  · exact .inl (.inl (fact_new h e))
  · exact .inl (.inr ⟨v, fact_new h e⟩)
  · exact .inr e
theorem sqt_ne (h : a ≠ p) (e : SqT K H a xs) : SqT K (upd H p o) a xs := by
  rcases e with (e | ⟨v, e⟩) | e
  · exact .inl (.inl (fact_ne h e))
  · exact .inl (.inr ⟨v, fact_ne h e⟩)
  · exact .inr e
theorem Keep.unew (a : Keep f H H1) (h : H1 p = none) : Keep f H (upd H1 p o) := a.trans (Keep.new h)
theorem Keep.uput (a : Keep f H H1) (h : p ∈ f) : Keep f H (upd H1 p o) := a.trans (Keep.put h)
theorem Keep.umut (a : Keep f H H1) (h : H p = none) : Keep f H (upd H1 p o) := a.mut h
end
/-- a point where the ways of a statement meet: N is what follows -/
theorem cut {t1 t2 : TS} {D : Ends} {σ : L2.St} {H : Hp} (M : L2.St → Hp → Prop) (h1 : ∀ N : L2.St → Hp → Prop, (∀ σ' H', M σ' H' → N σ' H') → t1 { D with nx := N } σ H) (h2 : ∀ σ' H', M σ' H' → t2 D σ' H') : tSeq t1 t2 D σ H := h1 _ h2
/-- one statement: N is what follows -/
theorem seq1 {t1 t2 : TS} {D : Ends} {σ : L2.St} {H : Hp} (h1 : ∀ N : L2.St → Hp → Prop, (∀ σ' H', t2 D σ' H' → N σ' H') → t1 { D with nx := N } σ H) : tSeq t1 t2 D σ H := h1 _ fun _ _ h => h
theorem ifb {b : Bool} {A B : Prop} (h1 : b = true → A) (h2 : b = false → B) : if b = true then A else B := by
  cases b with
  | true => rw [if_pos rfl]; exact h1 rfl
  | false => rw [if_neg Bool.false_ne_true]; exact h2 rfl
theorem ifbT {b : Bool} {A B : Prop} (h : b = true) (h1 : A) : if b = true then A else B := by rw [if_pos h]; exact h1
theorem ifbF {b : Bool} {A B : Prop} (h : b = false) (h1 : B) : if b = true then A else B := by rw [if_neg (by rw [h]; exact Bool.false_ne_true)]; exact h1
theorem ofF {p : Prop} [Decidable p] (h : decide p = false) : ¬ p := of_decide_eq_false h
theorem ne_free {H : Hp} {a b : Addr} {o : HO} (h : H a = some o) (h' : H b = none) : a ≠ b := ne_of_none h h'
theorem kV_flat (k : Key) : flatV (kV k) = true := by cases k <;> rfl
theorem kV_eq (a b : Key) : eqV (kV a) (kV b) = decide (a = b) := by
  cases a with
  | inl i =>
    cases b with
    | inl j =>
      show (i == j) = _
      by_cases h : i = j
      · subst h; simp
      · simp [h]
    | inr j => simp [kV, eqV]
  | inr i =>
    cases b with
    | inl j => simp [kV, eqV]
    | inr j =>
      show (i == j) = _
      by_cases h : i = j
      · subst h; simp
      · simp [h]
theorem kV_all (ks : List Key) : (ks.map kV).all flatV = true := by
  induction ks with
  | nil => rfl
  | cons a r ih => rw [List.map_cons, List.all_cons, ih, kV_flat]; rfl
/-- k stands in the list -/
def kIn (k : Key) (ks : List Key) : Bool := ks.any fun a => decide (a = k)
theorem kIn_iff {k : Key} {ks : List Key} : kIn k ks = true ↔ k ∈ ks := by
  unfold kIn
  rw [List.any_eq_true]
  constructor
  · rintro ⟨a, h, e⟩
    rw [← of_decide_eq_true e]
    exact h
  · intro h
    exact ⟨k, h, decide_eq_true rfl⟩
theorem kIn_no {k : Key} {ks : List Key} : kIn k ks = false ↔ k ∉ ks := by
  rw [← kIn_iff]
  cases kIn k ks <;> simp
theorem inV_keys (k : Key) (ks : List Key) : inV (kV k) (ks.map kV) = kIn k ks := by
  induction ks with
  | nil => rfl
  | cons a r ih =>
    have e : inV (kV k) ((a :: r).map kV) = (eqV (kV a) (kV k) || inV (kV k) (r.map kV)) := rfl
    rw [e, ih, kV_eq]
    rfl
theorem getk {ks : List Key} {i : Nat} {v : V} (h : (ks.map kV)[i]? = some v) : ∃ k, ks[i]? = some k ∧ v = kV k := by
  rw [List.getElem?_map] at h
  cases e : ks[i]? with
  | none => rw [e] at h; cases h
  | some k => rw [e] at h; exact ⟨k, rfl, (Option.some.inj h).symm⟩
/-! rules with their written part told by name -/
def qLen (K : PySem.W.Frag) : List V → Hp → VK → Prop := fun xs H Q => ∃ p ys, xs = [.ref p] ∧ (SqL K H p ys ∨ SqT K H p ys) ∧ Q (.int ys.length) H
def qListOf (K : PySem.W.Frag) : List V → Hp → VK → Prop := fun xs H Q => ∃ p ys, xs = [.ref p] ∧ (SqL K H p ys ∨ SqT K H p ys) ∧ ∀ l, H l = none → Q (.ref l) (upd H l (.lst ys))
def qInt1 : List V → Hp → VK → Prop := fun xs H Q => (∃ i, xs = [.int i] ∧ Q (.int i) H) ∨ ∃ k, xs = [.bl k] ∧ Q (.int (if k then 1 else 0)) H
theorem c_len {X : Cx} : CallR X (.builtin "len") (qLen X.K) := call_len_seq
theorem c_list {X : Cx} : CallR X (.type "list") (qListOf X.K) := call_list_of
theorem c_int {X : Cx} : CallR X (.type "int") qInt1 := call_int1
theorem isWk {a b : String} {r : Bool} (h : kitB a b = some r) {K : PySem.W.Frag} : PySem.W.kitOne K (.type a) (.type b) = some r := h
end Lb

namespace Nn
open PySem PySem.Spec PyProof.Rows L2 Lb
/-! enumerate of a tuple -/
open AutoSeq1 (wpAny_loadPart') in
theorem enumT_new (ta : Addr) (us : Array Value) (nn : Nat) (od : Option Addr) (osl : Array (Option Value)) :
    Meets (Builtin.«enumerate.__new__» ⟨[.type "enumerate", .ref ta], []⟩) (fun _ RR st => st.heap.get? ta = some { cls := .type "tuple", dict := od, data := .seq us nn, slots := osl } ∧
      RR (.ok (.ret (.ref (st.heap.push { cls := .type "tuple_iterator", data := .fields #[.ref ta, .int 0 0] }).objs.size)))
        { st with heap := (st.heap.push { cls := .type "tuple_iterator", data := .fields #[.ref ta, .int 0 0] }).push { cls := .type "enumerate", data := .fields #[.none, .bool false, .ref st.heap.objs.size, rawInt 0, .none, .none] } }) :=
  .of_wp fun pg wd AA RR st hyp => by
    obtain ⟨hp1, g1, d1, tk1, os1⟩ := st
    obtain ⟨hta, hyp⟩ := hyp
    have hsub1 := sub_enumerate
    have hTT : Heap.IsTuple (Shared.heap ⟨hp1, g1, d1, tk1, os1⟩) ta us := ⟨_, hta, rfl, nn, rfl⟩
    wp_walk using wpAny_loadPart' hta
    refine wpAny_stack_any fun _ => wpAny_pure ?_
    split
    · rename_i c0 _ _ _ _ _
      cases (c0 == Value.type "enumerate")
      all_goals
        wp_walk using wpAny_loadPart' hta, wpAny_pyIter_tuple hTT
        exact ⟨_, rfl, hyp⟩
    · wp_walk using wpAny_loadPart' hta, wpAny_pyIter_tuple hTT
      exact ⟨_, rfl, hyp⟩
theorem enumT_call {pg : Program} {wd : World} {AA : Around} {EE : Value → Shared → Prop} {st : Shared} {ta : Addr} {us : Array Value} {QQ : Value → Shared → Prop} (hta : st.heap.IsTuple ta us)
    (hyp : ∀ hh, IsEnum hh (st.heap.objs.size + 1) st.heap.objs.size 0 .none → hh.IsTupleIter st.heap.objs.size ta 0 → hh.objs.size = st.heap.objs.size + 2 →
      (∀ b ob, st.heap.get? b = some ob → hh.get? b = some ob) → QQ (.ref (st.heap.objs.size + 1)) { st with heap := hh }) :
    wpAny (model pg wd) AA (call (.type "enumerate") [.ref ta]) QQ EE st := by
  obtain ⟨⟨c1, od, dt1, osl⟩, h1, h2, nn, h3⟩ := hta
  replace h2 : c1 = .type "tuple" := h2
  replace h3 : dt1 = .seq us nn := h3
  subst h2 h3
  refine callType_new F.called_enumerate (by decide) (F.typeCall_enumerate_1 _) (F.newCall_enumerate_1 _) (fun ob => F.args_object_init_2 ob _) F.entry_enumerate_new (enumT_new ta us nn od osl) ⟨h1, ?_⟩
  have sz : (st.heap.push { cls := .type "tuple_iterator", data := .fields #[.ref ta, .int 0 0] }).objs.size = st.heap.objs.size + 1 := by rw [Heap.size_push]
  show _ ∧ _
  rw [sz]
  have en : IsEnum ((st.heap.push { cls := .type "tuple_iterator", data := .fields #[.ref ta, .int 0 0] }).push { cls := .type "enumerate", data := .fields #[.none, .bool false, .ref st.heap.objs.size, rawInt 0, .none, .none] })
      (st.heap.objs.size + 1) st.heap.objs.size 0 .none := by
    have q := Heap.get?_push_size (st.heap.push { cls := .type "tuple_iterator", data := .fields #[.ref ta, .int 0 0] }) (o := { cls := .type "enumerate", data := .fields #[.none, .bool false, .ref st.heap.objs.size, rawInt 0, .none, .none] }) rfl
    rw [sz] at q
    exact q
  exact ⟨⟨_, en, rfl⟩, hyp _ en ⟨_, Heap.get?_push_of_some _ (Heap.get?_push_size _ rfl), rfl, rfl⟩ (by rw [Heap.size_push, sz]) fun b ob q => Heap.get?_push_of_some _ (Heap.get?_push_of_some _ q)⟩
theorem enumT_end {pg : Program} {wd : World} {AA : Around} {EE : Value → Shared → Prop} {st : Shared} {ee ii ta : Addr} {n : Nat} {us : Array Value} {old : Value} {QQ : Option Value → Shared → Prop} (hh : AA.handled = none) (he : IsEnum st.heap ee ii n old)
    (hit : st.heap.IsTupleIter ii ta n) (hta : st.heap.IsTuple ta us) (hx : us[n]? = none) (hQ : ∀ h1, Heap.ExtBut ii st.heap h1 → QQ none { st with heap := h1 }) : wpAny (model pg wd) AA (pyNext (.ref ee)) QQ EE st := by
  have ty : st.TypeIs (.ref ee) "enumerate" := ⟨_, he, rfl⟩
  unfold pyNext
  refine wpAny_bind (wpAny_attempt (wpAny_callSpecial?_slot (name := Str.ofString "__next__") ty F.slot_enumerate_next (wpAny_call_entry F.slot_enumerate_next ty F.entry_enumerate_next ?_ (F.args_enumerate_next_1 _))))
  show wpAny _ _ (field (.ref ee) 2 >>= _) _ _ _
  refine wpAny_bind (wpAny_field he rfl (x := .ref ii) rfl (wpAny_bind (wpAny_nextOf_tuple_end hh hit hta hx fun h1 x ex ⟨o, ho, hc⟩ => ?_)))
  exact wpAny_bind (wpAny_isInstance (T := "StopIteration") (b := true) ⟨o, ho, hc⟩ isSubtype_stop (wpAny_pure (hQ _ ex)))
/-- the tuple at a, each item in a new pair -/
def IteT (K : PySem.W.Frag) (a : Addr) : It :=
  ⟨fun i H => ∃ (xs : List V) (x : V), SqT K H a xs ∧ xs[i]? = some x,
   fun i H v H' => ∃ T x, v = .ref T ∧ H T = none ∧ H' = upd H T (.tup [.int (i : Nat), x]) ∧ ∀ xs, SqT K H a xs → xs[i]? = some x,
   fun i H => ∃ xs : List V, SqT K H a xs ∧ xs.length ≤ i⟩
theorem turn_enumT {P : Program} {w : World} {K : PySem.W.Frag} {elts : List Expr} {kk : Nat} {tpos : Pos} (a e it : Addr) :
    Turn P w K (.Tuple elts kk tpos) (IteT K a) [e, it] e (fun i h => (∃ old, IsEnum h e it ((i : Nat) : Int) old) ∧ h.IsTupleIter it a i ∧ e ≠ it) where
  mem := by simp
  obj := fun i h st b hb => by
    obtain ⟨⟨old, he⟩, ⟨o, ho, hc, hd⟩, _⟩ := st
    rcases (show b = e ∨ b = it by simpa using hb) with rfl | rfl
    · exact ⟨_, he, fun v q => nomatch q⟩
    · exact ⟨o, ho, fun v q => by rw [hd] at q; cases q⟩
  keep := fun i h h' st k => let ⟨⟨old, he⟩, hi, hne⟩ := st; ⟨⟨old, k e (by simp) _ he⟩, hi.at fun o q => k it (by simp) o q, hne⟩
  item := by
    intro X hP hw hK hc i pins s σ H E I hf st hg
    subst hP hw hK
    obtain ⟨⟨old, he⟩, hit, hne⟩ := st
    obtain ⟨xs, x, hq, hx⟩ := hg
    obtain ⟨its, rv, p, hz⟩ := I.tuple hq
    obtain ⟨u, hu, ru⟩ := rv.get hx
    have hel : e < s.heap.objs.size := Heap.lt_size he
    have hil : it < s.heap.objs.size := by
      obtain ⟨o, q, _⟩ := hit
      exact Heap.lt_size q
    have hT0 : s.heap.IsTuple a its.toArray := p
    have nit : a ≠ it := fun z => by
      obtain ⟨o1, q1, q2, _⟩ := hT0
      obtain ⟨o2, q3, q4, _⟩ := hit
      rw [z, q3] at q1
      cases q1
      rw [q4] at q2
      exact absurd (Value.type.inj q2) (by decide)
    have nea : e ≠ a := fun z => by
      obtain ⟨o1, q1, q2, _⟩ := hT0
      have he2 := he
      unfold IsEnum at he2
      rw [z, q1] at he2
      have e3 : o1 = _ := Option.some.inj he2
      rw [e3] at q2
      exact absurd (Value.type.inj q2) (by decide)
    have hul : i < its.toArray.size := by
      have := (List.getElem?_eq_some_iff.mp hu).1
      simpa using this
    refine wpAny_pyNext_enum_itemD (Draws.tuple (show X.A.in1.handled = none from I.ok.hd hc) it a nit its.toArray) he ⟨hit, hT0⟩ hul hne (by simp [hne, nea]) fun u' h' tk hu' ho hst hT hsz hk => ?_
    obtain ⟨hit', hT1⟩ := hst
    have eu : u' = u := by
      have h1 : its.toArray[i]? = some u := by simpa using hu
      rw [h1] at hu'
      exact (Option.some.inj hu').symm
    subst eu
    refine ⟨_, rfl, wpAny_letOwnedTupleGo_enum (s := { s with heap := h', toks := tk + 1 }) ho fun h'' he' sb => ?_⟩
    have hT2 : h''.get? s.heap.objs.size = some { cls := .type "tuple", data := .seq #[.int i tk, u'] } := (sb.2 _ (Nat.ne_of_gt hel)).trans hT
    have new : ObjOk X.prog X.w (upd H s.heap.objs.size (.tup [.int (i : Nat), x])) h'' s.heap.objs.size (.tup [.int (i : Nat), x]) :=
      ⟨by show 2 ≤ sizeLine; decide, [.int i tk, u'], .cons ⟨_, rfl⟩ (.cons ru .nil), ⟨_, hT2, rfl, _, rfl⟩⟩
    have I1 : Inv X pins σ (upd H s.heap.objs.size (.tup [.int (i : Nat), x])) { s with heap := h'', toks := tk + 1 } :=
      I.turnedNew (ch := [e, it]) (fun b ob hb q => (sb.2 b (fun z => hb (by simp [z]))).trans (hk b ob (fun z => hb (by simp [z])) (fun z => hb (by simp [z])) q)) hf (Nat.le_refl _) new
    refine ⟨.ref s.heap.objs.size, _, I1, rfl, ⟨_, x, rfl, I.hok.fresh (Nat.le_refl _), rfl, fun ys hy => by rw [I.tuple_inj hy hq]; exact hx⟩, ⟨⟨u', ?_⟩, hit'.at fun o q => (sb.2 it (Ne.symm hne)).trans q, hne⟩, fun b hb => ?_⟩
    · have e1 : ((i + 1 : Nat) : Int) = (i : Int) + 1 := by omega
      rw [e1]
      exact he'
    · have hb' : b < s.heap.objs.size := by
        rcases (show b = e ∨ b = it by simpa using hb) with rfl | rfl
        · exact hel
        · exact hil
      rw [upd_ne (Nat.ne_of_lt hb')]
      exact (hf b hb).1
  done := by
    intro X hP hw hK hc i pins s σ H E I hf st hg
    subst hP hw hK
    obtain ⟨⟨old, he⟩, hit, hne⟩ := st
    obtain ⟨xs, hq, hx⟩ := hg
    obtain ⟨its, rv, p, hz⟩ := I.tuple hq
    obtain ⟨f0, f1, f2, f3, f4, f5⟩ := hf it (by simp)
    have hl := rv.length
    have hT0 : s.heap.IsTuple a its.toArray := p
    have nit : a ≠ it := fun z => by
      obtain ⟨o1, q1, q2, _⟩ := hT0
      obtain ⟨o2, q3, q4, _⟩ := hit
      rw [z, q3] at q1
      cases q1
      rw [q4] at q2
      exact absurd (Value.type.inj q2) (by decide)
    exact enumT_end (I.ok.hd hc) he hit hT0 (by simp; omega) fun h' eb => ⟨rfl, I.turned (t' := s.toks) (fun b o hb q => eb b o hb q) f0 f1 f3 f4 f5⟩
  self := fun A i s Q E st h => let ⟨⟨_, he⟩, _⟩ := st; wpAny_pyIter_enum he h

/-- enumerate of a list or a tuple -/
def iEnumA (K : PySem.W.Frag) (ta : TA) : TI := fun σ H R => ta σ H fun vs H1 => ∃ a xs, vs = [.ref a] ∧ ((SqL K H1 a xs ∧ R (Ite K a) H1) ∨ (SqT K H1 a xs ∧ R (IteT K a) H1))
theorem pi_enumA {X : Cx} {e : Expr} {ta : TA} {p pos tpos : Pos} {elts : List Expr} {kk : Nat} (hg : Gl X "enumerate") (hm : X.mg "enumerate" = none) (ha : PA X [e] ta) (hs : starEach [e] X.env = [(false, eval e X.env)] := by rfl) :
    PI X (.Tuple elts kk tpos) (.Call (.Name "enumerate" p) [e] [] pos) (iEnumA X.K ta) := by
  refine ⟨fun pins s σ H R I h => ?_⟩
  refine Call_ (ld_blt I hg hm boot_enumerate (PyProof.Rows.callWith_type1 (thn (ha.run pos pins s σ H _ I h) fun us s1 ⟨vs, H1, I1, r1, q1⟩ => ?_) hs rfl))
  obtain ⟨a, xs, rfl, q⟩ := q1
  cases r1 with
  | cons r rr =>
    cases rr
    cases r
    have fin : ∀ (b : Addr), b = s1.heap.objs.size + 1 ∨ b = s1.heap.objs.size → s1.heap.objs.size ≤ b := fun b hb => by
      rcases hb with rfl | rfl
      · exact Nat.le_add_right _ _
      · exact Nat.le_refl _
    rcases q with ⟨hq, q⟩ | ⟨hq, q⟩
    · obtain ⟨its, rv, p', hz⟩ := I1.list hq
      refine call_enumerate_list p'.isList fun h' he hit hsz hk => wpAny_pyIter_enum he ?_
      have I2 : Inv X pins σ H1 { s1 with heap := h' } := I1.kept (t' := s1.toks) hk
      exact ⟨_, [s1.heap.objs.size + 1, s1.heap.objs.size], _, _, H1, rfl, I2, turn_enum a _ s1.heap.objs.size, ⟨⟨.none, he⟩, hit, Nat.succ_ne_self _⟩, fun b hb => I1.fpOk (fin b (by simpa using hb)) (I1.hok.fresh (fin b (by simpa using hb))), q⟩
    · obtain ⟨its, rv, p', hz⟩ := I1.tuple hq
      refine enumT_call (show s1.heap.IsTuple a its.toArray from p') fun h' he hit hsz hk => wpAny_pyIter_enum he ?_
      have I2 : Inv X pins σ H1 { s1 with heap := h' } := I1.kept (t' := s1.toks) hk
      exact ⟨_, [s1.heap.objs.size + 1, s1.heap.objs.size], _, _, H1, rfl, I2, turn_enumT a _ s1.heap.objs.size, ⟨⟨.none, he⟩, hit, Nat.succ_ne_self _⟩, fun b hb => I1.fpOk (fin b (by simpa using hb)) (I1.hok.fresh (fin b (by simpa using hb))), q⟩
/-- a loop over it: the items xs stand still -/
theorem for_enumA {K : PySem.W.Frag} {a : Addr} {xs : List V} {g : TG} {tb : TS} {D : Ends} {σ : L2.St} {H0 H : Hp} {J : It} (hJ : (J = Ite K a ∧ SqL K H0 a xs) ∨ (J = IteT K a ∧ SqT K H0 a xs)) (Pv : Nat → L2.St → Hp → Prop) (h0 : Pv 0 σ H)
    (hl : ∀ i σ H', i ≤ xs.length → Pv i σ H' → Keep [] H0 H')
    (hs : ∀ i x T σ H', xs[i]? = some x → Pv i σ H' → H' T = none → g (.ref T) σ (upd H' T (.tup [.int (i : Nat), x])) fun σ2 H2 => tb { D with nx := Pv (i + 1), ct := Pv (i + 1), bk := D.nx } σ2 H2)
    (hd : ∀ σ H', Pv xs.length σ H' → D.nx σ H') :
    ∃ W : Nat → Nat → L2.St → Hp → Prop, (∃ m, W 0 m σ H) ∧ ∀ i m σ H, W i m σ H →
      (J.stop i H ∧ D.nx σ H) ∨ (J.go i H ∧ ∃ N : L2.St → Hp → Prop, (∀ σ' H', N σ' H' → ∃ m', m' < m ∧ W (i + 1) m' σ' H') ∧ ∀ x H', J.yld i H x H' → g x σ H' fun σ2 H2 => tb { D with nx := N, ct := N, bk := D.nx } σ2 H2) := by
  refine ⟨fun i m σ H' => i + m = xs.length ∧ Pv i σ H', ⟨xs.length, by omega, h0⟩, ?_⟩
  rintro i m σ H' ⟨hm, pv⟩
  have k := hl i σ H' (by omega) pv
  by_cases hi : i < xs.length
  · have hx := List.getElem?_eq_getElem hi
    refine .inr ⟨?_, Pv (i + 1), fun σ' H2 p => ⟨m - 1, by omega, by omega, p⟩, fun x H2 hy => ?_⟩
    · rcases hJ with ⟨rfl, hq⟩ | ⟨rfl, hq⟩
      · exact ⟨xs, _, k.seq hq List.not_mem_nil, hx⟩
      · exact ⟨xs, _, k.tup hq List.not_mem_nil, hx⟩
    · rcases hJ with ⟨rfl, hq⟩ | ⟨rfl, hq⟩
      · obtain ⟨T, y, rfl, nT, rfl, f⟩ := hy
        have ey := f _ (k.seq hq List.not_mem_nil)
        exact hs i y T σ H' ey pv nT
      · obtain ⟨T, y, rfl, nT, rfl, f⟩ := hy
        have ey := f _ (k.tup hq List.not_mem_nil)
        exact hs i y T σ H' ey pv nT
  · have e : i = xs.length := by omega
    subst e
    refine .inl ⟨?_, hd σ H' pv⟩
    rcases hJ with ⟨rfl, hq⟩ | ⟨rfl, hq⟩
    · exact ⟨xs, k.seq hq List.not_mem_nil, Nat.le_refl _⟩
    · exact ⟨xs, k.tup hq List.not_mem_nil, Nat.le_refl _⟩
end Nn

/-! the second mirror: values are values (lists too, once nobody changes them); the store holds what a def changes -/
namespace Nn
open PySem PySem.Spec PyProof.Rows L2 Lb

/-- data: fl, fd, fo: a list, a dict, an instance that nobody changes; loc: one of the store; sc: a list of the outside; tuf: a tuple that has no dict -/
inductive D where
  | non | bl (b : Bool) | int (i : Int) | str (x : Str) | ty (n : String) | tup (l : List D) | loc (n : Nat) | fl (l : List D) | fd (ks : List Key) (l : List D) | fo (c : String) (ks : List Str) (l : List D) | sc (l : List D) | tuf (l : List D)
inductive O where
  | lst (l : List D) | dic (kvs : List (Key × D)) | ins (c : String) (fs : List (Str × D))
abbrev S := List O
/-- the names' values; the error that is handled: its name's slot, its class, its fields -/
structure Ev where
  sl : List (Option D)
  x : Option (Nat × String × List (Str × D))
/-- what is given: the written part, the classes' places, addresses that are others' own, the error that is handled -/
structure Zc where
  K : PySem.W.Frag
  cm : String → Option Addr
  av : Addr → Prop
  exa : Option (Addr × Value × Option Addr)
def Out (z : Zc) (ρ : List Addr) (a : Addr) : Prop := a ∉ ρ ∧ ¬ z.av a
/-- a list that nobody changes -/
def FzL (z : Zc) (ρ : List Addr) (H : Hp) (a : Addr) (xs : List V) : Prop := (Rd H a (.lst xs) ∧ Out z ρ a) ∨
  ∃ (o : Obj) (its : Array Value) (n : Nat), z.K.lookup a = some o ∧ o.cls = .type "list" ∧ o.dict = none ∧ o.data = .seq its n ∧ its.size ≤ sizeLine ∧ Vals xs its.toList
theorem FzL.sq {z : Zc} {ρ : List Addr} {H : Hp} {a : Addr} {xs : List V} (h : FzL z ρ H a xs) : SqL z.K H a xs := h.elim (fun h => .inl h.1) .inr
def FzT (z : Zc) (ρ : List Addr) (H : Hp) (a : Addr) (xs : List V) : Prop := ∃ o : Obj, H a = some (.frz o (.tup xs)) ∧ o.dict = none ∧ Out z ρ a
theorem FzT.sq {K : PySem.W.Frag} {z : Zc} {ρ : List Addr} {H : Hp} {a : Addr} {xs : List V} (h : FzT z ρ H a xs) : SqT K H a xs := let ⟨o, e, _⟩ := h; .inl (.inr ⟨o, e⟩)
def FzP (z : Zc) (ρ : List Addr) (H : Hp) (a : Addr) (xs : List V) : Prop := H a = some (.lst xs) ∧ Out z ρ a
def FzD (z : Zc) (ρ : List Addr) (H : Hp) (a : Addr) (ys : List (Key × V)) : Prop := Rd H a (.dK ys) ∧ Out z ρ a
def FzI (z : Zc) (ρ : List Addr) (H : Hp) (a : Addr) (C dx : Addr) (ys : List (Str × V)) : Prop := H a = some (.ins C dx ys) ∧ H dx = some (.own a) ∧ Out z ρ a ∧ Out z ρ dx
mutual
def RV (z : Zc) (ρ : List Addr) (H : Hp) : D → V → Prop
  | .non, v => v = .non
  | .bl b, v => v = .bl b
  | .int i, v => v = .int i
  | .str x, v => v = .str x
  | .ty n, v => v = .ty n
  | .tup l, v => ∃ a xs, v = .ref a ∧ SqT z.K H a xs ∧ RVs z ρ H l xs
  | .loc n, v => ∃ a, ρ[n]? = some a ∧ v = .ref a
  | .fl l, v => ∃ a xs, v = .ref a ∧ FzP z ρ H a xs ∧ RVs z ρ H l xs
  | .tuf l, v => ∃ a xs, v = .ref a ∧ FzT z ρ H a xs ∧ RVs z ρ H l xs
  | .sc l, v => ∃ a xs, v = .ref a ∧ FzL z ρ H a xs ∧ RVs z ρ H l xs
  | .fd ks l, v => ∃ a ys, v = .ref a ∧ FzD z ρ H a ys ∧ ys.map (·.1) = ks ∧ RVs z ρ H l (ys.map (·.2))
  | .fo c ks l, v => ∃ a C dx ys, v = .ref a ∧ z.cm c = some C ∧ FzI z ρ H a C dx ys ∧ ys.map (·.1) = ks ∧ RVs z ρ H l (ys.map (·.2))
def RVs (z : Zc) (ρ : List Addr) (H : Hp) : List D → List V → Prop
  | [], xs => xs = []
  | d :: l, xs => ∃ x r, xs = x :: r ∧ RV z ρ H d x ∧ RVs z ρ H l r
end
section
variable {z z' : Zc} {ρ ρ' ρ'' : List Addr} {H H' H'' : Hp} {d : D} {v : V} {l l' : List D} {xs ys : List V}
theorem RVs.cons {x : V} {r : List V} (h : RV z ρ H d x) (t : RVs z ρ H l r) : RVs z ρ H (d :: l) (x :: r) := by
  unfold RVs
  exact ⟨x, r, rfl, h, t⟩
theorem RVs.nil : RVs z ρ H [] [] := by unfold RVs; rfl
theorem RVs.length : ∀ {l : List D} {xs : List V}, RVs z ρ H l xs → l.length = xs.length
  | [], xs, h => by
    unfold RVs at h
    rw [h]
    rfl
  | d :: l, xs, h => by
    unfold RVs at h
    obtain ⟨x, r, rfl, _, t⟩ := h
    rw [List.length_cons, List.length_cons, RVs.length t]
theorem RVs.get : ∀ {l : List D} {xs : List V} {i : Nat} {d : D}, RVs z ρ H l xs → l[i]? = some d → ∃ x, xs[i]? = some x ∧ RV z ρ H d x
  | [], xs, i, d, h, e => by simp at e
  | c :: l, xs, i, d, h, e => by
    unfold RVs at h
    obtain ⟨x, r, rfl, q, t⟩ := h
    cases i with
    | zero =>
      have e' : c = d := by simpa using e
      subst e'
      exact ⟨x, rfl, q⟩
    | succ i =>
      obtain ⟨y, h1, h2⟩ := RVs.get (i := i) t (by simpa using e)
      exact ⟨y, by simpa using h1, h2⟩
theorem RVs.of_get : ∀ {l : List D} {xs : List V}, l.length = xs.length → (∀ (i : Nat) d x, l[i]? = some d → xs[i]? = some x → RV z ρ H d x) → RVs z ρ H l xs
  | [], [], _, _ => RVs.nil
  | [], x :: r, h, _ => by simp at h
  | d :: l, [], h, _ => by simp at h
  | d :: l, x :: r, h, f => RVs.cons (f 0 d x rfl rfl) (RVs.of_get (by simpa using h) fun i d' x' h1 h2 => f (i + 1) d' x' (by simpa using h1) (by simpa using h2))
theorem RVs.at (h : RVs z ρ H l xs) {i : Nat} {x : V} (e : l[i]? = some d) (e' : xs[i]? = some x) : RV z ρ H d x := by
  obtain ⟨y, h1, h2⟩ := h.get e
  rw [h1] at e'
  cases e'
  exact h2
theorem RVs.append (h : RVs z ρ H l xs) (h' : RVs z ρ H l' ys) : RVs z ρ H (l ++ l') (xs ++ ys) := by
  have e1 := h.length
  have e2 := h'.length
  refine RVs.of_get (by simp [e1, e2]) fun i d x a b => ?_
  by_cases hi : i < l.length
  · rw [List.getElem?_append_left hi] at a
    rw [List.getElem?_append_left (by omega)] at b
    exact h.at a b
  · rw [List.getElem?_append_right (by omega)] at a
    rw [List.getElem?_append_right (by omega), ← e1] at b
    exact h'.at a b
theorem RVs.take (n : Nat) (h : RVs z ρ H l xs) : RVs z ρ H (l.take n) (xs.take n) := by
  have e1 := h.length
  refine RVs.of_get (by simp [e1]) fun i d x a b => ?_
  by_cases hi : i < n
  · rw [List.getElem?_take_of_lt hi] at a b
    exact h.at a b
  · rw [List.getElem?_eq_none (by simp; omega)] at a
    cases a
theorem RVs.drop (n : Nat) (h : RVs z ρ H l xs) : RVs z ρ H (l.drop n) (xs.drop n) := by
  have e1 := h.length
  refine RVs.of_get (by simp [e1]) fun i d x a b => ?_
  rw [List.getElem?_drop] at a b
  exact h.at a b
theorem RVs.set (n : Nat) (h : RVs z ρ H l xs) (q : RV z ρ H d v) : RVs z ρ H (l.set n d) (xs.set n v) := by
  have e1 := h.length
  refine RVs.of_get (by simp [e1]) fun i d' x a b => ?_
  by_cases hi : n = i
  · subst hi
    by_cases hn : n < l.length
    · rw [List.getElem?_set_self hn] at a
      rw [List.getElem?_set_self (by omega)] at b
      cases a
      cases b
      exact q
    · rw [List.getElem?_eq_none (by simp; omega)] at a
      cases a
  · rw [List.getElem?_set_ne hi] at a b
    exact h.at a b
theorem RVs.reverse (h : RVs z ρ H l xs) : RVs z ρ H l.reverse xs.reverse := by
  have e1 := h.length
  refine RVs.of_get (by simp [e1]) fun i d' x a b => ?_
  have hi : i < l.length := by
    have := (List.getElem?_eq_some_iff.mp a).1
    simpa using this
  rw [List.getElem?_reverse hi] at a
  rw [List.getElem?_reverse (by omega), ← e1] at b
  exact h.at a b
theorem RVs.eraseIdx (n : Nat) (h : RVs z ρ H l xs) : RVs z ρ H (l.eraseIdx n) (xs.eraseIdx n) := by
  have e1 := h.length
  rw [List.eraseIdx_eq_take_drop_succ, List.eraseIdx_eq_take_drop_succ]
  exact (h.take n).append (h.drop (n + 1))

/-- a dict may be locked for good -/
def Up (u w : HO) : Prop := w = u ∨ ∃ kvs o, u = .dK kvs ∧ w = .frz o (.dK kvs)
theorem Up.trans {u w x : HO} (a : Up u w) (b : Up w x) : Up u x := by
  rcases a with rfl | ⟨kvs, o, rfl, rfl⟩
  · exact b
  · rcases b with rfl | ⟨k, o', e, _⟩
    · exact .inr ⟨kvs, o, rfl, rfl⟩
    · cases e
/-- later: more places are known, all but the store's own stands -/
structure Ext (z : Zc) (ρ : List Addr) (H : Hp) (ρ' : List Addr) (H' : Hp) : Prop where
  pl : ∀ (n : Nat) a, ρ[n]? = some a → ρ'[n]? = some a
  tp : ∀ a xs, SqT z.K H a xs → SqT z.K H' a xs
  kq : ∀ a u, H a = some u → a ∉ ρ → ∃ w, H' a = some w ∧ Up u w ∧ (z.av a → w = u)
  nw : ∀ a, a ∈ ρ' → a ∉ ρ → H a = none
theorem Ext.refl : Ext z ρ H ρ H := ⟨fun _ _ h => h, fun _ _ h => h, fun _ u h _ => ⟨u, h, .inl rfl, fun _ => rfl⟩, fun _ h h' => absurd h h'⟩
theorem Ext.kp (e : Ext z ρ H ρ' H') {a : Addr} {u : HO} (h : H a = some u) (n : a ∉ ρ) (hu : ∀ kvs, u ≠ .dK kvs) : H' a = some u := by
  obtain ⟨w, h1, h2, _⟩ := e.kq a u h n
  rcases h2 with rfl | ⟨kvs, o, q, _⟩
  · exact h1
  · exact absurd q (hu kvs)
theorem Ext.kv (e : Ext z ρ H ρ' H') {a : Addr} {u : HO} (h : H a = some u) (n : a ∉ ρ) (hv : z.av a) : H' a = some u := by
  obtain ⟨w, h1, _, h2⟩ := e.kq a u h n
  rw [← h2 hv]
  exact h1
theorem Ext.out (e : Ext z ρ H ρ' H') {a : Addr} {u : HO} (h : H a = some u) (n : a ∉ ρ) : a ∉ ρ' := fun q => by
  rw [e.nw a q n] at h
  cases h
theorem Ext.trans (a : Ext z ρ H ρ' H') (b : Ext z ρ' H' ρ'' H'') : Ext z ρ H ρ'' H'' := ⟨fun n x h => b.pl n x (a.pl n x h), fun x xs h => b.tp x xs (a.tp x xs h), fun x u h n => by
  obtain ⟨w, h1, h2, k1⟩ := a.kq x u h n
  obtain ⟨y, h3, h4, k2⟩ := b.kq x w h1 (a.out h n)
  exact ⟨y, h3, h2.trans h4, fun v => (k2 v).trans (k1 v)⟩, fun x h n => by
  by_cases h' : x ∈ ρ'
  · exact a.nw x h' n
  · have := b.nw x h h'
    cases q : H x with
    | none => rfl
    | some u =>
      obtain ⟨w, h1, _⟩ := a.kq x u q n
      rw [h1] at this
      cases this⟩
/-- a relation that carries values: from (z, ρ, H) to (z', ρ', H') for data whose places fulfil P -/
structure Car (z : Zc) (ρ : List Addr) (H : Hp) (z' : Zc) (ρ' : List Addr) (H' : Hp) (P : Nat → Prop) : Prop where
  cm : z'.cm = z.cm
  kk : z'.K = z.K
  lc : ∀ (n : Nat) a, P n → ρ[n]? = some a → ρ'[n]? = some a
  tp : ∀ a xs, SqT z.K H a xs → SqT z'.K H' a xs
  kq : ∀ a u, H a = some u → Out z ρ a → ∃ w, H' a = some w ∧ Up u w ∧ Out z' ρ' a
theorem Car.kp {P : Nat → Prop} (e : Car z ρ H z' ρ' H' P) {a : Addr} {u : HO} (h : H a = some u) (n : Out z ρ a) (hu : ∀ kvs, u ≠ .dK kvs) : H' a = some u ∧ Out z' ρ' a := by
  obtain ⟨w, h1, h2, h3⟩ := e.kq a u h n
  rcases h2 with rfl | ⟨kvs, o, q, _⟩
  · exact ⟨h1, h3⟩
  · exact absurd q (hu kvs)
theorem Car.fz {P : Nat → Prop} (e : Car z ρ H z' ρ' H' P) {a : Addr} {xs : List V} (h : FzL z ρ H a xs) : FzL z' ρ' H' a xs := by
  rcases h with ⟨h, n⟩ | h
  · rcases h with h | ⟨o, h⟩
    · obtain ⟨k1, k2⟩ := e.kp h n (fun _ q => nomatch q)
      exact .inl ⟨.inl k1, k2⟩
    · obtain ⟨k1, k2⟩ := e.kp h n (fun _ q => nomatch q)
      exact .inl ⟨.inr ⟨o, k1⟩, k2⟩
  · exact .inr (by rw [e.kk]; exact h)
theorem Car.ft {P : Nat → Prop} (e : Car z ρ H z' ρ' H' P) {a : Addr} {xs : List V} (h : FzT z ρ H a xs) : FzT z' ρ' H' a xs := by
  obtain ⟨o, h1, h2, h3⟩ := h
  obtain ⟨k1, k2⟩ := e.kp h1 h3 (fun _ q => nomatch q)
  exact ⟨o, k1, h2, k2⟩
theorem Car.fp {P : Nat → Prop} (e : Car z ρ H z' ρ' H' P) {a : Addr} {xs : List V} (h : FzP z ρ H a xs) : FzP z' ρ' H' a xs := e.kp h.1 h.2 (fun _ q => nomatch q)
theorem Car.fd {P : Nat → Prop} (e : Car z ρ H z' ρ' H' P) {a : Addr} {ys : List (Key × V)} (h : FzD z ρ H a ys) : FzD z' ρ' H' a ys := by
  obtain ⟨h, n⟩ := h
  rcases h with h | ⟨o, h⟩
  · obtain ⟨w, h1, h2, h3⟩ := e.kq a _ h n
    rcases h2 with rfl | ⟨kvs, o, q, rfl⟩
    · exact ⟨.inl h1, h3⟩
    · cases q
      exact ⟨.inr ⟨o, h1⟩, h3⟩
  · obtain ⟨k1, k2⟩ := e.kp h n (fun _ q => nomatch q)
    exact ⟨.inr ⟨o, k1⟩, k2⟩
theorem Car.fo {P : Nat → Prop} (e : Car z ρ H z' ρ' H' P) {a C dx : Addr} {ys : List (Str × V)} (h : FzI z ρ H a C dx ys) : FzI z' ρ' H' a C dx ys := by
  obtain ⟨h1, h2, h3, h4⟩ := h
  obtain ⟨k1, k2⟩ := e.kp h1 h3 (fun _ q => nomatch q)
  obtain ⟨k3, k4⟩ := e.kp h2 h4 (fun _ q => nomatch q)
  exact ⟨k1, k3, k2, k4⟩
theorem Ext.car (e : Ext z ρ H ρ' H') : Car z ρ H z ρ' H' (fun _ => True) := ⟨rfl, rfl, fun n a _ h => e.pl n a h, e.tp, fun a u h n => by
  obtain ⟨w, h1, h2, _⟩ := e.kq a u h n.1
  exact ⟨w, h1, h2, e.out h n.1, n.2⟩⟩
theorem Ext.fzp (e : Ext z ρ H ρ' H') {a : Addr} {xs : List V} (h : FzP z ρ H a xs) : FzP z ρ' H' a xs := e.car.fp h
theorem Ext.fzt (e : Ext z ρ H ρ' H') {a : Addr} {xs : List V} (h : FzT z ρ H a xs) : FzT z ρ' H' a xs := e.car.ft h
theorem Ext.fz (e : Ext z ρ H ρ' H') {a : Addr} {xs : List V} (h : FzL z ρ H a xs) : FzL z ρ' H' a xs := e.car.fz h
theorem Ext.fzd (e : Ext z ρ H ρ' H') {a : Addr} {ys : List (Key × V)} (h : FzD z ρ H a ys) : FzD z ρ' H' a ys := e.car.fd h
theorem Ext.fzi (e : Ext z ρ H ρ' H') {a C dx : Addr} {ys : List (Str × V)} (h : FzI z ρ H a C dx ys) : FzI z ρ' H' a C dx ys := e.car.fo h
theorem Car.trans {z'' : Zc} {P : Nat → Prop} (a : Car z ρ H z' ρ' H' P) (b : Car z' ρ' H' z'' ρ'' H'' P) : Car z ρ H z'' ρ'' H'' P := ⟨b.cm.trans a.cm, b.kk.trans a.kk, fun n x p h => b.lc n x p (a.lc n x p h), fun x xs h => b.tp x xs (a.tp x xs h), fun x u h n => by
  obtain ⟨w, h1, h2, h3⟩ := a.kq x u h n
  obtain ⟨y, k1, k2, k3⟩ := b.kq x w h1 h3
  exact ⟨y, k1, h2.trans k2, k3⟩⟩
mutual
/-- the places that are told fulfil P -/
def Low (P : Nat → Prop) : D → Prop
  | .loc k => P k
  | .tup l => Lows P l
  | .fl l => Lows P l
  | .sc l => Lows P l
  | .tuf l => Lows P l
  | .fd _ l => Lows P l
  | .fo _ _ l => Lows P l
  | .non => True
  | .bl _ => True
  | .int _ => True
  | .str _ => True
  | .ty _ => True
def Lows (P : Nat → Prop) : List D → Prop
  | [] => True
  | d :: l => Low P d ∧ Lows P l
end
mutual
theorem RV.car {P : Nat → Prop} (e : Car z ρ H z' ρ' H' P) : ∀ {d : D} {v : V}, Low P d → RV z ρ H d v → RV z' ρ' H' d v
  | .non, v, _, h => by unfold RV at h ⊢; exact h
  | .bl b, v, _, h => by unfold RV at h ⊢; exact h
  | .int b, v, _, h => by unfold RV at h ⊢; exact h
  | .str b, v, _, h => by unfold RV at h ⊢; exact h
  | .ty b, v, _, h => by unfold RV at h ⊢; exact h
  | .tup l, v, p, h => by
    unfold RV at h ⊢
    unfold Low at p
    obtain ⟨a, xs, rfl, q, t⟩ := h
    exact ⟨a, xs, rfl, e.tp a xs q, RVs.car e p t⟩
  | .loc n, v, p, h => by
    unfold RV at h ⊢
    unfold Low at p
    obtain ⟨a, q, rfl⟩ := h
    exact ⟨a, e.lc n a p q, rfl⟩
  | .fl l, v, p, h => by
    unfold RV at h ⊢
    unfold Low at p
    obtain ⟨a, xs, rfl, q, t⟩ := h
    exact ⟨a, xs, rfl, e.fp q, RVs.car e p t⟩
  | .tuf l, v, p, h => by
    unfold RV at h ⊢
    unfold Low at p
    obtain ⟨a, xs, rfl, q, t⟩ := h
    exact ⟨a, xs, rfl, e.ft q, RVs.car e p t⟩
  | .sc l, v, p, h => by
    unfold RV at h ⊢
    unfold Low at p
    obtain ⟨a, xs, rfl, q, t⟩ := h
    exact ⟨a, xs, rfl, e.fz q, RVs.car e p t⟩
  | .fd ks l, v, p, h => by
    unfold RV at h ⊢
    unfold Low at p
    obtain ⟨a, xs, rfl, q, k, t⟩ := h
    exact ⟨a, xs, rfl, e.fd q, k, RVs.car e p t⟩
  | .fo c ks l, v, p, h => by
    unfold RV at h ⊢
    unfold Low at p
    obtain ⟨a, C, dx, ys, rfl, c, q, k, t⟩ := h
    exact ⟨a, C, dx, ys, rfl, by rw [e.cm]; exact c, e.fo q, k, RVs.car e p t⟩
theorem RVs.car {P : Nat → Prop} (e : Car z ρ H z' ρ' H' P) : ∀ {l : List D} {xs : List V}, Lows P l → RVs z ρ H l xs → RVs z' ρ' H' l xs
  | [], xs, _, h => by unfold RVs at h ⊢; exact h
  | d :: l, xs, p, h => by
    unfold RVs at h ⊢
    unfold Lows at p
    obtain ⟨x, r, rfl, q, t⟩ := h
    exact ⟨x, r, rfl, RV.car e p.1 q, RVs.car e p.2 t⟩
end
mutual
theorem low_T : ∀ d : D, Low (fun _ => True) d
  | .loc k => by unfold Low; trivial
  | .tup l => by unfold Low; exact lows_T l
  | .fl l => by unfold Low; exact lows_T l
  | .sc l => by unfold Low; exact lows_T l
  | .tuf l => by unfold Low; exact lows_T l
  | .fd _ l => by unfold Low; exact lows_T l
  | .fo _ _ l => by unfold Low; exact lows_T l
  | .non => by unfold Low; trivial
  | .bl _ => by unfold Low; trivial
  | .int _ => by unfold Low; trivial
  | .str _ => by unfold Low; trivial
  | .ty _ => by unfold Low; trivial
theorem lows_T : ∀ l : List D, Lows (fun _ => True) l
  | [] => by unfold Lows; trivial
  | d :: l => by unfold Lows; exact ⟨low_T d, lows_T l⟩
end
theorem RV.ext (e : Ext z ρ H ρ' H') {d : D} {v : V} (h : RV z ρ H d v) : RV z ρ' H' d v := h.car e.car (low_T d)
theorem RVs.ext (e : Ext z ρ H ρ' H') {l : List D} {xs : List V} (h : RVs z ρ H l xs) : RVs z ρ' H' l xs := h.car e.car (lows_T l)
end
/-- an object of the store and what stands at its address -/
def RO (z : Zc) (ρ : List Addr) (H : Hp) : O → Addr → Prop
  | .lst l, a => ∃ xs, H a = some (.lst xs) ∧ RVs z ρ H l xs
  | .dic kvs, a => ∃ ys : List (Key × V), H a = some (.dK ys) ∧ ys.map (·.1) = kvs.map (·.1) ∧ RVs z ρ H (kvs.map (·.2)) (ys.map (·.2))
  | .ins c fs, a => ∃ (C dx : Addr) (ys : List (Str × V)), z.cm c = some C ∧ H a = some (.ins C dx ys) ∧ H dx = some (.own a) ∧ ¬ z.av dx ∧ ys.map (·.1) = fs.map (·.1) ∧ RVs z ρ H (fs.map (·.2)) (ys.map (·.2))
structure RS (z : Zc) (ρ : List Addr) (st : S) (H : Hp) : Prop where
  len : ρ.length = st.length
  inj : ∀ (i j : Nat) a, ρ[i]? = some a → ρ[j]? = some a → i = j
  obj : ∀ (n : Nat) o a, st[n]? = some o → ρ[n]? = some a → RO z ρ H o a
  avo : ∀ a ∈ ρ, ¬ z.av a
  avh : ∀ a, z.av a → ∃ u, H a = some u
section
variable {z : Zc} {ρ ρ' : List Addr} {st : S} {H H' : Hp} {o : O} {a p : Addr} {n : Nat} {u w : HO} {l : List D} {xs : List V}
theorem RO.some (h : RO z ρ H o a) : ∃ u, H a = Option.some u ∧ (∀ ys, u ≠ .tup ys) ∧ (∀ q ys, u ≠ .frz q ys) ∧ ∀ x, u ≠ .own x := by
  cases o with
  | lst l => obtain ⟨_, e, _⟩ := h; exact ⟨_, e, fun _ z => (nomatch z), fun _ _ z => (nomatch z), fun _ z => (nomatch z)⟩
  | dic l => obtain ⟨_, e, _⟩ := h; exact ⟨_, e, fun _ z => (nomatch z), fun _ _ z => (nomatch z), fun _ z => (nomatch z)⟩
  | ins c f => obtain ⟨_, _, _, _, e, _⟩ := h; exact ⟨_, e, fun _ z => (nomatch z), fun _ _ z => (nomatch z), fun _ z => (nomatch z)⟩
theorem RO.ext (h : RO z ρ H o a) (e : Ext z ρ H ρ' H') (ea : H' a = H a) (eo : ∀ dx, H dx = Option.some (.own a) → H' dx = Option.some (.own a)) : RO z ρ' H' o a := by
  cases o with
  | lst l => obtain ⟨xs, q, r⟩ := h; exact ⟨xs, ea.trans q, r.ext e⟩
  | dic l => obtain ⟨xs, q, k, r⟩ := h; exact ⟨xs, ea.trans q, k, r.ext e⟩
  | ins c f => obtain ⟨C, dx, ys, c1, q, d, na, k, r⟩ := h; exact ⟨C, dx, ys, c1, ea.trans q, eo dx d, na, k, r.ext e⟩
theorem RS.addr (h : RS z ρ st H) (e : st[n]? = some o) : ∃ a, ρ[n]? = some a := by
  have hn := (List.getElem?_eq_some_iff.mp e).1
  exact ⟨ρ[n]'(by rw [h.len]; exact hn), List.getElem?_eq_getElem _⟩
theorem RS.has (h : RS z ρ st H) (e : ρ[n]? = some a) : ∃ o, st[n]? = some o := by
  have hn := (List.getElem?_eq_some_iff.mp e).1
  exact ⟨st[n]'(by rw [← h.len]; exact hn), List.getElem?_eq_getElem _⟩
theorem RS.mem (h : RS z ρ st H) (e : a ∈ ρ) : ∃ u, H a = some u ∧ (∀ ys, u ≠ .tup ys) ∧ (∀ q ys, u ≠ .frz q ys) ∧ ∀ x, u ≠ .own x := by
  obtain ⟨i, hi, e⟩ := List.getElem_of_mem e
  have e' : ρ[i]? = some a := by rw [List.getElem?_eq_getElem hi, e]
  obtain ⟨o, ho⟩ := h.has e'
  exact (h.obj i o a ho e').some
theorem RS.free (h : RS z ρ st H) (hp : H p = none) : p ∉ ρ := fun q => by
  obtain ⟨u, e, _⟩ := h.mem q
  rw [hp] at e
  cases e
theorem RS.nav (h : RS z ρ st H) (hp : H p = none) : ¬ z.av p := fun q => by
  obtain ⟨u, e⟩ := h.avh p q
  rw [hp] at e
  cases e
theorem RS.nfree (h : RS z ρ st H) (e : ρ[n]? = some a) (hp : H p = none) : a ≠ p := fun q => h.free hp (by rw [← q]; exact List.mem_of_getElem? e)
/-- new objects that the store does not tell -/
theorem Ext.new (hp : H p = none) : Ext z ρ H ρ (upd H p u) := ⟨fun _ _ h => h, fun a xs h => sqt_new hp h, fun a w h _ => ⟨w, by rw [upd_ne (ne_of_none h hp)]; exact h, .inl rfl, fun _ => rfl⟩, fun _ h h' => absurd h h'⟩
theorem RS.tup (h : RS z ρ st H) (hp : H p = none) : RS z ρ st (upd H p u) :=
  ⟨h.len, h.inj, fun n o a e1 e2 => (h.obj n o a e1 e2).ext (Ext.new hp) (upd_ne (h.nfree e2 hp)) fun dx q => by rw [upd_ne (ne_of_none q hp)]; exact q, h.avo, fun a q => by
    obtain ⟨w, e⟩ := h.avh a q
    exact ⟨w, by rw [upd_ne (ne_of_none e hp)]; exact e⟩⟩
theorem get_snoc {α : Type} {l : List α} {x y : α} {n : Nat} (h : (l ++ [x])[n]? = some y) : l[n]? = some y ∨ (n = l.length ∧ y = x) := by
  by_cases hn : n < l.length
  · rw [List.getElem?_append_left hn] at h
    exact .inl h
  · rw [List.getElem?_append_right (by omega)] at h
    have : n - l.length = 0 := by
      have := (List.getElem?_eq_some_iff.mp h).1
      simp at this
      omega
    rw [this] at h
    exact .inr ⟨by omega, by simpa using h.symm⟩
/-- a new object of the store -/
theorem Ext.alloc (hp : H p = none) : Ext z ρ H (ρ ++ [p]) (upd H p u) := ⟨fun n a h => by rw [List.getElem?_append_left (List.getElem?_eq_some_iff.mp h).1]; exact h, fun a xs h => sqt_new hp h, fun a w h _ => ⟨w, by rw [upd_ne (ne_of_none h hp)]; exact h, .inl rfl, fun _ => rfl⟩, fun a h h' => by
  rcases List.mem_append.mp h with h | h
  · exact absurd h h'
  · rw [List.mem_singleton.mp h]
    exact hp⟩
theorem RS.alloc (h : RS z ρ st H) (hp : H p = none) (q : RO z (ρ ++ [p]) (upd H p u) o p) : RS z (ρ ++ [p]) (st ++ [o]) (upd H p u) := by
  have e : Ext z ρ H (ρ ++ [p]) (upd H p u) := Ext.alloc hp
  refine ⟨by simp [h.len], fun i j a h1 h2 => ?_, fun n o' a e1 e2 => ?_, fun a q => ?_, fun a q => ?_⟩
  · rcases get_snoc h1 with k1 | ⟨k1, k1'⟩ <;> rcases get_snoc h2 with k2 | ⟨k2, k2'⟩
    · exact h.inj i j a k1 k2
    · exact absurd k2' (h.nfree k1 hp)
    · exact absurd k1' (h.nfree k2 hp)
    · rw [k1, k2]
  · rcases get_snoc e1 with e1 | ⟨e1, e1'⟩ <;> rcases get_snoc e2 with e2 | ⟨e2, e2'⟩
    · exact (h.obj n o' a e1 e2).ext e (upd_ne (h.nfree e2 hp)) fun dx q => by rw [upd_ne (ne_of_none q hp)]; exact q
    · have := (List.getElem?_eq_some_iff.mp e1).1
      have := h.len
      omega
    · have := (List.getElem?_eq_some_iff.mp e2).1
      have := h.len
      omega
    · subst e1' e2'
      exact q
  · rcases List.mem_append.mp q with q | q
    · exact h.avo a q
    · rw [List.mem_singleton.mp q]
      exact h.nav hp
  · obtain ⟨w, e⟩ := h.avh a q
    exact ⟨w, by rw [upd_ne (ne_of_none e hp)]; exact e⟩
theorem RS.new_lst (h : RS z ρ st H) (hp : H p = none) (r : RVs z ρ H l xs) : RS z (ρ ++ [p]) (st ++ [.lst l]) (upd H p (.lst xs)) := h.alloc hp ⟨xs, upd_same, r.ext (Ext.alloc hp)⟩
theorem last_snoc : (ρ ++ [p])[st.length]? = some p ↔ ρ.length = st.length ∨ (ρ ++ [p])[st.length]? = some p := by
  constructor
  · exact .inr
  · rintro (h | h)
    · rw [← h, List.getElem?_append_right (Nat.le_refl _)]
      simp
    · exact h
theorem RS.last (h : RS z ρ st H) : (ρ ++ [p])[st.length]? = some p := last_snoc.mpr (.inl h.len)
/-- an object that changes -/
theorem Ext.put (hm : a ∈ ρ) (he : H a = some w) (hw : (∀ ys, w ≠ .tup ys) ∧ ∀ q ys, w ≠ .frz q ys) : Ext z ρ H ρ (upd H a u) := by
  refine ⟨fun _ _ h => h, fun b xs h => ?_, fun b x h n => ⟨x, by rw [upd_ne (fun zz => n (by rw [zz]; exact hm))]; exact h, .inl rfl, fun _ => rfl⟩, fun _ h h' => absurd h h'⟩
  rcases h with h | h
  · refine .inl ?_
    have hne : b ≠ a := fun zz => by
      subst zz
      rcases h with h | ⟨q, h⟩
      · rw [he] at h
        exact hw.1 xs (Option.some.inj h)
      · rw [he] at h
        exact hw.2 q _ (Option.some.inj h)
    rcases h with h | ⟨q, h⟩
    · exact .inl (by rw [upd_ne hne]; exact h)
    · exact .inr ⟨q, by rw [upd_ne hne]; exact h⟩
  · exact .inr h
theorem RS.put (h : RS z ρ st H) (e1 : ρ[n]? = some a) (hn : n < st.length) (hne : ∀ (dx : Addr) (m : Nat) (b : Addr), ρ[m]? = some b → H dx = some (.own b) → dx ≠ a) (e : Ext z ρ H ρ (upd H a u)) (q : RO z ρ (upd H a u) o a) : RS z ρ (st.set n o) (upd H a u) := by
  refine ⟨by simp [h.len], h.inj, fun m o' b f1 f2 => ?_, h.avo, fun b q => ?_⟩
  · by_cases hm : n = m
    · subst hm
      rw [List.getElem?_set_self hn] at f1
      cases f1
      rw [e1] at f2
      cases f2
      exact q
    · rw [List.getElem?_set_ne hm] at f1
      have hb : b ≠ a := fun zz => by
        subst zz
        exact hm (h.inj n m b e1 f2)
      exact (h.obj m o' b f1 f2).ext e (upd_ne hb) fun dx q => by rw [upd_ne (hne dx m b f2 q)]; exact q
  · by_cases hb : b = a
    · exact ⟨u, by rw [hb, upd_same]⟩
    · rw [upd_ne hb]
      exact h.avh b q
theorem RS.put_lst {l' : List D} {xs' : List V} (h : RS z ρ st H) (e0 : st[n]? = some (.lst l)) (e1 : ρ[n]? = some a) (he : H a = some (.lst xs)) (r : RVs z ρ H l' xs') :
    Ext z ρ H ρ (upd H a (.lst xs')) ∧ RS z ρ (st.set n (.lst l')) (upd H a (.lst xs')) := by
  have e : Ext z ρ H ρ (upd H a (.lst xs')) := Ext.put (List.mem_of_getElem? e1) he ⟨fun _ z => (nomatch z), fun _ _ z => (nomatch z)⟩
  exact ⟨e, h.put e1 (List.getElem?_eq_some_iff.mp e0).1 (fun dx m b _ q zz => by rw [zz, he] at q; cases q) e ⟨xs', upd_same, r.ext e⟩⟩
theorem RS.put_dic {l l' : List (Key × D)} {xs xs' : List (Key × V)} (h : RS z ρ st H) (e0 : st[n]? = some (.dic l)) (e1 : ρ[n]? = some a) (he : H a = some (.dK xs)) (k : xs'.map (·.1) = l'.map (·.1)) (r : RVs z ρ H (l'.map (·.2)) (xs'.map (·.2))) :
    Ext z ρ H ρ (upd H a (.dK xs')) ∧ RS z ρ (st.set n (.dic l')) (upd H a (.dK xs')) := by
  have e : Ext z ρ H ρ (upd H a (.dK xs')) := Ext.put (List.mem_of_getElem? e1) he ⟨fun _ z => (nomatch z), fun _ _ z => (nomatch z)⟩
  exact ⟨e, h.put e1 (List.getElem?_eq_some_iff.mp e0).1 (fun dx m b _ q zz => by rw [zz, he] at q; cases q) e ⟨xs', upd_same, k, r.ext e⟩⟩
theorem RS.put_ins {c : String} {fs fs' : List (Str × D)} {C dx : Addr} {ys ys' : List (Str × V)} (h : RS z ρ st H) (e0 : st[n]? = some (.ins c fs)) (e1 : ρ[n]? = some a) (hc : z.cm c = some C) (he : H a = some (.ins C dx ys)) (ho : H dx = some (.own a)) (na : ¬ z.av dx) (k : ys'.map (·.1) = fs'.map (·.1)) (r : RVs z ρ H (fs'.map (·.2)) (ys'.map (·.2))) :
    Ext z ρ H ρ (upd H a (.ins C dx ys')) ∧ RS z ρ (st.set n (.ins c fs')) (upd H a (.ins C dx ys')) := by
  have e : Ext z ρ H ρ (upd H a (.ins C dx ys')) := Ext.put (List.mem_of_getElem? e1) he ⟨fun _ z => (nomatch z), fun _ _ z => (nomatch z)⟩
  have ne : dx ≠ a := fun zz => by rw [zz, he] at ho; cases ho
  exact ⟨e, h.put e1 (List.getElem?_eq_some_iff.mp e0).1 (fun dx m b _ q zz => by rw [zz, he] at q; cases q) e ⟨C, dx, ys', hc, upd_same, by rw [upd_ne ne]; exact ho, na, k, r.ext e⟩⟩
/-- the list at n -/
theorem RS.lst (h : RS z ρ st H) (e0 : st[n]? = some (.lst l)) (e1 : ρ[n]? = some a) : ∃ xs, H a = some (.lst xs) ∧ RVs z ρ H l xs := h.obj n _ a e0 e1
/-- what may be read as a list -/
def rdL (st : S) (n : Nat) : Option (List D) := match st[n]? with
  | some (.lst l) => some l
  | _ => none
theorem RS.rdL (h : RS z ρ st H) (e0 : rdL st n = some l) (e1 : ρ[n]? = some a) : ∃ xs, SqL z.K H a xs ∧ RVs z ρ H l xs := by
  unfold Nn.rdL at e0
  split at e0
  · rename_i l' e
    cases e0
    obtain ⟨xs, h1, h2⟩ := h.obj n _ a e e1
    exact ⟨xs, SqL.of h1, h2⟩
  · cases e0
end
end Nn

namespace Nn
open PySem PySem.Spec PyProof.Rows L2 Lb
/-- how a piece ends: an end, an error (its class, its fields), or «nothing is said» -/
inductive R (α : Type) where
  | ok (a : α) (st : S) | ex (c : String) (fs : List (Str × D)) (st : S) | bad
inductive Rt where
  | nx (env : Ev) (st : S) | rt (d : D) (st : S) | bk (env : Ev) (st : S) | ct (env : Ev) (st : S) | ex (c : String) (fs : List (Str × D)) (env : Ev) (st : S) | bad
@[inline] def R.bind {α β : Type} (r : R α) (k : α → S → R β) : R β := match r with
  | .ok a st => k a st
  | .ex c fs st => .ex c fs st
  | .bad => .bad
@[inline] def R.bindS {α : Type} (r : R α) (env : Ev) (k : α → S → Rt) : Rt := match r with
  | .ok a st => k a st
  | .ex c fs st => .ex c fs env st
  | .bad => .bad
@[inline] def Rt.bindN (r : Rt) (k : Ev → S → Rt) : Rt := match r with
  | .nx env st => k env st
  | r => r
abbrev ME := Ev → S → R D
abbrev MT := Ev → S → R Bool
abbrev MA := Ev → S → R (List D)
abbrev MO := Ev → S → R (Option Int)
abbrev MS := Ev → S → Rt
abbrev MG := D → Ev → S → R Ev
/-- what is wanted of an error -/
abbrev XW := String → List (Str × D) → S → List Addr → Hp → Prop
abbrev WM := Ev → L2.St → XW

section
variable (z : Zc)
/-- the error that is handled -/
def RX (ρ : List Addr) (H : Hp) (j : Nat) (c : String) (fs : List (Str × D)) (σ : L2.St) : Prop := ∃ (a C : Addr) (dx : Option Addr), z.exa = some (a, .ref C, dx) ∧ z.cm c = some C ∧ σ[j]? = some (some (.ref a)) ∧
  match dx with
  | none => fs = []
  | some d => ∃ ys : List (Str × V), H d = some (.xd ys) ∧ d ∉ ρ ∧ ys.map (·.1) = fs.map (·.1) ∧ RVs z ρ H (fs.map (·.2)) (ys.map (·.2))
def RE (ρ : List Addr) (H : Hp) (env : Ev) (σ : L2.St) : Prop := env.sl.length = σ.length ∧ (∀ (i : Nat) d, env.sl[i]? = some (some d) → ∃ v, σ[i]? = some (some v) ∧ RV z ρ H d v) ∧ ∀ j c fs, env.x = some (j, c, fs) → RX z ρ H j c fs σ
/-- the end of a piece whose data are b -/
def Post {α β : Type} (rel : List Addr → Hp → α → β → Prop) (ρ : List Addr) (H : Hp) (r : R α) (Q : β → Hp → Prop) (W : XW) : Prop := match r with
  | .ok a st' => ∀ ρ' H' b, Ext z ρ H ρ' H' → RS z ρ' st' H' → rel ρ' H' a b → Q b H'
  | .ex c fs st' => ∀ ρ' H', Ext z ρ H ρ' H' → RS z ρ' st' H' → W c fs st' ρ' H'
  | .bad => False
def PostS (ρ : List Addr) (H : Hp) (r : Rt) (D : Ends) (W : WM) : Prop := match r with
  | .nx env st' => ∀ ρ' H' σ', Ext z ρ H ρ' H' → RS z ρ' st' H' → RE z ρ' H' env σ' → D.nx σ' H'
  | .rt d st' => ∀ ρ' H' v, Ext z ρ H ρ' H' → RS z ρ' st' H' → RV z ρ' H' d v → D.rt v H'
  | .bk env st' => ∀ ρ' H' σ', Ext z ρ H ρ' H' → RS z ρ' st' H' → RE z ρ' H' env σ' → D.bk σ' H'
  | .ct env st' => ∀ ρ' H' σ', Ext z ρ H ρ' H' → RS z ρ' st' H' → RE z ρ' H' env σ' → D.ct σ' H'
  | .ex c fs env st' => ∀ ρ' H' σ', Ext z ρ H ρ' H' → RS z ρ' st' H' → RE z ρ' H' env σ' → W env σ' c fs st' ρ' H'
  | .bad => False
def eqB : List Addr → Hp → Bool → Bool → Prop := fun _ _ a b => a = b
def eqO : List Addr → Hp → Option Int → Option Int → Prop := fun _ _ a b => a = b
/-- the readings of the mirror's pieces -/
def tE (W : WM) (m : ME) : TE := fun σ H Q => ∃ ρ st env, RS z ρ st H ∧ RE z ρ H env σ ∧ Post z (RV z) ρ H (m env st) Q (W env σ)
def tT (W : WM) (m : MT) : TT := fun σ H Q => ∃ ρ st env, RS z ρ st H ∧ RE z ρ H env σ ∧ Post z eqB ρ H (m env st) Q (W env σ)
def tA (W : WM) (m : MA) : TA := fun σ H Q => ∃ ρ st env, RS z ρ st H ∧ RE z ρ H env σ ∧ Post z (RVs z) ρ H (m env st) Q (W env σ)
def tO (W : WM) (m : MO) : TO := fun σ H Q => ∃ ρ st env, RS z ρ st H ∧ RE z ρ H env σ ∧ Post z eqO ρ H (m env st) Q (W env σ)
def tS (W : WM) (m : MS) : TS := fun D σ H => ∃ ρ st env, RS z ρ st H ∧ RE z ρ H env σ ∧ PostS z ρ H (m env st) D W
def tG (m : MG) : TG := fun v σ H Q => ∃ ρ st env d, RS z ρ st H ∧ RE z ρ H env σ ∧ RV z ρ H d v ∧ Post z (RE z) ρ H (m d env st) Q (fun _ _ _ _ _ => False)
end
section
variable {z : Zc} {ρ ρ' : List Addr} {st : S} {H H' : Hp} {env : Ev} {σ : L2.St} {W : WM} {Q : VK} {xw : XW}
theorem RX.ext {j : Nat} {c : String} {fs : List (Str × D)} (h : RX z ρ H j c fs σ) (e : Ext z ρ H ρ' H') : RX z ρ' H' j c fs σ := by
  obtain ⟨a, C, dx, h1, h2, h3, h4⟩ := h
  refine ⟨a, C, dx, h1, h2, h3, ?_⟩
  cases dx with
  | none => exact h4
  | some d =>
    obtain ⟨ys, k1, k2, k3, k4⟩ := h4
    exact ⟨ys, e.kp k1 k2 (fun _ q => nomatch q), e.out k1 k2, k3, k4.ext e⟩
theorem RE.ext (h : RE z ρ H env σ) (e : Ext z ρ H ρ' H') : RE z ρ' H' env σ := ⟨h.1, fun i d q => by
  obtain ⟨v, h1, h2⟩ := h.2.1 i d q
  exact ⟨v, h1, h2.ext e⟩, fun j c fs q => (h.2.2 j c fs q).ext e⟩
/-- the slot i gets o -/
def Ev.put (env : Ev) (i : Nat) (o : Option D) : Ev := ⟨env.sl.set i o, match env.x with
  | some (j, t) => if j = i then none else some (j, t)
  | none => none⟩
theorem RX.set {j i : Nat} {c : String} {fs : List (Str × D)} {o : Option V} (h : RX z ρ H j c fs σ) (hj : j ≠ i) : RX z ρ H j c fs (σ.set i o) := by
  obtain ⟨a, C, dx, h1, h2, h3, h4⟩ := h
  exact ⟨a, C, dx, h1, h2, by rw [List.getElem?_set_ne (Ne.symm hj)]; exact h3, h4⟩
theorem put_x {i j : Nat} {t : String × List (Str × D)} {o : Option D} (h : (env.put i o).x = some (j, t)) : env.x = some (j, t) ∧ j ≠ i := by
  unfold Ev.put at h
  dsimp only at h
  split at h
  · rename_i j' t' e
    split at h
    · cases h
    · rename_i hn
      cases h
      exact ⟨e, hn⟩
  · cases h
theorem RE.set (h : RE z ρ H env σ) {d : D} {v : V} (q : RV z ρ H d v) (i : Nat) : RE z ρ H (env.put i (some d)) (σ.set i (some v)) := by
  refine ⟨by simp [Ev.put, h.1], fun j d' e => ?_, fun j c fs e => ?_⟩
  · have e : (env.sl.set i (some d))[j]? = some (some d') := e
    by_cases hj : i = j
    · subst hj
      have hi : i < env.sl.length := by
        have := (List.getElem?_eq_some_iff.mp e).1
        simpa using this
      rw [List.getElem?_set_self hi] at e
      cases e
      exact ⟨v, by rw [List.getElem?_set_self (by rw [← h.1]; exact hi)], q⟩
    · rw [List.getElem?_set_ne hj] at e
      rw [List.getElem?_set_ne hj]
      exact h.2.1 j d' e
  · obtain ⟨e1, e2⟩ := put_x e
    exact (h.2.2 j c fs e1).set e2
section
variable {α β : Type} {rel : List Addr → Hp → α → β → Prop} {r : R α} {P : β → Hp → Prop}
theorem Post.mono (h : Post z rel ρ H r P xw) (e : Ext z ρ H ρ' H') : Post z rel ρ' H' r P xw := by
  cases r with
  | ok a s => exact fun ρ1 H1 b e1 => h ρ1 H1 b (e.trans e1)
  | ex c f s => exact fun ρ1 H1 e1 => h ρ1 H1 (e.trans e1)
  | bad => exact h
theorem PostS.mono {r : Rt} {D : Ends} (h : PostS z ρ H r D W) (e : Ext z ρ H ρ' H') : PostS z ρ' H' r D W := by
  cases r with
  | nx a s => exact fun ρ1 H1 b e1 => h ρ1 H1 b (e.trans e1)
  | rt a s => exact fun ρ1 H1 b e1 => h ρ1 H1 b (e.trans e1)
  | bk a s => exact fun ρ1 H1 b e1 => h ρ1 H1 b (e.trans e1)
  | ct a s => exact fun ρ1 H1 b e1 => h ρ1 H1 b (e.trans e1)
  | ex c f s => exact fun ρ1 H1 b e1 => h ρ1 H1 b (e.trans e1)
  | bad => exact h
theorem Post.bind {γ δ : Type} {rel2 : List Addr → Hp → γ → δ → Prop} {k : α → S → R γ} {Q : δ → Hp → Prop} (h : Post z rel2 ρ H (r.bind k) Q xw)
    (hk : ∀ a st1 ρ1 H1 b, Ext z ρ H ρ1 H1 → RS z ρ1 st1 H1 → rel ρ1 H1 a b → Post z rel2 ρ1 H1 (k a st1) Q xw → P b H1) : Post z rel ρ H r P xw := by
  cases r with
  | ok a s => exact fun ρ1 H1 b e rs rl => hk a s ρ1 H1 b e rs rl (h.mono e)
  | ex c f s => exact h
  | bad => exact h
theorem Post.bindS {k : α → S → Rt} {D : Ends} (h : PostS z ρ H (r.bindS env k) D W) (re : RE z ρ H env σ)
    (hk : ∀ a st1 ρ1 H1 b, Ext z ρ H ρ1 H1 → RS z ρ1 st1 H1 → rel ρ1 H1 a b → PostS z ρ1 H1 (k a st1) D W → P b H1) : Post z rel ρ H r P (W env σ) := by
  cases r with
  | ok a s => exact fun ρ1 H1 b e rs rl => hk a s ρ1 H1 b e rs rl (h.mono e)
  | ex c f s => exact fun ρ1 H1 e rs => h ρ1 H1 σ e rs (re.ext e)
  | bad => exact h
end
theorem Post.ok {α β : Type} {rel : List Addr → Hp → α → β → Prop} {P : β → Hp → Prop} {a : α} {b : β} (h : Post z rel ρ H (.ok a st) P xw) (rs : RS z ρ st H) (rl : rel ρ H a b) : P b H := h ρ H b Ext.refl rs rl
theorem Post.at {α β : Type} {rel : List Addr → Hp → α → β → Prop} {P : β → Hp → Prop} {a : α} {b : β} (h : Post z rel ρ H (.ok a st) P xw) (e : Ext z ρ H ρ' H') (rs : RS z ρ' st H') (rl : rel ρ' H' a b) : P b H' := h ρ' H' b e rs rl
end
/-! the judgements' readings may be weakened -/
section
variable {X : Cx}
theorem pe_imp {e : Expr} {t t' : TE} (h : PE X e t) (i : ∀ σ H Q, t' σ H Q → t σ H Q) : PE X e t' := ⟨fun pins s σ H Q I q => h.run pins s σ H Q I (i σ H Q q)⟩
theorem pt_imp {e : Expr} {t t' : TT} (h : PT X e t) (i : ∀ σ H Q, t' σ H Q → t σ H Q) : PT X e t' := ⟨fun pins s σ H Q I q => h.run pins s σ H Q I (i σ H Q q)⟩
theorem pw_imp {e : Expr} {t t' : TT} (h : PW X e t) (i : ∀ σ H Q, t' σ H Q → t σ H Q) : PW X e t' := ⟨fun wh pins s σ H Q I q => h.run wh pins s σ H Q I (i σ H Q q)⟩
theorem pa_imp {e : List Expr} {t t' : TA} (h : PA X e t) (i : ∀ σ H Q, t' σ H Q → t σ H Q) : PA X e t' := ⟨fun pos pins s σ H Q I q => h.run pos pins s σ H Q I (i σ H Q q)⟩
theorem ps_imp {e : Stmt} {t t' : TS} (h : PS X e t) (i : ∀ D σ H, t' D σ H → t D σ H) : PS X e t' := ⟨fun pins s σ H D I q => h.run pins s σ H D I (i D σ H q)⟩
theorem pss_imp {e : List Stmt} {t t' : TS} (h : PSs X e t) (i : ∀ D σ H, t' D σ H → t D σ H) : PSs X e t' := ⟨fun pins s σ H D I q => h.run pins s σ H D I (i D σ H q)⟩
theorem pg_imp {e : Expr} {t t' : TG} (h : PG X e t) (i : ∀ v σ H Q, t' v σ H Q → t v σ H Q) : PG X e t' := ⟨fun pins s σ H v u Q I r q => h.run pins s σ H v u Q I r (i v σ H Q q)⟩
end
section
variable {X : Cx} {z : Zc} {W : WM} {a b c : Expr} {ma mb mc : ME} {mt mu : MT} {pos : Pos}
/-! names and constants -/
def mVar (i : Nat) : ME := fun env st => match env.sl[i]? with
  | some (some d) => .ok d st
  | _ => .bad
def mC (d : D) : ME := fun _ st => .ok d st
theorem s_var {i : Nat} : ∀ σ H Q, tE z W (mVar i) σ H Q → tVar i σ H Q := by
  rintro σ H Q ⟨ρ, st, env, rs, re, h⟩
  unfold mVar at h
  split at h
  · rename_i d e
    obtain ⟨v, h1, h2⟩ := re.2.1 i d e
    exact ⟨v, h1, h.ok rs h2⟩
  · exact h.elim
theorem qv (i : Nat) {x : Str} {pos : Pos} (hN : X.N[i]? = some x := by rfl) (hv : Vis X.env.scope x := by first | exact .inl rfl | exact .inr (.inl rfl) | exact .inr (.inr rfl)) (hd : (x == ("__debug__" : Str)) = false := by decide) (hcd : (x == ("__classdict__" : Str)) = false := by decide) : PE X (.Name x pos) (tE z W (mVar i)) :=
  pe_imp (pe_var hN hv hd hcd) s_var
theorem s_c {d : D} {v : V} (hv : ∀ ρ H, RV z ρ H d v) : ∀ σ H Q, tE z W (mC d) σ H Q → tC v σ H Q := by
  rintro σ H Q ⟨ρ, st, env, rs, re, h⟩
  exact Post.ok (a := d) (st := st) h rs (hv _ _)
theorem rv_int {ρ H i} : RV z ρ H (.int i) (.int i) := by unfold RV; rfl
theorem rv_bl {ρ H i} : RV z ρ H (.bl i) (.bl i) := by unfold RV; rfl
theorem rv_str {ρ H i} : RV z ρ H (.str i) (.str i) := by unfold RV; rfl
theorem rv_ty {ρ H i} : RV z ρ H (.ty i) (.ty i) := by unfold RV; rfl
theorem rv_non {ρ H} : RV z ρ H .non .non := by unfold RV; rfl
theorem qint {i j pos} : PE X (.Constant (.int i) j pos) (tE z W (mC (.int i))) := pe_imp pe_int (s_c fun _ _ => rv_int)
theorem qbl {i j pos} : PE X (.Constant (.bool i) j pos) (tE z W (mC (.bl i))) := pe_imp pe_bl (s_c fun _ _ => rv_bl)
theorem qstr {i j pos} : PE X (.Constant (.str i) j pos) (tE z W (mC (.str i))) := pe_imp pe_str (s_c fun _ _ => rv_str)
theorem qnon {j pos} : PE X (.Constant .none j pos) (tE z W (mC .non)) := pe_imp pe_non (s_c fun _ _ => rv_non)
theorem q_globI {x : Str} {i : Int} {t : Tok} {pos : Pos} (hg : Gl X x) (hm : X.mg x = some (.int i t)) (hd : (x == ("__debug__" : Str)) = false := by decide) : PE X (.Name x pos) (tE z W (mC (.int i))) := pe_imp (pe_glob (v := .int i) hg hm ⟨_, rfl⟩ hd) (s_c fun _ _ => rv_int)
theorem q_globS {x : Str} {i : Str} {t : Tok} {pos : Pos} (hg : Gl X x) (hm : X.mg x = some (.str i t)) (hd : (x == ("__debug__" : Str)) = false := by decide) : PE X (.Name x pos) (tE z W (mC (.str i))) := pe_imp (pe_glob (v := .str i) hg hm ⟨_, rfl⟩ hd) (s_c fun _ _ => rv_str)
theorem q_ty {x : Str} {n : String} {pos : Pos} (hg : Gl X x) (hm : X.mg x = none) (hv : bootBuiltins x = some (.type n)) (hn : x ≠ "__name__" := by decide) (hd : (x == ("__debug__" : Str)) = false := by decide) : PE X (.Name x pos) (tE z W (mC (.ty n))) := pe_imp (pe_bltn (v := .ty n) hg hm hv rfl hn hd) (s_c fun _ _ => rv_ty)
/-! operators by values -/
def m2 (f : D → D → S → R D) (ma mb : ME) : ME := fun env st => (ma env st).bind fun x s1 => (mb env s1).bind fun y s2 => f x y s2
def m1 (f : D → S → R D) (ma : ME) : ME := fun env st => (ma env st).bind fun x s1 => f x s1
def V2 (z : Zc) (r : R2) (f : D → D → S → R D) : Prop := ∀ ρ st H x y d1 d2 Q xw, RS z ρ st H → RV z ρ H d1 x → RV z ρ H d2 y → Post z (RV z) ρ H (f d1 d2 st) Q xw → r x y H Q
def V1 (z : Zc) (r : V → Hp → VK → Prop) (f : D → S → R D) : Prop := ∀ ρ st H x d1 Q xw, RS z ρ st H → RV z ρ H d1 x → Post z (RV z) ρ H (f d1 st) Q xw → r x H Q
def VA (z : Zc) (r : List V → Hp → VK → Prop) (f : List D → S → R D) : Prop := ∀ ρ st H xs ds Q xw, RS z ρ st H → RVs z ρ H ds xs → Post z (RV z) ρ H (f ds st) Q xw → r xs H Q
theorem s_op {r : R2} {f : D → D → S → R D} (hr : V2 z r f) : ∀ σ H Q, tE z W (m2 f ma mb) σ H Q → tOp r (tE z W ma) (tE z W mb) σ H Q := by
  rintro σ H Q ⟨ρ, st, env, rs, re, h⟩
  refine ⟨ρ, st, env, rs, re, h.bind fun d1 s1 ρ1 H1 x e1 rs1 rv1 h1 => ⟨ρ1, s1, env, rs1, re.ext e1, h1.bind fun d2 s2 ρ2 H2 y e2 rs2 rv2 h2 => ?_⟩⟩
  exact hr ρ2 s2 H2 x y d1 d2 Q _ rs2 (rv1.ext e2) rv2 h2
theorem s_un {r : V → Hp → VK → Prop} {f : D → S → R D} (hr : V1 z r f) : ∀ σ H Q, tE z W (m1 f ma) σ H Q → tUn r (tE z W ma) σ H Q := by
  rintro σ H Q ⟨ρ, st, env, rs, re, h⟩
  refine ⟨ρ, st, env, rs, re, h.bind fun d1 s1 ρ1 H1 x e1 rs1 rv1 h1 => ?_⟩
  exact hr ρ1 s1 H1 x d1 Q _ rs1 rv1 h1
theorem q_op {op : Operator} {r : R2} {f : D → D → S → R D} (ho : OpR X (binaryOp op) r) (hr : V2 z r f) (ha : PE X a (tE z W ma)) (hb : PE X b (tE z W mb)) : PE X (.BinOp a op b pos) (tE z W (m2 f ma mb)) := pe_imp (pe_op ho ha hb) (s_op hr)
theorem q_cmp {op : CmpOp} {r : R2} {f : D → D → S → R D} (ho : OpR X (compareOp op) r) (hr : V2 z r f) (ha : PE X a (tE z W ma)) (hb : PE X b (tE z W mb)) (hm : behindInMarks op b = false := by first | exact nobehind _ (by decide) (by decide) | rfl) : PE X (.Compare a [op] [b] pos) (tE z W (m2 f ma mb)) := pe_imp (pe_cmpR ho ha hb hm) (s_op hr)
/-! tests -/
/-- a value whose truth is asked -/
def mB (m : ME) : MT := fun env st => (m env st).bind fun d s1 => match d with
  | .bl b => .ok b s1
  | _ => .bad
theorem s_tB : ∀ σ H Q, tT z W (mB ma) σ H Q → tB (tE z W ma) σ H Q := by
  rintro σ H Q ⟨ρ, st, env, rs, re, h⟩
  refine ⟨ρ, st, env, rs, re, h.bind fun d s1 ρ1 H1 x e1 rs1 rv1 h1 => ?_⟩
  split at h1
  · rename_i b
    unfold RV at rv1
    exact ⟨b, rv1, h1.ok rs1 rfl⟩
  · exact h1.elim
theorem qt_val {e : Expr} (h : PE X e (tE z W ma)) (he : ∀ whole, isTrue e X.env whole = (do let v ← whole; standAt e.pos; holding [v] (truthy v)) := by intro _; rfl) : PT X e (tT z W (mB ma)) := pt_imp (pt_val h he) s_tB
theorem qt_cmp {op : CmpOp} {r : R2} {f : D → D → S → R D} (ho : OpR X (compareOp op) r) (hr : V2 z r f) (ha : PE X a (tE z W ma)) (hb : PE X b (tE z W mb)) (hm : behindInMarks op b = false := by first | exact nobehind _ (by decide) (by decide) | rfl) : PT X (.Compare a [op] [b] pos) (tT z W (mB (m2 f ma mb))) :=
  pt_imp (pt_cmpR ho ha hb hm) (fun σ H Q h => s_tB σ H Q h |> fun q => by
    obtain ⟨ρ, st, env, rs, re, h⟩ := q
    exact s_op hr σ H _ ⟨ρ, st, env, rs, re, h⟩)
def mAnd (t u : MT) : MT := fun env st => (t env st).bind fun b s1 => if b = true then u env s1 else .ok false s1
def mOr (t u : MT) : MT := fun env st => (t env st).bind fun b s1 => if b = true then .ok true s1 else u env s1
def mNot (t : MT) : MT := fun env st => (t env st).bind fun b s1 => .ok (!b) s1
theorem s_and : ∀ σ H Q, tT z W (mAnd mt mu) σ H Q → tAnd (tT z W mt) (tT z W mu) σ H Q := by
  rintro σ H Q ⟨ρ, st, env, rs, re, h⟩
  refine ⟨ρ, st, env, rs, re, h.bind fun d s1 ρ1 H1 x e1 rs1 rv1 h1 => ?_⟩
  cases rv1
  cases d with
  | true => exact ⟨ρ1, s1, env, rs1, re.ext e1, h1⟩
  | false => exact Post.ok (rel := eqB) (a := false) h1 rs1 rfl
theorem s_or : ∀ σ H Q, tT z W (mOr mt mu) σ H Q → tOr (tT z W mt) (tT z W mu) σ H Q := by
  rintro σ H Q ⟨ρ, st, env, rs, re, h⟩
  refine ⟨ρ, st, env, rs, re, h.bind fun d s1 ρ1 H1 x e1 rs1 rv1 h1 => ?_⟩
  cases rv1
  cases d with
  | false => exact ⟨ρ1, s1, env, rs1, re.ext e1, h1⟩
  | true => exact Post.ok (rel := eqB) (a := true) h1 rs1 rfl
theorem s_not : ∀ σ H Q, tT z W (mNot mt) σ H Q → tNot (tT z W mt) σ H Q := by
  rintro σ H Q ⟨ρ, st, env, rs, re, h⟩
  refine ⟨ρ, st, env, rs, re, h.bind fun d s1 ρ1 H1 x e1 rs1 rv1 h1 => ?_⟩
  cases rv1
  exact Post.ok (rel := eqB) (a := !d) h1 rs1 rfl
variable {rest : List Expr}
theorem qw_and1 (ha : PT X a (tT z W mt)) : PW X (.BoolOp .And [a] pos) (tT z W mt) := pw_and1 ha
theorem qw_or1 (ha : PT X a (tT z W mt)) : PW X (.BoolOp .Or [a] pos) (tT z W mt) := pw_or1 ha
theorem qw_and (ha : PT X a (tT z W mt)) (hb : PW X (.BoolOp .And (b :: rest) pos) (tT z W mu)) : PW X (.BoolOp .And (a :: b :: rest) pos) (tT z W (mAnd mt mu)) := pw_imp (L2.pw_and ha hb) s_and
theorem qw_or (ha : PT X a (tT z W mt)) (hb : PW X (.BoolOp .Or (b :: rest) pos) (tT z W mu)) : PW X (.BoolOp .Or (a :: b :: rest) pos) (tT z W (mOr mt mu)) := pw_imp (L2.pw_or ha hb) s_or
theorem qt_not (ha : PT X a (tT z W mt)) : PT X (.UnaryOp .Not a pos) (tT z W (mNot mt)) := pt_imp (L2.pt_not ha) s_not
/-! and, or, not, conditional: as values -/
def mAndV (ma mb : ME) : ME := fun env st => (ma env st).bind fun d s1 => match d with
  | .bl true => mb env s1
  | .bl false => .ok (.bl false) s1
  | _ => .bad
def mOrV (ma mb : ME) : ME := fun env st => (ma env st).bind fun d s1 => match d with
  | .bl false => mb env s1
  | .bl true => .ok (.bl true) s1
  | _ => .bad
def mNotV (ma : ME) : ME := fun env st => (ma env st).bind fun d s1 => match d with
  | .bl b => .ok (.bl (!b)) s1
  | _ => .bad
def mIf (t : MT) (ma mb : ME) : ME := fun env st => (t env st).bind fun c s1 => if c = true then ma env s1 else mb env s1
theorem s_andV : ∀ σ H Q, tE z W (mAndV ma mb) σ H Q → tAndV (tE z W ma) (tE z W mb) σ H Q := by
  rintro σ H Q ⟨ρ, st, env, rs, re, h⟩
  refine ⟨ρ, st, env, rs, re, h.bind fun d s1 ρ1 H1 x e1 rs1 rv1 h1 => ?_⟩
  split at h1
  · unfold RV at rv1
    exact ⟨true, rv1, ρ1, s1, env, rs1, re.ext e1, h1⟩
  · unfold RV at rv1
    exact ⟨false, rv1, Post.ok h1 rs1 rv_bl⟩
  · exact h1.elim
theorem s_orV : ∀ σ H Q, tE z W (mOrV ma mb) σ H Q → tOrV (tE z W ma) (tE z W mb) σ H Q := by
  rintro σ H Q ⟨ρ, st, env, rs, re, h⟩
  refine ⟨ρ, st, env, rs, re, h.bind fun d s1 ρ1 H1 x e1 rs1 rv1 h1 => ?_⟩
  split at h1
  · unfold RV at rv1
    exact ⟨false, rv1, ρ1, s1, env, rs1, re.ext e1, h1⟩
  · unfold RV at rv1
    exact ⟨true, rv1, Post.ok h1 rs1 rv_bl⟩
  · exact h1.elim
theorem s_notV : ∀ σ H Q, tE z W (mNotV ma) σ H Q → tNotV (tE z W ma) σ H Q := by
  rintro σ H Q ⟨ρ, st, env, rs, re, h⟩
  refine ⟨ρ, st, env, rs, re, h.bind fun d s1 ρ1 H1 x e1 rs1 rv1 h1 => ?_⟩
  split at h1
  · rename_i b
    unfold RV at rv1
    exact ⟨b, rv1, Post.ok h1 rs1 rv_bl⟩
  · exact h1.elim
theorem s_if : ∀ σ H Q, tE z W (mIf mt ma mb) σ H Q → tIf (tT z W mt) (tE z W ma) (tE z W mb) σ H Q := by
  rintro σ H Q ⟨ρ, st, env, rs, re, h⟩
  refine ⟨ρ, st, env, rs, re, h.bind fun d s1 ρ1 H1 x e1 rs1 rv1 h1 => ?_⟩
  cases rv1
  cases d with
  | true => exact ⟨ρ1, s1, env, rs1, re.ext e1, h1⟩
  | false => exact ⟨ρ1, s1, env, rs1, re.ext e1, h1⟩
theorem q_one {op : BoolOp} (ha : PE X a (tE z W ma)) : PE X (.BoolOp op [a] pos) (tE z W ma) := pe_one ha
theorem q_and (ha : PE X a (tE z W ma)) (hb : PE X (.BoolOp .And (b :: rest) pos) (tE z W mb)) : PE X (.BoolOp .And (a :: b :: rest) pos) (tE z W (mAndV ma mb)) := pe_imp (pe_and ha hb) s_andV
theorem q_or (ha : PE X a (tE z W ma)) (hb : PE X (.BoolOp .Or (b :: rest) pos) (tE z W mb)) : PE X (.BoolOp .Or (a :: b :: rest) pos) (tE z W (mOrV ma mb)) := pe_imp (pe_or ha hb) s_orV
theorem q_not (ha : PE X a (tE z W ma)) : PE X (.UnaryOp .Not a pos) (tE z W (mNotV ma)) := pe_imp (pe_not ha) s_notV
theorem q_ifExp (hc : PT X c (tT z W mt)) (ha : PE X a (tE z W ma)) (hb : PE X b (tE z W mb)) : PE X (.IfExp c a b pos) (tE z W (mIf mt ma mb)) := pe_imp (pe_ifExp hc ha hb) s_if
/-! lists of arguments -/
def mNil : MA := fun _ st => .ok [] st
def mCons (m : ME) (r : MA) : MA := fun env st => (m env st).bind fun d s1 => (r env s1).bind fun ds s2 => .ok (d :: ds) s2
theorem qa_nil : PA X [] (tA z W mNil) := pa_imp pa_nil (by
  rintro σ H Q ⟨ρ, st, env, rs, re, h⟩
  exact Post.ok (rel := RVs z) (a := []) (st := st) h rs RVs.nil)
variable {ar : MA} {es : List Expr}
theorem s_cons : ∀ σ H Q, tA z W (mCons ma ar) σ H Q → tCons (tE z W ma) (tA z W ar) σ H Q := by
  rintro σ H Q ⟨ρ, st, env, rs, re, h⟩
  refine ⟨ρ, st, env, rs, re, h.bind fun d1 s1 ρ1 H1 x e1 rs1 rv1 h1 => ⟨ρ1, s1, env, rs1, re.ext e1, h1.bind fun d2 s2 ρ2 H2 y e2 rs2 rv2 h2 => ?_⟩⟩
  exact Post.ok (rel := RVs z) (a := d1 :: d2) h2 rs2 (RVs.cons (rv1.ext e2) rv2)
end
end Nn

namespace Nn
open PySem PySem.Spec PyProof.Rows L2 Lb
section
variable {X : Cx} {z : Zc} {W : WM} {ρ ρ' : List Addr} {st : S} {H H' : Hp} {v x y : V} {l m : List D} {xs ys : List V} {Q : VK} {xw : XW}
theorem rvi {i} (h : RV z ρ H (.int i) v) : v = .int i := by unfold RV at h; exact h
theorem rvb {i} (h : RV z ρ H (.bl i) v) : v = .bl i := by unfold RV at h; exact h
theorem rvs {i} (h : RV z ρ H (.str i) v) : v = .str i := by unfold RV at h; exact h
theorem rvn (h : RV z ρ H .non v) : v = .non := by unfold RV at h; exact h
theorem rvy {i} (h : RV z ρ H (.ty i) v) : v = .ty i := by unfold RV at h; exact h
theorem rvt (h : RV z ρ H (.tup l) v) : ∃ a xs, v = .ref a ∧ SqT z.K H a xs ∧ RVs z ρ H l xs := by unfold RV at h; exact h
theorem rvl {n} (h : RV z ρ H (.loc n) v) : ∃ a, ρ[n]? = some a ∧ v = .ref a := by unfold RV at h; exact h
theorem rvf (h : RV z ρ H (.fl l) v) : ∃ a xs, v = .ref a ∧ FzP z ρ H a xs ∧ RVs z ρ H l xs := by unfold RV at h; exact h
theorem rvtf (h : RV z ρ H (.tuf l) v) : ∃ a xs, v = .ref a ∧ FzT z ρ H a xs ∧ RVs z ρ H l xs := by unfold RV at h; exact h
theorem rv_tuf {a} (h : FzT z ρ H a xs) (r : RVs z ρ H l xs) : RV z ρ H (.tuf l) (.ref a) := by unfold RV; exact ⟨a, xs, rfl, h, r⟩
theorem rvc (h : RV z ρ H (.sc l) v) : ∃ a xs, v = .ref a ∧ FzL z ρ H a xs ∧ RVs z ρ H l xs := by unfold RV at h; exact h
theorem rvd {ks : List Key} (h : RV z ρ H (.fd ks l) v) : ∃ a ys, v = .ref a ∧ FzD z ρ H a ys ∧ ys.map (·.1) = ks ∧ RVs z ρ H l (ys.map (·.2)) := by unfold RV at h; exact h
theorem rvo {c : String} {ks : List Str} (h : RV z ρ H (.fo c ks l) v) : ∃ a C dx ys, v = .ref a ∧ z.cm c = some C ∧ FzI z ρ H a C dx ys ∧ ys.map (·.1) = ks ∧ RVs z ρ H l (ys.map (·.2)) := by unfold RV at h; exact h
theorem rv_fl {a} (h : FzP z ρ H a xs) (r : RVs z ρ H l xs) : RV z ρ H (.fl l) (.ref a) := by unfold RV; exact ⟨a, xs, rfl, h, r⟩
theorem rv_fd {a} {ks : List Key} {ys : List (Key × V)} (h : FzD z ρ H a ys) (k : ys.map (·.1) = ks) (r : RVs z ρ H l (ys.map (·.2))) : RV z ρ H (.fd ks l) (.ref a) := by unfold RV; exact ⟨a, ys, rfl, h, k, r⟩
theorem rv_fo {a C dx} {c : String} {ks : List Str} {ys : List (Str × V)} (hc : z.cm c = some C) (h : FzI z ρ H a C dx ys) (k : ys.map (·.1) = ks) (r : RVs z ρ H l (ys.map (·.2))) : RV z ρ H (.fo c ks l) (.ref a) := by unfold RV; exact ⟨a, C, dx, ys, rfl, hc, h, k, r⟩
theorem FzP.sq {a : Addr} (h : FzP z ρ H a xs) : SqL z.K H a xs := SqL.of h.1
theorem rv_loc {n a} (h : ρ[n]? = some a) : RV z ρ H (.loc n) (.ref a) := by unfold RV; exact ⟨a, h, rfl⟩
theorem rv_tup {a} (h : SqT z.K H a xs) (r : RVs z ρ H l xs) : RV z ρ H (.tup l) (.ref a) := by unfold RV; exact ⟨a, xs, rfl, h, r⟩
/-- a new tuple -/
theorem Post.tup (h : Post z (RV z) ρ H (.ok (.tup l) st) Q xw) (rs : RS z ρ st H) (r : RVs z ρ H l xs) : ∀ p, H p = none → Q (.ref p) (upd H p (.tup xs)) := fun p hp =>
  h.at (Ext.new hp) (rs.tup hp) (rv_tup (SqT.of upd_same) (r.ext (Ext.new hp)))
/-- a new list: to be changed, or not -/
def newL (own : Bool) (l : List D) (st : S) : R D := if own = true then .ok (.loc st.length) (st ++ [.lst l]) else .ok (.fl l) st
theorem Post.lst {own : Bool} (h : Post z (RV z) ρ H (newL own l st) Q xw) (rs : RS z ρ st H) (r : RVs z ρ H l xs) : ∀ p, H p = none → Q (.ref p) (upd H p (.lst xs)) := fun p hp => by
  unfold newL at h
  split at h
  · exact h.at (Ext.alloc hp) (rs.new_lst hp r) (rv_loc rs.last)
  · exact h.at (Ext.new hp) (rs.tup hp) (rv_fl ⟨upd_same, rs.free hp, rs.nav hp⟩ (r.ext (Ext.new hp)))
/-- what may be read as a list of ours -/
def lsD (st : S) : D → Option (List D)
  | .loc n => rdL st n
  | .fl l => some l
  | _ => none
theorem rdL_some {n : Nat} (e : rdL st n = some l) : st[n]? = some (.lst l) := by
  unfold Nn.rdL at e
  split at e
  · rename_i q; cases e; exact q
  · cases e
theorem ls_rv {d : D} (rs : RS z ρ st H) (e : lsD st d = some l) (r : RV z ρ H d x) : ∃ a xs, x = .ref a ∧ H a = some (.lst xs) ∧ RVs z ρ H l xs := by
  cases d with
  | loc n =>
    obtain ⟨a, q, rfl⟩ := rvl r
    obtain ⟨xs, h1, h2⟩ := rs.lst (rdL_some e) q
    exact ⟨a, xs, rfl, h1, h2⟩
  | fl l' =>
    cases e
    obtain ⟨a, xs, rfl, q, t⟩ := rvf r
    exact ⟨a, xs, rfl, q.1, t⟩
  | _ => cases e
theorem Post.okk {α β : Type} {rel : List Addr → Hp → α → β → Prop} {P : β → Hp → Prop} {a : α} {b : β} (h : Post z rel ρ H (.ok a st) P xw) (rs : RS z ρ st H) (rl : rel ρ H a b) : P b H := h.ok rs rl

/-! + -/
def fAdd (own : Bool) : D → D → S → R D
  | .int i, .int j, st => .ok (.int (i + j)) st
  | .str a, .str b, st => if a.length + b.length ≤ sizeLine then .ok (.str (a ++ b)) st else .bad
  | .tup a, .tup b, st => if a.length + b.length ≤ sizeLine then .ok (.tup (a ++ b)) st else .bad
  | x, y, st => match lsD st x, lsD st y with
    | some a, some b => if a.length + b.length ≤ sizeLine then newL own (a ++ b) st else .bad
    | _, _ => .bad
abbrev r_add (K : PySem.W.Frag) : R2 := fun x y H Q => (∃ i j, x = .int i ∧ y = .int j ∧ Q (.int (i + j)) H) ∨ (∃ i j, x = .str i ∧ y = .str j ∧ i.length + j.length ≤ sizeLine ∧ Q (.str (i ++ j)) H) ∨ rCatA K x y H Q ∨ rCat x y H Q
theorem o_add : OpR X (binaryOp .Add) (r_add X.K) := op_add.or (op_add_str.or (op_catA.or op_cat))
theorem v_add {own : Bool} : V2 z (r_add z.K) (fAdd own) := by
  intro ρ st H x y d1 d2 Q xw rs h1 h2 h
  unfold fAdd at h
  split at h
  · exact .inl ⟨_, _, rvi h1, rvi h2, h.ok rs rv_int⟩
  · split at h
    · rename_i e
      exact .inr (.inl ⟨_, _, rvs h1, rvs h2, e, h.ok rs rv_str⟩)
    · exact h.elim
  · split at h
    · rename_i a b e
      obtain ⟨p, xs, rfl, q1, r1⟩ := rvt h1
      obtain ⟨q, ys, rfl, q2, r2⟩ := rvt h2
      have l1 := r1.length
      have l2 := r2.length
      refine .inr (.inr (.inl ⟨p, q, xs, ys, rfl, rfl, q1, q2, by omega, fun e0 => ?_, fun _ e0 => ?_, fun _ _ => h.tup rs (r1.append r2)⟩))
      · subst e0
        have : a = [] := List.length_eq_zero_iff.mp (by simpa using l1)
        subst this
        exact h.ok rs (rv_tup q2 r2)
      · subst e0
        have : b = [] := List.length_eq_zero_iff.mp (by simpa using l2)
        subst this
        rw [List.append_nil] at h
        exact h.ok rs (rv_tup q1 r1)
    · exact h.elim
  · split at h
    · rename_i a b e1 e2
      split at h
      · rename_i e
        obtain ⟨p, xs, rfl, hx, r1⟩ := ls_rv rs e1 h1
        obtain ⟨q, ys, rfl, hy, r2⟩ := ls_rv rs e2 h2
        have l1 := r1.length
        have l2 := r2.length
        exact .inr (.inr (.inr ⟨p, q, xs, ys, rfl, rfl, hx, hy, by omega, h.lst rs (r1.append r2)⟩))
      · exact h.elim
    · exact h.elim
/-! numbers -/
def fI (C : Int → Int → Bool) (g : Int → Int → D) : D → D → S → R D
  | .int i, .int j, st => if C i j = true then .ok (g i j) st else .bad
  | _, _, _ => .bad
theorem v_i {C : Int → Int → Bool} {C' : Int → Int → Prop} {g : Int → Int → D} {g' : Int → Int → V} (hC : ∀ i j, C i j = true → C' i j) (hg : ∀ i j ρ H, RV z ρ H (g i j) (g' i j)) : V2 z (rI C' g') (fI C g) := by
  intro ρ st H x y d1 d2 Q xw rs h1 h2 h
  unfold fI at h
  split at h
  · split at h
    · rename_i e
      exact ⟨_, _, rvi h1, rvi h2, hC _ _ e, h.ok rs (hg _ _ _ _)⟩
    · exact h.elim
  · exact h.elim
theorem v_i0 {g : Int → Int → D} {g' : Int → Int → V} (hg : ∀ i j ρ H, RV z ρ H (g i j) (g' i j)) : V2 z (rI0 g') (fI (fun _ _ => true) g) := by
  intro ρ st H x y d1 d2 Q xw rs h1 h2 h
  unfold fI at h
  split at h
  · rw [if_pos rfl] at h
    exact ⟨_, _, rvi h1, rvi h2, h.ok rs (hg _ _ _ _)⟩
  · exact h.elim
def fSub := fI (fun _ _ => true) fun i j => .int (i - j)
theorem v_sub : V2 z (rI0 fun i j => .int (i - j)) fSub := v_i0 fun _ _ _ _ => rv_int
def cMul (i j : Int) : Bool := decide (i.natAbs.log2 + j.natAbs.log2 < 1000000)
def fMul := fI cMul fun i j => .int (i * j)
theorem v_mul : V2 z (rI CMulW fun i j => .int (i * j)) fMul := v_i (fun i j h => show CMulW i j from of_decide_eq_true (p := i.natAbs.log2 + j.natAbs.log2 < 1000000) h) fun _ _ _ _ => rv_int
def cDiv (i j : Int) : Bool := decide (0 < j ∧ j.natAbs.log2 < 9000)
def fDiv := fI cDiv fun i j => .int (i / j)
theorem v_div : V2 z (rI CDivW fun i j => .int (i / j)) fDiv := v_i (fun i j h => show CDivW i j from of_decide_eq_true (p := 0 < j ∧ j.natAbs.log2 < 9000) h) fun _ _ _ _ => rv_int
def fMod := fI (fun _ j => decide (0 < j)) fun i j => .int (i % j)
theorem v_mod : V2 z (rI (fun _ j => 0 < j) fun i j => .int (i % j)) fMod := v_i (fun _ _ h => of_decide_eq_true h) fun _ _ _ _ => rv_int
def cPow (i j : Int) : Bool := decide (0 ≤ j ∧ j ≤ 1000000 ∧ i.natAbs < 2 ^ 64)
def fPow := fI cPow fun i j => .int (i ^ j.toNat)
theorem v_pow : V2 z (rI CPow fun i j => .int (i ^ j.toNat)) fPow := v_i (fun i j h => show CPow i j from of_decide_eq_true (p := 0 ≤ j ∧ j ≤ 1000000 ∧ i.natAbs < 2 ^ 64) h) fun _ _ _ _ => rv_int
def fNeg : D → S → R D
  | .int i, st => .ok (.int (-i)) st
  | _, _ => .bad
theorem v_neg : V1 z (rU fun i => .int (-i)) fNeg := by
  intro ρ st H x d1 Q xw rs h1 h
  unfold fNeg at h
  split at h
  · exact ⟨_, rvi h1, h.ok rs rv_int⟩
  · exact h.elim
/-! < .. of ints and texts -/
def fOrd (g : Int → Int → Bool) (t : List Nat → List Nat → Bool) : D → D → S → R D
  | .int i, .int j, st => .ok (.bl (g i j)) st
  | .str i, .str j, st => .ok (.bl (t i.cps.toList j.cps.toList)) st
  | _, _, _ => .bad
abbrev r_ord (g : Int → Int → Bool) (t : List Nat → List Nat → Bool) : R2 := fun x y H Q => (∃ i j, x = .int i ∧ y = .int j ∧ Q (.bl (g i j)) H) ∨ (∃ i j, x = .str i ∧ y = .str j ∧ Q (.bl (t i.cps.toList j.cps.toList)) H)
theorem v_ord {g t} : V2 z (r_ord g t) (fOrd g t) := by
  intro ρ st H x y d1 d2 Q xw rs h1 h2 h
  unfold fOrd at h
  split at h
  · exact .inl ⟨_, _, rvi h1, rvi h2, h.ok rs rv_bl⟩
  · exact .inr ⟨_, _, rvs h1, rvs h2, h.ok rs rv_bl⟩
  · exact h.elim
def fLt := fOrd (fun i j => decide (i < j)) fun a b => decide (a < b)
def fLe := fOrd (fun i j => decide (i ≤ j)) fun a b => !decide (b < a)
def fGt := fOrd (fun i j => decide (j < i)) fun a b => decide (b < a)
def fGe := fOrd (fun i j => decide (j ≤ i)) fun a b => !decide (a < b)
theorem o_lt : OpR X (compareOp .Lt) (r_ord (fun i j => decide (i < j)) fun a b => decide (a < b)) := op_lt.or op_lt_str
theorem o_le : OpR X (compareOp .LtE) (r_ord (fun i j => decide (i ≤ j)) fun a b => !decide (b < a)) := op_le.or op_le_str
theorem o_gt : OpR X (compareOp .Gt) (r_ord (fun i j => decide (j < i)) fun a b => decide (b < a)) := op_gt.or op_gt_str
theorem o_ge : OpR X (compareOp .GtE) (r_ord (fun i j => decide (j ≤ i)) fun a b => !decide (a < b)) := op_ge.or op_ge_str
/-! == -/
/-- as the data that == reads, at most n deep -/
def toP (st : S) : Nat → D → Option PyData
  | _, .non => some .none
  | _, .bl b => some (.bool b)
  | _, .int i => some (.int i)
  | _, .str x => some (.str x)
  | _, .ty _ => none
  | 0, _ => none
  | n + 1, .tup l => (l.mapM (toP st n)).map .tuple
  | n + 1, .fl l => (l.mapM (toP st n)).map .list
  | n + 1, .sc l => (l.mapM (toP st n)).map .list
  | n + 1, .tuf l => (l.mapM (toP st n)).map .tuple
  | _ + 1, .fd _ _ => none
  | _ + 1, .fo _ _ _ => none
  | n + 1, .loc k => match rdL st k with
    | some l => (l.mapM (toP st n)).map .list
    | none => none
theorem mapM_cons {α β : Type} {f : α → Option β} {a : α} {l : List α} {o : List β} (h : (a :: l).mapM f = some o) : ∃ b r, f a = some b ∧ l.mapM f = some r ∧ o = b :: r := by
  rw [List.mapM_cons] at h
  cases e : f a with
  | none => rw [e] at h; cases h
  | some b =>
    rw [e] at h
    cases e2 : l.mapM f with
    | none => rw [e2] at h; cases h
    | some r =>
      rw [e2] at h
      cases h
      exact ⟨b, r, rfl, rfl, rfl⟩
theorem toP_dp (rs : RS z ρ st H) : ∀ (n : Nat) (d : D) (v : V) (p : PyData), toP st n d = some p → RV z ρ H d v → Dp z.K H v p := by
  intro n
  induction n with
  | zero =>
    intro d v p h r
    cases d with
    | non => cases h; rw [rvn r]; exact .non
    | bl b => cases h; rw [rvb r]; exact .bl _
    | int b => cases h; rw [rvi r]; exact .int _
    | str b => cases h; rw [rvs r]; exact .str _
    | ty b => cases h
    | tup b => cases h
    | loc b => cases h
    | fl b => cases h
    | sc b => cases h
    | tuf b => cases h
    | fd _ _ => cases h
    | fo _ _ _ => cases h
  | succ n ih =>
    intro d v p h r
    have all : ∀ (l : List D) (xs : List V) (ps : List PyData), l.mapM (toP st n) = some ps → RVs z ρ H l xs → DpAll z.K H xs ps := by
      intro l
      induction l with
      | nil =>
        intro xs ps h r
        unfold RVs at r
        subst r
        cases h
        exact .nil
      | cons a l ih2 =>
        intro xs ps h r
        obtain ⟨b, q, e1, e2, rfl⟩ := mapM_cons h
        unfold RVs at r
        obtain ⟨x, w, rfl, r1, r2⟩ := r
        exact .cons (ih a x b e1 r1) (ih2 w q e2 r2)
    cases d with
    | non => cases h; rw [rvn r]; exact .non
    | bl b => cases h; rw [rvb r]; exact .bl _
    | int b => cases h; rw [rvi r]; exact .int _
    | str b => cases h; rw [rvs r]; exact .str _
    | ty b => cases h
    | tup l =>
      have h' : (l.mapM (toP st n)).map PyData.tuple = some p := h
      obtain ⟨ps, e, rfl⟩ := Option.map_eq_some_iff.mp h'
      obtain ⟨a, xs, rfl, q, t⟩ := rvt r
      exact .tup q (all l xs ps e t)
    | tuf l =>
      have h' : (l.mapM (toP st n)).map PyData.tuple = some p := h
      obtain ⟨ps, e, rfl⟩ := Option.map_eq_some_iff.mp h'
      obtain ⟨a, xs, rfl, q, t⟩ := rvtf r
      exact .tup q.sq (all l xs ps e t)
    | fl l =>
      have h' : (l.mapM (toP st n)).map PyData.list = some p := h
      obtain ⟨ps, e, rfl⟩ := Option.map_eq_some_iff.mp h'
      obtain ⟨a, xs, rfl, q, t⟩ := rvf r
      exact .lst q.sq (all l xs ps e t)
    | sc l =>
      have h' : (l.mapM (toP st n)).map PyData.list = some p := h
      obtain ⟨ps, e, rfl⟩ := Option.map_eq_some_iff.mp h'
      obtain ⟨a, xs, rfl, q, t⟩ := rvc r
      exact .lst q.sq (all l xs ps e t)
    | fd _ _ => cases h
    | fo _ _ _ => cases h
    | loc k =>
      have h' : (match Nn.rdL st k with | some l => (l.mapM (toP st n)).map PyData.list | none => none) = some p := h
      split at h'
      · rename_i l e0
        obtain ⟨ps, e, rfl⟩ := Option.map_eq_some_iff.mp h'
        obtain ⟨a, q, rfl⟩ := rvl r
        obtain ⟨xs, h1, h2⟩ := rs.rdL e0 q
        exact .lst h1 (all l xs ps e h2)
      · cases h'
/-- flat data's == (a flag is a number) -/
def eqF : D → D → Bool
  | .non, .non => true
  | .bl a, .bl b => a == b
  | .bl a, .int b => (if a then 1 else 0) == b
  | .int a, .bl b => a == (if b then 1 else 0)
  | .int a, .int b => a == b
  | .str a, .str b => a == b
  | _, _ => false
def flat : D → Bool
  | .non => true
  | .bl _ => true
  | .int _ => true
  | .str _ => true
  | _ => false
/-- those that are told without further ado -/
def scal2 : D → D → Bool
  | .bl _, .int _ => false
  | .int _, .bl _ => false
  | a, b => flat a && flat b
def fEq (neg : Bool) : D → D → S → R D := fun a b st =>
  if scal2 a b = true then .ok (.bl (if neg then !eqF a b else eqF a b)) st else
  match toP st 50 a, toP st 50 b with
  | some p, some q => if SeqAt.shaped p && SeqAt.shaped q then .ok (.bl (if neg then !PyData.eqv p q else PyData.eqv p q)) st else .bad
  | _, _ => .bad
abbrev r_eq (K : PySem.W.Frag) : R2 := fun x y H Q => rEq x y H Q ∨ rEqD K x y H Q
abbrev r_ne (K : PySem.W.Frag) : R2 := fun x y H Q => rNe x y H Q ∨ rNeD K x y H Q
theorem o_eq (hu : X.A.units + 64 < cLine) : OpR X (compareOp .Eq) (r_eq X.K) := op_eq.or (op_eqD hu)
theorem o_ne (hu : X.A.units + 64 < cLine) : OpR X (compareOp .NotEq) (r_ne X.K) := op_ne.or (op_neD hu)
theorem eqF_scal {a b : D} (s : scal2 a b = true) (h1 : RV z ρ H a x) (h2 : RV z ρ H b y) : scal x y = true ∧ decide (x = y) = eqF a b := by
  cases a <;> cases b <;> first
    | exact absurd s Bool.false_ne_true
    | (first | have e1 := rvn h1 | have e1 := rvb h1 | have e1 := rvi h1 | have e1 := rvs h1)
      (first | have e2 := rvn h2 | have e2 := rvb h2 | have e2 := rvi h2 | have e2 := rvs h2)
      subst e1 e2
      first
      | exact ⟨rfl, rfl⟩
      | exact ⟨rfl, dec_int⟩
      | exact ⟨rfl, dec_bl⟩
      | exact ⟨rfl, dec_str⟩
theorem v_eq : V2 z (r_eq z.K) (fEq false) := by
  intro ρ st H x y d1 d2 Q xw rs h1 h2 h
  unfold fEq at h
  split at h
  · rename_i s
    obtain ⟨e1, e2⟩ := eqF_scal s h1 h2
    refine .inl ⟨e1, ?_⟩
    rw [e2]
    exact h.ok rs rv_bl
  · split at h
    · rename_i p q e1 e2
      split at h
      · rename_i s
        rw [Bool.and_eq_true] at s
        exact .inr ⟨p, q, toP_dp rs _ _ _ _ e1 h1, toP_dp rs _ _ _ _ e2 h2, s.1, s.2, h.ok rs rv_bl⟩
      · exact h.elim
    · exact h.elim
theorem v_ne : V2 z (r_ne z.K) (fEq true) := by
  intro ρ st H x y d1 d2 Q xw rs h1 h2 h
  unfold fEq at h
  split at h
  · rename_i s
    obtain ⟨e1, e2⟩ := eqF_scal s h1 h2
    refine .inl ⟨e1, ?_⟩
    rw [e2]
    exact h.ok rs rv_bl
  · split at h
    · rename_i p q e1 e2
      split at h
      · rename_i s
        rw [Bool.and_eq_true] at s
        exact .inr ⟨p, q, toP_dp rs _ _ _ _ e1 h1, toP_dp rs _ _ _ _ e2 h2, s.1, s.2, h.ok rs rv_bl⟩
      · exact h.elim
    · exact h.elim
/-! is None, is True -/
def fIsN (neg : Bool) : D → D → S → R D
  | .non, .non, st => .ok (.bl (!neg)) st
  | _, .non, st => .ok (.bl neg) st
  | .bl a, .bl b, st => .ok (.bl (if neg then !(a == b) else a == b)) st
  | _, _, _ => .bad
abbrev r_is (neg : Bool) : R2 := fun x y H Q => (y = .non ∧ Q (.bl (if neg then !decide (x = .non) else decide (x = .non))) H) ∨ (∃ a b : Bool, x = .bl a ∧ y = .bl b ∧ Q (.bl (if neg then !decide (a = b) else decide (a = b))) H)
theorem o_is : OpR X (compareOp .Is) (r_is false) := op_isN.or op_isBl
theorem o_isnot : OpR X (compareOp .IsNot) (r_is true) := op_notN.or op_notBl
def isNon : D → Bool
  | .non => true
  | _ => false
theorem non_dec {d : D} (h : RV z ρ H d x) : decide (x = .non) = isNon d := by
  cases d with
  | non => rw [rvn h]; rfl
  | bl b => rw [rvb h]; rfl
  | int b => rw [rvi h]; rfl
  | str b => rw [rvs h]; rfl
  | ty b => rw [rvy h]; rfl
  | tup l => obtain ⟨a, _, rfl, _⟩ := rvt h; rfl
  | loc l => obtain ⟨a, _, rfl⟩ := rvl h; rfl
  | fl l => obtain ⟨a, _, rfl, _⟩ := rvf h; rfl
  | sc l => obtain ⟨a, _, rfl, _⟩ := rvc h; rfl
  | tuf l => obtain ⟨a, _, rfl, _⟩ := rvtf h; rfl
  | fd ks l => obtain ⟨a, _, rfl, _⟩ := rvd h; rfl
  | fo c ks l => obtain ⟨a, _, _, _, rfl, _⟩ := rvo h; rfl
theorem v_is {neg : Bool} : V2 z (r_is neg) (fIsN neg) := by
  intro ρ st H x y d1 d2 Q xw rs h1 h2 h
  unfold fIsN at h
  split at h
  · refine .inl ⟨rvn h2, ?_⟩
    rw [non_dec h1]
    have := h.ok rs rv_bl
    cases neg <;> exact this
  · rename_i d1' hne
    refine .inl ⟨rvn h2, ?_⟩
    rw [non_dec h1]
    have := h.ok rs rv_bl
    cases d1 with
    | non => exact absurd rfl hne
    | _ => cases neg <;> exact this
  · refine .inr ⟨_, _, rvb h1, rvb h2, ?_⟩
    have := h.ok rs rv_bl
    rw [Bool.beq_eq_decide_eq] at this
    exact this
  · exact h.elim
/-! in -/
def keyD : D → Option Key
  | .int i => some (.inl i)
  | .str x => some (.inr x)
  | _ => none
theorem rv_key {d : D} {k : Key} (h : keyD d = some k) (r : RV z ρ H d x) : x = kV k := by
  cases d with
  | int i => cases h; exact rvi r
  | str i => cases h; exact rvs r
  | _ => cases h
def getK (kvs : List (Key × D)) (k : Key) : Option D := (kvs.find? fun kv => decide (kv.1 = k)).map (·.2)
def putD (kvs : List (Key × D)) (k : Key) (v : D) : List (Key × D) :=
  if (kvs.any fun kv => decide (kv.1 = k)) = true then kvs.map (fun kv => if kv.1 = k then (kv.1, v) else kv) else kvs ++ [(k, v)]
theorem flat_rv {d : D} (f : flat d = true) (r : RV z ρ H d x) : flatV x = true := by
  cases d with
  | non => rw [rvn r]; rfl
  | bl b => rw [rvb r]; rfl
  | int b => rw [rvi r]; rfl
  | str b => rw [rvs r]; rfl
  | _ => exact absurd f Bool.false_ne_true
theorem flats_rv : ∀ {l : List D} {xs : List V}, l.all flat = true → RVs z ρ H l xs → xs.all flatV = true
  | [], xs, _, r => by unfold RVs at r; rw [r]; rfl
  | d :: l, xs, f, r => by
    unfold RVs at r
    obtain ⟨x, w, rfl, r1, r2⟩ := r
    rw [List.all_cons, Bool.and_eq_true] at f ⊢
    exact ⟨flat_rv f.1 r1, flats_rv f.2 r2⟩
theorem eqF_rv {a b : D} (fa : flat a = true) (fb : flat b = true) (h1 : RV z ρ H a x) (h2 : RV z ρ H b y) : eqV x y = eqF a b := by
  cases a <;> cases b <;> first
    | exact absurd fa Bool.false_ne_true
    | exact absurd fb Bool.false_ne_true
    | (first | have e1 := rvn h1 | have e1 := rvb h1 | have e1 := rvi h1 | have e1 := rvs h1)
      (first | have e2 := rvn h2 | have e2 := rvb h2 | have e2 := rvi h2 | have e2 := rvs h2)
      subst e1 e2
      rfl
theorem any_rv {d : D} (fd : flat d = true) (hd : RV z ρ H d x) : ∀ {l : List D} {xs : List V}, l.all flat = true → RVs z ρ H l xs → inV x xs = l.any fun e => eqF e d
  | [], xs, _, r => by unfold RVs at r; rw [r]; rfl
  | e :: l, xs, f, r => by
    unfold RVs at r
    obtain ⟨x1, w, rfl, r1, r2⟩ := r
    rw [List.all_cons, Bool.and_eq_true] at f
    show (eqV x1 x || inV x w) = _
    rw [any_rv fd hd f.2 r2, eqF_rv f.1 fd r1 hd]
    rfl
def ng (neg b : Bool) : Bool := if neg then !b else b
def seqD (st : S) : D → Option (List D)
  | .tup l => some l
  | .loc n => rdL st n
  | .fl l => some l
  | .sc l => some l
  | .tuf l => some l
  | _ => none
theorem rs_seq {d : D} {l : List D} (rs : RS z ρ st H) (e : seqD st d = some l) (r : RV z ρ H d x) : ∃ a xs, x = .ref a ∧ (SqL z.K H a xs ∨ SqT z.K H a xs) ∧ RVs z ρ H l xs := by
  cases d with
  | tup l' =>
    cases e
    obtain ⟨a, xs, rfl, q, t⟩ := rvt r
    exact ⟨a, xs, rfl, .inr q, t⟩
  | loc n =>
    obtain ⟨a, q, rfl⟩ := rvl r
    obtain ⟨xs, h1, h2⟩ := rs.rdL e q
    exact ⟨a, xs, rfl, .inl h1, h2⟩
  | fl l' =>
    cases e
    obtain ⟨a, xs, rfl, q, t⟩ := rvf r
    exact ⟨a, xs, rfl, .inl q.sq, t⟩
  | sc l' =>
    cases e
    obtain ⟨a, xs, rfl, q, t⟩ := rvc r
    exact ⟨a, xs, rfl, .inl q.sq, t⟩
  | tuf l' =>
    cases e
    obtain ⟨a, xs, rfl, q, t⟩ := rvtf r
    exact ⟨a, xs, rfl, .inr q.sq, t⟩
  | _ => cases e
def fIn (neg : Bool) (a b : D) (st : S) : R D := match b with
  | .str s => match a with
    | .str t => .ok (.bl (ng neg (!(Builtin.Str.occurrences s t 0 s.length 1).isEmpty))) st
    | _ => .bad
  | _ => match seqD st b with
    | some l => if flat a && l.all flat then .ok (.bl (ng neg (l.any fun e => eqF e a))) st else
      match toP st 50 a, toP st 50 b with
      | some p, some (.list q) => if SeqAt.shaped p && SeqAt.shaped (.list q) then .ok (.bl (ng neg (q.any fun e => PyData.eqv e p))) st else .bad
      | _, _ => .bad
    | none => .bad
abbrev r_in (K : PySem.W.Frag) (neg : Bool) : R2 := fun x y H Q => (∃ i j, x = .str i ∧ y = .str j ∧ Q (.bl (ng neg (!(Builtin.Str.occurrences j i 0 j.length 1).isEmpty))) H) ∨ rIn K neg x y H Q ∨
  (∃ d ds, Dp K H x d ∧ Dp K H y (.list ds) ∧ SeqAt.shaped d = true ∧ SeqAt.shaped (.list ds) = true ∧ Q (.bl (ng neg (ds.any fun z => PyData.eqv z d))) H)
theorem o_in (hu : X.A.units + 65 < cLine) : OpR X (compareOp .In) (r_in X.K false) := op_in_str.or (op_in_seq.or (op_inD hu))
theorem o_notin (hu : X.A.units + 65 < cLine) : OpR X (compareOp .NotIn) (r_in X.K true) := op_notIn_str.or (op_notIn_seq.or (op_notInD hu))
theorem v_in {neg : Bool} : V2 z (r_in z.K neg) (fIn neg) := by
  intro ρ st H x y d1 d2 Q xw rs h1 h2 h
  unfold fIn at h
  split at h
  · split at h
    · exact .inl ⟨_, _, rvs h1, rvs h2, h.ok rs rv_bl⟩
    · exact h.elim
  · split at h
    · rename_i l e
      obtain ⟨a, xs, ey, q, r⟩ := rs_seq rs e h2
      split at h
      · rename_i f
        rw [Bool.and_eq_true] at f
        refine .inr (.inl ⟨a, xs, ey, q, flat_rv f.1 h1, flats_rv f.2 r, ?_⟩)
        rw [any_rv f.1 h1 f.2 r]
        exact h.ok rs rv_bl
      · split at h
        · rename_i p q' e1 e2
          split at h
          · rename_i s
            rw [Bool.and_eq_true] at s
            exact .inr (.inr ⟨p, q', toP_dp rs _ _ _ _ e1 h1, toP_dp rs _ _ _ _ e2 h2, s.1, s.2, h.ok rs rv_bl⟩)
          · exact h.elim
        · exact h.elim
    · exact h.elim
end
end Nn

namespace Nn
open PySem PySem.Spec PyProof.Rows L2 Lb
section
variable {X : Cx} {z : Zc} {W : WM} {ρ ρ' : List Addr} {st : S} {H H' : Hp} {v x y : V} {l m : List D} {xs ys : List V} {Q : VK} {xw : XW} {a b c : Expr} {ma mb mc : ME} {mt mu : MT} {pos : Pos}
theorem Post.bindE {α β γ δ : Type} {rel : List Addr → Hp → α → β → Prop} {r : R α} {P : β → Hp → Prop} {rel2 : List Addr → Hp → γ → δ → Prop} {k : α → S → R γ} {Q : δ → Hp → Prop} (h : Post z rel2 ρ H (r.bind k) Q xw)
    (hk : ∀ a st1 ρ1 H1 b, r = .ok a st1 → Ext z ρ H ρ1 H1 → RS z ρ1 st1 H1 → rel ρ1 H1 a b → Post z rel2 ρ1 H1 (k a st1) Q xw → P b H1) : Post z rel ρ H r P xw := by
  cases r with
  | ok a s => exact fun ρ1 H1 b e rs rl => hk a s ρ1 H1 b rfl e rs rl (h.mono e)
  | ex c f s => exact h
  | bad => exact h
theorem pe_or {e : Expr} {t t1 t2 : TE} (h1 : PE X e t1) (h2 : PE X e t2) (h : ∀ σ H Q, t σ H Q → t1 σ H Q ∨ t2 σ H Q) : PE X e t := ⟨fun pins s σ H Q I q => by
  rcases h σ H Q q with q | q
  · exact h1.run pins s σ H Q I q
  · exact h2.run pins s σ H Q I q⟩
/-! a[i] -/
def fIx : D → D → S → R D
  | .str s, .int i, st => if s.length ≤ sizeLine then match atI s.cps.toList i with
    | some c => .ok (.str ⟨#[c]⟩) st
    | none => .bad else .bad
  | d, .int i, st => match seqD st d with
    | some l => match atI l i with
      | some x => .ok x st
      | none => .bad
    | none => .bad
  | _, _, _ => .bad
abbrev r_ix (K : PySem.W.Frag) : R2 := fun x y H Q => rIxL K x y H Q ∨ rIxT K x y H Q ∨ rIxS x y H Q
theorem i_ix : IxR X (r_ix X.K) := ix_list.or (ix_tup.or ix_str)
theorem at_rv {i : Int} {d : D} (r : RVs z ρ H l xs) (e : atI l i = some d) : ∃ v, atI xs i = some v ∧ RV z ρ H d v := by
  unfold atI at e ⊢
  rw [← r.length]
  cases q : ixN l.length i with
  | none => rw [q] at e; cases e
  | some j =>
    rw [q] at e
    obtain ⟨v, h1, h2⟩ := r.get (show l[j]? = some d from e)
    exact ⟨v, h1, h2⟩
theorem v_ix : V2 z (r_ix z.K) fIx := by
  intro ρ st H x y d1 d2 Q xw rs h1 h2 h
  unfold fIx at h
  split at h
  · split at h
    · rename_i hl
      split at h
      · rename_i c e
        exact .inr (.inr ⟨_, _, c, rvs h1, rvi h2, hl, e, h.ok rs rv_str⟩)
      · exact h.elim
    · exact h.elim
  · split at h
    · rename_i l e0
      split at h
      · rename_i d e
        obtain ⟨a, xs, rfl, q, r⟩ := rs_seq rs e0 h1
        obtain ⟨v, e1, e2⟩ := at_rv r e
        rcases q with q | q
        · exact .inl ⟨a, xs, _, v, rfl, rvi h2, q, e1, h.ok rs e2⟩
        · exact .inr (.inl ⟨a, xs, _, v, rfl, rvi h2, q, e1, h.ok rs e2⟩)
      · exact h.elim
    · exact h.elim
  · exact h.elim
theorem q_ix (ha : PE X a (tE z W ma)) (hb : PE X b (tE z W mb)) (hz : z.K = X.K) (hs : PlainIx b) : PE X (.Subscript a b pos) (tE z W (m2 fIx ma mb)) := pe_imp (pe_ix (r := r_ix z.K) (by rw [hz]; exact i_ix) ha hb hs) (s_op v_ix)
/-- what may be read as a dict of ours -/
def dcD (st : S) : D → Option (List (Key × D))
  | .loc n => match st[n]? with
    | some (.dic kvs) => some kvs
    | _ => none
  | .fd ks l => if ks.length = l.length then some (ks.zip l) else none
  | _ => none
theorem dc_rv {d : D} {kvs : List (Key × D)} (rs : RS z ρ st H) (e : dcD st d = some kvs) (r : RV z ρ H d x) : ∃ (a : Addr) (ys : List (Key × V)), x = .ref a ∧ Rd H a (.dK ys) ∧ ys.map (·.1) = kvs.map (·.1) ∧ RVs z ρ H (kvs.map (·.2)) (ys.map (·.2)) := by
  cases d with
  | loc n =>
    obtain ⟨a, q, rfl⟩ := rvl r
    have e' : (match st[n]? with | some (.dic kvs) => some kvs | _ => none) = some kvs := e
    split at e'
    · rename_i k e0
      cases e'
      obtain ⟨ys, h1, h2, h3⟩ := rs.obj n _ a e0 q
      exact ⟨a, ys, rfl, .inl h1, h2, h3⟩
    · cases e'
  | fd ks l =>
    obtain ⟨a, ys, rfl, q, k, t⟩ := rvd r
    have e' : (if ks.length = l.length then some (ks.zip l) else none) = some kvs := e
    split at e'
    · rename_i hl
      cases e'
      refine ⟨a, ys, rfl, q.1, ?_, ?_⟩
      · rw [k, List.map_fst_zip (by omega)]
      · rw [List.map_snd_zip (by omega)]
        exact t
    · cases e'
  | _ => cases e
def fDix : D → D → S → R D := fun o d st => match dcD st o, keyD d with
  | some kvs, some k => match getK kvs k with
    | some v => .ok v st
    | none => .bad
  | _, _ => .bad
theorem get_rv {k : Key} {d : D} : ∀ {kvs : List (Key × D)} {ys : List (Key × V)}, ys.map (·.1) = kvs.map (·.1) → RVs z ρ H (kvs.map (·.2)) (ys.map (·.2)) → (getK kvs k = some d → ∃ v, valV ys k = some v ∧ RV z ρ H d v) ∧ (valV ys k).isSome = (getK kvs k).isSome
  | [], [], _, _ => ⟨fun h => (nomatch h), rfl⟩
  | [], _ :: _, h, _ => by simp at h
  | _ :: _, [], h, _ => by simp at h
  | (k1, d1) :: kvs, (k2, v2) :: ys, h, r => by
    rw [List.map_cons, List.map_cons] at h
    injection h with h1 h2
    have h1 : k2 = k1 := h1
    subst h1
    rw [List.map_cons, List.map_cons] at r
    unfold RVs at r
    obtain ⟨x, w, e, r1, r2⟩ := r
    injection e with e1 e2
    have e1 : v2 = x := e1
    subst e1 e2
    have ih := get_rv (k := k) (d := d) h2 r2
    by_cases hk : k2 = k
    · subst hk
      constructor
      · intro q
        have e : getK ((k2, d1) :: kvs) k2 = some d1 := by simp [getK, List.find?_cons]
        rw [e] at q
        cases q
        exact ⟨v2, by simp [valV, List.find?_cons], r1⟩
      · simp [getK, valV, List.find?_cons]
    · have a1 : getK ((k2, d1) :: kvs) k = getK kvs k := by simp [getK, List.find?_cons, hk]
      have a2 : valV ((k2, v2) :: ys) k = valV ys k := by simp [valV, List.find?_cons, hk]
      rw [a1, a2]
      exact ih
theorem q_dix (ha : PE X a (tE z W ma)) (hb : PE X b (tE z W mb)) (hu : X.A.units + 1 < cLine) (hs : NoSl b) : PE X (.Subscript a b pos) (tE z W (m2 fDix ma mb)) := pe_imp (pe_dget hu ha hb hs) (by
  rintro σ H Q ⟨ρ, st, env, rs, re, h⟩
  refine ⟨ρ, st, env, rs, re, h.bind fun d1 s1 ρ1 H1 x e1 rs1 rv1 h1 => ⟨ρ1, s1, env, rs1, re.ext e1, h1.bind fun d2 s2 ρ2 H2 y e2 rs2 rv2 h2 => ?_⟩⟩
  unfold fDix at h2
  split at h2
  · rename_i kvs k q1 q2
    split at h2
    · rename_i v q3
      obtain ⟨p, ys, rfl, o1, o2, o3⟩ := dc_rv rs2 q1 (rv1.ext e2)
      obtain ⟨v', g1, g2⟩ := (get_rv (k := k) (d := v) o2 o3).1 q3
      exact ⟨p, v', rfl, .inl ⟨ys, k, o1, rv_key q2 rv2, g1.symm⟩, h2.ok rs2 g2⟩
    · exact h2.elim
  · exact h2.elim)
/-- k in d, k not in d -/
def fDin (neg : Bool) : D → D → S → R D := fun d o st => match dcD st o, keyD d with
  | some kvs, some k => .ok (.bl (ng neg (getK kvs k).isSome)) st
  | _, _ => .bad
theorem s_din {neg : Bool} : ∀ σ H Q, tE z W (m2 (fDin neg) ma mb) σ H Q → (tE z W ma) σ H fun y H1 => (tE z W mb) σ H1 fun x H2 => ∃ a o, x = .ref a ∧ DGet H2 a y o ∧ Q (.bl (ng neg o.isSome)) H2 := by
  rintro σ H Q ⟨ρ, st, env, rs, re, h⟩
  refine ⟨ρ, st, env, rs, re, h.bind fun d1 s1 ρ1 H1 x e1 rs1 rv1 h1 => ⟨ρ1, s1, env, rs1, re.ext e1, h1.bind fun d2 s2 ρ2 H2 y e2 rs2 rv2 h2 => ?_⟩⟩
  unfold fDin at h2
  split at h2
  · rename_i kvs k q1 q2
    obtain ⟨p, ys, rfl, o1, o2, o3⟩ := dc_rv rs2 q1 rv2
    refine ⟨p, _, rfl, .inl ⟨ys, k, o1, rv_key q2 (rv1.ext e2), rfl⟩, ?_⟩
    rw [(get_rv (k := k) (d := d1) o2 o3).2]
    exact h2.ok rs2 rv_bl
  · exact h2.elim
theorem q_din (hu : X.A.units + 1 < cLine) (ha : PE X a (tE z W ma)) (hb : PE X b (tE z W mb)) (hm : behindInMarks .In b = false := by rfl) : PE X (.Compare a [.In] [b] pos) (tE z W (m2 (fDin false) ma mb)) := pe_imp (pe_cmp (pc_din hu ha hb) hm) s_din
theorem q_dnotin (hu : X.A.units + 1 < cLine) (ha : PE X a (tE z W ma)) (hb : PE X b (tE z W mb)) (hm : behindInMarks .NotIn b = false := by rfl) : PE X (.Compare a [.NotIn] [b] pos) (tE z W (m2 (fDin true) ma mb)) := pe_imp (pe_cmp (pc_dnotin hu ha hb) hm) s_din
/-! a[lo:hi] -/
def cutD (l : List D) (lo hi : Option Int) : List D := (l.drop (HT.sIx l.length 0 lo)).take (HT.sIx l.length l.length hi - HT.sIx l.length 0 lo)
theorem cut_rv (r : RVs z ρ H l xs) (lo hi : Option Int) : RVs z ρ H (cutD l lo hi) (cutV xs lo hi) := by
  unfold cutD cutV
  rw [← r.length]
  exact (r.drop _).take _
theorem cut_all {n : Nat} {lo hi : Option Int} (h : HT.sIx l.length 0 lo = 0 ∧ HT.sIx l.length l.length hi = l.length) : cutD l lo hi = l := by
  unfold cutD
  rw [h.1, h.2, List.drop_zero, Nat.sub_zero, List.take_length]
def fSl (own : Bool) : D → Option Int → Option Int → S → R D
  | .tuf _, _, _, _ => .bad
  | .tup l, lo, hi, st => .ok (.tup (cutD l lo hi)) st
  | .str s, lo, hi, st => if s.length ≤ sizeLine then .ok (.str (cutS s lo hi)) st else .bad
  | d, lo, hi, st => match seqD st d with
    | some l => newL own (cutD l lo hi) st
    | none => .bad
def mNoPart : MO := fun _ st => .ok none st
def mPart (m : ME) : MO := fun env st => (m env st).bind fun d s1 => match d with
  | .int i => .ok (some i) s1
  | _ => .bad
theorem qo_none : PO X none (tO z W mNoPart) := ⟨fun pins s σ H Q I h => po_none.run pins s σ H Q I (by
  obtain ⟨ρ, st, env, rs, re, h⟩ := h
  exact Post.ok (rel := eqO) (a := none) (st := st) h rs rfl)⟩
theorem qo_some (ha : PE X a (tE z W ma)) : PO X (some a) (tO z W (mPart ma)) := ⟨fun pins s σ H Q I h => (po_some ha).run pins s σ H Q I (by
  obtain ⟨ρ, st, env, rs, re, h⟩ := h
  refine ⟨ρ, st, env, rs, re, h.bind fun d1 s1 ρ1 H1 x e1 rs1 rv1 h1 => ?_⟩
  split at h1
  · exact ⟨_, rvi rv1, h1.ok rs1 rfl⟩
  · exact h1.elim)⟩
def mSl (own : Bool) (ma : ME) (lo hi : MO) : ME := fun env st => (ma env st).bind fun d s1 => (lo env s1).bind fun l s2 => (hi env s2).bind fun h s3 => fSl own d l h s3
theorem q_slice {own : Bool} {lo hi : Option Expr} {ml mh : MO} {p2 : Pos} (hz : z.K = X.K) (ha : PE X a (tE z W ma)) (hl : PO X lo (tO z W ml)) (hh : PO X hi (tO z W mh)) : PE X (.Subscript a (.Slice lo hi none p2) pos) (tE z W (mSl own ma ml mh)) := by
  have hr : SlR X (fun x lo hi H Q => rSlL z.K x lo hi H Q ∨ rSlA z.K x lo hi H Q ∨ rSlS x lo hi H Q) := by
    rw [hz]
    exact sl_list.or (sl_tupA.or sl_str)
  refine pe_imp (pe_slice hr ha hl hh) ?_
  rintro σ H Q ⟨ρ, st, env, rs, re, h⟩
  refine ⟨ρ, st, env, rs, re, h.bind fun d1 s1 ρ1 H1 x e1 rs1 rv1 h1 => ⟨ρ1, s1, env, rs1, re.ext e1, h1.bind fun d2 s2 ρ2 H2 y e2 rs2 rv2 h2 => ⟨ρ2, s2, env, rs2, (re.ext e1).ext e2, h2.bind fun d3 s3 ρ3 H3 w e3 rs3 rv3 h3 => ?_⟩⟩⟩
  cases rv2
  cases rv3
  have r1 := (rv1.ext e2).ext e3
  unfold fSl at h3
  split at h3
  · exact h3.elim
  · rename_i l
    obtain ⟨a, xs, rfl, q, r⟩ := rvt r1
    refine .inr (.inl ⟨a, xs, rfl, q, fun hw => ?_, fun _ => h3.tup rs3 (cut_rv r _ _)⟩)
    rw [← r.length] at hw
    rw [cut_all (n := 0) hw] at h3
    exact h3.ok rs3 (rv_tup q r)
  · split at h3
    · rename_i hl
      exact .inr (.inr ⟨_, rvs r1, hl, h3.ok rs3 rv_str⟩)
    · exact h3.elim
  · split at h3
    · rename_i hq hn hs _ l e0
      obtain ⟨a, xs, rfl, q, r⟩ := rs_seq rs3 e0 r1
      rcases q with q | q
      · exact .inl ⟨a, xs, rfl, q, h3.lst rs3 (cut_rv r _ _)⟩
      · cases d1 with
        | tup l => exact absurd rfl (hn l)
        | loc n =>
          obtain ⟨a', q', e'⟩ := rvl r1
          cases e'
          obtain ⟨xs', q1, r'⟩ := rs3.rdL e0 q'
          exact .inl ⟨_, xs', rfl, q1, h3.lst rs3 (cut_rv r' _ _)⟩
        | fl l =>
          obtain ⟨a', xs', e', q', r'⟩ := rvf r1
          cases e'
          cases e0
          exact .inl ⟨_, xs', rfl, q'.sq, h3.lst rs3 (cut_rv r' _ _)⟩
        | tuf l => exact absurd rfl (hq l)
        | sc l =>
          obtain ⟨a', xs', e', q', r'⟩ := rvc r1
          cases e'
          cases e0
          exact .inl ⟨_, xs', rfl, q'.sq, h3.lst rs3 (cut_rv r' _ _)⟩
        | _ => cases e0
    · exact h3.elim
def mRev (own : Bool) (ma : ME) : ME := fun env st => (ma env st).bind fun d s1 => match lsD s1 d with
  | some l => newL own l.reverse s1
  | none => .bad
theorem q_revL {own : Bool} {k : Nat} {p1 p2 p3 : Pos} (hz : z.K = X.K) (ha : PE X a (tE z W ma)) : PE X (.Subscript a (.Slice none none (some (.UnaryOp .USub (.Constant (.int 1) k p1) p2)) p3) pos) (tE z W (mRev own ma)) := pe_imp (pe_revL ha) (by
  rintro σ H Q ⟨ρ, st, env, rs, re, h⟩
  refine ⟨ρ, st, env, rs, re, h.bind fun d s1 ρ1 H1 x e1 rs1 rv1 h1 => ?_⟩
  split at h1
  · rename_i l e0
    obtain ⟨a, xs, rfl, q, r⟩ := ls_rv rs1 e0 rv1
    exact ⟨a, xs, rfl, SqL.of q, h1.lst rs1 r.reverse⟩
  · exact h1.elim)
/-! displays -/
variable {ar : MA} {es : List Expr}
def mTup (ar : MA) : ME := fun env st => (ar env st).bind fun ds s1 => if ds.length ≤ sizeLine then .ok (.tup ds) s1 else .bad
def mLst (own : Bool) (ar : MA) : ME := fun env st => (ar env st).bind fun ds s1 => if ds.length ≤ sizeLine then newL own ds s1 else .bad
theorem qa_cons {e : Expr} (ha : PE X e (tE z W ma)) (hr : PA X es (tA z W ar)) (hs : starEach (e :: es) X.env = (false, eval e X.env) :: starEach es X.env := by rfl) : PA X (e :: es) (tA z W (mCons ma ar)) := pa_imp (pa_cons ha hr hs) s_cons
theorem q_tup {k : Nat} (ha : PA X es (tA z W ar)) : PE X (.Tuple es k pos) (tE z W (mTup ar)) := pe_imp (pe_tup ha) (by
  rintro σ H Q ⟨ρ, st, env, rs, re, h⟩
  refine ⟨ρ, st, env, rs, re, h.bind fun d1 s1 ρ1 H1 x e1 rs1 rv1 h1 => ?_⟩
  split at h1
  · rename_i hl
    exact ⟨by rw [← RVs.length rv1]; exact hl, h1.tup rs1 rv1⟩
  · exact h1.elim)
theorem q_lst {own : Bool} (ha : PA X es (tA z W ar)) : PE X (.List es pos) (tE z W (mLst own ar)) := pe_imp (pe_lst ha) (by
  rintro σ H Q ⟨ρ, st, env, rs, re, h⟩
  refine ⟨ρ, st, env, rs, re, h.bind fun d1 s1 ρ1 H1 x e1 rs1 rv1 h1 => ?_⟩
  split at h1
  · rename_i hl
    exact ⟨by rw [← RVs.length rv1]; exact hl, h1.lst rs1 rv1⟩
  · exact h1.elim)
def newD (own : Bool) (kvs : List (Key × D)) (st : S) : R D := if own = true then .ok (.loc st.length) (st ++ [.dic kvs]) else .ok (.fd (kvs.map (·.1)) (kvs.map (·.2))) st
theorem Post.dic {own : Bool} {kvs : List (Key × D)} {ys : List (Key × V)} (h : Post z (RV z) ρ H (newD own kvs st) Q xw) (rs : RS z ρ st H) (k : ys.map (·.1) = kvs.map (·.1)) (r : RVs z ρ H (kvs.map (·.2)) (ys.map (·.2))) : ∀ p, H p = none → Q (.ref p) (upd H p (.dK ys)) := fun p hp => by
  unfold newD at h
  split at h
  · exact h.at (Ext.alloc hp) (rs.alloc (o := .dic kvs) hp ⟨ys, upd_same, k, r.ext (Ext.alloc hp)⟩) (rv_loc rs.last)
  · exact h.at (Ext.new hp) (rs.tup hp) (rv_fd ⟨.inl upd_same, rs.free hp, rs.nav hp⟩ k (r.ext (Ext.new hp)))
def mDnew (own : Bool) : ME := fun _ st => newD own [] st
theorem q_dnew {own : Bool} : PE X (.Dict [] [] pos) (tE z W (mDnew own)) := pe_imp pe_dnewK (by
  rintro σ H Q ⟨ρ, st, env, rs, re, h⟩
  exact Post.dic (own := own) (kvs := []) (ys := []) h rs rfl RVs.nil)
/-! built-in functions by values -/
def mCB (f : List D → S → R D) (ar : MA) : ME := fun env st => (ar env st).bind fun ds s1 => f ds s1
theorem s_cb {r : List V → Hp → VK → Prop} {f : List D → S → R D} (hr : VA z r f) : ∀ σ H Q, tE z W (mCB f ar) σ H Q → tCB r (tA z W ar) σ H Q := by
  rintro σ H Q ⟨ρ, st, env, rs, re, h⟩
  refine ⟨ρ, st, env, rs, re, h.bind fun d1 s1 ρ1 H1 x e1 rs1 rv1 h1 => ?_⟩
  exact hr ρ1 s1 H1 x d1 Q _ rs1 rv1 h1
theorem q_callB {x : Str} {id : String} {p : Pos} {e : Expr} {r : List V → Hp → VK → Prop} {f : List D → S → R D} (hc : CallR X (.builtin id) r) (hr : VA z r f) (hg : Gl X x) (hm : X.mg x = none) (hv : bootBuiltins x = some (.builtin id)) (ha : PA X (e :: es) (tA z W ar)) (hn : x ≠ "__name__" := by decide) (hdb : (x == ("__debug__" : Str)) = false := by decide)
    (he : starEach (e :: es) X.env = (false, eval e X.env) :: starEach es X.env := by rfl) (hpl : (backTo pos (starEach es X.env)).any (·.1) = false := by rfl) : PE X (.Call (.Name x p) (e :: es) [] pos) (tE z W (mCB f ar)) := pe_imp (pe_callB hc hg hm hv ha hn hdb he hpl) (s_cb hr)
theorem q_callTy {x : Str} {T : String} {p : Pos} {e : Expr} {r : List V → Hp → VK → Prop} {f : List D → S → R D} (hc : CallR X (.type T) r) (hr : VA z r f) (hg : Gl X x) (hm : X.mg x = none) (hv : bootBuiltins x = some (.type T)) (ha : PA X (e :: es) (tA z W ar)) (hn : x ≠ "__name__" := by decide) (hdb : (x == ("__debug__" : Str)) = false := by decide)
    (he : starEach (e :: es) X.env = (false, eval e X.env) :: starEach es X.env := by rfl) (hpl : (backTo pos (starEach es X.env)).any (·.1) = false := by rfl) : PE X (.Call (.Name x p) (e :: es) [] pos) (tE z W (mCB f ar)) := pe_imp (pe_callTy hc hg hm hv ha hn hdb he hpl) (s_cb hr)
theorem rvs1 {d : D} (h : RVs z ρ H [d] xs) : ∃ x, xs = [x] ∧ RV z ρ H d x := by
  unfold RVs at h
  obtain ⟨x, r, rfl, h1, h2⟩ := h
  unfold RVs at h2
  subst h2
  exact ⟨x, rfl, h1⟩
theorem rvs0 (h : RVs z ρ H [] xs) : xs = [] := by unfold RVs at h; exact h
theorem rvs2 {d e : D} (h : RVs z ρ H [d, e] xs) : ∃ x y, xs = [x, y] ∧ RV z ρ H d x ∧ RV z ρ H e y := by
  unfold RVs at h
  obtain ⟨x, r, rfl, h1, h2⟩ := h
  obtain ⟨y, rfl, h3⟩ := rvs1 h2
  exact ⟨x, y, rfl, h1, h3⟩
def fLen : List D → S → R D
  | [.str s], st => if s.length ≤ sizeLine then .ok (.int s.length) st else .bad
  | [d], st => match seqD st d with
    | some l => .ok (.int l.length) st
    | none => match dcD st d with
      | some l => .ok (.int l.length) st
      | none => .bad
  | _, _ => .bad
abbrev r_len (K : PySem.W.Frag) : List V → Hp → VK → Prop := fun xs H Q => qLen K xs H Q ∨ (∃ z, xs = [.str z] ∧ z.length ≤ sizeLine ∧ Q (.int z.length) H) ∨ (∃ a kvs, xs = [V.ref a] ∧ Rd H a (.dK kvs) ∧ Q (.int kvs.length) H)
theorem call_lenDR : CallR X (.builtin "len") (fun xs H Q => ∃ a kvs, xs = [V.ref a] ∧ Rd H a (.dK kvs) ∧ Q (.int kvs.length) H) := by
  intro pins s σ H xs us Q I r h
  obtain ⟨a, kvs, rfl, ha, q⟩ := h
  obtain ⟨u, rfl, ru⟩ := vals1 r
  cases ru
  exact d_len I ha fun t s' I' => ⟨.int kvs.length, H, I', ⟨t, rfl⟩, q⟩
theorem c_len' : CallR X (.builtin "len") (r_len X.K) := c_len.or (call_len_str.or call_lenDR)
theorem v_len : VA z (r_len z.K) fLen := by
  intro ρ st H xs ds Q xw rs h1 h
  unfold fLen at h
  split at h
  · obtain ⟨x, rfl, r⟩ := rvs1 h1
    split at h
    · rename_i hl
      exact .inr (.inl ⟨_, by rw [rvs r], hl, h.ok rs rv_int⟩)
    · exact h.elim
  · obtain ⟨x, rfl, r⟩ := rvs1 h1
    split at h
    · rename_i l e
      obtain ⟨a, ys, rfl, q, r⟩ := rs_seq rs e r
      refine .inl ⟨a, ys, rfl, q, ?_⟩
      rw [← r.length]
      exact h.ok rs rv_int
    · split at h
      · rename_i l e
        obtain ⟨a, ys, rfl, q1, q2, r1⟩ := dc_rv rs e r
        refine .inr (.inr ⟨a, ys, rfl, q1, ?_⟩)
        have : ys.length = l.length := by simpa using congrArg List.length q2
        rw [this]
        exact h.ok rs rv_int
      · exact h.elim
  · exact h.elim
def fInt : List D → S → R D
  | [.int i], st => .ok (.int i) st
  | [.bl b], st => .ok (.int (if b then 1 else 0)) st
  | _, _ => .bad
theorem v_int : VA z qInt1 fInt := by
  intro ρ st H xs ds Q xw rs h1 h
  unfold fInt at h
  split at h
  · obtain ⟨x, rfl, r⟩ := rvs1 h1
    exact .inl ⟨_, by rw [rvi r], h.ok rs rv_int⟩
  · obtain ⟨x, rfl, r⟩ := rvs1 h1
    exact .inr ⟨_, by rw [rvb r], h.ok rs rv_int⟩
  · exact h.elim
def fStr : List D → S → R D
  | [.int i], st => if i.natAbs.log2 < 1920 then .ok (.str (toString i)) st else .bad
  | [.str x], st => .ok (.str x) st
  | _, _ => .bad
abbrev r_str : List V → Hp → VK → Prop := fun xs H Q => (∃ i : Int, xs = [.int i] ∧ i.natAbs.log2 < 1920 ∧ Q (.str (toString i)) H) ∨ (∃ a, xs = [.str a] ∧ Q (.str a) H)
theorem c_str : CallR X (.type "str") r_str := call_str_int.or SkE.call_str_str
theorem v_str : VA z r_str fStr := by
  intro ρ st H xs ds Q xw rs h1 h
  unfold fStr at h
  split at h
  · obtain ⟨x, rfl, r⟩ := rvs1 h1
    split at h
    · rename_i e
      exact .inl ⟨_, by rw [rvi r], e, h.ok rs rv_str⟩
    · exact h.elim
  · obtain ⟨x, rfl, r⟩ := rvs1 h1
    exact .inr ⟨_, by rw [rvs r], h.ok rs rv_str⟩
  · exact h.elim
def fList (own : Bool) : List D → S → R D
  | [d], st => match seqD st d with
    | some l => newL own l st
    | none => .bad
  | _, _ => .bad
theorem v_list {own : Bool} : VA z (qListOf z.K) (fList own) := by
  intro ρ st H xs ds Q xw rs h1 h
  unfold fList at h
  split at h
  · obtain ⟨x, rfl, r⟩ := rvs1 h1
    split at h
    · rename_i l e
      obtain ⟨a, ys, rfl, q, r⟩ := rs_seq rs e r
      exact ⟨a, ys, rfl, q, h.lst rs r⟩
    · exact h.elim
  · exact h.elim
def fTuple : List D → S → R D
  | [d], st => match seqD st d with
    | some l => .ok (.tup l) st
    | none => .bad
  | _, _ => .bad
abbrev r_tuple (K : PySem.W.Frag) : List V → Hp → VK → Prop := fun xs H Q => ∃ p ys, xs = [.ref p] ∧ ((SqL K H p ys ∧ ∀ l, H l = none → Q (.ref l) (upd H l (.tup ys))) ∨ (SqT K H p ys ∧ Q (.ref p) H))
theorem v_tuple : VA z (r_tuple z.K) fTuple := by
  intro ρ st H xs ds Q xw rs h1 h
  unfold fTuple at h
  split at h
  · obtain ⟨x, rfl, r⟩ := rvs1 h1
    split at h
    · rename_i l e
      obtain ⟨a, ys, rfl, q, r⟩ := rs_seq rs e r
      rcases q with q | q
      · exact ⟨a, ys, rfl, .inl ⟨q, h.tup rs r⟩⟩
      · exact ⟨a, ys, rfl, .inr ⟨q, h.ok rs (rv_tup q r)⟩⟩
    · exact h.elim
  · exact h.elim
def blsD : List D → Option (List Bool)
  | [] => some []
  | .bl b :: l => (blsD l).map (b :: ·)
  | _ => none
theorem bls_rv : ∀ {l : List D} {xs : List V} {bs : List Bool}, blsD l = some bs → RVs z ρ H l xs → xs = bs.map V.bl
  | [], xs, bs, e, r => by cases e; exact rvs0 r
  | .bl b :: l, xs, bs, e, r => by
    have e' : (blsD l).map (b :: ·) = some bs := e
    obtain ⟨bs', e1, rfl⟩ := Option.map_eq_some_iff.mp e'
    unfold RVs at r
    obtain ⟨x, w, rfl, r1, r2⟩ := r
    rw [bls_rv e1 r2, rvb r1]
    rfl
  | .non :: _, _, _, e, _ => nomatch e
  | .int _ :: _, _, _, e, _ => nomatch e
  | .str _ :: _, _, _, e, _ => nomatch e
  | .ty _ :: _, _, _, e, _ => nomatch e
  | .tup _ :: _, _, _, e, _ => nomatch e
  | .loc _ :: _, _, _, e, _ => nomatch e
  | .fl _ :: _, _, _, e, _ => nomatch e
  | .sc _ :: _, _, _, e, _ => nomatch e
  | .tuf _ :: _, _, _, e, _ => nomatch e
  | .fd _ _ :: _, _, _, e, _ => nomatch e
  | .fo _ _ _ :: _, _, _, e, _ => nomatch e
def fAllAny (all : Bool) : List D → S → R D
  | [d], st => match lsD st d with
    | some l => match blsD l with
      | some bs => .ok (.bl (if all then bs.all id else bs.any id)) st
      | none => .bad
    | none => .bad
  | _, _ => .bad
theorem v_all : VA z (rAll z.K) (fAllAny true) := by
  intro ρ st H xs ds Q xw rs h1 h
  unfold fAllAny at h
  split at h
  · obtain ⟨x, rfl, r⟩ := rvs1 h1
    split at h
    · rename_i l e
      split at h
      · rename_i bs e2
        obtain ⟨a, ys, rfl, q1, r⟩ := ls_rv rs e r
        have := bls_rv e2 r
        subst this
        exact ⟨a, bs, rfl, SqL.of q1, h.ok rs rv_bl⟩
      · exact h.elim
    · exact h.elim
  · exact h.elim
theorem v_any : VA z (rAny z.K) (fAllAny false) := by
  intro ρ st H xs ds Q xw rs h1 h
  unfold fAllAny at h
  split at h
  · obtain ⟨x, rfl, r⟩ := rvs1 h1
    split at h
    · rename_i l e
      split at h
      · rename_i bs e2
        obtain ⟨a, ys, rfl, q1, r⟩ := ls_rv rs e r
        have := bls_rv e2 r
        subst this
        exact ⟨a, bs, rfl, SqL.of q1, h.ok rs rv_bl⟩
      · exact h.elim
    · exact h.elim
  · exact h.elim
def fAbs : List D → S → R D
  | [.int i], st => .ok (.int (if i < 0 then -i else i)) st
  | _, _ => .bad
theorem v_abs : VA z (fun xs H Q => ∃ i, xs = [.int i] ∧ Q (.int (if i < 0 then -i else i)) H) fAbs := by
  intro ρ st H xs ds Q xw rs h1 h
  unfold fAbs at h
  split at h
  · obtain ⟨x, rfl, r⟩ := rvs1 h1
    exact ⟨_, by rw [rvi r], h.ok rs rv_int⟩
  · exact h.elim
def fMax2 : List D → S → R D
  | [.int i, .int j], st => .ok (.int (if j > i then j else i)) st
  | _, _ => .bad
theorem v_max2 : VA z (fun xs H Q => ∃ i j, xs = [.int i, .int j] ∧ Q (.int (if j > i then j else i)) H) fMax2 := by
  intro ρ st H xs ds Q xw rs h1 h
  unfold fMax2 at h
  split at h
  · obtain ⟨x, y, rfl, r1, r2⟩ := rvs2 h1
    exact ⟨_, _, by rw [rvi r1, rvi r2], h.ok rs rv_int⟩
  · exact h.elim
def fMin2 : List D → S → R D
  | [.int i, .int j], st => .ok (.int (if j < i then j else i)) st
  | _, _ => .bad
theorem v_min2 : VA z (fun xs H Q => ∃ i j, xs = [.int i, .int j] ∧ Q (.int (if j < i then j else i)) H) fMin2 := by
  intro ρ st H xs ds Q xw rs h1 h
  unfold fMin2 at h
  split at h
  · obtain ⟨x, y, rfl, r1, r2⟩ := rvs2 h1
    exact ⟨_, _, by rw [rvi r1, rvi r2], h.ok rs rv_int⟩
  · exact h.elim
/-! isinstance -/
def tyD (st : S) : D → Option String
  | .non => some "NoneType"
  | .bl _ => some "bool"
  | .int _ => some "int"
  | .str _ => some "str"
  | .ty _ => none
  | .tup _ => some "tuple"
  | .fl _ => some "list"
  | .sc _ => some "list"
  | .tuf _ => some "tuple"
  | .fd _ _ => some "dict"
  | .fo _ _ _ => none
  | .loc n => match st[n]? with
    | some (.lst _) => some "list"
    | some (.dic _) => some "dict"
    | _ => none
theorem ty_rv {d : D} {t : String} (rs : RS z ρ st H) (e : tyD st d = some t) (r : RV z ρ H d x) : TyX z.K H x (.type t) := by
  cases d with
  | non => cases e; rw [rvn r]; exact .base .non
  | bl b => cases e; rw [rvb r]; exact .base (.bl _)
  | int b => cases e; rw [rvi r]; exact .base (.int _)
  | str b => cases e; rw [rvs r]; exact .base (.str _)
  | ty b => cases e
  | tup l =>
    cases e
    obtain ⟨a, xs, rfl, q, _⟩ := rvt r
    rcases q with (h | ⟨o, h⟩) | ⟨o, _, _, h, c, _⟩
    · exact .base (.tup h)
    · exact .fTuple h
    · exact .kTuple h c
  | fl l =>
    cases e
    obtain ⟨a, xs, rfl, q, _⟩ := rvf r
    exact .base (.lst q.1)
  | tuf l =>
    cases e
    obtain ⟨a, xs, rfl, q, _⟩ := rvtf r
    obtain ⟨o, h, _⟩ := q
    exact .fTuple h
  | sc l =>
    cases e
    obtain ⟨a, xs, rfl, q, _⟩ := rvc r
    rcases q with ⟨h | ⟨o, h⟩, _⟩ | ⟨o, _, _, h, c, _⟩
    · exact .base (.lst h)
    · exact .base (.frz h)
    · exact .kList h c
  | fd ks l =>
    cases e
    obtain ⟨a, xs, rfl, q, _⟩ := rvd r
    rcases q.1 with h | ⟨o, h⟩
    · exact .base (.dK h)
    · exact .fDict h
  | fo c ks l => cases e
  | loc n =>
    obtain ⟨a, q, rfl⟩ := rvl r
    have e' : (match st[n]? with | some (.lst _) => some "list" | some (.dic _) => some "dict" | _ => none) = some t := e
    split at e'
    · rename_i l e0
      cases e'
      obtain ⟨xs, h1, _⟩ := rs.obj n _ a e0 q
      exact .base (.lst h1)
    · rename_i l e0
      cases e'
      obtain ⟨xs, h1, _⟩ := rs.obj n _ a e0 q
      exact .base (.dK h1)
    · cases e'
/-- isinstance(x, c) of types that the tables know -/
def isiT (t c : String) : Option Bool :=
  if t ∈ ["NoneType", "bool", "int", "str", "tuple", "list", "dict"] ∧ c ∈ ["bool", "int", "str", "tuple", "list", "dict"] then some (t == c || (t == "bool" && c == "int")) else none
theorem isi_kit {t c : String} {b : Bool} (h : isiT t c = some b) : kitB t c = some b := by
  unfold isiT at h
  split at h
  · rename_i q
    obtain ⟨q1, q2⟩ := q
    simp only [List.mem_cons, List.not_mem_nil, or_false] at q1 q2
    have h := (Option.some.inj h).symm
    rcases q1 with rfl | rfl | rfl | rfl | rfl | rfl | rfl <;> rcases q2 with rfl | rfl | rfl | rfl | rfl | rfl <;> (subst h; decide +kernel)
  · cases h
def fIsi : List D → S → R D
  | [d, .ty c], st => match tyD st d with
    | some t => match isiT t c with
      | some b => .ok (.bl b) st
      | none => .bad
    | none => .bad
  | _, _ => .bad
theorem v_isi : VA z (rIsi z.K) fIsi := by
  intro ρ st H xs ds Q xw rs h1 h
  unfold fIsi at h
  split at h
  · obtain ⟨x, y, rfl, r1, r2⟩ := rvs2 h1
    rw [rvy r2]
    split at h
    · rename_i t e
      split at h
      · rename_i b e2
        exact ⟨x, .ty _, .type t, .type _, b, rfl, .ty _, ty_rv rs e r1, kit_ty (isi_kit e2), h.ok rs rv_bl⟩
      · exact h.elim
    · exact h.elim
  · exact h.elim
end
end Nn

namespace Nn
open PySem PySem.Spec PyProof.Rows L2 Lb
section
variable {X : Cx} {z : Zc} {W : WM} {ρ ρ' : List Addr} {st : S} {H H' : Hp} {v x y : V} {l m : List D} {xs ys : List V} {Q : VK} {xw : XW} {a b c e : Expr} {ma mb mc mo : ME} {mt mu : MT} {pos : Pos} {ar : MA} {es : List Expr}
/-! methods by values -/
def VM (z : Zc) (r : V → List V → Hp → VK → Prop) (f : D → List D → S → R D) : Prop := ∀ ρ st H x xs d ds Q xw, RS z ρ st H → RV z ρ H d x → RVs z ρ H ds xs → Post z (RV z) ρ H (f d ds st) Q xw → r x xs H Q
/-- a machine's small int -/
def okR (i : Int) : Bool := Nat.blt i.natAbs 4611686018427387904
theorem okR_of {i : Int} (h : okR i = true) : -(2 ^ 62) ≤ i ∧ i < 2 ^ 62 := by
  unfold okR at h
  rw [Nat.blt_eq] at h
  omega
theorem okR_mk {i : Int} (h1 : 0 ≤ i) (h2 : i ≤ 100000) : okR i = true := by
  unfold okR
  rw [Nat.blt_eq]
  omega
/-- of a list -/
def mBL (f : D → List D → S → R D) (mo : ME) (ar : MA) : ME := fun env st => (mo env st).bind fun o s1 => match o with
  | .loc n => match rdL s1 n with
    | some _ => (ar env s1).bind fun ds s2 => f o ds s2
    | none => .bad
  | _ => .bad
theorem s_bl {r : V → List V → Hp → VK → Prop} {f : D → List D → S → R D} (hr : VM z r f) : ∀ σ H Q, tE z W (mBL f mo ar) σ H Q → tBM z.K "list" r (tE z W mo) (tA z W ar) σ H Q := by
  rintro σ H Q ⟨ρ, st, env, rs, re, h⟩
  refine ⟨ρ, st, env, rs, re, h.bind fun d s1 ρ1 H1 x e1 rs1 rv1 h1 => ?_⟩
  split at h1
  · split at h1
    · rename_i l q0
      obtain ⟨p, p1, rfl⟩ := rvl rv1
      obtain ⟨ys, q1, _⟩ := rs1.rdL q0 p1
      exact ⟨.inl ⟨rfl, _, q1⟩, ρ1, s1, env, rs1, re.ext e1, h1.bind fun ds s2 ρ2 H2 vs e2 rs2 rv2 h2 => hr ρ2 s2 H2 _ vs _ ds Q _ rs2 (rv1.ext e2) rv2 h2⟩
    · exact h1.elim
  · exact h1.elim
theorem s_bl0 {r : V → List V → Hp → VK → Prop} {f : D → List D → S → R D} (hr : VM z r f) : ∀ σ H Q, tE z W (mBL f mo mNil) σ H Q → tBM0 z.K "list" r (tE z W mo) σ H Q := by
  rintro σ H Q ⟨ρ, st, env, rs, re, h⟩
  refine ⟨ρ, st, env, rs, re, h.bind fun d s1 ρ1 H1 x e1 rs1 rv1 h1 => ?_⟩
  split at h1
  · split at h1
    · rename_i l q0
      obtain ⟨p, p1, rfl⟩ := rvl rv1
      obtain ⟨ys, q1, _⟩ := rs1.rdL q0 p1
      exact ⟨.inl ⟨rfl, _, q1⟩, hr ρ1 s1 H1 _ [] _ [] Q _ rs1 rv1 RVs.nil h1⟩
    · exact h1.elim
  · exact h1.elim
theorem q_bl {name id : String} {cpos apos : Pos} {r : V → List V → Hp → VK → Prop} {f : D → List D → S → R D} (hz : z.K = X.K) (slot : Slot "list" name id) (hty : typeOf (.builtin id) = pure (.type "method_descriptor")) (hm : MtR X id r) (hr : VM z r f) (ho : PE X a (tE z W mo)) (ha : PA X (e :: es) (tA z W ar))
    (hbase : attributeBase a name X.env (eval a X.env) = eval a X.env := by rfl)
    (hfew : ((backTo cpos (starEach (e :: es) X.env)).all (fun x => !x.1) && (backToKw cpos (keywordEach [] X.env)).all (fun x => x.1.isSome)
      && decide ((e :: es).length + ([] : List Keyword).length + (if ([] : List Keyword).isEmpty then 0 else 1) < 30)) = true := by rfl)
    (hline : (apos.endLine == cpos.line) = true := by rfl) (hs : starEach (e :: es) X.env = (false, eval e X.env) :: starEach es X.env := by rfl) (hplain : (backTo cpos (starEach es X.env)).any (·.1) = false := by rfl) :
    PE X (.Call (.Attribute a name apos) (e :: es) [] cpos) (tE z W (mBL f mo ar)) := pe_imp (pe_bm PySem.F.plainAttrs_list slot hty hm ho ha hbase hfew hline hs hplain) (by rw [← hz]; exact s_bl hr)
theorem q_bl0 {name id : String} {cpos apos : Pos} {r : V → List V → Hp → VK → Prop} {f : D → List D → S → R D} (hz : z.K = X.K) (slot : Slot "list" name id) (hty : typeOf (.builtin id) = pure (.type "method_descriptor")) (hm : MtR X id r) (hr : VM z r f) (ho : PE X a (tE z W mo))
    (hbase : attributeBase a name X.env (eval a X.env) = eval a X.env := by rfl)
    (hline : (apos.endLine == cpos.line) = true := by rfl) :
    PE X (.Call (.Attribute a name apos) [] [] cpos) (tE z W (mBL f mo mNil)) := pe_imp (pe_bm0 PySem.F.plainAttrs_list slot hty hm ho hbase hline) (by rw [← hz]; exact s_bl0 hr)
/-- a list of the store that changes -/
theorem Post.put {n : Nat} {p : Addr} {l l' : List D} {xs xs' : List V} {d : D} {w : V} (h : Post z (RV z) ρ H (.ok d (st.set n (.lst l'))) Q xw) (rs : RS z ρ st H) (e0 : st[n]? = some (.lst l)) (e1 : ρ[n]? = some p) (he : H p = some (.lst xs)) (r : RVs z ρ H l' xs') (rw : RV z ρ H d w) : Q w (upd H p (.lst xs')) := by
  obtain ⟨e, rs'⟩ := rs.put_lst e0 e1 he r
  exact h.at e rs' (rw.ext e)
def fAppend : D → List D → S → R D
  | .loc n, [d], st => match st[n]? with
    | some (.lst l) => if l.length < sizeLine then .ok .non (st.set n (.lst (l ++ [d]))) else .bad
    | _ => .bad
  | _, _, _ => .bad
theorem v_append : VM z rAppend fAppend := by
  intro ρ st H x xs d ds Q xw rs h1 h2 h
  unfold fAppend at h
  split at h
  · split at h
    · rename_i l e
      split at h
      · rename_i hl
        obtain ⟨y, rfl, r⟩ := rvs1 h2
        obtain ⟨p, p1, rfl⟩ := rvl h1
        obtain ⟨ys, q1, r1⟩ := rs.lst e p1
        exact ⟨p, ys, y, rfl, rfl, q1, by rw [← r1.length]; exact hl, h.put rs e p1 q1 (r1.append (RVs.cons r RVs.nil)) rv_non⟩
      · exact h.elim
    · exact h.elim
  · exact h.elim
abbrev rInsert : V → List V → Hp → VK → Prop := fun x vs H Q => ∃ (l : Addr) (xs : List V) (i : Int) (y : V), x = .ref l ∧ vs = [.int i, y] ∧ H l = some (.lst xs) ∧ xs.length < sizeLine ∧ 0 ≤ i ∧ i < 2 ^ 63 ∧
    Q .non (upd H l (.lst (xs.take i.toNat ++ [y] ++ xs.drop i.toNat)))
def fInsert : D → List D → S → R D
  | .loc n, [.int i, d], st => match st[n]? with
    | some (.lst l) => if l.length < sizeLine ∧ 0 ≤ i ∧ okR i = true then .ok .non (st.set n (.lst (l.take i.toNat ++ [d] ++ l.drop i.toNat))) else .bad
    | _ => .bad
  | _, _, _ => .bad
theorem v_insert : VM z rInsert fInsert := by
  intro ρ st H x xs d ds Q xw rs h1 h2 h
  unfold fInsert at h
  split at h
  · split at h
    · rename_i l e
      split at h
      · rename_i hl
        obtain ⟨y1, y, rfl, r0, r⟩ := rvs2 h2
        rw [rvi r0]
        obtain ⟨p, p1, rfl⟩ := rvl h1
        obtain ⟨ys, q1, r1⟩ := rs.lst e p1
        exact ⟨p, ys, _, y, rfl, rfl, q1, by rw [← r1.length]; exact hl.1, hl.2.1, by have := okR_of hl.2.2; omega, h.put rs e p1 q1 (((r1.take _).append (RVs.cons r RVs.nil)).append (r1.drop _)) rv_non⟩
      · exact h.elim
    · exact h.elim
  · exact h.elim
def fPop : D → List D → S → R D
  | .loc n, [], st => match st[n]? with
    | some (.lst l) => match l[l.length - 1]? with
      | some d => .ok d (st.set n (.lst l.dropLast))
      | none => .bad
    | _ => .bad
  | _, _, _ => .bad
theorem v_pop : VM z rPop fPop := by
  intro ρ st H x xs d ds Q xw rs h1 h2 h
  unfold fPop at h
  split at h
  · split at h
    · rename_i l e
      split at h
      · rename_i d e2
        obtain rfl := rvs0 h2
        obtain ⟨p, p1, rfl⟩ := rvl h1
        obtain ⟨ys, q1, r1⟩ := rs.lst e p1
        obtain ⟨w, w1, w2⟩ := r1.get e2
        have r3 := r1.take (l.length - 1)
        rw [← List.dropLast_eq_take, r1.length, ← List.dropLast_eq_take] at r3
        exact ⟨p, ys, w, rfl, rfl, q1, by rw [← r1.length]; exact w1, h.put rs e p1 q1 r3 w2⟩
      · exact h.elim
    · exact h.elim
  · exact h.elim
def fPopAt : D → List D → S → R D
  | .loc n, [.int i], st => match st[n]? with
    | some (.lst l) => match seqIndex? i l.length with
      | some k => match l[k]? with
        | some d => if okR i = true then .ok d (st.set n (.lst (l.eraseIdx k))) else .bad
        | none => .bad
      | none => .bad
    | _ => .bad
  | _, _, _ => .bad
theorem v_popAt : VM z rPopAt fPopAt := by
  intro ρ st H x xs d ds Q xw rs h1 h2 h
  unfold fPopAt at h
  split at h
  · split at h
    · rename_i l e
      split at h
      · rename_i k e1
        split at h
        · rename_i d e2
          split at h
          · rename_i hb
            obtain ⟨y, rfl, r0⟩ := rvs1 h2
            rw [rvi r0]
            obtain ⟨p, p1, rfl⟩ := rvl h1
            obtain ⟨ys, q1, r1⟩ := rs.lst e p1
            obtain ⟨w, w1, w2⟩ := r1.get e2
            exact ⟨p, ys, _, k, w, rfl, rfl, q1, by have := okR_of hb; omega, by have := okR_of hb; omega, by rw [← r1.length]; exact e1, w1, h.put rs e p1 q1 (r1.eraseIdx k) w2⟩
          · exact h.elim
        · exact h.elim
      · exact h.elim
    · exact h.elim
  · exact h.elim
def fReverse : D → List D → S → R D
  | .loc n, [], st => match st[n]? with
    | some (.lst l) => .ok .non (st.set n (.lst l.reverse))
    | _ => .bad
  | _, _, _ => .bad
theorem v_reverse : VM z rReverse fReverse := by
  intro ρ st H x xs d ds Q xw rs h1 h2 h
  unfold fReverse at h
  split at h
  · split at h
    · rename_i l e
      obtain rfl := rvs0 h2
      obtain ⟨p, p1, rfl⟩ := rvl h1
      obtain ⟨ys, q1, r1⟩ := rs.lst e p1
      exact ⟨p, ys, rfl, rfl, q1, h.put rs e p1 q1 r1.reverse rv_non⟩
    · exact h.elim
  · exact h.elim
def fExtend : D → List D → S → R D
  | .loc n, [.loc k], st => match st[n]?, st[k]? with
    | some (.lst l), some (.lst m) => if l.length + m.length ≤ sizeLine then .ok .non (st.set n (.lst (l ++ m))) else .bad
    | _, _ => .bad
  | _, _, _ => .bad
theorem v_extend : VM z rExtend fExtend := by
  intro ρ st H x xs d ds Q xw rs h1 h2 h
  unfold fExtend at h
  split at h
  · split at h
    · rename_i l m e e2
      split at h
      · rename_i hl
        obtain ⟨y, rfl, r⟩ := rvs1 h2
        obtain ⟨p, p1, rfl⟩ := rvl h1
        obtain ⟨p', p1', rfl⟩ := rvl r
        obtain ⟨ys, q1, r1⟩ := rs.lst e p1
        obtain ⟨zs, q2, r2⟩ := rs.lst e2 p1'
        exact ⟨p, p', ys, zs, rfl, rfl, q1, q2, by rw [← r1.length, ← r2.length]; exact hl, h.put rs e p1 q1 (r1.append r2) rv_non⟩
      · exact h.elim
    · exact h.elim
  · exact h.elim
/-- the first place of what is equal -/
def fiD (l : List D) (d : D) : Option Nat := l.findIdx? fun e => eqF e d
theorem fiD_some {d : D} {j : Nat} (h : fiD l d = some j) : (∃ e, l[j]? = some e ∧ eqF e d = true) ∧ ∀ (m : Nat) e, m < j → l[m]? = some e → eqF e d = false := by
  unfold fiD at h
  rw [List.findIdx?_eq_some_iff_getElem] at h
  obtain ⟨h1, h2, h3⟩ := h
  refine ⟨⟨l[j], List.getElem?_eq_getElem h1, h2⟩, fun m e hm he => ?_⟩
  have := h3 m hm
  rw [List.getElem?_eq_getElem (by omega)] at he
  cases he
  simpa using this
theorem fi_rv {d : D} {j : Nat} (fd : flat d = true) (fl : l.all flat = true) (hd : RV z ρ H d x) (r : RVs z ρ H l xs) (h : fiD l d = some j) :
    (∃ w, xs[j]? = some w ∧ eqV w x = true) ∧ ∀ (m : Nat) w, m < j → xs[m]? = some w → eqV w x = false := by
  obtain ⟨⟨e, e1, e2⟩, e3⟩ := fiD_some h
  have fl' : ∀ e ∈ l, flat e = true := by simpa using fl
  obtain ⟨w, w1, w2⟩ := r.get e1
  refine ⟨⟨w, w1, ?_⟩, fun m w' hm hw => ?_⟩
  · rw [eqF_rv (fl' e (List.mem_of_getElem? e1)) fd w2 hd]
    exact e2
  · have hml : m < l.length := by
      have := (List.getElem?_eq_some_iff.mp hw).1
      rw [← r.length] at this
      exact this
    have q := List.getElem?_eq_getElem hml
    rw [eqF_rv (fl' _ (List.mem_of_getElem? q)) fd (r.at q hw) hd]
    exact e3 m _ hm q
/-- the texts of a row -/
def strsD : List D → Option (List Str)
  | [] => some []
  | .str s :: l => (strsD l).map (s :: ·)
  | _ => none
theorem strs_rv : ∀ {l : List D} {xs : List V} {ys : List Str}, strsD l = some ys → RVs z ρ H l xs → xs = ys.map V.str ∧ l = ys.map D.str
  | [], xs, bs, e, r => by cases e; exact ⟨rvs0 r, rfl⟩
  | .str b :: l, xs, bs, e, r => by
    have e' : (strsD l).map (b :: ·) = some bs := e
    obtain ⟨bs', e1, rfl⟩ := Option.map_eq_some_iff.mp e'
    unfold RVs at r
    obtain ⟨x, w, rfl, r1, r2⟩ := r
    obtain ⟨i1, i2⟩ := strs_rv e1 r2
    rw [i1, rvs r1, i2]
    exact ⟨rfl, rfl⟩
  | .non :: _, _, _, e, _ => nomatch e
  | .int _ :: _, _, _, e, _ => nomatch e
  | .bl _ :: _, _, _, e, _ => nomatch e
  | .ty _ :: _, _, _, e, _ => nomatch e
  | .tup _ :: _, _, _, e, _ => nomatch e
  | .loc _ :: _, _, _, e, _ => nomatch e
  | .fl _ :: _, _, _, e, _ => nomatch e
  | .sc _ :: _, _, _, e, _ => nomatch e
  | .fd _ _ :: _, _, _, e, _ => nomatch e
  | .fo _ _ _ :: _, _, _, e, _ => nomatch e
def fIndexT (l : List D) : D → S → R D
  | .str x, st => match strsD l with
    | some ys => match ys.findIdx? (fun y => decide (y = x)) with
      | some j => .ok (.int (j : Nat)) st
      | none => .bad
    | none => .bad
  | _, _ => .bad
def fIndexL (o d : D) (st : S) : R D := match lsD st o with
  | some l => if flat d && l.all flat then match fiD l d with
    | some j => .ok (.int (j : Nat)) st
    | none => .bad else .bad
  | none => .bad
def mIndex (mo mb : ME) : ME := fun env st => (mo env st).bind fun o s1 => match o with
  | .tuf l => (mb env s1).bind fun d s2 => fIndexT l d s2
  | o => match lsD s1 o with
    | some _ => (mb env s1).bind fun d s2 => fIndexL o d s2
    | none => .bad
theorem type_tuple_index : typeOf (.builtin "tuple.index") = pure (.type "method_descriptor") := by show builtinType _ = _; rw [builtinType_eq_fast]; kernel_rfl
/-- what the method's call asks of a tuple that has no dict -/
def tBMT (r : V → List V → Hp → VK → Prop) (to : TE) (t : TA) : TE := fun σ H Q => to σ H fun x H1 => (∃ (p : Addr) (o : Obj) (xs : List V), x = .ref p ∧ H1 p = some (.frz o (.tup xs)) ∧ o.dict = none) ∧ t σ H1 fun xs H2 => r x xs H2 Q
theorem pe_bmT {o : Expr} {to : TE} {t : TA} {name : Str} {apos cpos : Pos} {id : String} {r : V → List V → Hp → VK → Prop} (slot : Slot "tuple" name id) (hty : typeOf (.builtin id) = pure (.type "method_descriptor")) (hm : MtR X id r) (ho : PE X o to) (ha : PA X (e :: es) t)
    (hbase : attributeBase o name X.env (eval o X.env) = eval o X.env := by rfl)
    (hfew : ((backTo cpos (starEach (e :: es) X.env)).all (fun x => !x.1) && (backToKw cpos (keywordEach [] X.env)).all (fun x => x.1.isSome)
      && decide ((e :: es).length + ([] : List Keyword).length + (if ([] : List Keyword).isEmpty then 0 else 1) < 30)) = true := by rfl)
    (hline : (apos.endLine == cpos.line) = true := by rfl) (hs : starEach (e :: es) X.env = (false, eval e X.env) :: starEach es X.env := by rfl) (hplain : (backTo cpos (starEach es X.env)).any (·.1) = false := by rfl) :
    PE X (.Call (.Attribute o name apos) (e :: es) [] cpos) (tBMT r to t) := by
  refine ⟨fun pins s σ H Q I h => ?_⟩
  refine wpAny_Call_method_late hbase hfew hline rfl (thn (ho.run pins s σ H _ I h) fun v s1 ⟨x, H1, I1, r1, ty, q1⟩ => ?_)
  obtain ⟨p, ob, xs, rfl, e1, e2⟩ := ty
  cases r1
  have ok : ObjOk X.prog X.w H1 s1.heap p (.frz ob (.tup xs)) := I1.hok p _ e1
  obtain ⟨g1, _, its, _, g2⟩ := ok
  refine ⟨"tuple", id, PySem.F.plainAttrs_tuple, slot, hty, ?_, fun a e => ?_, ?_⟩
  · obtain ⟨o', k1, k2, _⟩ := g2
    exact ⟨o', k1, k2⟩
  · cases e
    exact ⟨ob, g1, e2⟩
  have hA := ha.run cpos pins s1 σ H1 _ I1 q1
  rw [hs] at hA ⊢
  refine Calls.callWith_builtin (by show (false || (backTo cpos (starEach es X.env)).any (·.1)) = false; rw [hplain] <;> rfl) (Calls.evalArgs_plain ?_)
  exact thn hA fun us s2 ⟨vs, H2, I2, r2, q2⟩ => hm pins s2 σ H2 (.ref p) vs (.ref p) us Q I2 rfl r2 q2
/-- xs.index(y), t.index(y) -/
theorem q_index {cpos apos : Pos} (hz : z.K = X.K) (ho : PE X a (tE z W mo)) (he : PE X e (tE z W mb))
    (hbase : attributeBase a "index" X.env (eval a X.env) = eval a X.env := by rfl)
    (hfew : ((backTo cpos (starEach [e] X.env)).all (fun x => !x.1) && (backToKw cpos (keywordEach [] X.env)).all (fun x => x.1.isSome)
      && decide ([e].length + ([] : List Keyword).length + (if ([] : List Keyword).isEmpty then 0 else 1) < 30)) = true := by rfl)
    (hline : (apos.endLine == cpos.line) = true := by rfl) (hs : starEach [e] X.env = (false, eval e X.env) :: starEach [] X.env := by rfl) (hplain : (backTo cpos (starEach [] X.env)).any (·.1) = false := by rfl) :
    PE X (.Call (.Attribute a "index" apos) [e] [] cpos) (tE z W (mIndex mo mb)) := by
  have h1 := pe_bm PySem.F.plainAttrs_list PySem.F.slot_list_index PySem.F.type_list_index (mt_index (X := X)) ho (pa_cons he pa_nil hs) hbase hfew hline hs hplain
  have h2 := pe_bmT PySem.F.slot_tuple_index type_tuple_index (mt_tup_index (X := X)) ho (pa_cons he pa_nil hs) hbase hfew hline hs hplain
  refine pe_or h1 h2 ?_
  rintro σ H Q ⟨ρ, st, env, rs, re, h⟩
  by_cases q : ∃ l s1, mo env st = .ok (.tuf l) s1
  · obtain ⟨l, s1, q⟩ := q
    unfold mIndex at h
    rw [q] at h
    refine .inr ⟨ρ, st, env, rs, re, ?_⟩
    rw [q]
    intro ρ1 H1 x e1 rs1 rv1
    obtain ⟨p, xs, rfl, tq, r⟩ := rvtf rv1
    obtain ⟨o, t1, t2, t3⟩ := tq
    refine ⟨⟨p, o, xs, rfl, t1, t2⟩, ρ1, s1, env, rs1, re.ext e1, Post.bind (Post.mono h e1) fun d s2 ρ2 H2 y e2 rs2 rv2 h2 => ?_⟩
    unfold fIndexT at h2
    split at h2
    · split at h2
      · rename_i ys ey
        split at h2
        · rename_i j ej
          obtain ⟨rfl, _⟩ := strs_rv ey (r.ext e2)
          rw [List.findIdx?_eq_some_iff_getElem] at ej
          obtain ⟨k1, k2, k3⟩ := ej
          refine ⟨p, ys, _, j, rfl, by rw [rvs rv2], hz ▸ (FzT.sq (e2.fzt ⟨o, t1, t2, t3⟩)), ?_, fun m hm em => ?_, h2.ok rs2 rv_int⟩
          · rw [List.getElem?_eq_getElem k1, of_decide_eq_true k2]
          · have := k3 m hm
            rw [List.getElem?_eq_getElem (by omega)] at em
            cases em
            simp at this
        · exact h2.elim
      · exact h2.elim
    · exact h2.elim
  · refine .inl ⟨ρ, st, env, rs, re, Post.bindE h fun o s1 ρ1 H1 x eo e1 rs1 rv1 h1 => ?_⟩
    split at h1
    · rename_i l
      exact absurd ⟨l, s1, eo⟩ q
    · split at h1
      · rename_i l el
        obtain ⟨p, xs, rfl, hx, r⟩ := ls_rv rs1 el rv1
        refine ⟨.inl ⟨rfl, xs, SqL.of hx⟩, ρ1, s1, env, rs1, re.ext e1, h1.bind fun d s2 ρ2 H2 y e2 rs2 rv2 h2 => ?_⟩
        unfold fIndexL at h2
        split at h2
        · rename_i l2 el2
          obtain ⟨p2, xs2, ep, hx2, r2⟩ := ls_rv rs2 el2 (rv1.ext e2)
          cases ep
          split at h2
          · rename_i hf
            rw [Bool.and_eq_true] at hf
            split at h2
            · rename_i j ej
              obtain ⟨⟨w, w1, w2⟩, w3⟩ := fi_rv hf.1 hf.2 rv2 r2 ej
              exact ⟨p, xs2, y, j, w, rfl, rfl, SqL.of hx2, flat_rv hf.1 rv2, flats_rv hf.2 r2, w1, w2, w3, h2.ok rs2 rv_int⟩
            · exact h2.elim
          · exact h2.elim
        · exact h2.elim
      · exact h1.elim
/-- xs.remove(y) of flat items, y there -/
def rRemF : V → List V → Hp → VK → Prop := fun x vs H Q => ∃ (l : Addr) (xs : List V) (y : V) (j : Nat) (w : V), x = .ref l ∧ vs = [y] ∧ H l = some (.lst xs) ∧ flatV y = true ∧ xs.all flatV = true ∧ xs[j]? = some w ∧ eqV w y = true ∧
  (∀ (m : Nat) w', m < j → xs[m]? = some w' → eqV w' y = false) ∧ Q .non (upd H l (.lst (xs.eraseIdx j)))
theorem mt_removeF : MtM X "list.remove" rRemF := by
  intro pins s σ H x vs v us Q I rx rvv h
  obtain ⟨l, xs, y, j, w, rfl, rfl, hH, fy, fx, hj, ej, hno, q⟩ := h
  cases rx
  obtain ⟨u, rfl, ru⟩ := rvv.one
  obtain ⟨hsz, its, n, r, hl, e⟩ := I.lstM hH
  have hvl := r.length
  have fx' : ∀ e ∈ xs, flatV e = true := by simpa using fx
  have hjn : j < xs.length := (List.getElem?_eq_some_iff.mp hj).1
  have hjl : j < its.toArray.size := by rw [List.size_toArray]; omega
  have at_ : ∀ (m : Nat) (c : V), xs[m]? = some c → ∃ h : m < its.toArray.size, RelV c its.toArray[m] := fun m c hm => by
    obtain ⟨w', hw, rw'⟩ := r.get hm
    obtain ⟨g1, g2⟩ := List.getElem?_eq_some_iff.mp hw
    exact ⟨by rw [List.size_toArray]; exact g1, by rw [List.getElem_toArray, g2]; exact rw'⟩
  refine call_meets PySem.F.slot_list_remove ⟨_, e, rfl⟩ PySem.F.entry_list_remove (PySem.F.args_list_remove_2 _ _)
    (SeqAt.list_removeAt l its.toArray n _ _ u (eqU y) j hjl ?_ ?_ (by rw [List.size_toArray]; omega)) ⟨e, fun c hc => mem_eqAt ru fy r fx c (by simpa using hc), ?_⟩
  · obtain ⟨g1, g2⟩ := at_ j w hj
    rw [eqU_of g2 (fx' _ (List.mem_of_getElem? hj)), ej]
  · intro m hm hmj
    have hmk := List.getElem?_eq_getElem (show m < xs.length by omega)
    obtain ⟨g1, g2⟩ := at_ m _ hmk
    rw [eqU_of g2 (fx' _ (List.mem_of_getElem? hmk)), hno m _ hmj hmk]
  · refine ⟨.non, _, I.lset (its' := its.eraseIdx j) (t' := s.toks) hH e ?_ (r.eraseIdx j) ?_, rfl, q⟩
    · show its.toArray.eraseIdxIfInBounds j = (its.eraseIdx j).toArray
      exact List.eraseIdxIfInBounds_toArray ..
    · have := List.length_eraseIdx_le (l := xs) (i := j)
      omega
def fRemove : D → List D → S → R D
  | .loc n, [d], st => match st[n]? with
    | some (.lst l) => if flat d && l.all flat then match fiD l d with
      | some j => .ok .non (st.set n (.lst (l.eraseIdx j)))
      | none => .bad else .bad
    | _ => .bad
  | _, _, _ => .bad
theorem v_remove : VM z rRemF fRemove := by
  intro ρ st H x xs d ds Q xw rs h1 h2 h
  unfold fRemove at h
  split at h
  · split at h
    · rename_i l e
      split at h
      · rename_i hf
        rw [Bool.and_eq_true] at hf
        split at h
        · rename_i j ej
          obtain ⟨y, rfl, r⟩ := rvs1 h2
          obtain ⟨p, p1, rfl⟩ := rvl h1
          obtain ⟨ys, q1, r1⟩ := rs.lst e p1
          obtain ⟨⟨w, w1, w2⟩, w3⟩ := fi_rv hf.1 hf.2 r r1 ej
          exact ⟨p, ys, y, j, w, rfl, rfl, q1, flat_rv hf.1 r, flats_rv hf.2 r1, w1, w2, w3, h.put rs e p1 q1 (r1.eraseIdx j) rv_non⟩
        · exact h.elim
      · exact h.elim
    · exact h.elim
  · exact h.elim
end
/-! ### statements -/
section
variable {X : Cx} {z : Zc} {W : WM} {ρ ρ' : List Addr} {H H' : Hp} {a b c e tg : Expr} {ma mb mc mo : ME} {mt mu : MT} {pos : Pos} {s1 s2 : Stmt} {ss : List Stmt} {g : MG} {ms mr : MS}
def mNext : MS := fun env st => .nx env st
def mSeq (p q : MS) : MS := fun env st => (p env st).bindN q
def mAsg (m : ME) (g : MG) : MS := fun env st => (m env st).bindS env fun d s1 => match g d env s1 with
  | .ok env' s2 => .nx env' s2
  | _ => .bad
def gNm (i : Nat) : MG := fun d env st => .ok (env.put i (some d)) st
def mRet (m : ME) : MS := fun env st => (m env st).bindS env fun d s1 => .rt d s1
def mRetN : MS := fun _ st => .rt .non st
def mDrop (m : ME) : MS := fun env st => (m env st).bindS env fun _ s1 => .nx env s1
def mBrk : MS := fun env st => .bk env st
def mCnt : MS := fun env st => .ct env st
def mIfS (t : MT) (p q : MS) : MS := fun env st => (t env st).bindS env fun c s1 => if c = true then p env s1 else q env s1
def mNever : MS := fun _ _ => .bad
theorem s_seq : ∀ D σ H, tS z W (mSeq ms mr) D σ H → tSeq (tS z W ms) (tS z W mr) D σ H := by
  rintro D σ H ⟨ρ, st, env, rs, re, h⟩
  refine ⟨ρ, st, env, rs, re, ?_⟩
  unfold mSeq at h
  cases q : ms env st with
  | nx env1 st1 =>
    rw [q] at h
    intro ρ1 H1 σ1 e1 rs1 re1
    exact ⟨ρ1, st1, env1, rs1, re1, PostS.mono h e1⟩
  | rt d s => rw [q] at h; exact h
  | bk d s => rw [q] at h; exact h
  | ct d s => rw [q] at h; exact h
  | ex c f d s => rw [q] at h; exact h
  | bad => rw [q] at h; exact h
theorem qs_nil : PSs X [] (tS z W mNext) := pss_imp pss_nil fun D σ H ⟨ρ, st, env, rs, re, h⟩ => h ρ H σ Ext.refl rs re
theorem qs_cons (h1 : PS X s1 (tS z W ms)) (h2 : PSs X ss (tS z W mr)) : PSs X (s1 :: ss) (tS z W (mSeq ms mr)) := pss_imp (pss_cons h1 h2) s_seq
theorem qs_one (h1 : PS X s1 (tS z W ms)) : PSs X [s1] (tS z W ms) := pss_one h1
theorem q_pass : PS X (.Pass pos) (tS z W mNext) := ps_imp ps_pass fun D σ H ⟨ρ, st, env, rs, re, h⟩ => h ρ H σ Ext.refl rs re
theorem q_break : PS X (.Break pos) (tS z W mBrk) := ps_imp ps_break fun D σ H ⟨ρ, st, env, rs, re, h⟩ => h ρ H σ Ext.refl rs re
theorem q_continue : PS X (.Continue pos) (tS z W mCnt) := ps_imp ps_continue fun D σ H ⟨ρ, st, env, rs, re, h⟩ => h ρ H σ Ext.refl rs re
theorem q_never : PS X s1 (tS z W mNever) := ps_imp ps_never fun D σ H ⟨ρ, st, env, rs, re, h⟩ => h
theorem s_asg : ∀ D σ H, tS z W (mAsg ma g) D σ H → tAsg (tE z W ma) (tG z g) D σ H := by
  rintro D σ H ⟨ρ, st, env, rs, re, h⟩
  refine ⟨ρ, st, env, rs, re, Post.bindS h re fun d s1 ρ1 H1 x e1 rs1 rv1 h1 => ⟨ρ1, s1, env, d, rs1, re.ext e1, rv1, ?_⟩⟩
  cases q : g d env s1 with
  | ok env' s2 =>
    rw [q] at h1
    exact h1
  | ex c f s => rw [q] at h1; exact h1.elim
  | bad => rw [q] at h1; exact h1.elim
theorem s_gnm {i : Nat} : ∀ v σ H Q, tG z (gNm i) v σ H Q → gName i v σ H Q := by
  rintro v σ H Q ⟨ρ, st, env, d, rs, re, rv, h⟩
  exact Post.ok (rel := RE z) (a := env.put i (some d)) h rs (re.set rv i)
theorem q_set {i : Nat} {x : Str} {pos' : Pos} (hN : X.N.Nodup) (hi : X.N[i]? = some x) (hx : Loc X.env.scope x) (he : PE X e (tE z W ma)) (hs : swapsWith e (some (.Name x pos')) pos.line X.env = pure false := by rfl) (hf : X.fn x = true ∨ X.env.scope.names.lookup x = some .local := by first | exact .inl rfl | exact .inr rfl | assumption) :
    PS X (.Assign [.Name x pos'] e pos) (tS z W (mAsg ma (gNm i))) := ps_imp (ps_set hN hi hx he hs hf) fun D σ H h => by
  obtain ⟨ρ, st, env, rs, re, h⟩ := h
  refine ⟨ρ, st, env, rs, re, Post.bindS h re fun d s1 ρ1 H1 x e1 rs1 rv1 h1 => ?_⟩
  exact h1 ρ1 H1 _ Ext.refl rs1 ((re.ext e1).set rv1 i)
theorem q_asg (he : PE X e (tE z W ma)) (hg : PG X tg (tG z g)) (hs : swapsWithSole [tg] e pos.line X.env = pure false := by rfl) (hw : swappedStores [tg] e X.env = pure none := by rfl)
    (h1 : (assignEach [tg] X.env).map (·.2) = [assign tg X.env] := by rfl) : PS X (.Assign [tg] e pos) (tS z W (mAsg ma g)) := ps_imp (ps_asg he hg hs hw h1) s_asg
theorem q_ret (he : PE X e (tE z W ma)) : PS X (.Return (some e) pos) (tS z W (mRet ma)) := ps_imp (ps_ret he) fun D σ H ⟨ρ, st, env, rs, re, h⟩ =>
  ⟨ρ, st, env, rs, re, Post.bindS h re fun d s1 ρ1 H1 x e1 rs1 rv1 h1 => h1 ρ1 H1 x Ext.refl rs1 rv1⟩
theorem q_retN : PS X (.Return none pos) (tS z W mRetN) := ps_imp ps_retN fun D σ H ⟨ρ, st, env, rs, re, h⟩ => h ρ H .non Ext.refl rs rv_non
theorem q_expr (he : PE X e (tE z W ma)) (hs : swapsWith e none pos.line X.env = pure false := by rfl) : PS X (.Expr e pos) (tS z W (mDrop ma)) := ps_imp (ps_expr he hs) fun D σ H ⟨ρ, st, env, rs, re, h⟩ =>
  ⟨ρ, st, env, rs, re, Post.bindS h re fun d s1 ρ1 H1 x e1 rs1 rv1 h1 => h1 ρ1 H1 σ Ext.refl rs1 (re.ext e1)⟩
theorem q_if {p q : List Stmt} (hc : PT X c (tT z W mt)) (ha : PSs X p (tS z W ms)) (hb : PSs X q (tS z W mr)) : PS X (.If c p q pos) (tS z W (mIfS mt ms mr)) := ps_imp (ps_if hc ha hb) fun D σ H ⟨ρ, st, env, rs, re, h⟩ =>
  ⟨ρ, st, env, rs, re, Post.bindS h re fun d s1 ρ1 H1 x e1 rs1 rv1 h1 => by
    cases rv1
    cases d with
    | true => exact ⟨ρ1, s1, env, rs1, re.ext e1, h1⟩
    | false => exact ⟨ρ1, s1, env, rs1, re.ext e1, h1⟩⟩
/-! targets -/
abbrev MGs := List D → Ev → S → R Ev
def tGs (z : Zc) (m : MGs) : TGs := fun vs σ H Q => ∃ ρ st env ds, RS z ρ st H ∧ RE z ρ H env σ ∧ RVs z ρ H ds vs ∧ Post z (RE z) ρ H (m ds env st) Q (fun _ _ _ _ _ => False)
def gNl : MGs := fun ds env st => match ds with
  | [] => .ok env st
  | _ => .bad
def gCn (g : MG) (r : MGs) : MGs := fun ds env st => match ds with
  | d :: l => (g d env st).bind fun env' s1 => r l env' s1
  | [] => .bad
def gTp (n : Nat) (r : MGs) : MG := fun d env st => match d with
  | .tup l => if l.length = n then r l env st else .bad
  | _ => .bad
theorem s_gnl : ∀ vs σ H Q, tGs z gNl vs σ H Q → gNil vs σ H Q := by
  rintro vs σ H Q ⟨ρ, st, env, ds, rs, re, rv, h⟩
  unfold gNl at h
  split at h
  · exact ⟨rvs0 rv, h.ok rs re⟩
  · exact h.elim
theorem s_gcn {r : MGs} {t : TG} {u : TGs} (hg : ∀ v σ H Q, tG z g v σ H Q → t v σ H Q) (hr : ∀ vs σ H Q, tGs z r vs σ H Q → u vs σ H Q) (tm : ∀ v σ H Q Q', t v σ H Q → (∀ σ' H', Q σ' H' → Q' σ' H') → t v σ H Q') : ∀ vs σ H Q, tGs z (gCn g r) vs σ H Q → gCons t u vs σ H Q := by
  rintro vs σ H Q ⟨ρ, st, env, ds, rs, re, rv, h⟩
  unfold gCn at h
  split at h
  · rename_i d l
    unfold RVs at rv
    obtain ⟨x, w, rfl, r1, r2⟩ := rv
    refine ⟨x, w, rfl, tm _ _ _ _ _ (hg x σ H _ ⟨ρ, st, env, d, rs, re, r1, h.bind (rel := RE z) (P := fun σ1 H1 => tGs z r w σ1 H1 Q) fun env1 s1 ρ1 H1 σ1 e1 rs1 re1 h1 => ⟨ρ1, s1, env1, l, rs1, re1, r2.ext e1, h1⟩⟩) fun σ' H' q => hr _ _ _ _ q⟩
  · exact h.elim
theorem s_gtp {n : Nat} {r : MGs} {u : TGs} (hr : ∀ vs σ H Q, tGs z r vs σ H Q → u vs σ H Q) : ∀ v σ H Q, tG z (gTp n r) v σ H Q → gTup z.K n u v σ H Q := by
  rintro v σ H Q ⟨ρ, st, env, d, rs, re, rv, h⟩
  unfold gTp at h
  split at h
  · rename_i l
    split at h
    · rename_i hl
      obtain ⟨a, xs, rfl, q, r1⟩ := rvt rv
      exact ⟨a, xs, rfl, q, by rw [← r1.length]; exact hl, hr _ _ _ _ ⟨ρ, st, env, l, rs, re, r1, h⟩⟩
    · exact h.elim
  · exact h.elim
theorem tG_mono {v : V} {σ : L2.St} {Q Q' : L2.St → Hp → Prop} (h : tG z g v σ H Q) (i : ∀ σ' H', Q σ' H' → Q' σ' H') : tG z g v σ H Q' := by
  obtain ⟨ρ, st, env, d, rs, re, rv, h⟩ := h
  refine ⟨ρ, st, env, d, rs, re, rv, ?_⟩
  cases q : g d env st with
  | ok a s => rw [q] at h; exact fun ρ1 H1 σ1 e rs re => i _ _ (h ρ1 H1 σ1 e rs re)
  | ex c f s => rw [q] at h; exact fun ρ1 H1 e rs => h ρ1 H1 e rs
  | bad => rw [q] at h; exact h
theorem qg_name {i : Nat} {x : Str} (hN : X.N.Nodup) (hi : X.N[i]? = some x) (hx : Loc X.env.scope x) (hf : X.fn x = true ∨ X.env.scope.names.lookup x = some .local := by first | exact .inl rfl | exact .inr rfl | assumption) : PG X (.Name x pos) (tG z (gNm i)) := pg_imp (pg_name hN hi hx hf) s_gnm
theorem qgs_nil : PGs X [] (tGs z gNl) := ⟨fun pins s σ H vs us Q I r h => pgs_nil.run pins s σ H vs us Q I r (s_gnl _ _ _ _ h)⟩
theorem qgs_cons {ts : List Expr} {r : MGs} (h1 : PG X e (tG z g)) (h2 : PGs X ts (tGs z r)) (hs : (assignEach (e :: ts) X.env).map (·.2) = assign e X.env :: (assignEach ts X.env).map (·.2) := by rfl) : PGs X (e :: ts) (tGs z (gCn g r)) :=
  ⟨fun pins s σ H vs us Q I rr h => (pgs_cons h1 h2 hs).run pins s σ H vs us Q I rr (s_gcn (fun _ _ _ _ h => h) (fun _ _ _ _ h => h) (fun _ _ _ _ _ h i => tG_mono h i) _ _ _ _ h)⟩
theorem qg_tup {ts : List Expr} {k : Nat} {r : MGs} {n : Nat} (hz : z.K = X.K) (hc : X.calm = true) (h : PGs X ts (tGs z r)) (hn : (assignEach ts X.env).length = n := by rfl) (hst : (assignEach ts X.env).findIdx? (·.1) = none := by rfl) : PG X (.Tuple ts k pos) (tG z (gTp n r)) :=
  pg_imp (pg_tup hc h hn hst) (by rw [← hz]; exact s_gtp fun _ _ _ _ h => h)
/-- o[i] = v -/
def fSet : D → D → D → S → R Unit
  | .loc n, k, v, st => match st[n]? with
    | some (.lst l) => match k with
      | .int i => match ixN l.length i with
        | some j => .ok () (st.set n (.lst (l.set j v)))
        | none => .bad
      | _ => .bad
    | some (.dic kvs) => match keyD k with
      | some key => if kvs.length < sizeLine then .ok () (st.set n (.dic (putD kvs key v))) else .bad
      | none => .bad
    | _ => .bad
  | _, _, _, _ => .bad
def gSb (mo mi : ME) : MG := fun d env st => match mo env st with
  | .ok o s1 => match mi env s1 with
    | .ok i s2 => (fSet o i d s2).bind fun _ s3 => .ok env s3
    | _ => .bad
  | _ => .bad
theorem put_any {k : Key} : ∀ {kvs : List (Key × D)} {ys : List (Key × V)}, ys.map (·.1) = kvs.map (·.1) → (ys.any fun kv => decide (kv.1 = k)) = kvs.any fun kv => decide (kv.1 = k)
  | [], [], _ => rfl
  | [], _ :: _, h => by simp at h
  | _ :: _, [], h => by simp at h
  | (k1, d1) :: kvs, (k2, v2) :: ys, h => by
    rw [List.map_cons, List.map_cons] at h
    injection h with h1 h2
    rw [List.any_cons, List.any_cons, put_any h2]
    have h1 : k2 = k1 := h1
    rw [h1]
theorem put_rv {k : Key} {d : D} {v : V} {kvs : List (Key × D)} {ys : List (Key × V)} (h : ys.map (·.1) = kvs.map (·.1)) (r : RVs z ρ H (kvs.map (·.2)) (ys.map (·.2))) (rv : RV z ρ H d v) :
    (putK ys k v).map (·.1) = (putD kvs k d).map (·.1) ∧ RVs z ρ H ((putD kvs k d).map (·.2)) ((putK ys k v).map (·.2)) := by
  unfold putK putD
  rw [put_any h]
  by_cases q : (kvs.any fun kv => decide (kv.1 = k)) = true
  · rw [if_pos q, if_pos q]
    clear q
    induction kvs generalizing ys with
    | nil =>
      cases ys with
      | nil => exact ⟨rfl, RVs.nil⟩
      | cons a r => simp at h
    | cons p kvs ih =>
      cases ys with
      | nil => simp at h
      | cons q ys =>
        rw [List.map_cons, List.map_cons] at h
        injection h with h1 h2
        rw [List.map_cons, List.map_cons] at r
        unfold RVs at r
        obtain ⟨x, w, e, r1, r2⟩ := r
        injection e with e1 e2
        subst e1 e2
        obtain ⟨i1, i2⟩ := ih h2 r2
        simp only [List.map_cons]
        rw [h1]
        by_cases hk : p.1 = k
        · rw [if_pos hk, if_pos hk]
          refine ⟨by rw [i1], RVs.cons rv i2⟩
        · rw [if_neg hk, if_neg hk]
          refine ⟨by rw [i1, h1], RVs.cons r1 i2⟩
  · rw [if_neg q, if_neg q]
    simp only [List.map_append, List.map_cons, List.map_nil]
    exact ⟨by rw [h], r.append (RVs.cons rv RVs.nil)⟩
abbrev r_set : TSet := fun o i v H Q => rSetL o i v H Q ∨ rSetD o i v H Q
theorem ps_set_any (hu : X.A.units + 1 < cLine) : PSet X r_set := by
  intro pins s σ H o i v ov iv u Q I ro ri rv h
  rcases h with h | h
  · exact set_list pins s σ H o i v ov iv u Q I ro ri rv h
  · exact set_dict hu pins s σ H o i v ov iv u Q I ro ri rv h
theorem v_set {st : S} {o i d : D} {ov iv v : V} {Q : Hp → Prop} (rs : RS z ρ st H) (h1 : RV z ρ H o ov) (h2 : RV z ρ H i iv) (h3 : RV z ρ H d v) {st' : S} (h : fSet o i d st = .ok () st') (q : ∀ H', Ext z ρ H ρ H' → RS z ρ st' H' → Q H') : r_set ov iv v H Q := by
  unfold fSet at h
  split at h
  · rename_i n k v'
    split at h
    · rename_i l e
      split at h
      · rename_i i
        split at h
        · rename_i j ej
          cases h
          obtain ⟨p, p1, rfl⟩ := rvl h1
          obtain ⟨ys, q1, r1⟩ := rs.lst e p1
          obtain ⟨ex, rs'⟩ := rs.put_lst e p1 q1 (r1.set j h3)
          exact .inl ⟨p, ys, _, j, rfl, rvi h2, q1, by rw [← r1.length]; exact ej, q _ ex rs'⟩
        · cases h
      · cases h
    · rename_i kvs e
      split at h
      · rename_i key ek
        split at h
        · rename_i hl
          cases h
          obtain ⟨p, p1, rfl⟩ := rvl h1
          obtain ⟨ys, q1, q2, q3⟩ := rs.obj _ _ p e p1
          have hlen : ys.length = kvs.length := by simpa using congrArg List.length q2
          obtain ⟨m1, m2⟩ := put_rv (k := key) q2 q3 h3
          obtain ⟨ex, rs'⟩ := rs.put_dic e p1 q1 m1 m2
          exact .inr ⟨p, _, rfl, .inl ⟨ys, key, q1, rv_key ek h2, by omega, rfl⟩, q _ ex rs'⟩
        · cases h
      · cases h
    · cases h
  · cases h
theorem qg_sub (ho : PE X a (tE z W mo)) (hi : PE X b (tE z W mb)) (hu : X.A.units + 1 < cLine)
    (ha : ∀ v, assign (.Subscript a b pos) X.env v = (do
      let ov ← holding [v] (eval a X.env)
      let iv ← holding [v, ov] (eval b X.env)
      standAt pos
      holding [v, ov, iv] (setItem ov iv v)
      release [v, ov, iv] []) := by intro _; rfl) : PG X (.Subscript a b pos) (tG z (gSb mo mb)) := pg_imp (pg_sub ho hi (ps_set_any hu) ha) (by
  rintro v σ H Q ⟨ρ, st, env, d, rs, re, rv, h⟩
  unfold gSb at h
  refine ⟨ρ, st, env, rs, re, ?_⟩
  cases q1 : mo env st with
  | ok o s1 =>
    rw [q1] at h
    intro ρ1 H1 ov e1 rs1 rv1
    refine ⟨ρ1, s1, env, rs1, re.ext e1, ?_⟩
    cases q2 : mb env s1 with
    | ok i s2 =>
      simp only [q2] at h
      intro ρ2 H2 iv e2 rs2 rv2
      cases q3 : fSet o i d s2 with
      | ok un s3 =>
        simp only [q3] at h
        exact v_set rs2 (rv1.ext e2) rv2 ((rv.ext e1).ext e2) q3 fun H' e rs' => h ρ2 H' σ ((e1.trans e2).trans e) rs' (((re.ext e1).ext e2).ext e)
      | ex c f s => 
        exfalso
        unfold fSet at q3
        repeat' split at q3
        all_goals cases q3
      | bad => simp only [q3] at h; exact h.elim
    | ex c f s => simp only [q2] at h; exact h.elim
    | bad => simp only [q2] at h; exact h.elim
  | ex c f s => rw [q1] at h; exact h.elim
  | bad => rw [q1] at h; exact h.elim)
/-! x += e -/
def mAug (i : Nat) (m : ME) (f : D → D → S → R D) : MS := fun env st => match env.sl[i]? with
  | some (some x) => (m env st).bindS env fun y s1 => (f x y s1).bindS env fun w s2 => .nx (env.put i (some w)) s2
  | _ => .bad
theorem q_aug {i : Nat} {x : Str} {op : Operator} {ti : TIp} {f : D → D → S → R D} {pos' : Pos} (hN : X.N.Nodup) (hi : X.N[i]? = some x) (hx : Loc X.env.scope x) (he : PE X e (tE z W ma)) (ho : PIp X op ti) (hv : V2 z ti f) (hf : X.fn x = true ∨ X.env.scope.names.lookup x = some .local := by first | exact .inl rfl | exact .inr rfl | assumption) :
    PS X (.AugAssign (.Name x pos') op e pos) (tS z W (mAug i ma f)) := ps_imp (ps_aug hN hi hx he ho hf) fun D σ H h => by
  obtain ⟨ρ, st, env, rs, re, h⟩ := h
  unfold mAug at h
  split at h
  · rename_i d e0
    obtain ⟨v, v1, v2⟩ := re.2.1 i d e0
    refine ⟨v, v1, ρ, st, env, rs, re, Post.bindS h re fun y s1 ρ1 H1 w e1 rs1 rv1 h1 => ?_⟩
    exact hv ρ1 s1 H1 v w d y _ _ rs1 (v2.ext e1) rv1 (Post.bindS h1 (re.ext e1) (rel := RV z) fun u s2 ρ2 H2 uv e2 rs2 rv2 h2 => h2 ρ2 H2 _ Ext.refl rs2 (((re.ext e1).ext e2).set rv2 i))
  · exact h.elim
/-! slots that nobody reads any more -/
def wipeM (env : Ev) : List Nat → Ev
  | [] => env
  | v :: vs => (wipeM env vs).put v none
theorem RE.kill {env : Ev} {σ : L2.St} (h : RE z ρ H env σ) (i : Nat) : RE z ρ H (env.put i none) σ := by
  refine ⟨by simp [Ev.put, h.1], fun j d' e => ?_, fun j c fs e => h.2.2 j c fs (put_x e).1⟩
  have e : (env.sl.set i none)[j]? = some (some d') := e
  by_cases hj : i = j
  · subst hj
    have hi : i < env.sl.length := by
      have := (List.getElem?_eq_some_iff.mp e).1
      simpa using this
    rw [List.getElem?_set_self hi] at e
    cases e
  · rw [List.getElem?_set_ne hj] at e
    exact h.2.1 j d' e
theorem RE.kills {env : Ev} {σ : L2.St} (h : RE z ρ H env σ) : ∀ vs : List Nat, RE z ρ H (wipeM env vs) σ
  | [] => h
  | v :: vs => (RE.kills h vs).kill v
def mKl (m : MS) (vs : List Nat) : MS := fun env st => (m env st).bindN fun env1 s1 => .nx (wipeM env1 vs) s1
theorem q_kl {vs : List Nat} (h : PS X s1 (tS z W ms)) : PS X s1 (tS z W (mKl ms vs)) := ps_imp h (by
  rintro D σ H ⟨ρ, st, env, rs, re, h⟩
  refine ⟨ρ, st, env, rs, re, ?_⟩
  unfold mKl at h
  cases q : ms env st with
  | nx env1 st1 =>
    rw [q] at h
    exact fun ρ1 H1 σ1 e1 rs1 re1 => h ρ1 H1 σ1 e1 rs1 (re1.kills vs)
  | rt d s => rw [q] at h; exact h
  | bk d s => rw [q] at h; exact h
  | ct d s => rw [q] at h; exact h
  | ex c f d s => rw [q] at h; exact h
  | bad => rw [q] at h; exact h)
end
end Nn

namespace Nn
open PySem PySem.Spec PyProof.Rows L2 Lb
/-- what is walked: its items, while ok stands -/
structure ItM where
  l : List D
  ok : S → Prop
def RIt (z : Zc) (ρ : List Addr) (H : Hp) (it : ItM) (J : It) : Prop := ∀ z' ρ1 st H1 i, Car z ρ H z' ρ1 H1 (fun _ => True) → RS z' ρ1 st H1 → it.ok st →
  (∀ d, it.l[i]? = some d → J.go i H1 ∧ ∀ x H', J.yld i H1 x H' → Ext z' ρ1 H1 ρ1 H' ∧ RS z' ρ1 st H' ∧ RV z' ρ1 H' d x) ∧ (it.l[i]? = none → J.stop i H1)
abbrev MI := Ev → S → R ItM
def tI (z : Zc) (W : WM) (m : MI) : TI := fun σ H R => ∃ ρ st env, RS z ρ st H ∧ RE z ρ H env σ ∧ Post z (RIt z) ρ H (m env st) R (W env σ)
open Classical in
noncomputable def loopL (ok : S → Prop) (g : MG) (b : MS) : List D → Ev → S → Rt
  | [], env, st => if ok st then .nx env st else .bad
  | d :: r, env, st => if ok st then match g d env st with
      | .ok env1 s1 => match b env1 s1 with
        | .nx env2 s2 => loopL ok g b r env2 s2
        | .ct env2 s2 => loopL ok g b r env2 s2
        | .bk env2 s2 => .nx env2 s2
        | r => r
      | _ => .bad
    else .bad
def fuel : Nat := 100000
noncomputable def mFor (mi : MI) (g : MG) (b : MS) : MS := fun env st => (mi env st).bindS env fun it s1 => loopL it.ok g b it.l env s1
def whileM (c : MT) (b : MS) : Nat → Ev → S → Rt
  | 0, _, _ => .bad
  | n + 1, env, st => (c env st).bindS env fun r s1 => if r = true then match b env s1 with
      | .nx env2 s2 => whileM c b n env2 s2
      | .ct env2 s2 => whileM c b n env2 s2
      | .bk env2 s2 => .nx env2 s2
      | r => r
    else .nx env s1
def mWhile (c : MT) (b : MS) : MS := whileM c b fuel
section
variable {X : Cx} {z : Zc} {W : WM} {ρ ρ' : List Addr} {st : S} {H H' : Hp} {v x y : V} {l m : List D} {xs ys : List V} {Q : VK} {xw : XW} {a b c e tg iter : Expr} {ma mb mc mo : ME} {mt mu : MT} {pos : Pos} {ar : MA} {es : List Expr} {ms : MS} {mi : MI} {g : MG} {body : List Stmt}
theorem pi_imp {w w' : TI} (h : PI X tg iter w) (i : ∀ σ H R, w' σ H R → w σ H R) : PI X tg iter w' := ⟨fun pins s σ H R I q => h.run pins s σ H R I (i σ H R q)⟩
theorem drop_cons {α : Type} {l r : List α} {d : α} {i : Nat} (h : l.drop i = d :: r) : l[i]? = some d ∧ l.drop (i + 1) = r := by
  have e : (l.drop i)[0]? = some d := by rw [h]; rfl
  rw [List.getElem?_drop] at e
  refine ⟨by simpa using e, ?_⟩
  rw [← List.tail_drop, h]
  rfl
theorem drop_nil' {α : Type} {l : List α} {i : Nat} (h : l.drop i = []) : l[i]? = none := by
  rw [List.getElem?_eq_none_iff]
  exact List.drop_eq_nil_iff.mp h
theorem s_for : ∀ D σ H, tS z W (mFor mi g ms) D σ H → tFor (tI z W mi) (tG z g) (tS z W ms) D σ H := by
  rintro D σ H ⟨ρ, st, env, rs, re, h⟩
  refine ⟨ρ, st, env, rs, re, Post.bindS h re fun it s1 ρ1 H1 J e1 rs1 rj h1 => ?_⟩
  refine ⟨fun i n σ2 H2 => ∃ rest ρ2 st2 env2, it.l.drop i = rest ∧ n = rest.length ∧ Ext z ρ1 H1 ρ2 H2 ∧ RS z ρ2 st2 H2 ∧ RE z ρ2 H2 env2 σ2 ∧ PostS z ρ2 H2 (loopL it.ok g ms rest env2 st2) D W, ⟨_, it.l, ρ1, s1, env, rfl, rfl, Ext.refl, rs1, re.ext e1, h1⟩, ?_⟩
  rintro i n σ2 H2 ⟨rest, ρ2, st2, env2, hd, hn, e2, rs2, re2, h2⟩
  cases rest with
  | nil =>
    unfold loopL at h2
    split at h2
    · rename_i ok
      exact .inl ⟨(rj z ρ2 st2 H2 i e2.car rs2 ok).2 (drop_nil' hd), h2 ρ2 H2 σ2 Ext.refl rs2 re2⟩
    · exact h2.elim
  | cons d r =>
    obtain ⟨q, hd'⟩ := drop_cons hd
    unfold loopL at h2
    split at h2
    · rename_i ok
      obtain ⟨go, yl⟩ := (rj z ρ2 st2 H2 i e2.car rs2 ok).1 d q
      refine .inr ⟨go, fun σ3 H3 => ∃ ρ3 st3 env3, Ext z ρ1 H1 ρ3 H3 ∧ RS z ρ3 st3 H3 ∧ RE z ρ3 H3 env3 σ3 ∧ PostS z ρ3 H3 (loopL it.ok g ms r env3 st3) D W, fun σ3 H3 ⟨a, b, c, w⟩ => ⟨r.length, by rw [hn]; exact Nat.lt_succ_self _, r, a, b, c, hd', rfl, w⟩, fun x H3 y => ?_⟩
      obtain ⟨e3, rs3, rv3⟩ := yl x H3 y
      refine ⟨ρ2, st2, env2, d, rs3, re2.ext e3, rv3, ?_⟩
      split at h2
      · rename_i env4 s4 q4
        rw [q4]
        intro ρ4 H4 σ4 e4 rs4 re4
        refine ⟨ρ4, s4, env4, rs4, re4, ?_⟩
        have ee : Ext z ρ2 H2 ρ4 H4 := e3.trans e4
        cases q5 : ms env4 s4 with
        | nx env5 s5 =>
          simp only [q5] at h2
          exact fun ρ5 H5 σ5 e5 rs5 re5 => ⟨ρ5, s5, env5, e2.trans (ee.trans e5), rs5, re5, PostS.mono h2 (ee.trans e5)⟩
        | ct env5 s5 =>
          simp only [q5] at h2
          exact fun ρ5 H5 σ5 e5 rs5 re5 => ⟨ρ5, s5, env5, e2.trans (ee.trans e5), rs5, re5, PostS.mono h2 (ee.trans e5)⟩
        | bk env5 s5 =>
          simp only [q5] at h2
          exact fun ρ5 H5 σ5 e5 rs5 re5 => h2 ρ5 H5 σ5 (ee.trans e5) rs5 re5
        | rt d5 s5 =>
          simp only [q5] at h2
          exact fun ρ5 H5 σ5 e5 rs5 re5 => h2 ρ5 H5 σ5 (ee.trans e5) rs5 re5
        | ex c5 f5 d5 s5 =>
          simp only [q5] at h2
          exact fun ρ5 H5 σ5 e5 rs5 re5 => h2 ρ5 H5 σ5 (ee.trans e5) rs5 re5
        | bad =>
          simp only [q5] at h2
          exact h2
      · exact h2.elim
    · exact h2.elim
theorem q_for (hp : PassesOwn (model X.prog X.w) X.A X.env X.xe) (hc : X.calm = true) (hi : PI X tg iter (tI z W mi)) (hg : PG X tg (tG z g)) (hb : PSs X body (tS z W ms))
    (hs : ∀ x, foldedSetIterable iter X.env x = pure x := by intro _; rfl) : PS X (.For tg iter body [] pos) (tS z W (mFor mi g ms)) := ps_imp (ps_for hp hc hi hg hb hs) s_for
theorem s_while : ∀ D σ H, tS z W (mWhile mt ms) D σ H → tWhile (tT z W mt) (tS z W ms) D σ H := by
  rintro D σ H ⟨ρ, st, env, rs, re, h⟩
  refine ⟨fun n σ2 H2 => ∃ ρ2 st2 env2, RS z ρ2 st2 H2 ∧ RE z ρ2 H2 env2 σ2 ∧ PostS z ρ2 H2 (whileM mt ms n env2 st2) D W, ⟨fuel, ρ, st, env, rs, re, h⟩, ?_⟩
  rintro n σ2 H2 ⟨ρ2, st2, env2, rs2, re2, h2⟩
  cases n with
  | zero => exact h2.elim
  | succ n =>
    refine ⟨ρ2, st2, env2, rs2, re2, Post.bindS h2 re2 fun r s3 ρ3 H3 k e3 rs3 rv3 h3 => ?_⟩
    cases rv3
    cases r with
    | true =>
      rw [if_pos rfl]
      rw [if_pos rfl] at h3
      refine ⟨fun σ4 H4 => ∃ ρ4 st4 env4, RS z ρ4 st4 H4 ∧ RE z ρ4 H4 env4 σ4 ∧ PostS z ρ4 H4 (whileM mt ms n env4 st4) D W, fun σ4 H4 w => ⟨n, Nat.lt_succ_self n, w⟩, ρ3, s3, env2, rs3, re2.ext e3, ?_⟩
      cases q5 : ms env2 s3 with
      | nx env5 s5 =>
        simp only [q5] at h3
        exact fun ρ5 H5 σ5 e5 rs5 re5 => ⟨ρ5, s5, env5, rs5, re5, PostS.mono h3 e5⟩
      | ct env5 s5 =>
        simp only [q5] at h3
        exact fun ρ5 H5 σ5 e5 rs5 re5 => ⟨ρ5, s5, env5, rs5, re5, PostS.mono h3 e5⟩
      | bk env5 s5 =>
        simp only [q5] at h3
        exact h3
      | rt d5 s5 =>
        simp only [q5] at h3
        exact h3
      | ex c5 f5 d5 s5 =>
        simp only [q5] at h3
        exact h3
      | bad =>
        simp only [q5] at h3
        exact h3
    | false =>
      rw [if_neg Bool.false_ne_true]
      rw [if_neg Bool.false_ne_true] at h3
      exact h3 ρ3 H3 σ2 Ext.refl rs3 (re2.ext e3)
theorem q_while (hp : PassesOwn (model X.prog X.w) X.A X.env X.xe) (hc : PT X c (tT z W mt)) (hb : PSs X body (tS z W ms)) : PS X (.While c body [] pos) (tS z W (mWhile mt ms)) := ps_imp (ps_while hp hc hb) s_while
/-! what is walked: lists, tuples, texts -/
def itP (l : List D) : ItM := ⟨l, fun _ => True⟩
def itL (n : Nat) (l : List D) : ItM := ⟨l, fun st => rdL st n = some l⟩
/-- a text's signs -/
def sgn (x : Str) : List D := x.cps.toList.map fun c => .str ⟨#[c]⟩
/-- a dict's keys -/
def kd : Key → D
  | .inl i => .int i
  | .inr s => .str s
def mIt (m : ME) : MI := fun env st => (m env st).bind fun d s1 => match d with
  | .str x => .ok (itP (sgn x)) s1
  | .fd ks _ => .ok (itP (ks.map kd)) s1
  | .loc n => match rdL s1 n with
    | some l => .ok (itL n l) s1
    | none => .bad
  | d => match seqD s1 d with
    | some l => .ok (itP l) s1
    | none => .bad
theorem fp1 {pins : List (Addr × Obj)} {σ : L2.St} {s : Shared} (I : Inv X pins σ H s) : ∀ b ∈ [s.heap.objs.size], FpOk X pins H b := fun b hb => by
  rw [List.mem_singleton.mp hb]
  exact I.fpOk (Nat.le_refl _) (I.hok.fresh (Nat.le_refl _))
/-- a dict that is walked is locked for good -/
def LockR (H : Hp) (d : Addr) (o : Obj) (kvs : List (Key × V)) (H2 : Hp) : Prop := (H2 = H ∧ H d = some (.frz o (.dK kvs))) ∨ (H d = some (.dK kvs) ∧ H2 = upd H d (.frz o (.dK kvs)))
theorem LockR.at {d : Addr} {o : Obj} {kvs : List (Key × V)} {H2 : Hp} (h : LockR H d o kvs H2) : H2 d = some (.frz o (.dK kvs)) := by
  rcases h with ⟨rfl, h⟩ | ⟨_, rfl⟩
  · exact h
  · exact upd_same
def iAny (K : PySem.W.Frag) (t : TE) : TI := fun σ H R => t σ H fun x H1 => (∃ p, x = .ref p ∧ (∃ xs, SqL K H1 p xs) ∧ R (Itl K p) H1) ∨ (∃ p, x = .ref p ∧ (∃ xs, SqT K H1 p xs) ∧ R (Itt K p) H1) ∨ (∃ s, x = .str s ∧ R (Its s) H1) ∨
  ∃ p kvs, x = .ref p ∧ Rd H1 p (.dK kvs) ∧ ∀ o H2, LockR H1 p o kvs H2 → R (Itk p o kvs) H2
theorem lock_dk {pins : List (Addr × Obj)} {σ : L2.St} {s : Shared} {p : Addr} {kvs : List (Key × V)} (I : Inv X pins σ H s) (h : Rd H p (.dK kvs)) : ∃ o H2, LockR H p o kvs H2 ∧ Inv X pins σ H2 s := by
  rcases h with h | ⟨o, h⟩
  · obtain ⟨o, I2⟩ := I.lock h trivial
    exact ⟨o, _, .inr ⟨h, rfl⟩, I2⟩
  · exact ⟨o, H, .inl ⟨rfl, h⟩, I⟩
theorem pi_any {te : TE} (he : PE X e te) : PI X tg e (iAny X.K te) := by
  refine ⟨fun pins s σ H R I h => thn (he.run pins s σ H _ I h) fun v s1 ⟨x, H1, I1, r1, q1⟩ => ?_⟩
  rcases q1 with ⟨p, rfl, ⟨xs, hq⟩, q⟩ | ⟨p, rfl, ⟨xs, hq⟩, q⟩ | ⟨t, rfl, q⟩ | ⟨p, kvs, rfl, hq, q⟩
  · obtain rfl : v = Value.ref p := r1
    obtain ⟨us, _, pl, _⟩ := I1.list hq
    exact wpAny_pyIter_list pl.isList ⟨_, [s1.heap.objs.size], _, _, H1, rfl, I1.kept (t' := s1.toks) (fun b o e => Heap.get?_push_of_some _ e), turn_list p _, ⟨_, Heap.get?_push_size _ rfl, rfl, rfl⟩, fp1 I1, q⟩
  · obtain rfl : v = Value.ref p := r1
    obtain ⟨us, _, pl, _⟩ := I1.tuple hq
    exact wpAny_pyIter_tuple (show s1.heap.IsTuple p us.toArray from pl) ⟨_, [s1.heap.objs.size], _, _, H1, rfl, I1.kept (t' := s1.toks) (fun b o e => Heap.get?_push_of_some _ e), turn_tuple p _, ⟨_, Heap.get?_push_size _ rfl, rfl, rfl⟩, fp1 I1, q⟩
  · obtain ⟨tk, rfl⟩ := r1
    cases ha : t.cps.all (· < 128)
    · exact wpAny_pyIter_wide ha (pi_one (tk := s1.toks) I1 _ (turn_str _ t tk "str_iterator" (.inr rfl)) ⟨_, Heap.get?_push_size _ rfl, rfl, rfl⟩ q)
    · exact wpAny_pyIter_ascii ha (pi_one (tk := s1.toks) I1 _ (turn_str _ t tk "str_ascii_iterator" (.inl rfl)) ⟨_, Heap.get?_push_size _ rfl, rfl, rfl⟩ q)
  · obtain rfl : v = Value.ref p := r1
    obtain ⟨o, H2, hl, I2⟩ := lock_dk I1 hq
    obtain ⟨hs, hgd, hx, es, ep, vs, hdt, hsz, kv, hm⟩ := I2.frzK hl.at
    refine iter_keys hs hgd hx hdt (pi_one (tk := s1.toks) I2 _ (turn_keys _ hdt) ⟨_, Heap.get?_push_size _ rfl, rfl, ?_⟩ (q o H2 hl))
    rw [hsz] <;> rfl
theorem r_itl {n : Nat} {p : Addr} (e : ρ[n]? = some p) : RIt z ρ H (itL n l) (Itl z.K p) := fun z' ρ1 st H1 i e1 rs1 ok => by
  have p1 := e1.lc n p trivial e
  have el : rdL st n = some l := ok
  obtain ⟨xs, h1, h2⟩ := rs1.rdL el p1
  rw [e1.kk] at h1
  refine ⟨fun d ed => ?_, fun ed => ?_⟩
  · obtain ⟨x, x1, x2⟩ := h2.get ed
    refine ⟨⟨xs, x, h1, x1⟩, fun y H' hy => ?_⟩
    obtain ⟨rfl, hy⟩ := hy
    have := hy xs h1
    rw [x1] at this
    cases this
    exact ⟨Ext.refl, rs1, x2⟩
  · exact ⟨xs, h1, by rw [← h2.length]; exact List.getElem?_eq_none_iff.mp ed⟩
theorem r_itt {p : Addr} (h1 : SqT z.K H p xs) (h2 : RVs z ρ H l xs) : RIt z ρ H (itP l) (Itt z.K p) := fun z' ρ1 st H1 i e1 rs1 _ => by
  have h1' := e1.tp p xs h1
  rw [e1.kk] at h1'
  have h2' := h2.car e1 (lows_T _)
  refine ⟨fun d ed => ?_, fun ed => ?_⟩
  · obtain ⟨x, x1, x2⟩ := h2'.get ed
    refine ⟨⟨xs, x, h1', x1⟩, fun y H' hy => ?_⟩
    obtain ⟨rfl, hy⟩ := hy
    have := hy xs h1'
    rw [x1] at this
    cases this
    exact ⟨Ext.refl, rs1, x2⟩
  · exact ⟨xs, h1', by rw [← h2'.length]; exact List.getElem?_eq_none_iff.mp ed⟩
/-- a list that stands -/
theorem r_itf {p : Addr} (h1 : ∀ z' ρ1 H1, Car z ρ H z' ρ1 H1 (fun _ => True) → SqL z.K H1 p xs) (h2 : RVs z ρ H l xs) : RIt z ρ H (itP l) (Itl z.K p) := fun z' ρ1 st H1 i e1 rs1 _ => by
  have h1' := h1 z' ρ1 H1 e1
  have h2' := h2.car e1 (lows_T _)
  refine ⟨fun d ed => ?_, fun ed => ?_⟩
  · obtain ⟨x, x1, x2⟩ := h2'.get ed
    refine ⟨⟨xs, x, h1', x1⟩, fun y H' hy => ?_⟩
    obtain ⟨rfl, hy⟩ := hy
    have := hy xs h1'
    rw [x1] at this
    cases this
    exact ⟨Ext.refl, rs1, x2⟩
  · exact ⟨xs, h1', by rw [← h2'.length]; exact List.getElem?_eq_none_iff.mp ed⟩
theorem r_its {s : Str} : RIt z ρ H (itP (sgn s)) (Its s) := fun z' ρ1 st H1 i e1 rs1 _ => by
  refine ⟨fun d q => ?_, fun q => ?_⟩
  · have q' : (s.cps.toList.map fun c => D.str ⟨#[c]⟩)[i]? = some d := q
    rw [List.getElem?_map] at q'
    obtain ⟨c, ec, rfl⟩ := Option.map_eq_some_iff.mp q'
    have hi := (List.getElem?_eq_some_iff.mp ec).1
    refine ⟨(show i < s.cps.size by simpa using hi), fun y H' hy => ?_⟩
    obtain ⟨rfl, c', ec', rfl⟩ := hy
    rw [← Array.getElem?_toList, ec] at ec'
    cases ec'
    exact ⟨Ext.refl, rs1, rv_str⟩
  · have q' : (s.cps.toList.map fun c => D.str ⟨#[c]⟩)[i]? = none := q
    rw [List.getElem?_map] at q'
    have := List.getElem?_eq_none_iff.mp (Option.map_eq_none_iff.mp q')
    show s.cps.size ≤ i
    simpa using this
theorem rv_kd {k : Key} : RV z ρ H (kd k) (kV k) := by
  cases k with
  | inl i => exact rv_int
  | inr i => exact rv_str
theorem Ext.lock {d : Addr} {o : Obj} {kvs : List (Key × V)} {H2 : Hp} (h : LockR H d o kvs H2) (n : Out z ρ d) : Ext z ρ H ρ H2 := by
  rcases h with ⟨rfl, h⟩ | ⟨h, rfl⟩
  · exact Ext.refl
  · refine ⟨fun _ _ h => h, fun b xs q => ?_, fun b u q _ => ?_, fun _ h h' => absurd h h'⟩
    · rcases q with q | q
      · have hne : b ≠ d := fun zz => by
          subst zz
          rcases q with q | ⟨o', q⟩
          · rw [h] at q; cases q
          · rw [h] at q; cases q
        rcases q with q | ⟨o', q⟩
        · exact .inl (.inl (by rw [upd_ne hne]; exact q))
        · exact .inl (.inr ⟨o', by rw [upd_ne hne]; exact q⟩)
      · exact .inr q
    · by_cases hb : b = d
      · subst hb
        rw [h] at q
        cases q
        exact ⟨_, upd_same, .inr ⟨kvs, o, rfl, rfl⟩, fun k => absurd k n.2⟩
      · exact ⟨u, by rw [upd_ne hb]; exact q, .inl rfl, fun _ => rfl⟩
theorem RS.lock {st : S} {d : Addr} {o : Obj} {kvs : List (Key × V)} {H2 : Hp} (rs : RS z ρ st H) (h : LockR H d o kvs H2) (n : Out z ρ d) : RS z ρ st H2 := by
  have e : Ext z ρ H ρ H2 := Ext.lock h n
  rcases h with ⟨rfl, h⟩ | ⟨h, rfl⟩
  · exact rs
  · refine ⟨rs.len, rs.inj, fun k o' a h1 h2 => ?_, rs.avo, fun a q => ?_⟩
    · refine (rs.obj k o' a h1 h2).ext e (upd_ne fun zz => n.1 (by rw [← zz]; exact List.mem_of_getElem? h2)) fun dx q => ?_
      rw [upd_ne fun zz => by rw [zz, h] at q; cases q]
      exact q
    · obtain ⟨u, hu⟩ := rs.avh a q
      by_cases hb : a = d
      · exact ⟨_, by rw [hb]; exact upd_same⟩
      · exact ⟨u, by rw [upd_ne hb]; exact hu⟩
theorem r_itk {p : Addr} {o : Obj} {kvs : List (Key × V)} (h : H p = some (.frz o (.dK kvs))) (n : Out z ρ p) : RIt z ρ H (itP ((kvs.map (·.1)).map kd)) (Itk p o kvs) := fun z' ρ1 st H1 i e1 rs1 _ => by
  have h1 : H1 p = some (.frz o (.dK kvs)) := (e1.kp h n (fun _ q => nomatch q)).1
  refine ⟨fun d q => ?_, fun q => ?_⟩
  · have q' : ((kvs.map (·.1)).map kd)[i]? = some d := q
    rw [List.getElem?_map, List.getElem?_map] at q'
    obtain ⟨k, ek, rfl⟩ := Option.map_eq_some_iff.mp q'
    obtain ⟨⟨k', v⟩, ekv, rfl⟩ := Option.map_eq_some_iff.mp ek
    refine ⟨⟨h1, (List.getElem?_eq_some_iff.mp ekv).1⟩, fun y H' hy => ?_⟩
    obtain ⟨rfl, k2, v2, e2, rfl⟩ := hy
    rw [ekv] at e2
    cases e2
    exact ⟨Ext.refl, rs1, rv_kd⟩
  · have q' : ((kvs.map (·.1)).map kd)[i]? = none := q
    exact ⟨h1, by simpa using q'⟩
theorem q_it (hz : z.K = X.K) (he : PE X e (tE z W ma)) : PI X tg e (tI z W (mIt ma)) := pi_imp (pi_any he) (by
  rintro σ H R ⟨ρ, st, env, rs, re, h⟩
  refine ⟨ρ, st, env, rs, re, h.bind fun d s1 ρ1 H1 x e1 rs1 rv1 h1 => ?_⟩
  rw [← hz]
  cases d with
  | str x => exact .inr (.inr (.inl ⟨_, rvs rv1, Post.ok h1 rs1 r_its⟩))
  | fd ks l =>
    obtain ⟨p, ys, rfl, q, k, t⟩ := rvd rv1
    refine .inr (.inr (.inr ⟨p, ys, rfl, q.1, fun o H2 hl => ?_⟩))
    have e2 : Ext z ρ1 H1 ρ1 H2 := Ext.lock hl q.2
    refine Post.at h1 e2 (rs1.lock hl q.2) ?_
    rw [← k]
    exact r_itk hl.at q.2
  | loc n =>
    have h1' : Post z (RIt z) ρ1 H1 (match rdL s1 n with | some l => Nn.R.ok (itL n l) s1 | none => Nn.R.bad) R (W env σ) := h1
    split at h1'
    · rename_i l e0
      obtain ⟨p, p1, rfl⟩ := rvl rv1
      obtain ⟨xs, q, r⟩ := rs1.rdL e0 p1
      exact .inl ⟨p, rfl, ⟨xs, q⟩, h1'.ok rs1 (r_itl p1)⟩
    · exact h1'.elim
  | tup l =>
    obtain ⟨p, xs, rfl, q, r⟩ := rvt rv1
    exact .inr (.inl ⟨p, rfl, ⟨xs, q⟩, Post.ok (rel := RIt z) (a := itP l) h1 rs1 (r_itt q r)⟩)
  | tuf l =>
    obtain ⟨p, xs, rfl, q, r⟩ := rvtf rv1
    exact .inr (.inl ⟨p, rfl, ⟨xs, q.sq⟩, Post.ok (rel := RIt z) (a := itP l) h1 rs1 (r_itt q.sq r)⟩)
  | fl l =>
    obtain ⟨p, xs, rfl, q, r⟩ := rvf rv1
    exact .inl ⟨p, rfl, ⟨xs, q.sq⟩, Post.ok (rel := RIt z) (a := itP l) h1 rs1 (r_itf (fun z2 ρ2 H2 e2 => e2.kk ▸ (e2.fp q).sq) r)⟩
  | sc l =>
    obtain ⟨p, xs, rfl, q, r⟩ := rvc rv1
    exact .inl ⟨p, rfl, ⟨xs, q.sq⟩, Post.ok (rel := RIt z) (a := itP l) h1 rs1 (r_itf (fun z2 ρ2 H2 e2 => e2.kk ▸ (e2.fz q).sq) r)⟩
  | non => exact h1.elim
  | bl _ => exact h1.elim
  | int _ => exact h1.elim
  | ty _ => exact h1.elim
  | fo _ _ _ => exact h1.elim)
/-! range -/
def rgD (lo : Int) (n : Nat) : List D := (List.range n).map fun i => .int (lo + (i : Nat))
theorem r_itr {lo : Int} {n : Nat} : RIt z ρ H (itP (rgD lo n)) (Itr lo n) := fun z' ρ1 st H1 i e1 rs1 _ => by
  have key : (rgD lo n)[i]? = if i < n then some (.int (lo + i)) else none := by
    unfold rgD
    rw [List.getElem?_map]
    by_cases hi : i < n
    · rw [List.getElem?_range hi, if_pos hi]; rfl
    · rw [List.getElem?_eq_none (by simpa using hi), if_neg hi]; rfl
  refine ⟨fun d q => ?_, fun q => ?_⟩
  · have q' : (rgD lo n)[i]? = some d := q
    rw [key] at q'
    split at q'
    · rename_i hi
      cases q'
      refine ⟨hi, fun y H' hy => ?_⟩
      obtain ⟨rfl, rfl⟩ := hy
      exact ⟨Ext.refl, rs1, rv_int⟩
    · cases q'
  · have q' : (rgD lo n)[i]? = none := q
    rw [key] at q'
    split at q'
    · cases q'
    · rename_i hi
      exact Nat.le_of_not_lt hi
def mRange1 (ar : MA) : MI := fun env st => (ar env st).bind fun ds s1 => match ds with
  | [.int j] => if okR j = true then .ok (itP (rgD 0 j.toNat)) s1 else .bad
  | _ => .bad
def mRange2 (ar : MA) : MI := fun env st => (ar env st).bind fun ds s1 => match ds with
  | [.int i, .int j] => if okR i = true ∧ okR j = true then .ok (itP (rgD i (j - i).toNat)) s1 else .bad
  | _ => .bad
theorem q_range1 {p : Pos} (hg : Gl X "range") (hm : X.mg "range" = none) (ha : PA X [a] (tA z W ar)) (hs : starEach [a] X.env = [(false, eval a X.env)] := by rfl) : PI X tg (.Call (.Name "range" p) [a] [] pos) (tI z W (mRange1 ar)) := pi_imp (pi_range1 hg hm ha hs) (by
  rintro σ H R ⟨ρ, st, env, rs, re, h⟩
  refine ⟨ρ, st, env, rs, re, h.bind fun d s1 ρ1 H1 x e1 rs1 rv1 h1 => ?_⟩
  split at h1
  · split at h1
    · rename_i hb
      obtain ⟨y, rfl, r⟩ := rvs1 rv1
      exact ⟨_, by rw [rvi r], (okR_of hb).1, (okR_of hb).2, h1.ok rs1 r_itr⟩
    · exact h1.elim
  · exact h1.elim)
theorem q_range2 {p : Pos} (hg : Gl X "range") (hm : X.mg "range" = none) (ha : PA X [a, b] (tA z W ar)) (hs : starEach [a, b] X.env = [(false, eval a X.env), (false, eval b X.env)] := by rfl) (hs2 : starEach [b] X.env = [(false, eval b X.env)] := by rfl) : PI X tg (.Call (.Name "range" p) [a, b] [] pos) (tI z W (mRange2 ar)) := pi_imp (pi_range2 hg hm ha hs hs2) (by
  rintro σ H R ⟨ρ, st, env, rs, re, h⟩
  refine ⟨ρ, st, env, rs, re, h.bind fun d s1 ρ1 H1 x e1 rs1 rv1 h1 => ?_⟩
  split at h1
  · split at h1
    · rename_i hb
      obtain ⟨y, w, rfl, r, r'⟩ := rvs2 rv1
      exact ⟨_, _, by rw [rvi r, rvi r'], ⟨(okR_of hb.1).1, (okR_of hb.1).2, (okR_of hb.2).1, (okR_of hb.2).2⟩, h1.ok rs1 r_itr⟩
    · exact h1.elim
  · exact h1.elim)
/-! enumerate, zip -/
def enD : Nat → List D → List D
  | _, [] => []
  | k, d :: r => .tup [.int k, d] :: enD (k + 1) r
theorem enD_get : ∀ (l : List D) (k i : Nat), (enD k l)[i]? = (l[i]?).map fun d => .tup [.int ((k + i : Nat) : Int), d]
  | [], k, i => by simp [enD]
  | d :: r, k, 0 => by simp [enD]
  | d :: r, k, i + 1 => by
    show (enD (k + 1) r)[i]? = _
    rw [enD_get r (k + 1) i, List.getElem?_cons_succ]
    have : k + 1 + i = k + (i + 1) := by omega
    rw [this]
def zpD : List D → List D → List D
  | d :: l, e :: m => .tup [d, e] :: zpD l m
  | _, _ => []
theorem zpD_get : ∀ (l m : List D) (i : Nat), (zpD l m)[i]? = (l[i]?).bind fun d => (m[i]?).map fun e => .tup [d, e]
  | [], m, i => by cases m <;> simp [zpD]
  | d :: l, [], i => by cases h : (d :: l)[i]? <;> simp [zpD]
  | d :: l, e :: m, 0 => by simp [zpD]
  | d :: l, e :: m, i + 1 => by
    show (zpD l m)[i]? = _
    rw [zpD_get l m i]
    simp
def mEnum (ar : MA) : MI := fun env st => (ar env st).bind fun ds s1 => match ds with
  | [.loc n] => match rdL s1 n with
    | some l => .ok ⟨enD 0 l, fun st => rdL st n = some l⟩ s1
    | none => .bad
  | [d] => match seqD s1 d with
    | some l => .ok (itP (enD 0 l)) s1
    | none => .bad
  | _ => .bad
/-- both lists, or both tuples -/
def sameSq : D → D → Bool
  | .tup _, .tup _ => true
  | .tup _, .tuf _ => true
  | .tuf _, .tup _ => true
  | .tuf _, .tuf _ => true
  | .fl _, .fl _ => true
  | _, _ => false
def mZip (ar : MA) : MI := fun env st => (ar env st).bind fun ds s1 => match ds with
  | [x, y] => if sameSq x y = true then match seqD s1 x, seqD s1 y with
    | some l, some m => .ok (itP (zpD l m)) s1
    | _, _ => .bad else .bad
  | _ => .bad
theorem new_pair {ρ1 : List Addr} {H1 : Hp} {d e : D} {x y : V} {T : Addr} {st : S} (rs1 : RS z ρ1 st H1) (hT : H1 T = none) (r1 : RV z ρ1 H1 d x) (r2 : RV z ρ1 H1 e y) :
    Ext z ρ1 H1 ρ1 (upd H1 T (.tup [x, y])) ∧ RS z ρ1 st (upd H1 T (.tup [x, y])) ∧ RV z ρ1 (upd H1 T (.tup [x, y])) (.tup [d, e]) (.ref T) :=
  ⟨Ext.new hT, rs1.tup hT, rv_tup (SqT.of upd_same) (RVs.cons (r1.ext (Ext.new hT)) (RVs.cons (r2.ext (Ext.new hT)) RVs.nil))⟩
theorem r_itel {n : Nat} {p : Addr} (e : ρ[n]? = some p) : RIt z ρ H ⟨enD 0 l, fun st => rdL st n = some l⟩ (Ite z.K p) := fun z' ρ1 st H1 i e1 rs1 ok => by
  have p1 := e1.lc n p trivial e
  obtain ⟨xs, h1, h2⟩ := rs1.rdL ok p1
  rw [e1.kk] at h1
  refine ⟨fun d q => ?_, fun q => ?_⟩
  · have ed : (enD 0 l)[i]? = some d := q
    rw [enD_get, Nat.zero_add] at ed
    obtain ⟨d', ed', rfl⟩ := Option.map_eq_some_iff.mp ed
    obtain ⟨x, x1, x2⟩ := h2.get ed'
    refine ⟨⟨xs, x, h1, x1⟩, fun y H' hy => ?_⟩
    obtain ⟨T, w, rfl, hT, rfl, hw⟩ := hy
    have := hw xs h1
    rw [x1] at this
    cases this
    exact new_pair rs1 hT rv_int x2
  · have ed : (enD 0 l)[i]? = none := q
    rw [enD_get] at ed
    exact ⟨xs, h1, by rw [← h2.length]; exact List.getElem?_eq_none_iff.mp (Option.map_eq_none_iff.mp ed)⟩
theorem r_itef {p : Addr} (h1 : ∀ z' ρ1 H1, Car z ρ H z' ρ1 H1 (fun _ => True) → SqL z.K H1 p xs) (h2 : RVs z ρ H l xs) : RIt z ρ H (itP (enD 0 l)) (Ite z.K p) := fun z' ρ1 st H1 i e1 rs1 _ => by
  have h1 := h1 z' ρ1 H1 e1
  have h2 := h2.car e1 (lows_T _)
  refine ⟨fun d q => ?_, fun q => ?_⟩
  · have ed : (enD 0 l)[i]? = some d := q
    rw [enD_get, Nat.zero_add] at ed
    obtain ⟨d', ed', rfl⟩ := Option.map_eq_some_iff.mp ed
    obtain ⟨x, x1, x2⟩ := h2.get ed'
    refine ⟨⟨xs, x, h1, x1⟩, fun y H' hy => ?_⟩
    obtain ⟨T, w, rfl, hT, rfl, hw⟩ := hy
    have := hw xs h1
    rw [x1] at this
    cases this
    exact new_pair rs1 hT rv_int x2
  · have ed : (enD 0 l)[i]? = none := q
    rw [enD_get] at ed
    exact ⟨xs, h1, by rw [← h2.length]; exact List.getElem?_eq_none_iff.mp (Option.map_eq_none_iff.mp ed)⟩
theorem r_itet {p : Addr} (h1 : SqT z.K H p xs) (h2 : RVs z ρ H l xs) : RIt z ρ H (itP (enD 0 l)) (IteT z.K p) := fun z' ρ1 st H1 i e1 rs1 _ => by
  have h1' := e1.tp p xs h1
  rw [e1.kk] at h1'
  have h2' := h2.car e1 (lows_T _)
  refine ⟨fun d q => ?_, fun q => ?_⟩
  · have ed : (enD 0 l)[i]? = some d := q
    rw [enD_get, Nat.zero_add] at ed
    obtain ⟨d', ed', rfl⟩ := Option.map_eq_some_iff.mp ed
    obtain ⟨x, x1, x2⟩ := h2'.get ed'
    refine ⟨⟨xs, x, h1', x1⟩, fun y H' hy => ?_⟩
    obtain ⟨T, w, rfl, hT, rfl, hw⟩ := hy
    have := hw xs h1'
    rw [x1] at this
    cases this
    exact new_pair rs1 hT rv_int x2
  · have ed : (enD 0 l)[i]? = none := q
    rw [enD_get] at ed
    exact ⟨xs, h1', by rw [← h2'.length]; exact List.getElem?_eq_none_iff.mp (Option.map_eq_none_iff.mp ed)⟩
theorem zip_none {α β γ : Type} {o : Option α} {u : Option β} {f : α → β → γ} (h : (o.bind fun d => u.map fun e => f d e) = none) : o = none ∨ u = none := by
  cases o with
  | none => exact .inl rfl
  | some d =>
    cases u with
    | none => exact .inr rfl
    | some e => cases h
theorem zip_some {α β γ : Type} {o : Option α} {u : Option β} {f : α → β → γ} {g : γ} (h : (o.bind fun d => u.map fun e => f d e) = some g) : ∃ d e, o = some d ∧ u = some e ∧ g = f d e := by
  cases o with
  | none => cases h
  | some d =>
    cases u with
    | none => cases h
    | some e => cases h; exact ⟨d, e, rfl, rfl, rfl⟩
theorem r_itzl {p q : Addr} (h1 : ∀ z' ρ1 H1, Car z ρ H z' ρ1 H1 (fun _ => True) → SqL z.K H1 p xs) (h2 : RVs z ρ H l xs) (k1 : ∀ z' ρ1 H1, Car z ρ H z' ρ1 H1 (fun _ => True) → SqL z.K H1 q ys) (k2 : RVs z ρ H m ys) : RIt z ρ H (itP (zpD l m)) (Itz z.K p q) := fun z' ρ1 st H1 i e1 rs1 _ => by
  have h1 := h1 z' ρ1 H1 e1
  have h2 := h2.car e1 (lows_T _)
  have k1 := k1 z' ρ1 H1 e1
  have k2 := k2.car e1 (lows_T _)
  refine ⟨fun d w => ?_, fun w => ?_⟩
  · have w : (zpD l m)[i]? = some d := w
    rw [zpD_get] at w
    obtain ⟨d1, d2, g1, g2, rfl⟩ := zip_some w
    obtain ⟨x, x1, x2⟩ := h2.get g1
    obtain ⟨y, y1, y2⟩ := k2.get g2
    refine ⟨⟨xs, ys, x, y, h1, k1, x1, y1⟩, fun v H' hy => ?_⟩
    obtain ⟨T, u, w, rfl, hT, rfl, hu, hw⟩ := hy
    have t1 := hu xs h1
    have t2 := hw ys k1
    rw [x1] at t1
    rw [y1] at t2
    cases t1
    cases t2
    exact new_pair rs1 hT x2 y2
  · have w : (zpD l m)[i]? = none := w
    rw [zpD_get] at w
    refine ⟨xs, ys, h1, k1, ?_⟩
    rw [← h2.length, ← k2.length]
    exact (zip_none w).imp List.getElem?_eq_none_iff.mp List.getElem?_eq_none_iff.mp
theorem r_itzt {p q : Addr} (h1 : SqT z.K H p xs) (h2 : RVs z ρ H l xs) (k1 : SqT z.K H q ys) (k2 : RVs z ρ H m ys) : RIt z ρ H (itP (zpD l m)) (RZ.ItzT z.K p q) := fun z' ρ1 st H1 i e1 rs1 _ => by
  have h1 := e1.tp p xs h1
  rw [e1.kk] at h1
  have h2 := h2.car e1 (lows_T _)
  have k1 := e1.tp q ys k1
  rw [e1.kk] at k1
  have k2 := k2.car e1 (lows_T _)
  refine ⟨fun d w => ?_, fun w => ?_⟩
  · have w : (zpD l m)[i]? = some d := w
    rw [zpD_get] at w
    obtain ⟨d1, d2, g1, g2, rfl⟩ := zip_some w
    obtain ⟨x, x1, x2⟩ := h2.get g1
    obtain ⟨y, y1, y2⟩ := k2.get g2
    refine ⟨⟨xs, ys, x, y, h1, k1, x1, y1⟩, fun v H' hy => ?_⟩
    obtain ⟨T, u, w, rfl, hT, rfl, hu, hw⟩ := hy
    have t1 := hu xs h1
    have t2 := hw ys k1
    rw [x1] at t1
    rw [y1] at t2
    cases t1
    cases t2
    exact new_pair rs1 hT x2 y2
  · have w : (zpD l m)[i]? = none := w
    rw [zpD_get] at w
    refine ⟨xs, ys, h1, k1, ?_⟩
    rw [← h2.length, ← k2.length]
    exact (zip_none w).imp List.getElem?_eq_none_iff.mp List.getElem?_eq_none_iff.mp
/-- a list or a tuple that stands -/
theorem sq_stays {d : D} {st : S} (hn : ∀ n, d ≠ .loc n) (e : seqD st d = some l) (r : RV z ρ H d x) : ∃ a xs, x = .ref a ∧ RVs z ρ H l xs ∧ (((∀ z' ρ1 H1, Car z ρ H z' ρ1 H1 (fun _ => True) → SqL z.K H1 a xs) ∧ ((∃ l, d = .fl l) ∨ ∃ l, d = .sc l)) ∨ (SqT z.K H a xs ∧ ((∃ l, d = .tup l) ∨ ∃ l, d = .tuf l))) := by
  cases d with
  | tup l' =>
    cases e
    obtain ⟨a, xs, rfl, q, t⟩ := rvt r
    exact ⟨a, xs, rfl, t, .inr ⟨q, .inl ⟨_, rfl⟩⟩⟩
  | tuf l' =>
    cases e
    obtain ⟨a, xs, rfl, q, t⟩ := rvtf r
    exact ⟨a, xs, rfl, t, .inr ⟨q.sq, .inr ⟨_, rfl⟩⟩⟩
  | fl l' =>
    cases e
    obtain ⟨a, xs, rfl, q, t⟩ := rvf r
    exact ⟨a, xs, rfl, t, .inl ⟨fun z2 ρ1 H1 e => e.kk ▸ (e.fp q).sq, .inl ⟨_, rfl⟩⟩⟩
  | sc l' =>
    cases e
    obtain ⟨a, xs, rfl, q, t⟩ := rvc r
    exact ⟨a, xs, rfl, t, .inl ⟨fun z2 ρ1 H1 e => e.kk ▸ (e.fz q).sq, .inr ⟨_, rfl⟩⟩⟩
  | loc n => exact absurd rfl (hn n)
  | _ => cases e
theorem q_enum {elts : List Expr} {kk : Nat} {tpos p : Pos} (hz : z.K = X.K) (hg : Gl X "enumerate") (hm : X.mg "enumerate" = none) (ha : PA X [a] (tA z W ar)) (hs : starEach [a] X.env = [(false, eval a X.env)] := by rfl) :
    PI X (.Tuple elts kk tpos) (.Call (.Name "enumerate" p) [a] [] pos) (tI z W (mEnum ar)) := pi_imp (pi_enumA hg hm ha hs) (by
  rintro σ H R ⟨ρ, st, env, rs, re, h⟩
  refine ⟨ρ, st, env, rs, re, h.bind fun d s1 ρ1 H1 x e1 rs1 rv1 h1 => ?_⟩
  rw [← hz]
  split at h1
  · split at h1
    · rename_i l e0
      obtain ⟨y, rfl, r⟩ := rvs1 rv1
      obtain ⟨p, p1, rfl⟩ := rvl r
      obtain ⟨xs, q, r⟩ := rs1.rdL e0 p1
      exact ⟨p, xs, rfl, .inl ⟨q, h1.ok rs1 (r_itel p1)⟩⟩
    · exact h1.elim
  · split at h1
    · rename_i d hn _ l e0
      obtain ⟨y, rfl, r⟩ := rvs1 rv1
      obtain ⟨p, xs, rfl, t, k⟩ := sq_stays (fun n q => hn n (by rw [q])) e0 r
      rcases k with ⟨q, _⟩ | ⟨q, _⟩
      · exact ⟨p, xs, rfl, .inl ⟨q _ _ _ Ext.refl.car, h1.ok rs1 (r_itef q t)⟩⟩
      · exact ⟨p, xs, rfl, .inr ⟨q, h1.ok rs1 (r_itet q t)⟩⟩
    · exact h1.elim
  · exact h1.elim)
theorem q_zip {elts : List Expr} {kk : Nat} {tpos p : Pos} (hz : z.K = X.K) (hg : Gl X "zip") (hm : X.mg "zip" = none) (ha : PA X [a, b] (tA z W ar)) (hs : starEach [a, b] X.env = (false, eval a X.env) :: starEach [b] X.env := by rfl) (hpl : (backTo pos (starEach [b] X.env)).any (·.1) = false := by rfl) :
    PI X (.Tuple elts kk tpos) (.Call (.Name "zip" p) [a, b] [] pos) (tI z W (mZip ar)) := pi_imp (RZ.pi_zipA hg hm ha hs hpl) (by
  rintro σ H R ⟨ρ, st, env, rs, re, h⟩
  refine ⟨ρ, st, env, rs, re, h.bind fun d s1 ρ1 H1 x e1 rs1 rv1 h1 => ?_⟩
  rw [← hz]
  split at h1
  · rename_i d1 d2
    split at h1
    · rename_i sm
      split at h1
      · rename_i l m e0 e0'
        obtain ⟨y, w, rfl, r, r'⟩ := rvs2 rv1
        have n1 : ∀ n, d1 ≠ .loc n := fun n q => by rw [q] at sm; cases sm
        have n2 : ∀ n, d2 ≠ .loc n := fun n q => by rw [q] at sm; cases d1 <;> cases sm
        obtain ⟨p, xs, rfl, t, k⟩ := sq_stays n1 e0 r
        obtain ⟨p', xs', rfl, t', k'⟩ := sq_stays n2 e0' r'
        rcases k with ⟨q, k⟩ | ⟨q, k⟩ <;> rcases k' with ⟨q', k'⟩ | ⟨q', k'⟩
        · exact ⟨p, p', xs, xs', rfl, .inl ⟨q _ _ _ Ext.refl.car, q' _ _ _ Ext.refl.car, h1.ok rs1 (r_itzl q t q' t')⟩⟩
        · exfalso
          rcases k with ⟨_, rfl⟩ | ⟨_, rfl⟩ <;> rcases k' with ⟨_, rfl⟩ | ⟨_, rfl⟩ <;> cases sm
        · exfalso
          rcases k with ⟨_, rfl⟩ | ⟨_, rfl⟩ <;> rcases k' with ⟨_, rfl⟩ | ⟨_, rfl⟩ <;> cases sm
        · exact ⟨p, p', xs, xs', rfl, .inr ⟨q, q', h1.ok rs1 (r_itzt q t q' t')⟩⟩
      · exact h1.elim
    · exact h1.elim
  · exact h1.elim)
end
end Nn

namespace Nn
open PySem PySem.Spec PyProof.Rows L2 Lb
section
variable {X : Cx} {z z' : Zc} {W : WM} {ρ ρ' : List Addr} {st : S} {H H' : Hp} {v x y : V} {l m : List D} {xs ys : List V} {Q : VK} {xw : XW} {a b c e tg iter : Expr} {ma mb mc mo : ME} {mt mu : MT} {pos : Pos} {ar : MA} {es : List Expr} {ms : MS} {mi : MI} {g : MG} {body : List Stmt}
theorem RO.car {o : O} {a : Addr} (h : RO z ρ H o a) (e : Car z ρ H z' ρ' H' (fun _ => True)) (ea : H' a = H a) (eo : ∀ dx, H dx = Option.some (HO.own a) → ¬ z.av dx → H' dx = Option.some (HO.own a) ∧ ¬ z'.av dx) : RO z' ρ' H' o a := by
  cases o with
  | lst l => obtain ⟨xs, q, r⟩ := h; exact ⟨xs, ea.trans q, r.car e (lows_T _)⟩
  | dic l => obtain ⟨xs, q, k, r⟩ := h; exact ⟨xs, ea.trans q, k, r.car e (lows_T _)⟩
  | ins c f =>
    obtain ⟨C, dx, ys, c1, q, d, na, k, r⟩ := h
    obtain ⟨d', na'⟩ := eo dx d na
    exact ⟨C, dx, ys, by rw [e.cm]; exact c1, ea.trans q, d', na', k, r.car e (lows_T _)⟩
theorem RE.car {env : Ev} {σ : L2.St} (h : RE z ρ H env σ) (e : Car z ρ H z' ρ' H' (fun _ => True)) (ex : z'.exa = z.exa) (hx : ∀ d ys, H d = some (.xd ys) → d ∉ ρ → H' d = some (.xd ys) ∧ d ∉ ρ') : RE z' ρ' H' env σ := by
  refine ⟨h.1, fun i d q => ?_, fun j c fs q => ?_⟩
  · obtain ⟨v, h1, h2⟩ := h.2.1 i d q
    exact ⟨v, h1, h2.car e (low_T _)⟩
  · obtain ⟨a, C, dx, h1, h2, h3, h4⟩ := h.2.2 j c fs q
    refine ⟨a, C, dx, by rw [ex]; exact h1, by rw [e.cm]; exact h2, h3, ?_⟩
    cases dx with
    | none => exact h4
    | some d =>
      obtain ⟨ys, k1, k2, k3, k4⟩ := h4
      obtain ⟨j1, j2⟩ := hx d ys k1 k2
      exact ⟨ys, j1, j2, k3, k4.car e (lows_T _)⟩
/-! comprehensions -/
open Classical in
noncomputable def lcL (ok : S → Prop) (g : MG) (t : MT) (m : ME) (env : Ev) : List D → List D → S → R (List D)
  | [], acc, st => if ok st then .ok acc st else .bad
  | d :: r, acc, st => if ok st then match g d env st with
      | .ok env1 s1 => match t env1 s1 with
        | .ok true s2 => match m env1 s2 with
          | .ok y s3 => if acc.length < sizeLine then lcL ok g t m env r (acc ++ [y]) s3 else .bad
          | _ => .bad
        | .ok false s2 => lcL ok g t m env r acc s2
        | _ => .bad
      | _ => .bad
    else .bad
noncomputable def mLc (own : Bool) (mi : MI) (g : MG) (t : MT) (m : ME) (vs : List Nat) : ME := fun env st => (mi env st).bind fun it s1 => (lcL it.ok g t m (wipeM env vs) it.l [] s1).bind fun acc s2 => newL own acc s2
theorem RE.clr {env : Ev} {σ : L2.St} (h : RE z ρ H env σ) (i : Nat) : RE z ρ H (env.put i none) (σ.set i none) := by
  refine ⟨by simp [Ev.put, h.1], fun j d' e => ?_, fun j c fs e => ?_⟩
  · have e : (env.sl.set i none)[j]? = some (some d') := e
    by_cases hj : i = j
    · subst hj
      have hi : i < env.sl.length := by
        have := (List.getElem?_eq_some_iff.mp e).1
        simpa using this
      rw [List.getElem?_set_self hi] at e
      cases e
    · rw [List.getElem?_set_ne hj] at e
      rw [List.getElem?_set_ne hj]
      exact h.2.1 j d' e
  · obtain ⟨e1, e2⟩ := put_x e
    exact (h.2.2 j c fs e1).set e2
theorem RE.wipe {env : Ev} {σ : L2.St} (h : RE z ρ H env σ) : ∀ vs : List Nat, RE z ρ H (wipeM env vs) (wipe σ vs)
  | [] => h
  | v :: vs => (RE.wipe h vs).clr v
/-- a target that sets the block's own slots alone -/
def Own (g : MG) (gt : TG) (vs : List Nat) (z : Zc) : Prop := ∀ v σ H Q, tG z g v σ H Q → gt v σ H fun σ' H' => wipe σ' vs = wipe σ vs ∧ Q σ' H'
theorem wipe_set {σ : L2.St} {i : Nat} {o : Option V} : ∀ {vs : List Nat}, i ∈ vs → wipe (σ.set i o) vs = wipe σ vs
  | [], h => by simp at h
  | v :: vs, h => by
    unfold L2.wipe
    by_cases hi : i ∈ vs
    · rw [wipe_set hi]
    · have hv : i = v := by
        rcases List.mem_cons.mp h with h | h
        · exact h
        · exact absurd h hi
      subst hv
      have : ∀ (vs : List Nat) (σ : L2.St), i ∉ vs → wipe (σ.set i o) vs = (wipe σ vs).set i o := by
        intro vs
        induction vs with
        | nil => intro σ _; rfl
        | cons w ws ih =>
          intro σ hn
          have h1 : i ≠ w := fun z => hn (by rw [z]; exact List.mem_cons_self ..)
          unfold L2.wipe
          rw [ih σ (fun z => hn (List.mem_cons_of_mem _ z)), List.set_comm _ _ h1]
      rw [this vs σ hi, List.set_set]
theorem own_name {i : Nat} {vs : List Nat} (h : i ∈ vs) : Own (gNm i) (gName i) vs z := fun v σ H Q q => by
  have := s_gnm v σ H Q q
  exact ⟨wipe_set h, this⟩
def OwnS (g : MGs) (gt : TGs) (vs : List Nat) (z : Zc) : Prop := ∀ xs σ H Q, tGs z g xs σ H Q → gt xs σ H fun σ' H' => wipe σ' vs = wipe σ vs ∧ Q σ' H'
theorem own_nil {vs : List Nat} : OwnS gNl gNil vs z := fun xs σ H Q q => by
  have := s_gnl xs σ H Q q
  exact ⟨this.1, rfl, this.2⟩
theorem own_cons {i : Nat} {r : MGs} {u : TGs} {vs : List Nat} (h : i ∈ vs) (hr : OwnS r u vs z) : OwnS (gCn (gNm i) r) (gCons (gName i) u) vs z := fun xs σ H Q q => by
  have hh := s_gcn (z := z) (g := gNm i) (r := r) (t := gName i) (u := fun xs σ H Q => u xs σ H fun σ' H' => wipe σ' vs = wipe σ vs ∧ Q σ' H') (fun v σ H Q => s_gnm v σ H Q) (fun xs σ H Q => hr xs σ H Q) (fun v σ H Q Q' a b => b _ _ a) xs σ H Q q
  obtain ⟨v, r', rfl, hh⟩ := hh
  refine ⟨v, r', rfl, ?_⟩
  have hh : u r' (σ.set i (some v)) H fun σ' H' => wipe σ' vs = wipe (σ.set i (some v)) vs ∧ Q σ' H' := hh
  rw [wipe_set h] at hh
  exact hh
theorem own_tup {n : Nat} {r : MGs} {u : TGs} {vs : List Nat} (hr : OwnS r u vs z) : Own (gTp n r) (gTup z.K n u) vs z := fun v σ H Q q =>
  s_gtp (u := fun xs σ1 H1 Q1 => u xs σ1 H1 fun σ' H' => wipe σ' vs = wipe σ1 vs ∧ Q1 σ' H') (fun xs σ1 H1 Q1 => hr xs σ1 H1 Q1) v σ H Q q |> fun ⟨a, xs, e, h1, h2, h3⟩ => ⟨a, xs, e, h1, h2, h3⟩
def WF : WM := fun _ _ _ _ _ _ _ => False
theorem wipe_none {σ : L2.St} {i : Nat} : ∀ {vs : List Nat}, i ∈ vs → i < σ.length → (wipe σ vs)[i]? = some none
  | [], h, _ => by simp at h
  | v :: vs, h, hl => by
    unfold L2.wipe
    by_cases hi : v = i
    · subst hi
      rw [List.getElem?_set_self (by rw [L2.wipe_length]; exact hl)]
    · rw [List.getElem?_set_ne hi]
      rcases List.mem_cons.mp h with h | h
      · exact absurd h.symm hi
      · exact wipe_none h hl
theorem wipe_idem {σ : L2.St} (vs : List Nat) : wipe (wipe σ vs) vs = wipe σ vs := by
  have aux : ∀ (ws : List Nat) (τ : L2.St), (∀ i ∈ ws, i < τ.length → τ[i]? = some none) → wipe τ ws = τ := by
    intro ws
    induction ws with
    | nil => intro τ _; rfl
    | cons w ws ih =>
      intro τ h
      unfold L2.wipe
      rw [ih τ fun i hi => h i (List.mem_cons_of_mem _ hi)]
      by_cases hw : w < τ.length
      · have := h w (List.mem_cons_self ..) hw
        refine List.ext_getElem? fun j => ?_
        by_cases hj : w = j
        · subst hj
          rw [List.getElem?_set_self hw, this]
        · rw [List.getElem?_set_ne hj]
      · exact List.set_eq_of_length_le (by omega)
  refine aux vs _ fun i hi hl => ?_
  exact wipe_none hi (by rw [L2.wipe_length] at hl; exact hl)

/-- .. with one more address that is another's -/
abbrev Zc.wav (z : Zc) (av : Addr → Prop) : Zc := { z with av := av }
abbrev avp (z : Zc) (p : Addr) : Addr → Prop := fun a => z.av a ∨ a = p
section
variable {p : Addr} {u w : HO}
/-- a new object that is nobody's value -/
theorem Car.hide (hp : H p = none) : Car z ρ H (z.wav (avp z p)) ρ (upd H p u) (fun _ => True) := ⟨rfl, rfl, fun _ _ _ h => h, fun a xs h => sqt_new hp h, fun a w h n => ⟨w, by rw [upd_ne (ne_of_none h hp)]; exact h, .inl rfl, n.1, fun q => q.elim n.2 fun e => ne_of_none h hp e⟩⟩
theorem Car.show : Car (z.wav (avp z p)) ρ H z ρ H (fun _ => True) := ⟨rfl, rfl, fun _ _ _ h => h, fun _ _ h => h, fun a w h n => ⟨w, h, .inl rfl, n.1, fun q => n.2 (.inl q)⟩⟩
theorem Car.turn (hp : H p = some w) (hw : ∀ ys, w ≠ .tup ys) (hw2 : ∀ q ys, w ≠ .frz q ys) : Car (z.wav (avp z p)) ρ H (z.wav (avp z p)) ρ (upd H p u) (fun _ => True) := ⟨rfl, rfl, fun _ _ _ h => h, fun a xs h => by
  rcases h with h | h
  · have ne : a ≠ p := fun zz => by
      subst zz
      rcases h with h | ⟨q, h⟩
      · rw [hp] at h; exact hw _ (Option.some.inj h)
      · rw [hp] at h; exact hw2 _ _ (Option.some.inj h)
    rcases h with h | ⟨q, h⟩
    · exact .inl (.inl (by rw [upd_ne ne]; exact h))
    · exact .inl (.inr ⟨q, by rw [upd_ne ne]; exact h⟩)
  · exact .inr h, fun a w' h n => ⟨w', by rw [upd_ne (fun zz => n.2 (.inr zz))]; exact h, .inl rfl, n⟩⟩
theorem RS.hide (rs : RS z ρ st H) (hp : H p = none) : RS (z.wav (avp z p)) ρ st (upd H p u) :=
  ⟨rs.len, rs.inj, fun n o a h1 h2 => (rs.obj n o a h1 h2).car (Car.hide hp) (upd_ne (rs.nfree h2 hp)) fun dx q na => ⟨by rw [upd_ne (ne_of_none q hp)]; exact q, fun k => k.elim na fun e => ne_of_none q hp e⟩, fun a q k => k.elim (rs.avo a q) fun e => rs.free hp (by rw [← e]; exact q), fun a k => by
    by_cases e : a = p
    · exact ⟨u, by rw [e, upd_same]⟩
    · obtain ⟨w, hw⟩ := rs.avh a (k.resolve_right e)
      exact ⟨w, by rw [upd_ne e]; exact hw⟩⟩
theorem RS.turn (rs : RS (z.wav (avp z p)) ρ st H) (hp : H p = some w) (hw : ∀ ys, w ≠ .tup ys) (hw2 : ∀ q ys, w ≠ .frz q ys) (hw3 : ∀ q, w ≠ .own q) : RS (z.wav (avp z p)) ρ st (upd H p u) := by
  have np : p ∉ ρ := fun q => rs.avo p q (.inr rfl)
  refine ⟨rs.len, rs.inj, fun n o a h1 h2 => (rs.obj n o a h1 h2).car (Car.turn hp hw hw2) (upd_ne fun zz => np (by rw [← zz]; exact List.mem_of_getElem? h2)) fun dx q na => ⟨by rw [upd_ne (fun zz => by rw [zz, hp] at q; exact hw3 _ (Option.some.inj q))]; exact q, na⟩, rs.avo, fun a k => ?_⟩
  by_cases e : a = p
  · exact ⟨u, by rw [e, upd_same]⟩
  · obtain ⟨w, hw⟩ := rs.avh a k
    exact ⟨w, by rw [upd_ne e]; exact hw⟩
theorem RS.show (rs : RS (z.wav (avp z p)) ρ st H) : RS z ρ st H := ⟨rs.len, rs.inj, fun n o a h1 h2 => (rs.obj n o a h1 h2).car Car.show rfl fun dx q na => ⟨q, fun k => na (.inl k)⟩, fun a q k => rs.avo a q (.inl k), fun a k => rs.avh a (.inl k)⟩
/-- what was hidden gets a place -/
theorem RS.adopt {o : O} (rs : RS (z.wav (avp z p)) ρ st H) (np : ¬ z.av p) (ro : RO z (ρ ++ [p]) H o p) : RS z (ρ ++ [p]) (st ++ [o]) H := by
  have npr : p ∉ ρ := fun q => rs.avo p q (.inr rfl)
  have cr : Car (z.wav (avp z p)) ρ H z (ρ ++ [p]) H (fun _ => True) := ⟨rfl, rfl, fun n a _ h => by rw [List.getElem?_append_left (List.getElem?_eq_some_iff.mp h).1]; exact h, fun _ _ h => h, fun a w h n => ⟨w, h, .inl rfl, fun q => by
    rcases List.mem_append.mp q with q | q
    · exact n.1 q
    · exact n.2 (.inr (List.mem_singleton.mp q)), fun q => n.2 (.inl q)⟩⟩
  refine ⟨by simp [rs.len], fun i j a h1 h2 => ?_, fun n o' a e1 e2 => ?_, fun a q => ?_, fun a k => rs.avh a (.inl k)⟩
  · rcases get_snoc h1 with k1 | ⟨k1, k1'⟩ <;> rcases get_snoc h2 with k2 | ⟨k2, k2'⟩
    · exact rs.inj i j a k1 k2
    · exact absurd (by rw [← k2']; exact List.mem_of_getElem? k1) npr
    · exact absurd (by rw [← k1']; exact List.mem_of_getElem? k2) npr
    · rw [k1, k2]
  · rcases get_snoc e1 with e1 | ⟨e1, e1'⟩ <;> rcases get_snoc e2 with e2 | ⟨e2, e2'⟩
    · exact (rs.obj n o' a e1 e2).car cr rfl fun dx q na => ⟨q, fun k => na (.inl k)⟩
    · have := (List.getElem?_eq_some_iff.mp e1).1
      have := rs.len
      omega
    · have := (List.getElem?_eq_some_iff.mp e2).1
      have := rs.len
      omega
    · subst e1' e2'
      exact ro
  · rcases List.mem_append.mp q with q | q
    · exact fun k => rs.avo a q (.inl k)
    · rw [List.mem_singleton.mp q]
      exact np
theorem Car.adopt : Car (z.wav (avp z p)) ρ H z (ρ ++ [p]) H (fun _ => True) := ⟨rfl, rfl, fun n a _ h => by rw [List.getElem?_append_left (List.getElem?_eq_some_iff.mp h).1]; exact h, fun _ _ h => h, fun a w h n => ⟨w, h, .inl rfl, fun q => by
    rcases List.mem_append.mp q with q | q
    · exact n.1 q
    · exact n.2 (.inr (List.mem_singleton.mp q)), fun q => n.2 (.inl q)⟩⟩
theorem Ext.wav {av : Addr → Prop} (e : Ext (z.wav av) ρ H ρ' H') (h : ∀ a, z.av a → av a) : Ext z ρ H ρ' H' := ⟨e.pl, e.tp, fun a u q n => by
  obtain ⟨w, h1, h2, h3⟩ := e.kq a u q n
  exact ⟨w, h1, h2, fun k => h3 (h a k)⟩, e.nw⟩
/-- a change at an address that was free at the start -/
theorem Ext.turn (e : Ext z ρ H ρ' H') (hp : H p = none) : Ext z ρ H ρ' (upd H' p u) := ⟨e.pl, fun a xs h => by
  have q := e.tp a xs h
  rcases h with h | h
  · have ne : a ≠ p := fun zz => by
      subst zz
      rcases h with h | ⟨o, h⟩ <;> rw [hp] at h <;> cases h
    rcases q with (q | ⟨o, q⟩) | q
    · exact .inl (.inl (by rw [upd_ne ne]; exact q))
    · exact .inl (.inr ⟨o, by rw [upd_ne ne]; exact q⟩)
    · exact .inr q
  · exact .inr h, fun a w h n => by
  obtain ⟨w', h1, h2, h3⟩ := e.kq a w h n
  exact ⟨w', by rw [upd_ne (ne_of_none h hp)]; exact h1, h2, h3⟩, e.nw⟩
end
/-- whatever is another's -/
def eT (z : Zc) (m : MT) : TT := fun σ H Q => ∃ av, tT (z.wav av) WF m σ H Q
def eE (z : Zc) (m : ME) : TE := fun σ H Q => ∃ av, tE (z.wav av) WF m σ H Q
theorem pts_e {ifs : List Expr} (h : ∀ av, PTs X ifs (tT (z.wav av) WF mt)) : PTs X ifs (eT z mt) := ⟨fun pins s σ H Q I ⟨av, q⟩ => (h av).run pins s σ H Q I q⟩
theorem pe_e (h : ∀ av, PE X e (tE (z.wav av) WF ma)) : PE X e (eE z ma) := ⟨fun pins s σ H Q I ⟨av, q⟩ => (h av).run pins s σ H Q I q⟩
theorem s_lc {own : Bool} {gt : TG} {vs : List Nat} (ho : ∀ av, Own g gt vs (z.wav av)) : ∀ σ H Q, tE z W (mLc own mi g mt ma vs) σ H Q → tLc (tI z W mi) gt (eT z mt) (eE z ma) vs σ H Q := by
  rintro σ H Q ⟨ρ, st, env, rs, re, h⟩
  refine ⟨ρ, st, env, rs, re, h.bind fun it s1 ρ1 H1 J e1 rs1 rj h1 => ?_⟩
  intro Dp hD
  have re1 := (re.ext e1).wipe vs
  have cH : Car z ρ1 H1 (z.wav (avp z Dp)) ρ1 (upd H1 Dp (.lst [])) (fun _ => True) := Car.hide hD
  have npD : ¬ z.av Dp := rs1.nav hD
  have fD : Dp ∉ ρ1 := rs1.free hD
  refine ⟨fun i n H2 => ∃ rest acc ρ2 st2 zs, it.l.drop i = rest ∧ n = rest.length ∧ Ext z ρ1 H1 ρ2 H2 ∧ Car z ρ1 H1 (z.wav (avp z Dp)) ρ2 H2 (fun _ => True) ∧ RS (z.wav (avp z Dp)) ρ2 st2 H2 ∧ RE (z.wav (avp z Dp)) ρ2 H2 (wipeM env vs) (wipe σ vs) ∧ H2 Dp = some (.lst zs) ∧ RVs (z.wav (avp z Dp)) ρ2 H2 acc zs ∧
      Post z (RV z) ρ1 H1 ((lcL it.ok g mt ma (wipeM env vs) rest acc st2).bind fun acc s2 => newL own acc s2) Q (W env σ),
    ⟨_, it.l, [], ρ1, s1, [], rfl, rfl, Ext.new hD, cH, rs1.hide hD, re1.car cH rfl (fun d ys q n => ⟨by rw [upd_ne (ne_of_none q hD)]; exact q, n⟩), upd_same, RVs.nil, h1⟩, ?_⟩
  rintro i n H2 ⟨rest, acc, ρ2, st2, zs, hd, hn, e2, c2, rs2, re2, zD, rv2, h2⟩
  cases rest with
  | nil =>
    unfold lcL at h2
    split at h2
    · rename_i ok
      refine .inl ⟨(rj _ ρ2 st2 H2 i c2 rs2 ok).2 (drop_nil' hd), ?_⟩
      have h2 : Post z (RV z) ρ1 H1 (newL own acc st2) Q (W env σ) := h2
      unfold newL at h2
      have nD2 : Dp ∉ ρ2 := fun q => rs2.avo Dp q (.inr rfl)
      split at h2
      · have rvA : RVs z (ρ2 ++ [Dp]) H2 acc zs := rv2.car Car.adopt (lows_T _)
        refine h2.at ⟨fun n a q => by rw [List.getElem?_append_left (List.getElem?_eq_some_iff.mp (e2.pl n a q)).1]; exact e2.pl n a q, e2.tp, e2.kq, fun a q n => ?_⟩ (rs2.adopt npD ⟨zs, zD, rvA⟩) (rv_loc (by rw [← rs2.len]; simp))
        rcases List.mem_append.mp q with q | q
        · exact e2.nw a q n
        · rw [List.mem_singleton.mp q]
          exact hD
      · exact h2.at e2 rs2.show (rv_fl ⟨zD, nD2, npD⟩ (rv2.car Car.show (lows_T _)))
    · exact h2.elim
  | cons d r =>
    obtain ⟨q, hd'⟩ := drop_cons hd
    unfold lcL at h2
    split at h2
    · rename_i ok
      obtain ⟨go, yl⟩ := (rj _ ρ2 st2 H2 i c2 rs2 ok).1 d q
      refine .inr ⟨go, fun H3 => ∃ acc ρ3 st3 zs, Ext z ρ1 H1 ρ3 H3 ∧ Car z ρ1 H1 (z.wav (avp z Dp)) ρ3 H3 (fun _ => True) ∧ RS (z.wav (avp z Dp)) ρ3 st3 H3 ∧ RE (z.wav (avp z Dp)) ρ3 H3 (wipeM env vs) (wipe σ vs) ∧ H3 Dp = some (.lst zs) ∧ RVs (z.wav (avp z Dp)) ρ3 H3 acc zs ∧
        Post z (RV z) ρ1 H1 ((lcL it.ok g mt ma (wipeM env vs) r acc st3).bind fun acc s2 => newL own acc s2) Q (W env σ), fun H3 ⟨a1, a2, a3, a4, w⟩ => ⟨r.length, by rw [hn]; exact Nat.lt_succ_self _, r, a1, a2, a3, a4, hd', rfl, w⟩, fun x H3 y => ?_⟩
      obtain ⟨e3, rs3, rv3⟩ := yl x H3 y
      have nD2 : Dp ∉ ρ2 := fun q => rs2.avo Dp q (.inr rfl)
      have key : tG (z.wav (avp z Dp)) g x (wipe σ vs) H3 fun σ2 H4 => (eT z mt) σ2 H4 fun b H5 => if b = true then (eE z ma) σ2 H5 fun y H6 => ∃ acc, H6 Dp = some (.lst acc) ∧ acc.length < sizeLine ∧
          (∃ acc' ρ3 st3 zs, Ext z ρ1 H1 ρ3 (upd H6 Dp (.lst (acc ++ [y]))) ∧ Car z ρ1 H1 (z.wav (avp z Dp)) ρ3 (upd H6 Dp (.lst (acc ++ [y]))) (fun _ => True) ∧ RS (z.wav (avp z Dp)) ρ3 st3 (upd H6 Dp (.lst (acc ++ [y]))) ∧ RE (z.wav (avp z Dp)) ρ3 (upd H6 Dp (.lst (acc ++ [y]))) (wipeM env vs) (wipe σ vs) ∧ (upd H6 Dp (.lst (acc ++ [y]))) Dp = some (.lst zs) ∧ RVs (z.wav (avp z Dp)) ρ3 (upd H6 Dp (.lst (acc ++ [y]))) acc' zs ∧
            Post z (RV z) ρ1 H1 ((lcL it.ok g mt ma (wipeM env vs) r acc' st3).bind fun acc s2 => newL own acc s2) Q (W env σ))
          else ∃ acc ρ3 st3 zs, Ext z ρ1 H1 ρ3 H5 ∧ Car z ρ1 H1 (z.wav (avp z Dp)) ρ3 H5 (fun _ => True) ∧ RS (z.wav (avp z Dp)) ρ3 st3 H5 ∧ RE (z.wav (avp z Dp)) ρ3 H5 (wipeM env vs) (wipe σ vs) ∧ H5 Dp = some (.lst zs) ∧ RVs (z.wav (avp z Dp)) ρ3 H5 acc zs ∧
            Post z (RV z) ρ1 H1 ((lcL it.ok g mt ma (wipeM env vs) r acc st3).bind fun acc s2 => newL own acc s2) Q (W env σ) := by
        refine ⟨ρ2, st2, wipeM env vs, d, rs3, re2.ext e3, rv3, ?_⟩
        cases qg : g d (wipeM env vs) st2 with
        | ex c f s => simp only [qg] at h2; exact h2.elim
        | bad => simp only [qg] at h2; exact h2.elim
        | ok env1 s4 =>
          simp only [qg] at h2
          intro ρ4 H4 σ4 e4 rs4 re4
          refine ⟨_, ρ4, s4, env1, rs4, re4, ?_⟩
          have ee4 := e3.trans e4
          cases qt : mt env1 s4 with
          | ex c f s => simp only [qt] at h2; exact h2.elim
          | bad => simp only [qt] at h2; exact h2.elim
          | ok b s5 =>
            intro ρ5 H5 b' e5 rs5 rb
            cases rb
            have ee5 := ee4.trans e5
            cases b with
            | false =>
              simp only [qt] at h2
              rw [if_neg Bool.false_ne_true]
              exact ⟨acc, ρ5, s5, zs, e2.trans (ee5.wav fun _ k => .inl k), c2.trans ee5.car, rs5, re2.ext ee5, ee5.kp zD nD2 (fun _ q => nomatch q), rv2.ext ee5, h2⟩
            | true =>
              simp only [qt] at h2
              rw [if_pos rfl]
              refine ⟨_, ρ5, s5, env1, rs5, re4.ext e5, ?_⟩
              cases qm : ma env1 s5 with
              | ex c f s => simp only [qm] at h2; exact h2.elim
              | bad => simp only [qm] at h2; exact h2.elim
              | ok y s6 =>
                simp only [qm] at h2
                intro ρ6 H6 w e6 rs6 rv6
                have ee6 := ee5.trans e6
                split at h2
                · rename_i hl
                  have zD6 : H6 Dp = some (.lst zs) := ee6.kp zD nD2 (fun _ q => nomatch q)
                  have rvz : RVs (z.wav (avp z Dp)) ρ6 H6 acc zs := rv2.ext ee6
                  have ct : Car (z.wav (avp z Dp)) ρ6 H6 (z.wav (avp z Dp)) ρ6 (upd H6 Dp (.lst (zs ++ [w]))) (fun _ => True) := Car.turn zD6 (fun _ q => nomatch q) (fun _ _ q => nomatch q)
                  refine ⟨zs, zD6, by rw [← rvz.length]; exact hl, acc ++ [y], ρ6, s6, zs ++ [w], (e2.trans (ee6.wav fun _ k => .inl k)).turn hD, (c2.trans ee6.car).trans ct, rs6.turn zD6 (fun _ q => nomatch q) (fun _ _ q => nomatch q) (fun _ q => nomatch q), (re2.ext ee6).car ct rfl (fun d ys q n => ⟨?_, n⟩), upd_same, (rvz.append (RVs.cons rv6 RVs.nil)).car ct (lows_T _), h2⟩
                  rw [upd_ne fun zz => by rw [zz, zD6] at q; cases q]
                  exact q
                · exact h2.elim
      have := ho _ x (wipe σ vs) H3 _ key
      rw [wipe_idem] at this
      exact this
    · exact h2.elim
theorem q_lc {own : Bool} {elt : Expr} {ifs : List Expr} {scope : Scope} {vs : List Nat} (ow : List (Str × Nat)) (hvs : ow.map (·.2) = vs) {gt : TG} (hc : X.calm = true) (hN : X.N.Nodup) (hi : PI X tg iter (tI z W mi)) (ok : BlkOk X.N X.env.scope scope ow) (ho : ∀ av, Own g gt (ow.map (·.2)) (z.wav av))
    (hg : ∀ (s : Shared) (H : Hp) (C : Addr) (cl : List (Str × Addr)) (fp : List Addr), PG (X.blk s H scope (compEnvC scope cl C X.env) fp) tg gt) (ht : ∀ av (s : Shared) (H : Hp) (C : Addr) (cl : List (Str × Addr)) (fp : List Addr), PTs (X.blk s H scope (compEnvC scope cl C X.env) fp) ifs (tT (z.wav av) WF mt))
    (he : ∀ av (s : Shared) (H : Hp) (C : Addr) (cl : List (Str × Addr)) (fp : List Addr), PE (X.blk s H scope (compEnvC scope cl C X.env) fp) elt (tE (z.wav av) WF ma)) (hs : ∀ x, foldedSetIterable iter X.env x = pure x := by intro _; rfl) :
    PE X (.ListComp elt [⟨tg, iter, ifs, 0⟩] scope pos) (tE z W (mLc own mi g mt ma vs)) := by
  subst hvs
  exact pe_imp (pe_lc hc hN hi ok hg (fun s H C cl fp => pts_e fun av => ht av s H C cl fp) (fun s H C cl fp => pe_e fun av => he av s H C cl fp) hs) (s_lc ho)
def mYes : MT := fun _ st => .ok true st
theorem qts_nil : PTs X [] (tT z W mYes) := ⟨fun pins s σ H Q I h => pts_nil.run pins s σ H Q I (by
  obtain ⟨ρ, st, env, rs, re, h⟩ := h
  exact Post.ok (rel := eqB) (a := true) (st := st) h rs rfl)⟩
theorem q_setLc {own : Bool} {i : Nat} {y : Str} {py spos : Pos} {elt : Expr} {ifs : List Expr} {scope : Scope} {vs : List Nat} (ow : List (Str × Nat)) (hvs : ow.map (·.2) = vs) {gt : TG} (hc : X.calm = true) (hN : X.N.Nodup) (hy : X.N[i]? = some y) (hyl : X.env.scope.names.lookup y = some .local)
    (hsw : swapsWith (.ListComp elt [⟨tg, iter, ifs, 0⟩] scope pos) (some (.Name y py)) spos.line X.env = pure true) (hi : PI X tg iter (tI z W mi)) (ok : BlkOk X.N X.env.scope scope ow) (ho : ∀ av, Own g gt (ow.map (·.2)) (z.wav av))
    (hg : ∀ (s : Shared) (H : Hp) (C : Addr) (cl : List (Str × Addr)) (fp : List Addr), PG (X.blk s H scope (compEnvC scope cl C X.env) fp) tg gt) (ht : ∀ av (s : Shared) (H : Hp) (C : Addr) (cl : List (Str × Addr)) (fp : List Addr), PTs (X.blk s H scope (compEnvC scope cl C X.env) fp) ifs (tT (z.wav av) WF mt))
    (he : ∀ av (s : Shared) (H : Hp) (C : Addr) (cl : List (Str × Addr)) (fp : List Addr), PE (X.blk s H scope (compEnvC scope cl C X.env) fp) elt (tE (z.wav av) WF ma)) (hs : ∀ x, foldedSetIterable iter X.env x = pure x := by intro _; rfl) :
    PS X (.Assign [.Name y py] (.ListComp elt [⟨tg, iter, ifs, 0⟩] scope pos) spos) (tS z W (mAsg (mLc own mi g mt ma vs) (gNm i))) := by
 subst hvs
 exact ps_imp (ps_setLc hc hN hy hyl hsw hi ok hg (fun s H C cl fp => pts_e fun av => ht av s H C cl fp) (fun s H C cl fp => pe_e fun av => he av s H C cl fp) hs) (by
  rintro D σ H ⟨ρ, st, env, rs, re, h⟩
  exact s_lc ho σ H _ ⟨ρ, st, env, rs, re, Post.bindS h re fun d s1 ρ1 H1 x e1 rs1 rv1 h1 => h1 ρ1 H1 _ Ext.refl rs1 ((re.ext e1).set rv1 i)⟩)
end
end Nn

namespace Nn
open PySem PySem.Spec PyProof.Rows L2 Lb
/-- a def's meaning -/
abbrev Fn := List D → S → R D
mutual
/-- no place at all -/
def low : D → Bool
  | .tup l => lows l
  | .loc _ => false
  | .fl l => lows l
  | .sc l => lows l
  | .tuf l => lows l
  | .fd _ l => lows l
  | .fo _ _ l => lows l
  | .non => true
  | .bl _ => true
  | .int _ => true
  | .str _ => true
  | .ty _ => true
def lows : List D → Bool
  | [] => true
  | d :: l => low d && lows l
end
mutual
/-- nothing that stands at an address by itself but tuples and dicts -/
def nref : D → Bool
  | .tup l => nrefs l
  | .loc _ => false
  | .fl _ => false
  | .sc _ => false
  | .tuf l => nrefs l
  | .fd _ l => nrefs l
  | .fo _ _ _ => false
  | .non => true
  | .bl _ => true
  | .int _ => true
  | .str _ => true
  | .ty _ => true
def nrefs : List D → Bool
  | [] => true
  | d :: l => nref d && nrefs l
end
def lowO : O → Bool
  | .lst l => lows l
  | .dic l => lows (l.map (·.2))
  | .ins _ l => lows (l.map (·.2))
def nrefO : O → Bool
  | .lst l => nrefs l
  | .dic l => nrefs (l.map (·.2))
  | .ins _ l => nrefs (l.map (·.2))
mutual
theorem low_P {P : Nat → Prop} : ∀ {d : D}, low d = true → Low P d
  | .tup l, h => by unfold low at h; unfold Low; exact lows_P h
  | .loc k, h => by unfold low at h; cases h
  | .fl l, h => by unfold low at h; unfold Low; exact lows_P h
  | .sc l, h => by unfold low at h; unfold Low; exact lows_P h
  | .tuf l, h => by unfold low at h; unfold Low; exact lows_P h
  | .fd _ l, h => by unfold low at h; unfold Low; exact lows_P h
  | .fo _ _ l, h => by unfold low at h; unfold Low; exact lows_P h
  | .non, _ => by unfold Low; trivial
  | .bl _, _ => by unfold Low; trivial
  | .int _, _ => by unfold Low; trivial
  | .str _, _ => by unfold Low; trivial
  | .ty _, _ => by unfold Low; trivial
theorem lows_P {P : Nat → Prop} : ∀ {l : List D}, lows l = true → Lows P l
  | [], _ => by unfold Lows; trivial
  | d :: l, h => by
    unfold lows at h
    rw [Bool.and_eq_true] at h
    unfold Lows
    exact ⟨low_P h.1, lows_P h.2⟩
end
/-! a value that is let go: what stands in the places p becomes its own -/
/-- values without places stay as they are -/
def lowM (f : D → Option D) (l : List D) : Option (List D) := if lows l = true then some l else l.mapM f
def fzG (p : Nat → Bool) (dk : Bool) (st : S) : Nat → D → Option D
  | _, .non => some .non
  | _, .bl b => some (.bl b)
  | _, .int b => some (.int b)
  | _, .str b => some (.str b)
  | _, .ty b => some (.ty b)
  | 0, _ => none
  | n + 1, .tup l => (lowM (fzG p dk st n) l).map .tup
  | n + 1, .fl l => (lowM (fzG p dk st n) l).map .fl
  | n + 1, .tuf l => (lowM (fzG p dk st n) l).map .tuf
  | n + 1, .sc l => (lowM (fzG p dk st n) l).map .sc
  | n + 1, .fd ks l => (lowM (fzG p dk st n) l).map (.fd ks)
  | n + 1, .fo c ks l => (lowM (fzG p dk st n) l).map (.fo c ks)
  | n + 1, .loc k => if p k = true then match st[k]? with
      | some (.lst l) => (lowM (fzG p dk st n) l).map .fl
      | some (.dic l) => if dk = true then (lowM (fzG p dk st n) (l.map (·.2))).map (.fd (l.map (·.1))) else none
      | some (.ins c l) => (lowM (fzG p dk st n) (l.map (·.2))).map (.fo c (l.map (·.1)))
      | none => none
    else none
def fz (p : Nat → Bool) (dk : Bool) (st : S) (d : D) : Option D := if low d = true then some d else fzG p dk st 20 d
def fzs (p : Nat → Bool) (dk : Bool) (st : S) : List D → Option (List D)
  | [] => some []
  | d :: l => match fz p dk st d, fzs p dk st l with
    | some d', some l' => some (d' :: l')
    | _, _ => none
section
variable {z z' : Zc} {ρ ρ' : List Addr} {st : S} {H H' : Hp}
theorem mapM_rvs {f : D → Option D} (hf : ∀ d d' v, f d = some d' → RV z ρ H d v → RV z' ρ' H' d' v) : ∀ (l l' : List D) (xs : List V), l.mapM f = some l' → RVs z ρ H l xs → RVs z' ρ' H' l' xs
  | [], l', xs, h, r => by
    cases h
    rw [rvs0 r]
    exact RVs.nil
  | d :: l, l', xs, h, r => by
    obtain ⟨b, q, e1, e2, rfl⟩ := mapM_cons h
    unfold RVs at r
    obtain ⟨x, w, rfl, r1, r2⟩ := r
    exact RVs.cons (hf _ _ _ e1 r1) (mapM_rvs hf l q w e2 r2)
theorem lowM_rvs {f : D → Option D} (e : Car z ρ H z' ρ' H (fun _ => False)) (hf : ∀ d d' v, f d = some d' → RV z ρ H d v → RV z' ρ' H d' v) (l l' : List D) (xs : List V) (h : lowM f l = some l') (r : RVs z ρ H l xs) : RVs z' ρ' H l' xs := by
  unfold lowM at h
  split at h
  · rename_i hl
    cases h
    exact r.car e (lows_P hl)
  · exact mapM_rvs hf _ _ _ h r
/-- what letting go asks -/
structure Let (z : Zc) (ρ : List Addr) (H : Hp) (z' : Zc) (ρ' : List Addr) (p : Nat → Bool) (dk : Bool) : Prop where
  car : Car z ρ H z' ρ' H (fun _ => False)
  lp : ∀ (k : Nat) a, p k = true → ρ[k]? = some a → (∀ kvs, H a = some (.dK kvs) → dk = true) → Out z' ρ' a
  ow : ∀ dx a, H dx = some (.own a) → ¬ z.av dx → Out z' ρ' dx
theorem fzG_rv {p : Nat → Bool} {dk : Bool} (rs : RS z ρ st H) (L : Let z ρ H z' ρ' p dk) : ∀ (n : Nat) (d d' : D) (v : V), fzG p dk st n d = some d' → RV z ρ H d v → RV z' ρ' H d' v := by
  intro n
  induction n with
  | zero =>
    intro d d' v h r
    cases d with
    | non => cases h; rw [rvn r]; exact rv_non
    | bl b => cases h; rw [rvb r]; exact rv_bl
    | int b => cases h; rw [rvi r]; exact rv_int
    | str b => cases h; rw [rvs r]; exact rv_str
    | ty b => cases h; rw [rvy r]; exact rv_ty
    | _ => cases h
  | succ n ih =>
    intro d d' v h r
    have all := lowM_rvs (z := z) (ρ := ρ) (H := H) (z' := z') (ρ' := ρ') (f := fzG p dk st n) L.car (fun d d' v h r => ih d d' v h r)
    cases d with
    | non => cases h; rw [rvn r]; exact rv_non
    | bl b => cases h; rw [rvb r]; exact rv_bl
    | int b => cases h; rw [rvi r]; exact rv_int
    | str b => cases h; rw [rvs r]; exact rv_str
    | ty b => cases h; rw [rvy r]; exact rv_ty
    | tup l =>
      obtain ⟨l', e, rfl⟩ := Option.map_eq_some_iff.mp (show (lowM (fzG p dk st n) l).map D.tup = some d' from h)
      obtain ⟨a, xs, rfl, q, t⟩ := rvt r
      exact rv_tup (L.car.tp a xs q) (all _ _ _ e t)
    | fl l =>
      obtain ⟨l', e, rfl⟩ := Option.map_eq_some_iff.mp (show (lowM (fzG p dk st n) l).map D.fl = some d' from h)
      obtain ⟨a, xs, rfl, q, t⟩ := rvf r
      exact rv_fl (L.car.fp q) (all _ _ _ e t)
    | tuf l =>
      obtain ⟨l', e, rfl⟩ := Option.map_eq_some_iff.mp (show (lowM (fzG p dk st n) l).map D.tuf = some d' from h)
      obtain ⟨a, xs, rfl, q, t⟩ := rvtf r
      exact rv_tuf (L.car.ft q) (all _ _ _ e t)
    | sc l =>
      obtain ⟨l', e, rfl⟩ := Option.map_eq_some_iff.mp (show (lowM (fzG p dk st n) l).map D.sc = some d' from h)
      obtain ⟨a, xs, rfl, q, t⟩ := rvc r
      unfold RV
      exact ⟨a, xs, rfl, L.car.fz q, all _ _ _ e t⟩
    | fd ks l =>
      obtain ⟨l', e, rfl⟩ := Option.map_eq_some_iff.mp (show (lowM (fzG p dk st n) l).map (D.fd ks) = some d' from h)
      obtain ⟨a, ys, rfl, q, k, t⟩ := rvd r
      exact rv_fd (L.car.fd q) k (all _ _ _ e t)
    | fo c ks l =>
      obtain ⟨l', e, rfl⟩ := Option.map_eq_some_iff.mp (show (lowM (fzG p dk st n) l).map (D.fo c ks) = some d' from h)
      obtain ⟨a, C, dx, ys, rfl, hc, q, k, t⟩ := rvo r
      exact rv_fo (by rw [L.car.cm]; exact hc) (L.car.fo q) k (all _ _ _ e t)
    | loc k =>
      obtain ⟨a, pa, rfl⟩ := rvl r
      have h' : (if p k = true then match st[k]? with
        | some (.lst l) => (lowM (fzG p dk st n) l).map D.fl
        | some (.dic l) => if dk = true then (lowM (fzG p dk st n) (l.map (·.2))).map (D.fd (l.map (·.1))) else none
        | some (.ins c l) => (lowM (fzG p dk st n) (l.map (·.2))).map (D.fo c (l.map (·.1)))
        | none => none else none) = some d' := h
      split at h'
      · rename_i hp
        split at h'
        · rename_i l e0
          obtain ⟨l', e, rfl⟩ := Option.map_eq_some_iff.mp h'
          obtain ⟨xs, h1, t⟩ := rs.obj k _ a e0 pa
          exact rv_fl ⟨h1, L.lp k a hp pa fun kvs q => by rw [h1] at q; cases q⟩ (all _ _ _ e t)
        · rename_i l e0
          split at h'
          · rename_i hd
            obtain ⟨l', e, rfl⟩ := Option.map_eq_some_iff.mp h'
            obtain ⟨ys, h1, k1, t⟩ := rs.obj k _ a e0 pa
            exact rv_fd ⟨.inl h1, L.lp k a hp pa fun _ _ => hd⟩ k1 (all _ _ _ e t)
          · cases h'
        · rename_i c l e0
          obtain ⟨l', e, rfl⟩ := Option.map_eq_some_iff.mp h'
          obtain ⟨C, dx, ys, hc, h1, h2, na, k1, t⟩ := rs.obj k _ a e0 pa
          exact rv_fo (by rw [L.car.cm]; exact hc) ⟨h1, h2, L.lp k a hp pa (fun kvs q => by rw [h1] at q; cases q), L.ow dx a h2 na⟩ k1 (all _ _ _ e t)
        · cases h'
      · cases h'
theorem fz_rv {p : Nat → Bool} {dk : Bool} {d d' : D} {v : V} (rs : RS z ρ st H) (L : Let z ρ H z' ρ' p dk) (h : fz p dk st d = some d') (r : RV z ρ H d v) : RV z' ρ' H d' v := by
  unfold fz at h
  split at h
  · rename_i hl
    cases h
    exact r.car L.car (low_P hl)
  · exact fzG_rv rs L _ _ _ _ h r
theorem fzs_rv {p : Nat → Bool} {dk : Bool} (rs : RS z ρ st H) (L : Let z ρ H z' ρ' p dk) : ∀ {l l' : List D} {xs : List V}, fzs p dk st l = some l' → RVs z ρ H l xs → RVs z' ρ' H l' xs
  | [], l', xs, h, r => by
    cases h
    rw [rvs0 r]
    exact RVs.nil
  | d :: l, l', xs, h, r => by
    unfold fzs at h
    split at h
    · rename_i d' l'' e1 e2
      cases h
      unfold RVs at r
      obtain ⟨x, w, rfl, r1, r2⟩ := r
      exact RVs.cons (fz_rv rs L e1 r1) (fzs_rv rs L e2 r2)
    · cases h
/-- data without places, under another reading -/
theorem RO.low {o : O} {a : Addr} (hl : lowO o = true) (h : RO z ρ H o a) (e : Car z ρ H z' ρ' H (fun _ => False)) (eo : ∀ dx, H dx = Option.some (HO.own a) → ¬ z.av dx → ¬ z'.av dx) : RO z' ρ' H o a := by
  cases o with
  | lst l => obtain ⟨xs, q, r⟩ := h; exact ⟨xs, q, r.car e (lows_P hl)⟩
  | dic l => obtain ⟨xs, q, k, r⟩ := h; exact ⟨xs, q, k, r.car e (lows_P hl)⟩
  | ins c f =>
    obtain ⟨C, dx, ys, c1, q, d, na, k, r⟩ := h
    exact ⟨C, dx, ys, by rw [e.cm]; exact c1, q, d, eo dx d na, k, r.car e (lows_P hl)⟩
end
/-! ### a def's end -/
/-- what the def made is let go, or handed out to be changed -/
def finV (own : Bool) (m : Nat) (d : D) (st : S) : R D :=
  if (st.take m).all lowO = true ∧ m ≤ st.length then
    match own, d with
    | true, .loc k => match st[k]? with
      | some o => if k < m then .ok (.loc k) (st.take m) else if lowO o = true then .ok (.loc m) (st.take m ++ [o]) else .bad
      | none => .bad
    | _, .loc k => if k < m then .ok (.loc k) (st.take m) else match fz (fun k => Nat.ble m k) true st (.loc k) with
      | some d' => .ok d' (st.take m)
      | none => .bad
    | _, d => match fz (fun k => Nat.ble m k) true st d with
      | some d' => .ok d' (st.take m)
      | none => .bad
  else .bad
def fzF (p : Nat → Bool) (st : S) : List (Str × D) → Option (List (Str × D))
  | [] => some []
  | (k, d) :: l => match fz p true st d, fzF p st l with
    | some d', some l' => some ((k, d') :: l')
    | _, _ => none
def finX (m : Nat) (c : String) (fs : List (Str × D)) (st : S) : R D :=
  if (st.take m).all lowO = true ∧ m ≤ st.length then match fzF (fun k => Nat.ble m k) st fs with
    | some fs' => .ex c fs' (st.take m)
    | none => .bad
  else .bad
def fin (own : Bool) (m : Nat) (r : Rt) : R D := match r with
  | .nx _ st' => finV own m .non st'
  | .rt d st' => finV own m d st'
  | .ex c fs _ st' => finX m c fs st'
  | _ => .bad
def startM (n : Nat) (ds : List D) : Ev := ⟨ds.map some ++ List.replicate (n - ds.length) none, none⟩
def fnM (own : Bool) (n : Nat) (m : MS) : Fn := fun ds st => fin own st.length (m (startM n ds) st)
/-- the wish of an error -/
def XE (z : Zc) (E : XK) : XW := fun c fs st ρ H => ∀ (C : Addr) (dx : Option Addr), z.cm c = some C → (match dx with
  | none => fs = []
  | some d => ∃ ys : List (Str × V), H d = some (.xd ys) ∧ d ∉ ρ ∧ ys.map (·.1) = fs.map (·.1) ∧ RVs z ρ H (fs.map (·.2)) (ys.map (·.2))) → E (.ref C) dx H
def wX (z : Zc) (Wx : WX) : WM := fun env σ => XE z fun cls d H => Wx cls d σ H
/-- a def's promise: k arguments -/
def spM (K : PySem.W.Frag) (cm : String → Option Addr) (k : Nat) (f : Fn) : Sp := fun vs H Q E => ∃ av ρ st ds, vs.length = k ∧ RS ⟨K, cm, av, none⟩ ρ st H ∧ RVs ⟨K, cm, av, none⟩ ρ H ds vs ∧ Post ⟨K, cm, av, none⟩ (RV ⟨K, cm, av, none⟩) ρ H (f ds st) Q (XE ⟨K, cm, av, none⟩ E)
section
variable {z z' : Zc} {ρ ρ' : List Addr} {st st' : S} {H H' : Hp} {m n : Nat}
theorem take_get {α : Type} {l : List α} {m k : Nat} {x : α} (h : (l.take m)[k]? = some x) : l[k]? = some x ∧ k < m := by
  have := (List.getElem?_eq_some_iff.mp h).1
  rw [List.length_take] at this
  rw [List.getElem?_take_of_lt (by omega)] at h
  exact ⟨h, by omega⟩
/-- the start's places, later -/
structure Cut (z : Zc) (ρ : List Addr) (st : S) (H : Hp) (ρ' : List Addr) (st' : S) (H' : Hp) : Prop where
  rs : RS z ρ st H
  e : Ext z ρ H ρ' H'
  rs' : RS z ρ' st' H'
  low : (st'.take st.length).all lowO = true
  le : st.length ≤ st'.length
theorem Cut.sub (c : Cut z ρ st H ρ' st' H') {a : Addr} (h : a ∈ ρ) : a ∈ ρ' := by
  obtain ⟨i, hi, e⟩ := List.getElem_of_mem h
  exact List.mem_of_getElem? (c.e.pl i a (by rw [List.getElem?_eq_getElem hi, e]))
theorem Cut.car (c : Cut z ρ st H ρ' st' H') : Car z ρ' H' z ρ H' (fun _ => False) := ⟨rfl, rfl, fun _ _ q => q.elim, fun _ _ h => h, fun a u h n => ⟨u, h, .inl rfl, fun q => n.1 (c.sub q), n.2⟩⟩
theorem Cut.out (c : Cut z ρ st H ρ' st' H') {k : Nat} {a : Addr} (hk : st.length ≤ k) (h : ρ'[k]? = some a) : Out z ρ a := ⟨fun q => by
  obtain ⟨i, hi, e⟩ := List.getElem_of_mem q
  have e' : ρ[i]? = some a := by rw [List.getElem?_eq_getElem hi, e]
  have := c.rs'.inj i k a (c.e.pl i a e') h
  have := c.rs.len
  omega, c.rs'.avo a (List.mem_of_getElem? h)⟩
theorem Cut.ow (c : Cut z ρ st H ρ' st' H') {dx a : Addr} (h : H' dx = some (.own a)) (na : ¬ z.av dx) : Out z ρ dx := ⟨fun q => by
  obtain ⟨u, hu, _, _, hx⟩ := c.rs'.mem (c.sub q)
  rw [h] at hu
  exact hx a (Option.some.inj hu).symm, na⟩
theorem Cut.lt (c : Cut z ρ st H ρ' st' H') : Let z ρ' H' z ρ (fun k => Nat.ble st.length k) true := ⟨c.car, fun k a hk h _ => c.out (by simpa using hk) h, fun dx a h na => c.ow h na⟩
theorem Cut.e0 (c : Cut z ρ st H ρ' st' H') : Ext z ρ H ρ H' := ⟨fun _ _ h => h, c.e.tp, c.e.kq, fun a h h' => absurd h h'⟩
theorem Cut.back (c : Cut z ρ st H ρ' st' H') {k : Nat} {a : Addr} (hk : k < st.length) (h : ρ'[k]? = some a) : ρ[k]? = some a := by
  have hk' : k < ρ.length := by rw [c.rs.len]; exact hk
  have q := c.e.pl k _ (List.getElem?_eq_getElem hk')
  rw [q] at h
  rw [List.getElem?_eq_getElem hk', h]
theorem Cut.rs0 (c : Cut z ρ st H ρ' st' H') : RS z ρ (st'.take st.length) H' := by
  refine ⟨by rw [List.length_take, c.rs.len]; have := c.le; omega, c.rs.inj, fun k o a h1 h2 => ?_, c.rs.avo, c.rs'.avh⟩
  obtain ⟨g1, g2⟩ := take_get h1
  have ro := c.rs'.obj k o a g1 (c.e.pl k a h2)
  exact RO.low (List.all_eq_true.mp c.low o (List.mem_of_getElem? h1)) ro c.car fun dx q na => na
theorem finV_post {own : Bool} {d : D} {Q : VK} {xw : XW} (rs : RS z ρ st H) (h : Post z (RV z) ρ H (finV own st.length d st') Q xw) : ∀ ρ' H' v, Ext z ρ H ρ' H' → RS z ρ' st' H' → RV z ρ' H' d v → Q v H' := by
  intro ρ' H' v e rs' rv
  unfold finV at h
  split at h
  · rename_i c0
    have c : Cut z ρ st H ρ' st' H' := ⟨rs, e, rs', c0.1, c0.2⟩
    have old : ∀ {k : Nat}, k < st.length → d = .loc k → RV z ρ H' (.loc k) v := fun {k} hk q => by
      subst q
      obtain ⟨a, pa, rfl⟩ := rvl rv
      exact rv_loc (c.back hk pa)
    split at h
    · rename_i k
      split at h
      · rename_i o eo
        split at h
        · rename_i hk
          exact h.at c.e0 c.rs0 (old hk rfl)
        · rename_i hk
          split at h
          · rename_i hl
            obtain ⟨a, pa, rfl⟩ := rvl rv
            have ro := rs'.obj k o a eo pa
            have oa := c.out (Nat.le_of_not_lt hk) pa
            have hl2 : ρ.length = (st'.take st.length).length := c.rs0.len
            have ca : Car z ρ' H' z (ρ ++ [a]) H' (fun _ => False) := ⟨rfl, rfl, fun _ _ q => q.elim, fun _ _ h => h, fun b u h n => ⟨u, h, .inl rfl, fun q => by
              rcases List.mem_append.mp q with q | q
              · exact n.1 (c.sub q)
              · rw [List.mem_singleton.mp q] at n
                exact n.1 (List.mem_of_getElem? pa), n.2⟩⟩
            have ex : Ext z ρ H (ρ ++ [a]) H' := ⟨fun n b q => by rw [List.getElem?_append_left (List.getElem?_eq_some_iff.mp q).1]; exact q, e.tp, e.kq, fun b q n => by
              rcases List.mem_append.mp q with q | q
              · exact absurd q n
              · rw [List.mem_singleton.mp q]
                exact e.nw a (List.mem_of_getElem? pa) oa.1⟩
            have rx : RS z (ρ ++ [a]) (st'.take st.length ++ [o]) H' := by
              refine ⟨by simp [hl2], fun i j b h1 h2 => ?_, fun i o' b h1 h2 => ?_, fun b q => ?_, rs'.avh⟩
              · rcases get_snoc h1 with k1 | ⟨k1, k1'⟩ <;> rcases get_snoc h2 with k2 | ⟨k2, k2'⟩
                · exact rs.inj i j b k1 k2
                · exact absurd (by rw [← k2']; exact List.mem_of_getElem? k1) oa.1
                · exact absurd (by rw [← k1']; exact List.mem_of_getElem? k2) oa.1
                · rw [k1, k2]
              · rcases get_snoc h1 with k1 | ⟨k1, k1'⟩ <;> rcases get_snoc h2 with k2 | ⟨k2, k2'⟩
                · obtain ⟨g1, g2⟩ := take_get k1
                  exact RO.low (List.all_eq_true.mp c.low _ (List.mem_of_getElem? k1)) (rs'.obj i o' b g1 (e.pl i b k2)) ca fun dx q na => na
                · have := (List.getElem?_eq_some_iff.mp k1).1
                  omega
                · have := (List.getElem?_eq_some_iff.mp k2).1
                  omega
                · subst k1' k2'
                  exact RO.low hl ro ca fun dx q na => na
              · rcases List.mem_append.mp q with q | q
                · exact rs.avo b q
                · rw [List.mem_singleton.mp q]
                  exact oa.2
            exact h.at ex rx (rv_loc (by rw [← rs.len]; simp))
          · exact h.elim
      · exact h.elim
    · rename_i k _
      split at h
      · rename_i hk
        exact h.at c.e0 c.rs0 (old hk rfl)
      · split at h
        · rename_i d' ed
          exact h.at c.e0 c.rs0 (fz_rv rs' c.lt ed rv)
        · exact h.elim
    · split at h
      · rename_i d' ed
        exact h.at c.e0 c.rs0 (fz_rv rs' c.lt ed rv)
      · exact h.elim
  · exact h.elim
end
end Nn

namespace Nn
open PySem PySem.Spec PyProof.Rows L2 Lb
section
variable {z z' : Zc} {ρ ρ' : List Addr} {st st' : S} {H H' : Hp} {m n : Nat}
theorem fzF_rv {p : Nat → Bool} (rs : RS z ρ st H) (L : Let z ρ H z' ρ' p true) : ∀ {l l' : List (Str × D)} {ys : List (Str × V)}, fzF p st l = some l' → ys.map (·.1) = l.map (·.1) → RVs z ρ H (l.map (·.2)) (ys.map (·.2)) → ys.map (·.1) = l'.map (·.1) ∧ RVs z' ρ' H (l'.map (·.2)) (ys.map (·.2))
  | [], l', ys, h, k, r => by
    cases h
    have : ys = [] := List.map_eq_nil_iff.mp k
    subst this
    exact ⟨rfl, RVs.nil⟩
  | (s, d) :: l, l', ys, h, k, r => by
    unfold fzF at h
    split at h
    · rename_i d' l'' e1 e2
      cases h
      cases ys with
      | nil => simp at k
      | cons y ys =>
        rw [List.map_cons, List.map_cons] at k
        injection k with k1 k2
        rw [List.map_cons, List.map_cons] at r
        unfold RVs at r
        obtain ⟨x, w, e, r1, r2⟩ := r
        injection e with e3 e4
        subst e3 e4
        obtain ⟨i1, i2⟩ := fzF_rv rs L e2 k2 r2
        exact ⟨by rw [List.map_cons, List.map_cons, i1, k1], RVs.cons (fz_rv rs L e1 r1) i2⟩
    · cases h
theorem fin_post {own : Bool} {r : Rt} {Q : VK} {E : XK} (rs : RS z ρ st H) (h : Post z (RV z) ρ H (fin own st.length r) Q (XE z E)) : PostS z ρ H r { nx := fun _ H' => Q .non H', rt := Q } (wX z fun cls d _ H => E cls d H) := by
  cases r with
  | nx env s => exact fun ρ' H' σ' e rs' _ => finV_post rs h ρ' H' _ e rs' rv_non
  | rt d s => exact fun ρ' H' v e rs' rv => finV_post rs h ρ' H' v e rs' rv
  | bk _ _ => exact h.elim
  | ct _ _ => exact h.elim
  | ex c fs env s =>
    intro ρ' H' σ' e rs' _
    have h' : Post z (RV z) ρ H (finX st.length c fs s) Q (XE z E) := h
    unfold finX at h'
    split at h'
    · rename_i c0
      have cc : Cut z ρ st H ρ' s H' := ⟨rs, e, rs', c0.1, c0.2⟩
      split at h'
      · rename_i fs' ef
        intro C dx hC hd
        refine h' ρ H' cc.e0 cc.rs0 C dx hC ?_
        cases dx with
        | none =>
          have : fs = [] := hd
          subst this
          cases ef
          rfl
        | some d =>
          obtain ⟨ys, k1, k2, k3, k4⟩ := hd
          obtain ⟨j1, j2⟩ := fzF_rv rs' cc.lt ef k3 k4
          exact ⟨ys, k1, fun q => k2 (cc.sub q), j1, j2⟩
      · exact h'.elim
    · exact h'.elim
  | bad => exact h.elim
theorem re_start {ds : List D} {vs : List V} {N : List Str} (r : RVs z ρ H ds vs) : RE z ρ H (startM N.length ds) (L2.start N vs) := by
  have e1 := r.length
  unfold startM L2.start
  refine ⟨by simp [e1], fun i d h => ?_, fun _ _ _ q => nomatch q⟩
  have h : (ds.map some ++ List.replicate (N.length - ds.length) none)[i]? = some (some d) := h
  by_cases hi : i < ds.length
  · rw [List.getElem?_append_left (by simpa using hi), List.getElem?_map] at h
    obtain ⟨d', h1, h2⟩ := Option.map_eq_some_iff.mp h
    cases h2
    obtain ⟨v, v1, v2⟩ := r.get h1
    refine ⟨v, ?_, v2⟩
    rw [List.getElem?_append_left (by simp; omega), List.getElem?_map, v1]
    rfl
  · rw [List.getElem?_append_right (by simp; omega)] at h
    rw [List.getElem?_replicate] at h
    split at h <;> simp at h
end
section
variable {X : Cx} {P : Program} {w : World} {K : PySem.W.Frag} {mg : Str → Option Value} {base : Heap} {cm : String → Option Addr}
/-- what a wish that is never granted -/
theorem PostS.wf {z : Zc} {ρ : List Addr} {H : Hp} {r : Rt} {D : Ends} {Wx : WX} (h : PostS z ρ H r D (wX z Wx)) (hn : ∀ c fs e s, r ≠ .ex c fs e s) (W : WM) : PostS z ρ H r D W := by
  cases r with
  | ex c fs e s => exact absurd rfl (hn c fs e s)
  | nx e s => exact h
  | rt d s => exact h
  | bk e s => exact h
  | ct e s => exact h
  | bad => exact h
/-- no error passes -/
def noX (f : Fn) : Fn := fun ds st => match f ds st with
  | .ex _ _ _ => .bad
  | r => r
/-- a def by its mirror, no error leaves it -/
theorem ok_def {x qual : Str} {s0 : Stmt} {f : Addr} {fd : FuncData} {N ps : List Str} {k : Nat} {own : Bool} {m : MS} (F : Fun K x qual s0 f fd) (sc : FnScope N ps (defScope s0))
    (hd : ∀ (av : Addr → Prop) (cdv : Value) (A : Around) (outer : List Env) (s : Shared) (H : Hp) (E : XK), Room k (A.deeper (envOfC qual (defScope s0) s.heap.objs.size f cdv)) → PSs (cxOf CX0 P w K mg base N qual (defScope s0) f cdv A outer s H E).nox (defBody s0) (tS ⟨K, cm, av, none⟩ WF m)) :
    FnOk P w K mg base CX0 (k + 1) f fd ps (spM K cm ps.length (noX (fnM own N.length m))) := by
  refine F.ok sc (fun vs H Q E h => ?_) (fun cdv A outer s H vs Q E hr h => ?_)
  · obtain ⟨av, ρ, st, ds, hl, _⟩ := h
    exact hl
  · obtain ⟨av, ρ, st, ds, hl, rs, rv, q⟩ := h
    refine ⟨_, hd av cdv A outer s H E hr, ρ, st, startM N.length ds, rs, re_start rv, ?_⟩
    have q' : Post ⟨K, cm, av, none⟩ (RV ⟨K, cm, av, none⟩) ρ H (fin own st.length (m (startM N.length ds) st)) Q (XE ⟨K, cm, av, none⟩ E) ∧ ∀ c fs e s, m (startM N.length ds) st ≠ .ex c fs e s := by
      unfold noX fnM at q
      split at q
      · exact q.elim
      · rename_i hn
        refine ⟨q, fun c fs e s qe => ?_⟩
        rw [qe] at q hn
        have q : Post ⟨K, cm, av, none⟩ (RV ⟨K, cm, av, none⟩) ρ H (finX st.length c fs s) Q (XE ⟨K, cm, av, none⟩ E) := q
        unfold finX at q
        split at q
        · rename_i c0
          split at q
          · rename_i fs' ef
            refine hn c fs' (s.take st.length) ?_
            show finX st.length c fs s = _
            unfold finX
            rw [if_pos c0, ef]
          · exact q
        · exact q
    exact PostS.wf (fin_post rs q'.1) q'.2 WF
/-! ### calls -/
/-- the places of the arguments that may be changed -/
def mutPl : List Bool → List D → Option (List Nat)
  | [], [] => some []
  | true :: md, .loc n :: ds => (mutPl md ds).map (n :: ·)
  | false :: md, _ :: ds => mutPl md ds
  | _, _ => none
/-- the arguments as the callee sees them -/
def mArgs (p : Nat → Bool) (st : S) : List Bool → List D → Nat → Option (List D)
  | [], [], _ => some []
  | true :: md, .loc _ :: ds, j => (mArgs p st md ds (j + 1)).map (.loc j :: ·)
  | false :: md, d :: ds, j => match fz p false st d, mArgs p st md ds j with
    | some d', some r => some (d' :: r)
    | _, _ => none
  | _, _, _ => none
/-- is anything lent? -/
def lentB : List Bool → List D → Bool
  | false :: md, d :: ds => !low d || lentB md ds
  | _ :: md, _ :: ds => lentB md ds
  | _, _ => false
def minis (st : S) : List Nat → Option (List O)
  | [] => some []
  | p :: ps => match st[p]?, minis st ps with
    | some o, some r => if lowO o = true then some (o :: r) else none
    | _, _ => none
def wb : S → List Nat → List O → S
  | st, p :: ps, o :: os => wb (st.set p o) ps os
  | st, _, _ => st
def nodupB : List Nat → Bool
  | [] => true
  | p :: ps => !(ps.contains p) && nodupB ps
/-- what comes back -/
def callR (lent : Bool) (ps : List Nat) (st : S) (r : R D) : R D := match r with
  | .ok d s' => if (lent = true → nref d = true ∧ s'.all nrefO = true) ∧ s'.all lowO = true then
      if s'.length = ps.length then match d with
        | .loc j => match ps[j]? with
          | some p => .ok (.loc p) (wb st ps s')
          | none => .bad
        | d => if low d = true then .ok d (wb st ps s') else .bad
      else if s'.length = ps.length + 1 then match d with
        | .loc j => if j = ps.length then match s'[j]? with
          | some o => .ok (.loc st.length) (wb st ps s' ++ [o])
          | none => .bad else .bad
        | _ => .bad
      else .bad
    else .bad
  | .ex c fs s' => if (lent = true → nrefs (fs.map (·.2)) = true ∧ s'.all nrefO = true) ∧ s'.all lowO = true ∧ s'.length = ps.length ∧ lows (fs.map (·.2)) = true then .ex c fs (wb st ps s') else .bad
  | .bad => .bad
def callF (md : List Bool) (f : Fn) : Fn := fun ds st => match mutPl md ds with
  | some ps => if nodupB ps = true then match minis st ps, mArgs (fun k => !(ps.contains k)) st md ds 0 with
      | some mini, some ds' => callR (lentB md ds) ps st (f ds' mini)
      | _, _ => .bad
    else .bad
  | none => .bad
def mCall (md : List Bool) (f : Fn) (ar : MA) : ME := fun env st => (ar env st).bind fun ds s1 => callF md f ds s1
end
section
variable {z z' : Zc} {ρ ρm ρ' : List Addr} {st st' : S} {H H' : Hp}
/-- the callee's places among the caller's -/
def Sel (ρ : List Addr) (ps : List Nat) (ρm : List Addr) : Prop := ρm.length = ps.length ∧ ∀ (j p : Nat), ps[j]? = some p → ∃ a, ρm[j]? = some a ∧ ρ[p]? = some a
theorem Sel.sub {ps : List Nat} (s : Sel ρ ps ρm) {a : Addr} (h : a ∈ ρm) : ∃ (j p : Nat), ps[j]? = some p ∧ ρm[j]? = some a ∧ ρ[p]? = some a := by
  obtain ⟨j, hj, e⟩ := List.getElem_of_mem h
  have e' : ρm[j]? = some a := by rw [List.getElem?_eq_getElem hj, e]
  have hp : j < ps.length := by rw [← s.1]; exact hj
  obtain ⟨b, b1, b2⟩ := s.2 j _ (List.getElem?_eq_getElem hp)
  rw [e'] at b1
  cases b1
  exact ⟨j, _, List.getElem?_eq_getElem hp, e', b2⟩
theorem Sel.mem {ps : List Nat} (s : Sel ρ ps ρm) {a : Addr} (h : a ∈ ρm) : a ∈ ρ := by
  obtain ⟨j, p, _, _, h⟩ := s.sub h
  exact List.mem_of_getElem? h
theorem minis_get : ∀ {ps : List Nat} {mini : List O}, minis st ps = some mini → mini.length = ps.length ∧ ∀ (j p : Nat), ps[j]? = some p → ∃ o, mini[j]? = some o ∧ st[p]? = some o ∧ lowO o = true
  | [], mini, h => by
    cases h
    exact ⟨rfl, fun j p q => by simp at q⟩
  | p :: ps, mini, h => by
    unfold minis at h
    split at h
    · rename_i o r e1 e2
      split at h
      · rename_i hl
        cases h
        obtain ⟨i1, i2⟩ := minis_get e2
        refine ⟨by simp [i1], fun j q e => ?_⟩
        cases j with
        | zero =>
          have : p = q := by simpa using e
          subst this
          exact ⟨o, rfl, e1, hl⟩
        | succ j =>
          obtain ⟨o', k1, k2, k3⟩ := i2 j q (by simpa using e)
          exact ⟨o', by simpa using k1, k2, k3⟩
      · cases h
    · cases h
theorem sel_mk : ∀ {ps : List Nat}, (∀ p ∈ ps, ∃ a, ρ[p]? = some a) → ∃ ρm, Sel ρ ps ρm
  | [], _ => ⟨[], rfl, fun j p q => by simp at q⟩
  | p :: ps, h => by
    obtain ⟨a, ea⟩ := h p (List.mem_cons_self ..)
    obtain ⟨ρm, s1, s2⟩ := sel_mk (ps := ps) fun q hq => h q (List.mem_cons_of_mem _ hq)
    refine ⟨a :: ρm, by simp [s1], fun j q e => ?_⟩
    cases j with
    | zero =>
      have : p = q := by simpa using e
      subst this
      exact ⟨a, rfl, ea⟩
    | succ j =>
      obtain ⟨b, b1, b2⟩ := s2 j q (by simpa using e)
      exact ⟨b, by simpa using b1, b2⟩
theorem nodup_ix : ∀ {ps : List Nat}, nodupB ps = true → ∀ (i j p : Nat), ps[i]? = some p → ps[j]? = some p → i = j
  | [], _, i, j, p, e, _ => by simp at e
  | q :: ps, h, i, j, p, e1, e2 => by
    unfold nodupB at h
    rw [Bool.and_eq_true] at h
    have hn : q ∉ ps := by simpa using h.1
    cases i with
    | zero =>
      have e1 : q = p := by simpa using e1
      cases j with
      | zero => rfl
      | succ j => exact absurd (by rw [e1]; exact List.mem_of_getElem? (show ps[j]? = some p by simpa using e2)) hn
    | succ i =>
      cases j with
      | zero =>
        have e2 : q = p := by simpa using e2
        exact absurd (by rw [e2]; exact List.mem_of_getElem? (show ps[i]? = some p by simpa using e1)) hn
      | succ j =>
        have := nodup_ix h.2 i j p (by simpa using e1) (by simpa using e2)
        omega
theorem wb_len : ∀ {ps : List Nat} {os : List O} {st : S}, (wb st ps os).length = st.length
  | [], [], st => rfl
  | [], _ :: _, st => rfl
  | _ :: _, [], st => rfl
  | p :: ps, o :: os, st => by
    unfold wb
    rw [wb_len, List.length_set]
theorem wb_get : ∀ {ps : List Nat} {os : List O} {st : S} {n : Nat} {o : O}, nodupB ps = true → ps.length ≤ os.length → (wb st ps os)[n]? = some o → (n ∉ ps ∧ st[n]? = some o) ∨ ∃ j : Nat, ps[j]? = some n ∧ os[j]? = some o
  | [], [], st, n, o, _, _, h => .inl ⟨by simp, h⟩
  | [], _ :: _, st, n, o, _, _, h => .inl ⟨by simp, h⟩
  | p :: ps, [], st, n, o, _, hl, h => by simp at hl
  | p :: ps, x :: os, st, n, o, hn, hl, h => by
    unfold wb at h
    unfold nodupB at hn
    rw [Bool.and_eq_true] at hn
    have hp : p ∉ ps := by simpa using hn.1
    rcases wb_get hn.2 (by simpa using hl) h with ⟨h1, h2⟩ | ⟨j, j1, j2⟩
    · by_cases e : p = n
      · subst e
        have hlt : p < st.length := by
          have := (List.getElem?_eq_some_iff.mp h2).1
          simpa using this
        rw [List.getElem?_set_self hlt] at h2
        exact .inr ⟨0, rfl, h2⟩
      · rw [List.getElem?_set_ne e] at h2
        exact .inl ⟨fun q => by
          rcases List.mem_cons.mp q with q | q
          · exact e q.symm
          · exact h1 q, h2⟩
    · exact .inr ⟨j + 1, by simpa using j1, by simpa using j2⟩

/-- what the callee may not touch -/
def avC (z : Zc) (ρ ρm : List Addr) (H : Hp) (lent : Bool) : Addr → Prop := fun a => z.av a ∨ (a ∈ ρ ∧ a ∉ ρm ∧ (lent = true → ∃ kvs, H a = some (.dK kvs)))
abbrev zC (z : Zc) (ρ ρm : List Addr) (H : Hp) (lent : Bool) : Zc := ⟨z.K, z.cm, avC z ρ ρm H lent, none⟩
theorem Car.call {lent : Bool} {ps : List Nat} (s : Sel ρ ps ρm) : Car z ρ H (zC z ρ ρm H lent) ρm H (fun _ => False) := ⟨rfl, rfl, fun _ _ q => q.elim, fun _ _ h => h, fun a u h n => ⟨u, h, .inl rfl, fun q => n.1 (s.mem q), fun q => q.elim n.2 fun q => n.1 q.1⟩⟩
theorem RS.mini {lent : Bool} {ps : List Nat} {mini : List O} (rs : RS z ρ st H) (s : Sel ρ ps ρm) (hn : nodupB ps = true) (hm : minis st ps = some mini) : RS (zC z ρ ρm H lent) ρm mini H := by
  obtain ⟨m1, m2⟩ := minis_get hm
  refine ⟨by rw [s.1, m1], fun i j a h1 h2 => ?_, fun j o a h1 h2 => ?_, fun a q k => ?_, fun a k => ?_⟩
  · have hi : i < ps.length := by rw [← s.1]; exact (List.getElem?_eq_some_iff.mp h1).1
    have hj : j < ps.length := by rw [← s.1]; exact (List.getElem?_eq_some_iff.mp h2).1
    have e1 := List.getElem?_eq_getElem hi
    have e2 := List.getElem?_eq_getElem hj
    obtain ⟨b, b1, b2⟩ := s.2 i _ e1
    obtain ⟨c, c1, c2⟩ := s.2 j _ e2
    rw [h1] at b1
    rw [h2] at c1
    cases b1
    cases c1
    have := rs.inj _ _ _ b2 c2
    exact nodup_ix hn i j _ e1 (by rw [e2, this])
  · have hj : j < ps.length := by rw [← s.1]; exact (List.getElem?_eq_some_iff.mp h2).1
    obtain ⟨o', k1, k2, k3⟩ := m2 j _ (List.getElem?_eq_getElem hj)
    rw [h1] at k1
    cases k1
    obtain ⟨b, b1, b2⟩ := s.2 j _ (List.getElem?_eq_getElem hj)
    rw [h2] at b1
    cases b1
    refine RO.low k3 (rs.obj _ _ a k2 b2) (Car.call s) fun dx q na k => ?_
    rcases k with k | k
    · exact na k
    · obtain ⟨u, hu, _, _, hx⟩ := rs.mem k.1
      rw [q] at hu
      exact hx a (Option.some.inj hu).symm
  · rcases k with k | k
    · exact rs.avo a (s.mem q) k
    · exact k.2.1 q
  · rcases k with k | k
    · exact rs.avh a k
    · obtain ⟨u, hu, _⟩ := rs.mem k.1
      exact ⟨u, hu⟩
theorem args_rv {lent : Bool} {ps0 : List Nat} (rs : RS z ρ st H) (s : Sel ρ ps0 ρm) : ∀ {md : List Bool} {ds ds' : List D} {vs : List V} {ps pre : List Nat}, mutPl md ds = some ps → ps0 = pre ++ ps → (lentB md ds = true → lent = true) → mArgs (fun k => !(ps0.contains k)) st md ds pre.length = some ds' → RVs z ρ H ds vs → RVs (zC z ρ ρm H lent) ρm H ds' vs
  | [], [], ds', vs, ps, pre, _, _, _, h, r => by
    cases h
    rw [rvs0 r]
    exact RVs.nil
  | [], _ :: _, _, _, _, _, h, _, _, _, _ => by cases h
  | true :: md, [], _, _, _, _, h, _, _, _, _ => by cases h
  | false :: md, [], _, _, _, _, h, _, _, _, _ => by cases h
  | true :: md, d :: ds, ds', vs, ps, pre, h, hp, hle, ha, r => by
    cases d with
    | loc n =>
      have h' : (mutPl md ds).map (n :: ·) = some ps := h
      obtain ⟨ps', e1, rfl⟩ := Option.map_eq_some_iff.mp h'
      have ha' : (mArgs (fun k => !(ps0.contains k)) st md ds (pre.length + 1)).map (D.loc pre.length :: ·) = some ds' := ha
      obtain ⟨ds'', e2, rfl⟩ := Option.map_eq_some_iff.mp ha'
      unfold RVs at r
      obtain ⟨x, w, rfl, r1, r2⟩ := r
      obtain ⟨a, pa, rfl⟩ := rvl r1
      obtain ⟨b, b1, b2⟩ := s.2 pre.length n (by rw [hp]; simp)
      rw [pa] at b2
      cases b2
      exact RVs.cons (rv_loc b1) (args_rv rs s (pre := pre ++ [n]) e1 (by rw [hp]; simp) (fun q => hle q) (by simpa using e2) r2)
    | _ => cases h
  | false :: md, d :: ds, ds', vs, ps, pre, h, hp, hle, ha, r => by
    have h' : mutPl md ds = some ps := h
    unfold mArgs at ha
    split at ha
    · rename_i d' rr e1 e2
      cases ha
      unfold RVs at r
      obtain ⟨x, w, rfl, r1, r2⟩ := r
      refine RVs.cons ?_ (args_rv rs s h' hp (fun q => hle (by unfold lentB; rw [q, Bool.or_true])) e2 r2)
      by_cases hl : low d = true
      · unfold fz at e1
        rw [if_pos hl] at e1
        cases e1
        exact r1.car (Car.call s) (low_P hl)
      · have hlent : lent = true := hle (by
          unfold lentB
          have : low d = false := by simpa using hl
          rw [this]
          rfl)
        refine fz_rv rs ⟨Car.call s, fun k a hk hka hd => ⟨fun q => ?_, fun q => ?_⟩, fun dx a q na => ⟨fun k => ?_, fun k => ?_⟩⟩ e1 r1
        · obtain ⟨j, p, j1, j2, j3⟩ := s.sub q
          have := rs.inj _ _ _ hka j3
          subst this
          have hm : k ∈ ps0 := List.mem_of_getElem? j1
          simp [hm] at hk
        · rcases q with q | q
          · exact rs.avo a (List.mem_of_getElem? hka) q
          · obtain ⟨kvs, hkv⟩ := q.2.2 hlent
            have := hd kvs hkv
            cases this
        · obtain ⟨u, hu, _, _, hx⟩ := rs.mem (s.mem k)
          rw [q] at hu
          exact hx a (Option.some.inj hu).symm
        · rcases k with k | k
          · exact na k
          · obtain ⟨u, hu, _, _, hx⟩ := rs.mem k.1
            rw [q] at hu
            exact hx a (Option.some.inj hu).symm
    · cases ha
mutual
/-- data that stand at no address but tuples, under any reading -/
theorem rv_nref (e : z'.K = z.K) (hd : ∀ a ys, FzD z ρ H a ys → FzD z' ρ' H a ys) (ht : ∀ a xs, FzT z ρ H a xs → FzT z' ρ' H a xs) : ∀ {d : D} {v : V}, nref d = true → RV z ρ H d v → RV z' ρ' H d v
  | .non, v, _, h => by rw [rvn h]; exact rv_non
  | .bl b, v, _, h => by rw [rvb h]; exact rv_bl
  | .int b, v, _, h => by rw [rvi h]; exact rv_int
  | .str b, v, _, h => by rw [rvs h]; exact rv_str
  | .ty b, v, _, h => by rw [rvy h]; exact rv_ty
  | .tup l, v, hn, h => by
    unfold nref at hn
    obtain ⟨a, xs, rfl, q, t⟩ := rvt h
    exact rv_tup (by rw [e]; exact q) (rvs_nref e hd ht hn t)
  | .loc _, _, hn, _ => by unfold nref at hn; cases hn
  | .fl _, _, hn, _ => by unfold nref at hn; cases hn
  | .sc _, _, hn, _ => by unfold nref at hn; cases hn
  | .tuf l, v, hn, h => by
    unfold nref at hn
    obtain ⟨a, xs, rfl, q, t⟩ := rvtf h
    exact rv_tuf (ht a xs q) (rvs_nref e hd ht hn t)
  | .fd ks l, v, hn, h => by
    unfold nref at hn
    obtain ⟨a, ys, rfl, q, k, t⟩ := rvd h
    exact rv_fd (hd a ys q) k (rvs_nref e hd ht hn t)
  | .fo _ _ _, _, hn, _ => by unfold nref at hn; cases hn
theorem rvs_nref (e : z'.K = z.K) (hd : ∀ a ys, FzD z ρ H a ys → FzD z' ρ' H a ys) (ht : ∀ a xs, FzT z ρ H a xs → FzT z' ρ' H a xs) : ∀ {l : List D} {xs : List V}, nrefs l = true → RVs z ρ H l xs → RVs z' ρ' H l xs
  | [], xs, _, h => by rw [rvs0 h]; exact RVs.nil
  | d :: l, xs, hn, h => by
    unfold nrefs at hn
    rw [Bool.and_eq_true] at hn
    unfold RVs at h
    obtain ⟨x, r, rfl, q, t⟩ := h
    exact RVs.cons (rv_nref e hd ht hn.1 q) (rvs_nref e hd ht hn.2 t)
end
end
end Nn

namespace Nn
open PySem PySem.Spec PyProof.Rows L2 Lb
section
variable {z z' : Zc} {ρ ρm ext : List Addr} {st s1 : S} {H H' : Hp} {ps : List Nat} {lent : Bool}
/-- behind a call: the callee's places are ρm and ext -/
structure Bk (z : Zc) (ρ ρm ext : List Addr) (st s1 : S) (H H' : Hp) (ps : List Nat) (lent : Bool) : Prop where
  rs : RS z ρ st H
  s : Sel ρ ps ρm
  hn : nodupB ps = true
  e : Ext (zC z ρ ρm H lent) ρm H (ρm ++ ext) H'
  rs' : RS (zC z ρ ρm H lent) (ρm ++ ext) s1 H'
  lo : s1.all lowO = true
  nr : lent = true → s1.all nrefO = true
theorem Bk.free (B : Bk z ρ ρm ext st s1 H H' ps lent) {b : Addr} (h : b ∈ ext) (i : Nat) (hi : ext[i]? = some b) : H b = none ∧ b ∉ ρ := by
  have hm : b ∉ ρm := fun q => by
    obtain ⟨j, hj, ej⟩ := List.getElem_of_mem q
    have e1 : (ρm ++ ext)[j]? = some b := by rw [List.getElem?_append_left hj, List.getElem?_eq_getElem hj, ej]
    have e2 : (ρm ++ ext)[ρm.length + i]? = some b := by rw [List.getElem?_append_right (by omega)]; simpa using hi
    have := B.rs'.inj _ _ _ e1 e2
    omega
  have h0 := B.e.nw b (List.mem_append_right _ h) hm
  exact ⟨h0, B.rs.free h0⟩
theorem Bk.free' (B : Bk z ρ ρm ext st s1 H H' ps lent) {b : Addr} (h : b ∈ ext) : H b = none ∧ b ∉ ρ := by
  obtain ⟨i, hi, e⟩ := List.getElem_of_mem h
  exact B.free h i (by rw [List.getElem?_eq_getElem hi, e])
theorem Bk.exn (B : Bk z ρ ρm ext st s1 H H' ps lent) : Ext z ρ H (ρ ++ ext) H' := ⟨fun n a q => by rw [List.getElem?_append_left (List.getElem?_eq_some_iff.mp q).1]; exact q, B.e.tp, fun a u q n => by
  obtain ⟨w, h1, h2, h3⟩ := B.e.kq a u q fun k => n (B.s.mem k)
  exact ⟨w, h1, h2, fun k => h3 (.inl k)⟩, fun a q n => by
  rcases List.mem_append.mp q with q | q
  · exact absurd q n
  · exact (B.free' q).1⟩
theorem Bk.car (B : Bk z ρ ρm ext st s1 H H' ps lent) (hl : lent = false) : Car (zC z ρ ρm H lent) (ρm ++ ext) H' z (ρ ++ ext) H' (fun _ => False) := ⟨rfl, rfl, fun _ _ q => q.elim, fun _ _ h => h, fun a u h n => ⟨u, h, .inl rfl, fun q => by
  rcases List.mem_append.mp q with q | q
  · exact n.2 (.inr ⟨q, fun k => n.1 (List.mem_append_left _ k), fun k => by rw [hl] at k; cases k⟩)
  · exact n.1 (List.mem_append_right _ q), fun q => n.2 (.inl q)⟩⟩
theorem Bk.nold (B : Bk z ρ ρm ext st s1 H H' ps true) {a : Addr} {w : HO} (hw : H' a = some w) (n : Out (zC z ρ ρm H true) (ρm ++ ext) a) (h1 : (∃ ys, w = .dK ys) ∨ (∃ o u, w = .frz o u)) : Out z (ρ ++ ext) a := by
  refine ⟨fun q => ?_, fun q => n.2 (.inl q)⟩
  rcases List.mem_append.mp q with q | q
  · have nm : a ∉ ρm := fun k => n.1 (List.mem_append_left _ k)
    obtain ⟨u, hu, _, k2, _⟩ := B.rs.mem q
    obtain ⟨w', e1, e2, _⟩ := B.e.kq a u hu nm
    rw [hw] at e1
    cases e1
    have dk : ∃ kvs, u = .dK kvs := by
      rcases e2 with rfl | ⟨kvs, o, rfl, _⟩
      · rcases h1 with ⟨ys, rfl⟩ | ⟨o, u', rfl⟩
        · exact ⟨ys, rfl⟩
        · obtain ⟨_, _, _, hf, _⟩ := B.rs.mem q
          exact absurd rfl (k2 o _) |> False.elim
      · exact ⟨kvs, rfl⟩
    obtain ⟨kvs, rfl⟩ := dk
    exact n.2 (.inr ⟨q, nm, fun _ => ⟨kvs, hu⟩⟩)
  · exact n.1 (List.mem_append_right _ q)
theorem Bk.nd (B : Bk z ρ ρm ext st s1 H H' ps true) : ∀ a ys, FzD (zC z ρ ρm H true) (ρm ++ ext) H' a ys → FzD z (ρ ++ ext) H' a ys := fun a ys h => by
  obtain ⟨h1, h2⟩ := h
  rcases h1 with h1 | ⟨o, h1⟩
  · exact ⟨.inl h1, B.nold h1 h2 (.inl ⟨_, rfl⟩)⟩
  · exact ⟨.inr ⟨o, h1⟩, B.nold h1 h2 (.inr ⟨_, _, rfl⟩)⟩
theorem Bk.nt (B : Bk z ρ ρm ext st s1 H H' ps true) : ∀ a xs, FzT (zC z ρ ρm H true) (ρm ++ ext) H' a xs → FzT z (ρ ++ ext) H' a xs := fun a xs h => by
  obtain ⟨o, h1, h2, h3⟩ := h
  exact ⟨o, h1, h2, B.nold h1 h3 (.inr ⟨_, _, rfl⟩)⟩
theorem Bk.rv (B : Bk z ρ ρm ext st s1 H H' ps lent) {d : D} {v : V} (hl : low d = true) (hr : lent = true → nref d = true) (h : RV (zC z ρ ρm H lent) (ρm ++ ext) H' d v) : RV z (ρ ++ ext) H' d v := by
  cases hlent : lent with
  | false => exact h.car (B.car hlent) (low_P hl)
  | true => subst hlent; exact rv_nref (z := zC z ρ ρm H true) (z' := z) rfl B.nd B.nt (hr rfl) h
theorem Bk.rvs (B : Bk z ρ ρm ext st s1 H H' ps lent) {l : List D} {xs : List V} (hl : lows l = true) (hr : lent = true → nrefs l = true) (h : RVs (zC z ρ ρm H lent) (ρm ++ ext) H' l xs) : RVs z (ρ ++ ext) H' l xs := by
  cases hlent : lent with
  | false => exact h.car (B.car hlent) (lows_P hl)
  | true => subst hlent; exact rvs_nref (z := zC z ρ ρm H true) (z' := z) rfl B.nd B.nt (hr rfl) h
theorem Bk.ro (B : Bk z ρ ρm ext st s1 H H' ps lent) {o : O} {a : Addr} (hm : o ∈ s1) (h : RO (zC z ρ ρm H lent) (ρm ++ ext) H' o a) : RO z (ρ ++ ext) H' o a := by
  have lo := List.all_eq_true.mp B.lo o hm
  have nr : lent = true → nrefO o = true := fun q => List.all_eq_true.mp (B.nr q) o hm
  cases o with
  | lst l => obtain ⟨xs, q, r⟩ := h; exact ⟨xs, q, B.rvs lo nr r⟩
  | dic l => obtain ⟨xs, q, k, r⟩ := h; exact ⟨xs, q, k, B.rvs lo nr r⟩
  | ins c f =>
    obtain ⟨C, dx, ys, c1, q, d, na, k, r⟩ := h
    exact ⟨C, dx, ys, c1, q, d, fun k => na (.inl k), k, B.rvs lo nr r⟩
theorem Bk.old (B : Bk z ρ ρm ext st s1 H H' ps lent) {n : Nat} {o : O} {a : Addr} (hn : n ∉ ps) (h1 : st[n]? = some o) (h2 : ρ[n]? = some a) : RO z (ρ ++ ext) H' o a := by
  have nm : a ∉ ρm := fun q => by
    obtain ⟨j, p, j1, j2, j3⟩ := B.s.sub q
    have := B.rs.inj _ _ _ h2 j3
    subst this
    exact hn (List.mem_of_getElem? j1)
  have ro := B.rs.obj n o a h1 h2
  have own : ∀ dx, H dx = some (HO.own a) → H' dx = some (.own a) := fun dx q => B.e.kp q (fun k => by
    obtain ⟨u, hu, _, _, hx⟩ := B.rs.mem (B.s.mem k)
    rw [q] at hu
    exact hx a (Option.some.inj hu).symm) (fun _ q => nomatch q)
  refine ro.ext B.exn ?_ own
  cases o with
  | lst l =>
    obtain ⟨xs, q, _⟩ := ro
    rw [q]
    exact B.e.kp q nm (fun _ q => nomatch q)
  | dic l =>
    obtain ⟨xs, q, _⟩ := ro
    rw [q]
    exact B.e.kv q nm (.inr ⟨List.mem_of_getElem? h2, nm, fun _ => ⟨xs, q⟩⟩)
  | ins c f =>
    obtain ⟨C, dx, ys, c1, q, _⟩ := ro
    rw [q]
    exact B.e.kp q nm (fun _ q => nomatch q)
theorem Bk.back (B : Bk z ρ ρm ext st s1 H H' ps lent) (tail : S) (ht : tail.length = ext.length) (hl : ps.length ≤ s1.length) (hx : ∀ (i : Nat) o, tail[i]? = some o → s1[ps.length + i]? = some o) : RS z (ρ ++ ext) (wb st ps s1 ++ tail) H' := by
  have lw : (wb st ps s1).length = st.length := wb_len
  have lr : ρ.length = st.length := B.rs.len
  refine ⟨by simp [lw, lr, ht], fun i j a h1 h2 => ?_, fun n o a h1 h2 => ?_, fun a q => ?_, fun a k => ?_⟩
  · by_cases hi : i < ρ.length
    · rw [List.getElem?_append_left hi] at h1
      by_cases hj : j < ρ.length
      · rw [List.getElem?_append_left hj] at h2
        exact B.rs.inj i j a h1 h2
      · rw [List.getElem?_append_right (by omega)] at h2
        exact absurd (List.mem_of_getElem? h1) (B.free' (List.mem_of_getElem? h2)).2
    · rw [List.getElem?_append_right (by omega)] at h1
      by_cases hj : j < ρ.length
      · rw [List.getElem?_append_left hj] at h2
        exact absurd (List.mem_of_getElem? h2) (B.free' (List.mem_of_getElem? h1)).2
      · rw [List.getElem?_append_right (by omega)] at h2
        have e1 : (ρm ++ ext)[ρm.length + (i - ρ.length)]? = some a := by rw [List.getElem?_append_right (by omega)]; simpa using h1
        have e2 : (ρm ++ ext)[ρm.length + (j - ρ.length)]? = some a := by rw [List.getElem?_append_right (by omega)]; simpa using h2
        have := B.rs'.inj _ _ _ e1 e2
        omega
  · by_cases hi : n < ρ.length
    · rw [List.getElem?_append_left (by omega)] at h1
      rw [List.getElem?_append_left hi] at h2
      rcases wb_get B.hn hl h1 with ⟨k1, k2⟩ | ⟨j, j1, j2⟩
      · exact B.old k1 k2 h2
      · obtain ⟨b, b1, b2⟩ := B.s.2 j n j1
        rw [h2] at b2
        cases b2
        have hj : j < ρm.length := (List.getElem?_eq_some_iff.mp b1).1
        exact B.ro (List.mem_of_getElem? j2) (B.rs'.obj j o a j2 (by rw [List.getElem?_append_left hj]; exact b1))
    · rw [List.getElem?_append_right (by omega)] at h1 h2
      have q := hx _ o h1
      rw [lw] at q
      refine B.ro (List.mem_of_getElem? q) (B.rs'.obj _ o a q ?_)
      rw [← B.s.1, List.getElem?_append_right (by omega)]
      rw [← lr]
      simpa using h2
  · rcases List.mem_append.mp q with q | q
    · exact B.rs.avo a q
    · exact fun k => B.rs'.avo a (List.mem_append_right _ q) (.inl k)
  · exact B.rs'.avh a (.inl k)
theorem split_ext {l ρ' : List Addr} (pl : ∀ (n : Nat) a, l[n]? = some a → ρ'[n]? = some a) (hl : l.length ≤ ρ'.length) : ρ' = l ++ ρ'.drop l.length := by
  refine List.ext_getElem? fun i => ?_
  by_cases hi : i < l.length
  · rw [List.getElem?_append_left hi, List.getElem?_eq_getElem hi, pl i _ (List.getElem?_eq_getElem hi)]
  · rw [List.getElem?_append_right (by omega), List.getElem?_drop]
    congr 1
    omega
theorem one_of {α : Type} {l : List α} (h : l.length = 1) : ∃ a, l = [a] := by
  cases l with
  | nil => simp at h
  | cons a r =>
    cases r with
    | nil => exact ⟨a, rfl⟩
    | cons b r => simp at h
variable {Q : VK} {xw : XW} {ds : List D} {vs : List V} {md : List Bool} {f : Fn}
/-- a call: what the callee promises is what the caller wants -/
theorem callF_post {E : XK} (rs : RS z ρ st H) (rv : RVs z ρ H ds vs) (h : Post z (RV z) ρ H (callF md f ds st) Q xw) (hE : ∀ c fs s ρ1 H1, Ext z ρ H ρ1 H1 → RS z ρ1 s H1 → xw c fs s ρ1 H1 → XE z E c fs s ρ1 H1) :
    ∃ av ρm mini ds', RS ⟨z.K, z.cm, av, none⟩ ρm mini H ∧ RVs ⟨z.K, z.cm, av, none⟩ ρm H ds' vs ∧ Post ⟨z.K, z.cm, av, none⟩ (RV ⟨z.K, z.cm, av, none⟩) ρm H (f ds' mini) Q (XE ⟨z.K, z.cm, av, none⟩ E) := by
  unfold callF at h
  split at h
  · rename_i ps hps
    split at h
    · rename_i hn
      split at h
      · rename_i mini ds' hm ha
        obtain ⟨m1, m2⟩ := minis_get hm
        obtain ⟨ρm, s⟩ : ∃ ρm, Sel ρ ps ρm := sel_mk fun p hp => by
          obtain ⟨j, hj, e⟩ := List.getElem_of_mem hp
          obtain ⟨o, _, k2, _⟩ := m2 j p (by rw [List.getElem?_eq_getElem hj, e])
          exact rs.addr k2
        refine ⟨avC z ρ ρm H (lentB md ds), ρm, mini, ds', rs.mini s hn hm, args_rv rs s (pre := []) hps rfl (fun q => q) ha rv, ?_⟩
        have lm : ρm.length = ps.length := s.1
        have mk : ∀ {s1 : S} {ρ1 : List Addr} {H1 : Hp}, Ext (zC z ρ ρm H (lentB md ds)) ρm H ρ1 H1 → RS (zC z ρ ρm H (lentB md ds)) ρ1 s1 H1 → ((lentB md ds) = true → s1.all nrefO = true) → s1.all lowO = true → ps.length ≤ s1.length → ∃ ext, ρ1 = ρm ++ ext ∧ ext.length = s1.length - ps.length ∧ Bk z ρ ρm ext st s1 H H1 ps (lentB md ds) := fun {s1 ρ1 H1} e r nr lo hl => by
          have l1 := r.len
          have e1 := split_ext e.pl (by omega)
          refine ⟨ρ1.drop ρm.length, e1, by rw [List.length_drop]; omega, rs, s, hn, ?_, ?_, lo, nr⟩
          · rw [← e1]; exact e
          · rw [← e1]; exact r
        cases hr : f ds' mini with
        | bad => rw [hr] at h; exact h.elim
        | ok d s1 =>
          rw [hr] at h
          unfold callR at h
          simp only at h
          intro ρ1 H1 v e1 rs1 rv1
          split at h
          · rename_i c0
            split at h
            · rename_i hl
              obtain ⟨ext, rfl, lx, B⟩ := mk e1 rs1 (fun q => (c0.1 q).2) c0.2 (by omega)
              have : ext = [] := List.length_eq_zero_iff.mp (by omega)
              subst this
              have bx : RS z (ρ ++ []) (wb st ps s1 ++ []) H1 := B.back [] rfl (by omega) (fun i o q => by simp at q)
              rw [List.append_nil] at bx
              have ex := B.exn
              rw [List.append_nil] at ex bx
              split at h
              · rename_i j
                split at h
                · rename_i p hp
                  obtain ⟨a, pa, rfl⟩ := rvl rv1
                  obtain ⟨b, b1, b2⟩ := s.2 j p hp
                  rw [List.append_nil, b1] at pa
                  cases pa
                  exact h.at ex bx (rv_loc b2)
                · exact h.elim
              · split at h
                · rename_i hlow
                  have q := B.rv hlow (fun q => (c0.1 q).1) rv1
                  rw [List.append_nil] at q
                  exact h.at ex bx q
                · exact h.elim
            · split at h
              · rename_i hl
                obtain ⟨ext, rfl, lx, B⟩ := mk e1 rs1 (fun q => (c0.1 q).2) c0.2 (by omega)
                obtain ⟨b, rfl⟩ := one_of (show ext.length = 1 by omega)
                split at h
                · rename_i j
                  split at h
                  · rename_i hj
                    split at h
                    · rename_i o ho
                      have bx : RS z (ρ ++ [b]) (wb st ps s1 ++ [o]) H1 := B.back [o] rfl (by omega) (fun i o' q => by
                        cases i with
                        | zero =>
                          have : o = o' := by simpa using q
                          subst this
                          rw [← hj]
                          exact ho
                        | succ i => simp at q)
                      obtain ⟨a, pa, rfl⟩ := rvl rv1
                      have : a = b := by
                        rw [hj, ← lm] at pa
                        simpa using pa.symm
                      subst this
                      exact h.at B.exn bx (rv_loc (by rw [← rs.len]; simp))
                    · exact h.elim
                  · exact h.elim
                · exact h.elim
              · exact h.elim
          · exact h.elim
        | ex c fs s1 =>
          rw [hr] at h
          unfold callR at h
          simp only at h
          intro ρ1 H1 e1 rs1
          split at h
          · rename_i c0
            obtain ⟨ext, rfl, lx, B⟩ := mk e1 rs1 (fun q => (c0.1 q).2) c0.2.1 (by omega)
            have : ext = [] := List.length_eq_zero_iff.mp (by omega)
            subst this
            have bx : RS z (ρ ++ []) (wb st ps s1 ++ []) H1 := B.back [] rfl (by omega) (fun i o q => by simp at q)
            have ex := B.exn
            rw [List.append_nil] at ex bx
            rw [List.append_nil] at bx
            intro C dx hC hd
            refine hE c fs _ ρ H1 ex bx (h ρ H1 ex bx) C dx hC ?_
            cases dx with
            | none => exact hd
            | some d =>
              obtain ⟨ys, k1, k2, k3, k4⟩ := hd
              have q := B.rvs c0.2.2.2 (fun q => (c0.1 q).1) k4
              rw [List.append_nil] at q
              refine ⟨ys, k1, fun k => ?_, k3, q⟩
              obtain ⟨u, hu, _⟩ := bx.mem k
              obtain ⟨i, hi, ei⟩ := List.getElem_of_mem k
              obtain ⟨o, ho⟩ := bx.has (by rw [List.getElem?_eq_getElem hi, ei])
              have ro := bx.obj i o d ho (by rw [List.getElem?_eq_getElem hi, ei])
              cases o with
              | lst l => obtain ⟨_, q, _⟩ := ro; rw [k1] at q; cases q
              | dic l => obtain ⟨_, q, _⟩ := ro; rw [k1] at q; cases q
              | ins c l => obtain ⟨_, _, _, _, q, _⟩ := ro; rw [k1] at q; cases q
          · exact h.elim
      · exact h.elim
    · exact h.elim
  · exact h.elim
end
section
variable {X : Cx} {z : Zc} {W : WM} {pos : Pos} {es : List Expr} {e : Expr} {ar : MA} {md : List Bool} {g : Fn} {k : Nat}
theorem noX_ex {f : Fn} {ds : List D} {st : S} : ∀ c fs s, noX f ds st ≠ .ex c fs s := fun c fs s q => by
  unfold noX at q
  split at q
  · cases q
  · rename_i hn
    exact hn c fs s q
theorem mutPl_len : ∀ {md : List Bool} {ds : List D} {ps : List Nat}, mutPl md ds = some ps → ds.length = md.length
  | [], [], _, _ => rfl
  | [], _ :: _, _, h => by cases h
  | true :: md, [], _, h => by cases h
  | false :: md, [], _, h => by cases h
  | true :: md, d :: ds, ps, h => by
    cases d with
    | loc n =>
      have h' : (mutPl md ds).map (n :: ·) = some ps := h
      obtain ⟨ps', e1, rfl⟩ := Option.map_eq_some_iff.mp h'
      rw [List.length_cons, List.length_cons, mutPl_len e1]
    | _ => cases h
  | false :: md, d :: ds, ps, h => by
    have h' : mutPl md ds = some ps := h
    rw [List.length_cons, List.length_cons, mutPl_len h']
theorem callF_len {ds : List D} {st : S} (h : callF md g ds st ≠ .bad) : ds.length = md.length := by
  unfold callF at h
  split at h
  · rename_i ps hps
    exact mutPl_len hps
  · exact absurd rfl h
/-- no error leaves it -/
def NX (g : Fn) : Prop := ∀ ds st c fs s, g ds st ≠ .ex c fs s
theorem nx_noX {f : Fn} : NX (noX f) := fun ds st c fs s => noX_ex c fs s
theorem callF_nex (hx : NX g) {ds : List D} {st : S} {c : String} {fs : List (Str × D)} {s : S} : callF md g ds st ≠ .ex c fs s := fun h => by
  unfold callF at h
  split at h
  · split at h
    · split at h
      · rename_i mini ds' _ _
        unfold callR at h
        split at h
        · split at h
          · split at h
            · split at h
              · split at h <;> cases h
              · split at h <;> cases h
            · split at h
              · split at h
                · split at h
                  · split at h <;> cases h
                  · cases h
                · cases h
              · cases h
          · cases h
        · rename_i c' fs' s' q
          exact hx _ _ _ _ _ q
        · cases h
      · cases h
    · cases h
  · cases h
theorem s_call (hx : NX g) {E : XK} : ∀ σ H Q, tE z W (mCall md g ar) σ H Q → tCall (spM z.K z.cm md.length g) [] E (tA z W ar) σ H Q := by
  rintro σ H Q ⟨ρ, st, env, rs, re, h⟩
  refine ⟨ρ, st, env, rs, re, h.bind fun ds s1 ρ1 H1 xs e1 rs1 rv1 h1 => ?_⟩
  have hb : callF md g ds s1 ≠ .bad := fun q => by rw [q] at h1; exact h1
  have h2 : Post z (RV z) ρ1 H1 (callF md g ds s1) Q (XE z E) := by
    cases q : callF md g ds s1 with
    | ok d s => rw [q] at h1; exact h1
    | ex c fs s => exact absurd q (callF_nex hx)
    | bad => exact absurd q hb
  obtain ⟨av, ρm, mini, ds', a1, a2, a3⟩ := callF_post rs1 rv1 h2 fun _ _ _ _ _ _ _ q => q
  refine ⟨av, ρm, mini, ds', ?_, a1, by rw [List.append_nil]; exact a2, a3⟩
  rw [List.append_nil, ← RVs.length rv1]
  exact callF_len hb
theorem q_call {x : Str} {p : Pos} {n : Nat} {f : Addr} {fd : FuncData} {ps : List Str} (hx : NX g) (hl : md.length = ps.length := by rfl) (F : FnOk X.prog X.w X.K X.mg X.base CX0 n f fd ps (spM z.K z.cm ps.length g)) (hr : Room n X.A) (hg : Gl X x) (hm : X.mg x = some (.ref f)) (hk : PySem.W.keepIn X.K (.ref f) = true) (hb : Binds X.K fd ps [])
    (ha : PA X (e :: es) (tA z W ar)) (hdb : (x == ("__debug__" : Str)) = false := by decide) (he : starEach (e :: es) X.env = (false, eval e X.env) :: starEach es X.env := by rfl) (hpl : (backTo pos (starEach es X.env)).any (·.1) = false := by rfl) :
    PE X (.Call (.Name x p) (e :: es) [] pos) (tE z W (mCall md g ar)) := pe_imp (pe_call F hr hg hm hk hb .nil pass0 ha hdb he hpl) (by rw [← hl]; exact s_call hx)
theorem q_call0 {x : Str} {p : Pos} {n : Nat} {f : Addr} {fd : FuncData} {ps : List Str} (hx : NX g) (hl : 0 = ps.length := by rfl) (F : FnOk X.prog X.w X.K X.mg X.base CX0 n f fd ps (spM z.K z.cm ps.length g)) (hr : Room n X.A) (hg : Gl X x) (hm : X.mg x = some (.ref f)) (hk : PySem.W.keepIn X.K (.ref f) = true) (hb : Binds X.K fd ps [])
    (hdb : (x == ("__debug__" : Str)) = false := by decide) : PE X (.Call (.Name x p) [] [] pos) (tE z W (mCall [] g mNil)) := pe_imp (pe_call0 F hr hg hm hk hb .nil pass0 hdb) (by
  rintro σ H Q ⟨ρ, st, env, rs, re, h⟩
  have := s_call hx (E := E0) (ar := mNil) σ H Q ⟨ρ, st, env, rs, re, h⟩
  obtain ⟨ρ, st, env, rs, re, h⟩ := this
  rw [← hl]
  exact Post.ok (rel := RVs z) (a := []) (st := st) h rs RVs.nil)
end
section
variable {P : Program} {w : World} {K : PySem.W.Frag} {mg : Str → Option Value} {base : Heap} {cm : String → Option Addr}
/-- nothing is said -/
theorem ok_bad {k n : Nat} {f : Addr} {fd : FuncData} {ps : List Str} (h : n = ps.length) : FnOk P w K mg base CX0 k f fd ps (spM K cm n fun _ _ => .bad) :=
  ⟨fun vs H Q E h' => by obtain ⟨_, _, _, _, hl, _⟩ := h'; rw [hl, h], fun A outer s H args us vs Q E _ _ _ _ h' => by obtain ⟨_, _, _, _, _, _, _, q⟩ := h'; exact q.elim⟩
/-- the law's own promise -/
def spTop (f : Fn) (K : PySem.W.Frag) : Sp := fun vs H Q E => ∀ cm, spM K cm 1 f vs H Q E
theorem top_of {k : Nat} {f : Addr} {fd : FuncData} {x : Str} {g : Fn} {cm : String → Option Addr} (h : FnOk P w K mg base CX0 k f fd [x] (spM K cm 1 g)) : FnOk P w K mg base CX0 k f fd [x] (spTop g K) := h.imp fun vs H Q E q => q cm
theorem ints_rv {z : Zc} {ρ : List Addr} {H : Hp} : ∀ ns : List Int, RVs z ρ H (ns.map D.int) (ns.map V.int)
  | [] => RVs.nil
  | n :: ns => RVs.cons rv_int (ints_rv ns)
theorem spTop_of {K : PySem.W.Frag} {H : Hp} {a : Addr} {ns : List Int} {f : Fn} {E : XK} (ho : Only H) (hS : SqL K H a (ns.map V.int)) (h : f [.sc (ns.map D.int)] [] = .ok (.bl true) []) : spTop f K [.ref a] H (fun v _ => v = .bl true) E := by
  intro cm
  refine ⟨fun _ => False, [], [], [.sc (ns.map D.int)], rfl, ⟨rfl, fun i j b h => by simp at h, fun n o b h => by simp at h, fun a h => by simp at h, fun a h => h.elim⟩, RVs.cons ?_ RVs.nil, ?_⟩
  · unfold RV
    refine ⟨a, _, rfl, ?_, ints_rv ns⟩
    rcases hS with h | h
    · exact .inl ⟨h, by simp, fun q => q⟩
    · exact .inr h
  · rw [h]
    exact fun ρ' H' v _ _ r => rvb r
end
end Nn

namespace Nn
open PySem PySem.Spec PyProof.Rows L2 Lb
section
variable {X : Cx} {z : Zc} {W : WM} {ρ ρ' : List Addr} {st : S} {H H' : Hp} {v x y : V} {l m : List D} {xs ys : List V} {Q : VK} {xw : XW} {a b c e tg iter : Expr} {ma mb mc mo : ME} {mt mu : MT} {pos : Pos} {ar : MA} {es : List Expr} {ms : MS} {mi : MI} {g : MG} {body : List Stmt}
theorem hu65 {A : Around} {k : Nat} (hr : Room k A) : A.units + 65 < cLine := by have := hr.un; omega
theorem q_un {op : UnaryOp} {r : V → Hp → VK → Prop} {f : D → S → R D} (ho : UnR X (unaryOp op) r) (hr : V1 z r f) (ha : PE X a (tE z W ma)) : PE X (.UnaryOp op a pos) (tE z W (m1 f ma)) := pe_imp (pe_un ho ha) (s_un hr)
/-- truth -/
def truD (st : S) : D → Option Bool
  | .non => some false
  | .bl b => some b
  | .int i => some (i != 0)
  | .str s => if s.length ≤ sizeLine then some ((s.length : Int) != 0) else none
  | .ty _ => none
  | d => match seqD st d with
    | some l => some (!l.isEmpty)
    | none => match d with
      | .loc n => match dcD st (.loc n) with
        | some l => some (!l.isEmpty)
        | none => none
      | _ => none
theorem emp_rv (r : RVs z ρ H l xs) : xs.isEmpty = l.isEmpty := by
  cases l with
  | nil => rw [rvs0 r]; rfl
  | cons d l =>
    unfold RVs at r
    obtain ⟨x, w, rfl, _⟩ := r
    rfl
theorem tru_rv {d : D} {k : Bool} (rs : RS z ρ st H) (e : truD st d = some k) (r : RV z ρ H d x) : TruV z.K x H k := by
  have sq : ∀ {l : List D}, seqD st d = some l → TruV z.K x H (!l.isEmpty) := fun {l} e => by
    obtain ⟨a, xs, rfl, q, t⟩ := rs_seq rs e r
    rcases q with q | q
    · exact .inl ⟨xs, q, by rw [emp_rv t]⟩
    · exact .inr (.inl ⟨xs, q, by rw [emp_rv t]⟩)
  cases d with
  | non => cases e; rw [rvn r]; rfl
  | bl b => cases e; rw [rvb r]; rfl
  | int b => cases e; rw [rvi r]; rfl
  | str s =>
    rw [rvs r]
    have e' : (if s.length ≤ sizeLine then some ((s.length : Int) != 0) else none) = some k := e
    split at e'
    · rename_i h; cases e'; exact ⟨h, rfl⟩
    · cases e'
  | tup l => cases e; exact sq rfl
  | tuf l => cases e; exact sq rfl
  | fl l => cases e; exact sq rfl
  | sc l => cases e; exact sq rfl
  | fd ks l => cases e
  | fo c ks l => cases e
  | loc n =>
    unfold truD at e
    simp only at e
    split at e
    · rename_i l el
      cases e
      exact sq el
    · split at e
      · rename_i l el
        cases e
        obtain ⟨a, ys, rfl, q, k1, t⟩ := dc_rv rs el r
        rcases q with q | ⟨o, q⟩
        · refine .inr (.inr ⟨ys, q, ?_⟩)
          cases ys <;> cases l <;> simp at k1 ⊢
        · exfalso
          obtain ⟨p, pp, ep⟩ := rvl r
          cases ep
          obtain ⟨u, hu, _, hf, _⟩ := rs.mem (List.mem_of_getElem? pp)
          rw [q] at hu
          exact hf _ _ (Option.some.inj hu).symm
      · cases e
  | ty s => cases e
def mTr (m : ME) : MT := fun env st => (m env st).bind fun d s1 => match truD s1 d with
  | some k => .ok k s1
  | none => .bad
theorem qt_tr (hz : z.K = X.K) (ha : PE X a (tE z W ma)) (he : ∀ whole, isTrue a X.env whole = (do let v ← whole; standAt a.pos; holding [v] (truthy v))) : PT X a (tT z W (mTr ma)) := pt_imp (pt_truth ha he) (by
  rintro σ H Q ⟨ρ, st, env, rs, re, h⟩
  refine ⟨ρ, st, env, rs, re, h.bind fun d s1 ρ1 H1 x e1 rs1 rv1 h1 => ?_⟩
  rw [← hz]
  split at h1
  · rename_i k e
    exact ⟨k, tru_rv rs1 e rv1, h1.ok rs1 rfl⟩
  · exact h1.elim)
/-- a chain of two comparisons -/
def mChain (f g : D → D → S → R D) (ma mb mc : ME) : ME := fun env st => (ma env st).bind fun x s1 => (mb env s1).bind fun y s2 => (f x y s2).bind fun k s3 => match k with
  | .bl true => (mc env s3).bind fun w s4 => g y w s4
  | .bl false => .ok (.bl false) s3
  | _ => .bad
theorem s_chain {r r' : R2} {f g : D → D → S → R D} (hr : V2 z r f) (hr' : V2 z r' g) : ∀ σ H Q, tE z W (mChain f g ma mb mc) σ H Q → tChain r r' (tE z W ma) (tE z W mb) (tE z W mc) σ H Q := by
  rintro σ H Q ⟨ρ, st, env, rs, re, h⟩
  refine ⟨ρ, st, env, rs, re, h.bind fun d1 s1 ρ1 H1 x e1 rs1 rv1 h1 => ⟨ρ1, s1, env, rs1, re.ext e1, h1.bind fun d2 s2 ρ2 H2 y e2 rs2 rv2 h2 => ?_⟩⟩
  refine hr ρ2 s2 H2 x y d1 d2 _ (W env σ) rs2 (rv1.ext e2) rv2 (Post.bind h2 fun k s3 ρ3 H3 kv e3 rs3 rv3 h3 => ?_)
  split at h3
  · refine ⟨true, rvb rv3, ?_⟩
    rw [if_pos rfl]
    exact ⟨ρ3, s3, env, rs3, ((re.ext e1).ext e2).ext e3, h3.bind fun d4 s4 ρ4 H4 w e4 rs4 rv4 h4 => hr' ρ4 s4 H4 y w d2 d4 Q _ rs4 ((rv2.ext e3).ext e4) rv4 h4⟩
  · refine ⟨false, rvb rv3, ?_⟩
    rw [if_neg Bool.false_ne_true]
    exact h3.ok rs3 rv_bl
  · exact h3.elim
theorem q_chain {op op' : CmpOp} {r r' : R2} {f g : D → D → S → R D} (ho : OpR X (compareOp op) r) (ho' : OpR X (compareOp op') r') (hr : V2 z r f) (hr' : V2 z r' g) (ha : PE X a (tE z W ma)) (hb : PE X b (tE z W mb)) (hc : PE X c (tE z W mc))
    (hm : lastMarks [op, op'] [b, c] = false := by with_unfolding_all rfl) : PE X (.Compare a [op, op'] [b, c] pos) (tE z W (mChain f g ma mb mc)) := pe_imp (pe_chain ho ho' ha hb hc hm) (s_chain hr hr')
theorem qt_chain {op op' : CmpOp} {r r' : R2} {f g : D → D → S → R D} (ho : OpR X (compareOp op) r) (ho' : OpR X (compareOp op') r') (hr : V2 z r f) (hr' : V2 z r' g) (ha : PE X a (tE z W ma)) (hb : PE X b (tE z W mb)) (hc : PE X c (tE z W mc))
    (hm : lastMarks [op, op'] [b, c] = false := by with_unfolding_all rfl) : PT X (.Compare a [op, op'] [b, c] pos) (tT z W (mB (mChain f g ma mb mc))) := pt_imp (pt_chain ho ho' ha hb hc hm) (fun σ H Q h => s_tB σ H Q h |> fun ⟨ρ, st, env, rs, re, h⟩ => s_chain hr hr' σ H _ ⟨ρ, st, env, rs, re, h⟩)
theorem qt_din (hu : X.A.units + 1 < cLine) (ha : PE X a (tE z W ma)) (hb : PE X b (tE z W mb)) (hm : behindInMarks .In b = false := by rfl) : PT X (.Compare a [.In] [b] pos) (tT z W (mB (m2 (fDin false) ma mb))) :=
  pt_imp (pt_cmp (pc_din hu ha hb) hm) (fun σ H Q h => s_tB σ H Q h |> fun ⟨ρ, st, env, rs, re, h⟩ => s_din σ H _ ⟨ρ, st, env, rs, re, h⟩)
theorem qt_dnotin (hu : X.A.units + 1 < cLine) (ha : PE X a (tE z W ma)) (hb : PE X b (tE z W mb)) (hm : behindInMarks .NotIn b = false := by rfl) : PT X (.Compare a [.NotIn] [b] pos) (tT z W (mB (m2 (fDin true) ma mb))) :=
  pt_imp (pt_cmp (pc_dnotin hu ha hb) hm) (fun σ H Q h => s_tB σ H Q h |> fun ⟨ρ, st, env, rs, re, h⟩ => s_din σ H _ ⟨ρ, st, env, rs, re, h⟩)
def fAddI := fI (fun _ _ => true) fun i j => .int (i + j)
theorem v_ipadd : V2 z (ipI fun i j => i + j) fAddI := v_i0 (g' := fun i j => .int (i + j)) fun _ _ _ _ => rv_int
theorem v_ipsub : V2 z (ipI fun i j => i - j) fSub := v_i0 (g' := fun i j => .int (i - j)) fun _ _ _ _ => rv_int
/-- isinstance(x, (A, B)) -/
def isiAny (t : String) : List String → Option Bool
  | [] => some false
  | c :: cs => match isiT t c with
    | some b => (isiAny t cs).map (b || ·)
    | none => none
def mIsiT (cs : List String) (m : ME) : ME := fun env st => (m env st).bind fun d s1 => match tyD s1 d with
  | some t => match isiAny t cs with
    | some b => .ok (.bl b) s1
    | none => .bad
  | none => .bad
/-- the classes of a written tuple -/
inductive TyA (X : Cx) : List Expr → List String → Prop where
  | nil : TyA X [] []
  | cons {e : Expr} {es : List Expr} {c : String} {cs : List String} : PE X e (tC (.ty c)) → TyA X es cs → (starEach (e :: es) X.env = (false, eval e X.env) :: starEach es X.env) → TyA X (e :: es) (c :: cs)
def tys : List String → TA
  | [] => tNil
  | c :: cs => tCons (tC (.ty c)) (tys cs)
theorem tya_pa {X : Cx} {es : List Expr} {cs : List String} (h : TyA X es cs) : PA X es (tys cs) := by
  induction h with
  | nil => exact pa_nil
  | cons h1 _ hs ih => exact pa_cons h1 ih hs
theorem tys_run {σ : L2.St} {R : List V → Hp → Prop} : ∀ {cs : List String} {R : List V → Hp → Prop}, R (cs.map V.ty) H → tys cs σ H R
  | [], _, h => h
  | c :: cs, R, h => by
    show tys cs σ H fun xs H2 => R (.ty c :: xs) H2
    exact tys_run (R := fun xs H2 => R (.ty c :: xs) H2) h
theorem kit_any {K : PySem.W.Frag} {t : String} : ∀ {cs : List String} {b : Bool}, isiAny t cs = some b → PySem.W.kitAny K (.type t) (cs.map Value.type) = some b
  | [], b, h => by cases h; rfl
  | c :: cs, b, h => by
    unfold isiAny at h
    split at h
    · rename_i b1 e
      obtain ⟨b2, e2, rfl⟩ := Option.map_eq_some_iff.mp h
      have ih := kit_any (K := K) e2
      refine kitAny_cons (r := b1 || b2) (kit_ty (isi_kit e)) (fun hb => ?_) (fun hb => ?_)
      · rw [hb, Bool.false_or]; exact ih
      · rw [hb]; rfl
    · cases h
theorem cls_all : ∀ cs : List String, Paired ClsV (cs.map V.ty) (cs.map Value.type)
  | [] => .nil
  | c :: cs => .cons (.ty c) (cls_all cs)
theorem q_isiT {p tpos : Pos} {k : Nat} {ts : List Expr} {cs : List String} (hz : z.K = X.K) (hg : Gl X "isinstance") (hm : X.mg "isinstance" = none) (hv : bootBuiltins "isinstance" = some (.builtin "isinstance")) (ha : PE X a (tE z W ma)) (ht : TyA X ts cs) (hl : cs.length ≤ 100 := by decide)
    (he : starEach (a :: [.Tuple ts k tpos]) X.env = (false, eval a X.env) :: starEach [.Tuple ts k tpos] X.env := by rfl) (hpl : (backTo pos (starEach [.Tuple ts k tpos] X.env)).any (·.1) = false := by rfl) (he2 : starEach [.Tuple ts k tpos] X.env = (false, eval (.Tuple ts k tpos) X.env) :: starEach [] X.env := by rfl) :
    PE X (.Call (.Name "isinstance" p) [a, .Tuple ts k tpos] [] pos) (tE z W (mIsiT cs ma)) := pe_imp (pe_callB (r := rIsiT X.K) call_isiT hg hm hv (pa_cons ha (pa_cons (pe_tup (tya_pa ht)) pa_nil he2) he) (by decide) (by decide) he hpl) (by
  rintro σ H Q ⟨ρ, st, env, rs, re, h⟩
  refine ⟨ρ, st, env, rs, re, h.bind fun d s1 ρ1 H1 x e1 rs1 rv1 h1 => ?_⟩
  refine tys_run (R := fun vs H2 => vs.length ≤ sizeLine ∧ ∀ p, H2 p = none → rIsiT X.K [x, .ref p] (upd H2 p (.tup vs)) Q) ⟨by rw [List.length_map]; exact Nat.le_trans hl (by decide), fun p hp => ?_⟩
  split at h1
  · rename_i t et
    split at h1
    · rename_i b eb
      exact ⟨x, p, _, .type t, cs.map Value.type, b, rfl, upd_same, cls_all cs, by rw [← hz]; exact ty_rv (rs1.tup hp) et (rv1.ext (Ext.new hp)), kit_any eb, h1.at (Ext.new hp) (rs1.tup hp) rv_bl⟩
    · exact h1.elim
  · exact h1.elim)
end
end Nn

namespace Nn
open PySem PySem.Spec PyProof.Rows L2 Lb
section
variable {X : Cx} {z : Zc} {W : WM} {ρ ρ' : List Addr} {st : S} {H H' : Hp} {v x y : V} {l m : List D} {xs ys : List V} {Q : VK} {xw : XW} {a b c e tg iter o value : Expr} {ma mb mc mo mv : ME} {mt mu : MT} {pos pos' : Pos} {ar : MA} {es : List Expr} {ms : MS} {mi : MI} {g : MG} {body : List Stmt}
/-! tuple(x) of a list: a tuple that has no dict -/
theorem call_tupleF : CallR X (.type "tuple") (fun xs H Q => ∃ p ys, xs = [.ref p] ∧ SqL X.K H p ys ∧ ∀ l o, H l = none → o.dict = none → Q (.ref l) (upd H l (.frz o (.tup ys)))) := by
  intro pins s σ H xs us Q I r h
  obtain ⟨p, ys, rfl, hq, q⟩ := h
  obtain ⟨u, rfl, rx⟩ := vals1 r
  cases rx
  obtain ⟨its, r', pl, hz⟩ := I.list hq
  have hlen := r'.length
  refine call_tuple_list pl.isList (fun h' kp => ?_) (by simp only [List.size_toArray] <;> omega)
  have I1 : Inv X pins σ H { s with heap := h' } := I.kept (t' := s.toks) kp
  have I2 : Inv X pins σ (upd H h'.objs.size (.frz { cls := .type "tuple", data := .seq its.toArray } (.tup ys))) { s with heap := h'.push { cls := .type "tuple", data := .seq its.toArray } } :=
    I1.laid (t' := s.toks) (fun b o e => Heap.get?_push_of_some _ e) (Nat.le_refl _) (show ObjOk X.prog X.w _ _ _ (.frz _ (.tup ys)) from ⟨Heap.get?_push_size _ rfl, hz, its, r', IsTup.new _ _⟩)
  exact ⟨.ref h'.objs.size, _, I2, rfl, q _ _ (I1.hok.fresh (Nat.le_refl _)) rfl⟩
def fTupleF : List D → S → R D
  | [d], st => match lsD st d with
    | some l => .ok (.tuf l) st
    | none => .bad
  | _, _ => .bad
theorem v_tupleF : VA z (fun xs H Q => ∃ p ys, xs = [.ref p] ∧ SqL z.K H p ys ∧ ∀ l o, H l = none → o.dict = none → Q (.ref l) (upd H l (.frz o (.tup ys)))) fTupleF := by
  intro ρ st H xs ds Q xw rs h1 h
  unfold fTupleF at h
  split at h
  · obtain ⟨x, rfl, r⟩ := rvs1 h1
    split at h
    · rename_i l e
      obtain ⟨a, ys, rfl, q, r⟩ := ls_rv rs e r
      exact ⟨a, ys, rfl, SqL.of q, fun l o hl ho => h.at (Ext.new hl) (rs.tup hl) (rv_tuf ⟨o, upd_same, ho, rs.free hl, rs.nav hl⟩ (r.ext (Ext.new hl)))⟩
    · exact h.elim
  · exact h.elim
/-! sep.join(xs) -/
def fJoin : D → D → S → R D
  | .str a, d, st => match seqD st d with
    | some l => match strsD l with
      | some ys => if (ys.map (·.length)).sum + ys.length * a.length ≤ 16777216 then .ok (.str (Txt.join a ys)) st else .bad
      | none => .bad
    | none => .bad
  | _, _, _ => .bad
def mJoin (mo mb : ME) : ME := fun env st => (mo env st).bind fun x s1 => match x with
  | .str a => (mb env s1).bind fun y s2 => fJoin (.str a) y s2
  | _ => .bad
theorem q_join {apos : Pos} (hz : z.K = X.K) (ho : PE X o (tE z W mo)) (he : PE X e (tE z W mb)) (hs : starEach [e] X.env = [(false, eval e X.env)] := by rfl) (hbase : attributeBase o "join" X.env (eval o X.env) = eval o X.env := by rfl) (hline : (apos.endLine == pos.line) = true := by rfl) :
    PE X (.Call (.Attribute o "join" apos) [e] [] pos) (tE z W (mJoin mo mb)) := pe_imp (pe_join ho he hs hbase hline) (by
  rintro σ H Q ⟨ρ, st, env, rs, re, h⟩
  refine ⟨ρ, st, env, rs, re, h.bind fun d1 s1 ρ1 H1 x e1 rs1 rv1 h1 => ?_⟩
  split at h1
  · rename_i a
    refine ⟨⟨a, rvs rv1⟩, ρ1, s1, env, rs1, re.ext e1, h1.bind fun d2 s2 ρ2 H2 y e2 rs2 rv2 h2 => ?_⟩
    unfold fJoin at h2
    simp only at h2
    split at h2
    · rename_i l el
      split at h2
      · rename_i ys ey
        split at h2
        · rename_i hl
          obtain ⟨p, xs, rfl, q, r⟩ := rs_seq rs2 el rv2
          obtain ⟨rfl, _⟩ := strs_rv ey r
          exact ⟨a, p, ys, rvs rv1, rfl, hz ▸ q, hl, h2.ok rs2 rv_str⟩
        · exact h2.elim
      · exact h2.elim
    · exact h2.elim
  · exact h1.elim)
/-! sum(xs) -/
def intsD : List D → Option (List Int)
  | [] => some []
  | .int s :: l => (intsD l).map (s :: ·)
  | _ => none
theorem intsD_rv : ∀ {l : List D} {xs : List V} {ys : List Int}, intsD l = some ys → RVs z ρ H l xs → xs = ys.map V.int
  | [], xs, bs, e, r => by cases e; exact rvs0 r
  | .int b :: l, xs, bs, e, r => by
    have e' : (intsD l).map (b :: ·) = some bs := e
    obtain ⟨bs', e1, rfl⟩ := Option.map_eq_some_iff.mp e'
    unfold RVs at r
    obtain ⟨x, w, rfl, r1, r2⟩ := r
    rw [intsD_rv e1 r2, rvi r1]
    rfl
  | .non :: _, _, _, e, _ => nomatch e
  | .str _ :: _, _, _, e, _ => nomatch e
  | .bl _ :: _, _, _, e, _ => nomatch e
  | .ty _ :: _, _, _, e, _ => nomatch e
  | .tup _ :: _, _, _, e, _ => nomatch e
  | .tuf _ :: _, _, _, e, _ => nomatch e
  | .loc _ :: _, _, _, e, _ => nomatch e
  | .fl _ :: _, _, _, e, _ => nomatch e
  | .sc _ :: _, _, _, e, _ => nomatch e
  | .fd _ _ :: _, _, _, e, _ => nomatch e
  | .fo _ _ _ :: _, _, _, e, _ => nomatch e
def fSum : List D → S → R D
  | [d], st => match lsD st d with
    | some l => match intsD l with
      | some ns => .ok (.int ns.sum) st
      | none => .bad
    | none => .bad
  | _, _ => .bad
theorem v_sum : VA z (rSum z.K) fSum := by
  intro ρ st H xs ds Q xw rs h1 h
  unfold fSum at h
  split at h
  · obtain ⟨x, rfl, r⟩ := rvs1 h1
    split at h
    · rename_i l e
      split at h
      · rename_i ns e2
        obtain ⟨a, ys, rfl, q, r⟩ := ls_rv rs e r
        obtain rfl := intsD_rv e2 r
        exact ⟨a, ns, rfl, SqL.of q, h.ok rs rv_int⟩
      · exact h.elim
    · exact h.elim
  · exact h.elim
/-! starred items -/
def mStarA (m : ME) (r : MA) : MA := fun env st => (m env st).bind fun d s1 => match seqD s1 d with
  | some l => (r env s1).bind fun ds s2 => .ok (l ++ ds) s2
  | none => .bad
theorem qa_star {p : Pos} (hz : z.K = X.K) (ha : PE X e (tE z W ma)) (hr : PA X es (tA z W ar)) (hs : starEach (.Starred e p :: es) X.env = (true, eval e X.env) :: starEach es X.env := by rfl) : PA X (.Starred e p :: es) (tA z W (mStarA ma ar)) := pa_imp (StX.pa_star ha hr hs) (by
  rintro σ H Q ⟨ρ, st, env, rs, re, h⟩
  refine ⟨ρ, st, env, rs, re, h.bind fun d1 s1 ρ1 H1 x e1 rs1 rv1 h1 => ?_⟩
  split at h1
  · rename_i l el
    obtain ⟨p, xs, rfl, q, r⟩ := rs_seq rs1 el rv1
    refine ⟨p, xs, rfl, hz ▸ q.symm, ρ1, s1, env, rs1, re.ext e1, h1.bind fun ds s2 ρ2 H2 ys e2 rs2 rv2 h2 => ?_⟩
    exact Post.ok (rel := RVs z) (a := l ++ ds) h2 rs2 ((r.ext e2).append rv2)
  · exact h1.elim)
/-! t[::-1] of a tuple or a list -/
/-! dicts that are equal -/
def rEqDR (neg : Bool) : R2 := fun x y H Q => ∃ a b ks ls, x = .ref a ∧ y = .ref b ∧ Rd H a (.dK ks) ∧ Rd H b (.dK ls) ∧ ks.length = ls.length ∧ (∀ p ∈ ks, valV ls p.1 = some p.2 ∧ flatB p.2 = true) ∧ Q (.bl (!neg)) H
theorem op_eqDR (hu : X.A.units < cLine) : OpR X (compareOp .Eq) (rEqDR false) := by
  intro pins s σ H x y v u Q I rx ry h
  obtain ⟨a, b, ks, ls, rfl, rfl, ea, eb, hlen, hp, q⟩ := h
  obtain rfl : v = Value.ref a := rx
  obtain rfl : u = Value.ref b := ry
  obtain ⟨_, ya, va, ra, da⟩ := dk_rd I.hok ea
  obtain ⟨_, yb, vb, rb, db⟩ := dk_rd I.hok eb
  have hl : va.length = vb.length := by rw [← ra.length, ← rb.length]; exact hlen
  exact PySem.W.keq_eq (knd := mixKind X.prog X.w) (r := true) ya yb da db hu (fun _ => hits_all rb ra hp) (fin_bl I q (by simp [hl]))
theorem op_neDR (hu : X.A.units < cLine) : OpR X (compareOp .NotEq) (rEqDR true) := by
  intro pins s σ H x y v u Q I rx ry h
  obtain ⟨a, b, ks, ls, rfl, rfl, ea, eb, hlen, hp, q⟩ := h
  obtain rfl : v = Value.ref a := rx
  obtain rfl : u = Value.ref b := ry
  obtain ⟨_, ya, va, ra, da⟩ := dk_rd I.hok ea
  obtain ⟨_, yb, vb, rb, db⟩ := dk_rd I.hok eb
  have hl : va.length = vb.length := by rw [← ra.length, ← rb.length]; exact hlen
  exact PySem.W.keq_ne (knd := mixKind X.prog X.w) (r := true) ya yb da db hu (fun _ => hits_all rb ra hp) (fin_bl I q (by simp [hl]))
/-- texts by keys: the second dict has them all -/
def sameD (k m : List (Key × D)) : Bool := k.length == m.length && k.all fun p => match p.2, getK m p.1 with
  | .str s, some (.str t) => decide (s = t)
  | _, _ => false
def fEqDic (neg : Bool) : D → D → S → R D := fun x y st => match dcD st x, dcD st y with
  | some k, some m => if sameD k m = true then .ok (.bl (!neg)) st else .bad
  | _, _ => .bad
theorem same_rv {k m : List (Key × D)} {ys zs : List (Key × V)} (h : sameD k m = true) (k1 : ys.map (·.1) = k.map (·.1)) (r1 : RVs z ρ H (k.map (·.2)) (ys.map (·.2))) (k2 : zs.map (·.1) = m.map (·.1)) (r2 : RVs z ρ H (m.map (·.2)) (zs.map (·.2))) : ys.length = zs.length ∧ ∀ p ∈ ys, valV zs p.1 = some p.2 ∧ flatB p.2 = true := by
  unfold sameD at h
  rw [Bool.and_eq_true] at h
  have l1 : ys.length = k.length := by simpa using congrArg List.length k1
  have l2 : zs.length = m.length := by simpa using congrArg List.length k2
  refine ⟨by rw [l1, l2]; simpa using h.1, fun p hp => ?_⟩
  obtain ⟨i, hi, e⟩ := List.getElem_of_mem hp
  have ey : ys[i]? = some p := by rw [List.getElem?_eq_getElem hi, e]
  have hk : i < k.length := by omega
  have ek := List.getElem?_eq_getElem hk
  generalize k[i] = q at ek
  have e1 : p.1 = q.1 := by
    have := congrArg (·[i]?) k1
    simp only [List.getElem?_map, ey, ek] at this
    simpa using this
  have rq : RV z ρ H q.2 p.2 := r1.at (show (k.map (·.2))[i]? = some q.2 by rw [List.getElem?_map, ek]; rfl) (show (ys.map (·.2))[i]? = some p.2 by rw [List.getElem?_map, ey]; rfl)
  have hq := List.all_eq_true.mp h.2 q (List.mem_of_getElem? ek)
  split at hq
  · rename_i s t e2 e3
    obtain ⟨w, w1, w2⟩ := (get_rv (k := q.1) (d := .str t) k2 r2).1 e3
    rw [e2] at rq
    rw [e1, w1, rvs rq, rvs w2, of_decide_eq_true hq]
    exact ⟨rfl, rfl⟩
  · cases hq
theorem v_eqDic {neg : Bool} : V2 z (rEqDR neg) (fEqDic neg) := by
  intro ρ st H x y d1 d2 Q xw rs h1 h2 h
  unfold fEqDic at h
  split at h
  · rename_i k m e1 e2
    split at h
    · rename_i hs
      obtain ⟨a, ys, rfl, o1, o2, o3⟩ := dc_rv rs e1 h1
      obtain ⟨b, zs, rfl, p1, p2, p3⟩ := dc_rv rs e2 h2
      obtain ⟨s1, s2⟩ := same_rv hs o2 o3 p2 p3
      exact ⟨a, b, ys, zs, rfl, rfl, o1, p1, s1, s2, h.ok rs rv_bl⟩
    · exact h.elim
  · exact h.elim
/-! ### instances -/
def lookD : List Str → List D → Str → Option D
  | k :: ks, d :: l, f => if f = k then some d else lookD ks l f
  | _, _, _ => none
theorem look_rv {f : Str} {d : D} : ∀ {ks : List Str} {l : List D} {ys : List (Str × V)}, lookD ks l f = some d → ys.map (·.1) = ks → RVs z ρ H l (ys.map (·.2)) → ∃ v, ys.lookup f = some v ∧ RV z ρ H d v
  | [], l, ys, h, k, r => by unfold lookD at h; cases h
  | k :: ks, [], ys, h, _, r => by unfold lookD at h; cases h
  | k :: ks, d' :: l, [], h, hk, r => by simp at hk
  | k :: ks, d' :: l, (s, v) :: ys, h, hk, r => by
    rw [List.map_cons] at hk
    injection hk with h1 h2
    have h1 : s = k := h1
    subst h1
    rw [List.map_cons] at r
    unfold RVs at r
    obtain ⟨x, w, e, r1, r2⟩ := r
    injection e with e1 e2
    subst e1 e2
    unfold lookD at h
    split at h
    · rename_i hf
      cases h
      subst hf
      exact ⟨v, by simp [List.lookup], r1⟩
    · rename_i hf
      obtain ⟨v', a1, a2⟩ := look_rv h h2 r2
      refine ⟨v', ?_, a2⟩
      have : (f == s) = false := by simpa using hf
      simp only [List.lookup, this]
      exact a1
/-- an instance's class and fields -/
def inD (st : S) : D → Option (String × List Str × List D)
  | .fo c ks l => some (c, ks, l)
  | .loc n => match st[n]? with
    | some (.ins c fs) => some (c, fs.map (·.1), fs.map (·.2))
    | _ => none
  | _ => none
theorem in_rv {d : D} {c : String} {ks : List Str} (rs : RS z ρ st H) (e : inD st d = some (c, ks, l)) (r : RV z ρ H d x) : ∃ (a C dx : Addr) (ys : List (Str × V)), x = .ref a ∧ z.cm c = some C ∧ H a = some (.ins C dx ys) ∧ ys.map (·.1) = ks ∧ RVs z ρ H l (ys.map (·.2)) := by
  cases d with
  | fo c' ks' l' =>
    cases e
    obtain ⟨a, C, dx, ys, rfl, hc, q, k, t⟩ := rvo r
    exact ⟨a, C, dx, ys, rfl, hc, q.1, k, t⟩
  | loc n =>
    have e' : (match st[n]? with | some (.ins c fs) => some (c, fs.map (·.1), fs.map (·.2)) | _ => none) = some (c, ks, l) := e
    split at e'
    · rename_i c' fs e0
      cases e'
      obtain ⟨a, q, rfl⟩ := rvl r
      obtain ⟨C, dx, ys, hc, h1, h2, na, k, t⟩ := rs.obj n _ a e0 q
      exact ⟨a, C, dx, ys, rfl, hc, h1, k, t⟩
    · cases e'
  | _ => cases e
/-- o.f -/
def mFld (cs : List String) (f : Str) (m : ME) : ME := fun env st => (m env st).bind fun d s1 => match inD s1 d with
  | some (c, ks, l) => if cs.contains c = true then match lookD ks l f with
    | some x => .ok x s1
    | none => .bad else .bad
  | none => .bad
theorem q_fld {cs : List String} {f : Str} (hz : z.K = X.K) (hc : ∀ c ∈ cs, ∀ C, z.cm c = some C → Cls X.K C ∧ NoAttr X.K C f) (ha : PE X e (tE z W ma)) (hb : attributeBase e f X.env (eval e X.env) = eval e X.env := by rfl) : PE X (.Attribute e f pos) (tE z W (mFld cs f ma)) := pe_imp (pe_fld ha hb) (by
  rintro σ H Q ⟨ρ, st, env, rs, re, h⟩
  refine ⟨ρ, st, env, rs, re, h.bind fun d1 s1 ρ1 H1 x e1 rs1 rv1 h1 => ?_⟩
  split at h1
  · rename_i c ks l ei
    split at h1
    · rename_i hcs
      split at h1
      · rename_i d el
        obtain ⟨a, C, dx, ys, rfl, hC, q, k, t⟩ := in_rv rs1 ei rv1
        obtain ⟨v, v1, v2⟩ := look_rv el k t
        obtain ⟨c1, c2⟩ := hc c (by simpa using hcs) C hC
        exact ⟨a, C, dx, ys, v, rfl, q, c1, c2, v1, h1.ok rs1 v2⟩
      · exact h1.elim
    · exact h1.elim
  · exact h1.elim)
def putFD (f : Str) (v : D) : List (Str × D) → List (Str × D)
  | [] => [(f, v)]
  | (g, x) :: r => if g = f then (g, v) :: r else (g, x) :: putFD f v r
theorem putF_rv {f : Str} {d : D} {v : V} (q : RV z ρ H d v) : ∀ {fs : List (Str × D)} {ys : List (Str × V)}, ys.map (·.1) = fs.map (·.1) → RVs z ρ H (fs.map (·.2)) (ys.map (·.2)) → (putF f v ys).map (·.1) = (putFD f d fs).map (·.1) ∧ RVs z ρ H ((putFD f d fs).map (·.2)) ((putF f v ys).map (·.2))
  | [], [], _, _ => ⟨rfl, RVs.cons q RVs.nil⟩
  | [], _ :: _, h, _ => by simp at h
  | _ :: _, [], h, _ => by simp at h
  | (k1, d1) :: fs, (k2, v2) :: ys, h, r => by
    rw [List.map_cons, List.map_cons] at h
    injection h with h1 h2
    have h1 : k2 = k1 := h1
    subst h1
    rw [List.map_cons, List.map_cons] at r
    unfold RVs at r
    obtain ⟨x, w, e, r1, r2⟩ := r
    injection e with e1 e2
    subst e1 e2
    unfold putF putFD
    by_cases hf : k2 = f
    · rw [if_pos hf, if_pos hf]
      exact ⟨by rw [List.map_cons, List.map_cons, h2], RVs.cons q r2⟩
    · rw [if_neg hf, if_neg hf]
      obtain ⟨i1, i2⟩ := putF_rv q h2 r2
      exact ⟨by rw [List.map_cons, List.map_cons, i1], RVs.cons r1 i2⟩
/-- o.f = v -/
def mSfld (cs : List String) (f : Str) (mo mv : ME) : MS := fun env st => (mv env st).bindS env fun d s1 => (mo env s1).bindS env fun o s2 => match o with
  | .loc n => match s2[n]? with
    | some (.ins c fs) => if cs.contains c = true ∧ fs.length < 1000 then .nx env (s2.set n (.ins c (putFD f d fs))) else .bad
    | _ => .bad
  | _ => .bad
theorem q_sfld {cs : List String} {f : Str} (hz : z.K = X.K) (hc : ∀ c ∈ cs, ∀ C, z.cm c = some C → Cls X.K C ∧ NoAttr X.K C f) (ha : PE X o (tE z W mo)) (hv : PE X value (tE z W mv)) (hs : swapsWith value (some (.Attribute o f pos')) pos.line X.env = pure false := by rfl) : PS X (.Assign [.Attribute o f pos'] value pos) (tS z W (mSfld cs f mo mv)) := ps_imp (ps_fld ha hv hs) (by
  rintro D σ H ⟨ρ, st, env, rs, re, h⟩
  refine ⟨ρ, st, env, rs, re, Post.bindS h re fun d s1 ρ1 H1 x e1 rs1 rv1 h1 => ⟨ρ1, s1, env, rs1, re.ext e1, Post.bindS h1 (re.ext e1) fun ob s2 ρ2 H2 y e2 rs2 rv2 h2 => ?_⟩⟩
  split at h2
  · rename_i n
    split at h2
    · rename_i c fs e0
      split at h2
      · rename_i hh
        obtain ⟨a, pa, rfl⟩ := rvl rv2
        obtain ⟨C, dx, ys, hC, q1, q2, na, k, t⟩ := rs2.obj n _ a e0 pa
        obtain ⟨c1, c2⟩ := hc c (by simpa using hh.1) C hC
        obtain ⟨p1, p2⟩ := putF_rv (f := f) (rv1.ext e2) k t
        obtain ⟨ex, rs3⟩ := rs2.put_ins e0 pa hC q1 q2 na p1 p2
        have hl : ys.length = fs.length := by simpa using congrArg List.length k
        exact ⟨a, C, dx, ys, rfl, q1, c1, c2, by omega, h2 ρ2 _ σ ex rs3 (((re.ext e1).ext e2).ext ex)⟩
      · exact h2.elim
    · exact h2.elim
  · exact h2.elim)
/-- C(..): an instance that nobody changes -/
def mMkF (c : String) (n : Nat) (g : Fn) (ar : MA) : ME := fun env st => (ar env st).bind fun ds s1 => if ds.length = n ∧ lows ds = true then match g (.loc 0 :: ds) [.ins c []] with
  | .ok .non [.ins c' fs] => if c' = c ∧ lows (fs.map (·.2)) = true then .ok (.fo c (fs.map (·.1)) (fs.map (·.2))) s1 else .bad
  | _ => .bad else .bad
abbrev zM (z : Zc) (ρ : List Addr) : Zc := ⟨z.K, z.cm, fun a => z.av a ∨ a ∈ ρ, none⟩
theorem s_mkF {c : String} {C : Addr} {n : Nat} {g : Fn} {E : XK} (hC : z.cm c = some C) : ∀ σ H Q, tE z W (mMkF c n g ar) σ H Q → tMake C (spM z.K z.cm (n + 1) g) [] E (tA z W ar) σ H Q := by
  rintro σ H Q ⟨ρ, st, env, rs, re, h⟩
  refine ⟨ρ, st, env, rs, re, h.bind fun ds s1 ρ1 H1 vs e1 rs1 rv1 h1 => ?_⟩
  intro x dx hx hdx hne
  split at h1
  · rename_i hh
    obtain ⟨hlen, hlow⟩ := hh
    let Hx : Hp := upd (upd H1 dx (.own x)) x (.ins C dx [])
    have hxx : Hx x = some (.ins C dx []) := upd_same
    have hxd : Hx dx = some (.own x) := by show upd _ _ _ dx = _; rw [upd_ne hne]; exact upd_same
    have hxo : ∀ a u, H1 a = some u → Hx a = some u := fun a u q => by
      show upd _ _ _ a = _
      rw [upd_ne (ne_of_none q hx), upd_ne (ne_of_none q hdx)]
      exact q
    have nx : x ∉ ρ1 := rs1.free hx
    have nd : dx ∉ ρ1 := rs1.free hdx
    have ax : ¬ z.av x := rs1.nav hx
    have ad : ¬ z.av dx := rs1.nav hdx
    have sqt : ∀ a ws, SqT z.K H1 a ws → SqT z.K Hx a ws := fun a ws q => by
      rcases q with (q | ⟨o, q⟩) | q
      · exact .inl (.inl (hxo _ _ q))
      · exact .inl (.inr ⟨o, hxo _ _ q⟩)
      · exact .inr q
    have car : Car z ρ1 H1 (zM z ρ1) [x] Hx (fun _ => False) := ⟨rfl, rfl, fun _ _ q => q.elim, sqt, fun a u q n => ⟨u, hxo a u q, .inl rfl, ⟨(fun k => by
      rw [List.mem_singleton.mp k, hx] at q
      cases q), fun k => k.elim n.2 n.1⟩⟩⟩
    have rsx : RS (zM z ρ1) [x] [.ins c []] Hx := by
      refine ⟨rfl, fun i j a h1 h2 => ?_, fun i o a h1 h2 => ?_, fun a q k => ?_, fun a k => ?_⟩
      · have : i < 1 := (List.getElem?_eq_some_iff.mp h1).1
        have : j < 1 := (List.getElem?_eq_some_iff.mp h2).1
        omega
      · cases i with
        | zero =>
          cases h1
          cases h2
          exact ⟨C, dx, [], hC, hxx, hxd, fun k => k.elim ad nd, rfl, RVs.nil⟩
        | succ i => simp at h1
      · rw [List.mem_singleton.mp q] at k
        exact k.elim ax nx
      · rcases k with k | k
        · obtain ⟨u, hu⟩ := rs1.avh a k
          exact ⟨u, hxo _ _ hu⟩
        · obtain ⟨u, hu, _⟩ := rs1.mem k
          exact ⟨u, hxo _ _ hu⟩
    refine ⟨fun a => z.av a ∨ a ∈ ρ1, [x], [.ins c []], .loc 0 :: ds, ?_, rsx, RVs.cons (rv_loc rfl) (by rw [List.append_nil]; exact rv1.car car (lows_P hlow)), ?_⟩
    · rw [List.append_nil, List.length_cons, ← RVs.length rv1, hlen]
    split at h1
    · rename_i c' fs q
      split at h1
      · rename_i hc
        obtain ⟨rfl, hl⟩ := hc
        rw [q]
        intro ρ2 H2 v e2 rs2 rv2
        refine ⟨rvn rv2, ?_⟩
        have ρ2x : ρ2[0]? = some x := e2.pl 0 x rfl
        obtain ⟨C2, dx2, ys, hC2, k1, k2, k3, k4, k5⟩ := rs2.obj 0 _ x rfl ρ2x
        have l2 : ρ2.length = 1 := rs2.len
        have m2 : ∀ a, a ∈ ρ2 → a = x := fun a k => by
          obtain ⟨i, hi, e⟩ := List.getElem_of_mem k
          have : i = 0 := by omega
          subst this
          rw [List.getElem?_eq_getElem hi, e] at ρ2x
          exact Option.some.inj ρ2x
        have ex : Ext z ρ1 H1 ρ1 H2 := ⟨fun _ _ q => q, fun a ws q => e2.tp a ws (sqt a ws q), fun a u q n => by
          obtain ⟨w, w1, w2, w3⟩ := e2.kq a u (hxo a u q) (fun k => by rw [List.mem_singleton.mp k, hx] at q; cases q)
          exact ⟨w, w1, w2, fun k => w3 (.inl k)⟩, fun a q n => absurd q n⟩
        have rs3 : RS z ρ1 s1 H2 := by
          refine ⟨rs1.len, rs1.inj, fun i o a h1 h2 => ?_, rs1.avo, fun a k => rs2.avh a (.inl k)⟩
          have ma : a ∈ ρ1 := List.mem_of_getElem? h2
          have na : a ∉ [x] := fun k => nx (by rw [← List.mem_singleton.mp k]; exact ma)
          have ro := rs1.obj i o a h1 h2
          obtain ⟨u, hu, _⟩ := ro.some
          refine ro.ext ex ?_ fun d' hd' => ?_
          · rw [hu]
            exact e2.kv (hxo _ _ hu) na (.inr ma)
          · exact e2.kp (hxo _ _ hd') (fun k => by rw [List.mem_singleton.mp k, hx] at hd'; cases hd') (fun _ q => nomatch q)
        have cb : Car (zM z ρ1) ρ2 H2 z ρ1 H2 (fun _ => False) := ⟨rfl, rfl, fun _ _ q => q.elim, fun _ _ h => h, fun a u h n => ⟨u, h, .inl rfl, fun k => n.2 (.inr k), fun k => n.2 (.inl k)⟩⟩
        exact h1.at ex rs3 (rv_fo hC2 ⟨k1, k2, ⟨nx, ax⟩, fun k => k3 (.inr k), fun k => k3 (.inl k)⟩ k4 (k5.car cb (lows_P hl)))
      · exact h1.elim
    · exact h1.elim
  · exact h1.elim
theorem q_mkF {c : String} {x : Str} {p : Pos} {n k : Nat} {C f : Addr} {fd : FuncData} {ps : List Str} {g : Fn} (hC : z.cm c = some C) (hl : n + 1 = ps.length := by rfl) (M : Mk X.K C f) (F : FnOk X.prog X.w X.K X.mg X.base CX0 k f fd ps (spM z.K z.cm ps.length g)) (hr : Room (k + 1) X.A) (hg : Gl X x) (hm : X.mg x = some (.ref C)) (hb : Binds X.K fd ps [])
    (ha : PA X (e :: es) (tA z W ar)) (hdb : (x == ("__debug__" : Str)) = false := by decide) (he : starEach (e :: es) X.env = (false, eval e X.env) :: starEach es X.env := by rfl) (hpl : (backTo pos (starEach es X.env)).any (·.1) = false := by rfl) :
    PE X (.Call (.Name x p) (e :: es) [] pos) (tE z W (mMkF c n g ar)) := pe_imp (pe_make M F hr hg hm hb .nil pass0 ha hdb he hpl) (by rw [← hl]; exact s_mkF hC)
end
end Nn

namespace L2
open PySem PySem.Spec PyProof.Rows HT
section
variable {prog : Program} {w : World} {A : Around} {E : Value → Shared → Prop} {s : Shared}
theorem rev_applied {sl : Addr} {vl vu vs : Value} {n : Nat} {Q : Int × Int × Nat → Shared → Prop} (hs : s.heap.IsSliceOf sl vl vu vs) (pl : IsPart vl none) (pu : IsPart vu none) (ps : IsPart vs (some (-1)))
    (h : Q ((n : Int) - 1, -1, n) s) : wpAny (model prog w) A (Builtin.Slice.sliceApplied (.ref sl) (pure (n : Int))) Q E s := by
  obtain ⟨os, hos, hcs, hds⟩ := id hs
  unfold Builtin.Slice.sliceApplied Builtin.Slice.sliceFields
  refine wpAny_bind (wpAny_bind (wpAny_field hos hds (x := vl) rfl (wpAny_bind (wpAny_field hos hds (x := vu) rfl (wpAny_bind (wpAny_field hos hds (x := vs) rfl (wpAny_pure ?_)))))))
  refine wpAny_bind (slicePart_ ps ?_)
  show wpAny _ _ (if ((-1 : Int) == 0) = true then _ else _) _ _ s
  rw [if_neg (by decide)]
  refine wpAny_bind (slicePart_ pl (wpAny_bind (slicePart_ pu (wpAny_bind (wpAny_pure ?_)))))
  show wpAny _ _ (match Builtin.Slice.sliceAdjust none none (-1) (n : Int) with | (lo, hi) => pure (lo, (-1 : Int), Builtin.Slice.slicePlaces lo hi (-1))) _ _ s
  have e1 : Builtin.Slice.sliceAdjust none none (-1) (n : Int) = ((n : Int) - 1, -1) := by
    unfold Builtin.Slice.sliceAdjust
    simp
  rw [e1]
  have e2 : Builtin.Slice.slicePlaces ((n : Int) - 1) (-1) (-1) = n := by
    unfold Builtin.Slice.slicePlaces
    have h1 : ¬ ((-1 : Int) > 0) := by decide
    simp only [h1, if_false]
    split
    · have : ((n : Int) - 1 - -1 - 1) / (- -1) + 1 = n := by
        rw [show (- -1 : Int) = 1 by decide, Int.ediv_one]
        omega
      omega
    · omega
  show wpAny _ _ (pure ((n : Int) - 1, (-1 : Int), Builtin.Slice.slicePlaces ((n : Int) - 1) (-1) (-1))) _ _ s
  rw [e2]
  exact wpAny_pure h
theorem fm_congr {α β : Type} {f g : α → Option β} : ∀ {l : List α}, (∀ m ∈ l, f m = g m) → l.filterMap f = l.filterMap g
  | [], _ => rfl
  | a :: l, h => by
    rw [List.filterMap_cons, List.filterMap_cons, h a (List.mem_cons_self ..), fm_congr fun m hm => h m (List.mem_cons_of_mem _ hm)]
theorem rev_pick (xs : Array Value) : ((List.range xs.size).filterMap fun (m : Nat) => xs[(((xs.size : Int) - 1) + (m : Int) * (-1)).toNat]?).toArray = xs.toList.reverse.toArray := by
  congr 1
  have e : ∀ m ∈ List.range xs.size, xs[(((xs.size : Int) - 1) + (m : Int) * (-1)).toNat]? = xs[xs.size - 1 - m]? := fun m hm => by
    have := List.mem_range.mp hm
    congr 1
    omega
  rw [fm_congr e]
  have e2 : (fun m => xs[xs.size - 1 - m]?) = ((fun i => xs[i]?) ∘ fun m => xs.size - 1 - m) := rfl
  rw [e2, ← List.filterMap_map, PySem.W.krv_range, List.filterMap_reverse, PySem.W.krv_all]
theorem getItem_tuple_rev {t sl : Addr} {items : Array Value} {vl vu vs : Value} {Q : Value → Shared → Prop} (ht : IsTup s.heap t items) (hs : s.heap.IsSliceOf sl vl vu vs) (pl : IsPart vl none) (pu : IsPart vu none) (ps : IsPart vs (some (-1)))
    (h : Q (.ref s.heap.objs.size) { s with heap := s.heap.push { cls := .type "tuple", data := .seq items.toList.reverse.toArray } })
    (hsz : items.size ≤ sizeLine) : wpAny (model prog w) A (getItem (.ref t) (.ref sl)) Q E s := by
  have htake : sizeOk (.seq items.toList.reverse.toArray) := by
    show items.toList.reverse.toArray.size ≤ sizeLine
    rw [List.size_toArray, List.length_reverse, Array.length_toList]
    omega
  obtain ⟨os, hos, hcs, hds⟩ := id hs
  have hTs : s.TypeIs (.ref sl) "slice" := ⟨os, hos, hcs⟩
  unfold getItem
  try with_reducible refine wpAny_holding ?_
  first | refine wpAny_bind (wpAny_pure ?_) | skip
  refine wpAny_bind (wpAny_sequenceKey ht.typeIs (by decide) ?_)
  refine wpAny_bind (wpAny_callSpecial?_slot (name := Str.ofString "__getitem__") ht.typeIs PyProof.Rows.slot_tuple_getitem
    (wpAny_call_entry PyProof.Rows.slot_tuple_getitem ht.typeIs entry_tuple_getitem ?_ (args_tuple_getitem _ _)))
  show wpAny _ _ (Builtin.Tuple.tupleItemsOf (.ref t) >>= _) _ _ s
  refine wpAny_bind (tupleItemsOf_ ht ?_)
  refine wpAny_bind (wpAny_typeOf hTs ?_)
  rw [if_pos (by decide)]
  refine wpAny_bind (rev_applied hs pl pu ps ?_)
  have hno : ¬ ((((items.size : Int) - 1) == 0 && (-1 : Int) == 1 && items.size == items.size) = true) := by
    intro q
    rw [Bool.and_eq_true, Bool.and_eq_true] at q
    exact absurd q.1.2 (by decide)
  show wpAny _ _ (if (((items.size : Int) - 1) == 0 && (-1 : Int) == 1 && items.size == items.size) = true then _ else _) _ _ s
  rw [if_neg hno, rev_pick]
  first
    | exact wpAny_bind (m := Builtin.Tuple.tupleExact _) (wpAny_newObj_type (wpAny_pure ⟨_, rfl, wpAny_pure h⟩) htake)
    | exact wpAny_bind (m := Builtin.Tuple.tupleExact _) (wpAny_newObj_type (wpAny_bind (wpAny_pure (wpAny_pure ⟨_, rfl, wpAny_pure h⟩))) htake)
    | exact wpAny_bind (wpAny_bind (m := Builtin.Tuple.tupleExact _) (wpAny_newObj_type (wpAny_pure (wpAny_pure ⟨_, rfl, wpAny_pure h⟩)) htake))
    | exact wpAny_bind (wpAny_bind (m := Builtin.Tuple.tupleExact _) (wpAny_newObj_type (wpAny_pure ⟨_, rfl, wpAny_pure h⟩) htake))
end
section
variable {X : Cx}
def tRevT (K : PySem.W.Frag) (te : TE) : TE := fun σ H Q => te σ H fun x H1 => ∃ a xs, x = .ref a ∧ SqT K H1 a xs ∧ ∀ p, H1 p = none → Q (.ref p) (upd H1 p (.tup xs.reverse))
theorem pe_revT {e : Expr} {te : TE} {k : Nat} {p1 p2 p3 pos : Pos} (he : PE X e te) : PE X (.Subscript e (.Slice none none (some (.UnaryOp .USub (.Constant (.int 1) k p1) p2)) p3) pos) (tRevT X.K te) := by
  refine ⟨fun pins s σ H Q I h => ?_⟩
  refine Subscript_ (thn (he.run pins s σ H _ I h) fun v s1 ⟨x, H1, I1, r1, q1⟩ => ?_)
  obtain ⟨a, xs, ex, hx, q⟩ := q1
  subst ex
  cases r1
  have hst : PO X (some (.UnaryOp .USub (.Constant (.int 1) k p1) p2)) (tPart (tUn (rU fun i => .int (-i)) (tC (.int 1)))) := po_some (pe_un un_neg pe_int)
  refine wpAny_Slice (thn (po_none.run pins s1 σ H1 (fun o H2 => o = none ∧ H2 = H1) I1 ⟨rfl, rfl⟩) fun vl s2 ⟨l, H2, I2, pl, el, e2⟩ => ?_)
  subst el e2
  refine thn (po_none.run pins s2 σ H2 (fun o H3 => o = none ∧ H3 = H2) I2 ⟨rfl, rfl⟩) fun vu s3 ⟨u, H3, I3, pu, eu, e3⟩ => ?_
  subst eu e3
  refine thn (hst.run pins s3 σ H3 (fun o H4 => o = some (-1) ∧ H4 = H3) I3 ⟨1, rfl, -1, rfl, rfl, rfl⟩) fun vs s4 ⟨o, H4, I4, ps, eo, e4⟩ => ?_
  subst eo e4
  have I5 : Inv X pins σ H4 { s4 with heap := s4.heap.push { cls := .type "slice", data := .fields #[vl, vu, vs] } } := I4.kept (t' := s4.toks) fun b ob q => Heap.get?_push_of_some _ q
  obtain ⟨its, r, ht, hz⟩ := I5.tuple hx
  have hlen := r.length
  show wpAny (model X.prog X.w) X.A (subscriptTail e (.Slice none none (some (.UnaryOp .USub (.Constant (.int 1) k p1) p2)) p3) (.ref a) (.ref s4.heap.objs.size)) (EP X pins σ Q) X.xe { s4 with heap := s4.heap.push { cls := .type "slice", data := .fields #[vl, vu, vs] } }
  refine tail_any (ops := [.ref a, .ref s4.heap.objs.size]) ht.typeIs (PyProof.Rows.slot_tuple_getitem.lookup) ?_ (by with_unfolding_all rfl)
  refine getItem_tuple_rev ht (Heap.IsSliceOf.new _ vl vu vs) pl pu ps ?_ (by rw [List.size_toArray]; omega)
  refine ⟨.ref _, _, I5.laid (t' := s4.toks) (o := .tup xs.reverse) (fun b ob q => Heap.get?_push_of_some _ q) (Nat.le_refl _) ?_, rfl, q _ (I5.hok.fresh (Nat.le_refl _))⟩
  exact ⟨by rw [List.length_reverse]; exact hz, _, r.reverse, ⟨_, Heap.get?_push_size _ rfl, rfl, 0, rfl⟩⟩
end
end L2
namespace Nn
open PySem PySem.Spec PyProof.Rows L2 Lb
section
variable {X : Cx} {z : Zc} {W : WM} {ρ ρ' : List Addr} {st : S} {H H' : Hp} {v x y : V} {l m : List D} {xs ys : List V} {Q : VK} {xw : XW} {a b c e tg iter o value : Expr} {ma mb mc mo mv : ME} {mt mu : MT} {pos pos' : Pos} {ar : MA} {es : List Expr} {ms : MS} {mi : MI} {g : MG} {body : List Stmt}
/-- s[::-1] of a list or a tuple -/
def mRevA (own : Bool) (ma : ME) : ME := fun env st => (ma env st).bind fun d s1 => match d with
  | .tup l => .ok (.tup l.reverse) s1
  | .tuf l => .ok (.tup l.reverse) s1
  | d => match lsD s1 d with
    | some l => newL own l.reverse s1
    | none => .bad
theorem q_rev {own : Bool} {k : Nat} {p1 p2 p3 : Pos} (hz : z.K = X.K) (ha : PE X a (tE z W ma)) : PE X (.Subscript a (.Slice none none (some (.UnaryOp .USub (.Constant (.int 1) k p1) p2)) p3) pos) (tE z W (mRevA own ma)) := by
  refine pe_or (pe_revL ha) (pe_revT ha) ?_
  rintro σ H Q ⟨ρ, st, env, rs, re, h⟩
  by_cases q : ∃ l s1, ma env st = .ok (.tup l) s1 ∨ ma env st = .ok (.tuf l) s1
  · obtain ⟨l, s1, q⟩ := q
    refine .inr ⟨ρ, st, env, rs, re, Post.bindE h fun d s1' ρ1 H1 x eo e1 rs1 rv1 h1 => ?_⟩
    rcases q with q | q
    · rw [q] at eo
      cases eo
      obtain ⟨p, xs, rfl, t1, t2⟩ := rvt rv1
      exact ⟨p, xs, rfl, hz ▸ t1, Post.tup h1 rs1 t2.reverse⟩
    · rw [q] at eo
      cases eo
      obtain ⟨p, xs, rfl, t1, t2⟩ := rvtf rv1
      exact ⟨p, xs, rfl, hz ▸ t1.sq, Post.tup h1 rs1 t2.reverse⟩
  · refine .inl ⟨ρ, st, env, rs, re, Post.bindE h fun d s1 ρ1 H1 x eo e1 rs1 rv1 h1 => ?_⟩
    split at h1
    · exact absurd ⟨_, _, .inl eo⟩ q
    · exact absurd ⟨_, _, .inr eo⟩ q
    · split at h1
      · rename_i l e0
        obtain ⟨p, xs, rfl, q, r⟩ := ls_rv rs1 e0 rv1
        exact ⟨p, xs, rfl, SqL.of q, h1.lst rs1 r.reverse⟩
      · exact h1.elim
/-- what a row or a dict holds -/
def fIxA (o k : D) (st : S) : R D := match dcD st o with
  | some _ => fDix o k st
  | none => fIx o k st
theorem q_ixA (hz : z.K = X.K) (ha : PE X a (tE z W ma)) (hb : PE X b (tE z W mb)) (hu : X.A.units + 1 < cLine) (hs : PlainIx b) (hs2 : NoSl b) : PE X (.Subscript a b pos) (tE z W (m2 fIxA ma mb)) := by
  refine pe_or (q_ix (W := W) (pos := pos) ha hb hz hs) (q_dix (W := W) (pos := pos) ha hb hu hs2) ?_
  rintro σ H Q ⟨ρ, st, env, rs, re, h⟩
  cases q1 : ma env st with
  | bad => unfold m2 at h; rw [q1] at h; exact h.elim
  | ex c f s => exact .inl ⟨ρ, st, env, rs, re, by unfold m2 at h ⊢; rw [q1] at h ⊢; exact h⟩
  | ok d s1 =>
    cases q2 : mb env s1 with
    | bad => unfold m2 at h; rw [q1] at h; simp only [R.bind] at h; rw [q2] at h; exact h.elim
    | ex c f s => exact .inl ⟨ρ, st, env, rs, re, by unfold m2 at h ⊢; rw [q1] at h ⊢; simp only [R.bind] at h ⊢; rw [q2] at h ⊢; exact h⟩
    | ok k s2 =>
      unfold m2 at h
      rw [q1] at h
      simp only [R.bind] at h
      rw [q2] at h
      simp only [fIxA] at h
      split at h
      · exact .inr ⟨ρ, st, env, rs, re, by unfold m2; rw [q1]; simp only [R.bind]; rw [q2]; exact h⟩
      · exact .inl ⟨ρ, st, env, rs, re, by unfold m2; rw [q1]; simp only [R.bind]; rw [q2]; exact h⟩
def fInA (neg : Bool) (k o : D) (st : S) : R D := match dcD st o with
  | some _ => fDin neg k o st
  | none => fIn neg k o st
theorem inA_or {neg : Bool} {σ : L2.St} {P : D → S → Prop} {ρ : List Addr} {env : Ev} {xw : XW} {R' : V → Hp → Prop} (h : Post z (RV z) ρ H (m2 (fInA neg) ma mb env st) R' xw) : Post z (RV z) ρ H (m2 (fIn neg) ma mb env st) R' xw ∨ Post z (RV z) ρ H (m2 (fDin neg) ma mb env st) R' xw := by
  cases q1 : ma env st with
  | bad => unfold m2 at h; rw [q1] at h; exact h.elim
  | ex c f s => exact .inl (by unfold m2 at h ⊢; rw [q1] at h ⊢; exact h)
  | ok d s1 =>
    cases q2 : mb env s1 with
    | bad => unfold m2 at h; rw [q1] at h; simp only [R.bind] at h; rw [q2] at h; exact h.elim
    | ex c f s => exact .inl (by unfold m2 at h ⊢; rw [q1] at h ⊢; simp only [R.bind] at h ⊢; rw [q2] at h ⊢; exact h)
    | ok k s2 =>
      unfold m2 at h
      rw [q1] at h
      simp only [R.bind] at h
      rw [q2] at h
      simp only [fInA] at h
      split at h
      · exact .inr (by unfold m2; rw [q1]; simp only [R.bind]; rw [q2]; exact h)
      · exact .inl (by unfold m2; rw [q1]; simp only [R.bind]; rw [q2]; exact h)
theorem q_inA (hu65 : X.A.units + 65 < cLine) (hz : z.K = X.K) (ha : PE X a (tE z W ma)) (hb : PE X b (tE z W mb)) (hm : behindInMarks .In b = false := by first | exact nobehind _ (by decide) (by decide) | rfl) : PE X (.Compare a [.In] [b] pos) (tE z W (m2 (fInA false) ma mb)) := by
  refine pe_or (q_cmp (W := W) (pos := pos) (o_in hu65) (by rw [← hz]; exact v_in) ha hb hm) (q_din (W := W) (pos := pos) (by omega) ha hb hm) ?_
  rintro σ H Q ⟨ρ, st, env, rs, re, h⟩
  rcases inA_or (σ := σ) (P := fun _ _ => True) h with h | h
  · exact .inl ⟨ρ, st, env, rs, re, h⟩
  · exact .inr ⟨ρ, st, env, rs, re, h⟩
theorem q_notinA (hu65 : X.A.units + 65 < cLine) (hz : z.K = X.K) (ha : PE X a (tE z W ma)) (hb : PE X b (tE z W mb)) (hm : behindInMarks .NotIn b = false := by first | exact nobehind _ (by decide) (by decide) | rfl) : PE X (.Compare a [.NotIn] [b] pos) (tE z W (m2 (fInA true) ma mb)) := by
  refine pe_or (q_cmp (W := W) (pos := pos) (o_notin hu65) (by rw [← hz]; exact v_in) ha hb hm) (q_dnotin (W := W) (pos := pos) (by omega) ha hb hm) ?_
  rintro σ H Q ⟨ρ, st, env, rs, re, h⟩
  rcases inA_or (σ := σ) (P := fun _ _ => True) h with h | h
  · exact .inl ⟨ρ, st, env, rs, re, h⟩
  · exact .inr ⟨ρ, st, env, rs, re, h⟩
/-- == of anything -/
def fEqA (neg : Bool) (a b : D) (st : S) : R D := match dcD st a, dcD st b with
  | some _, some _ => fEqDic neg a b st
  | _, _ => fEq neg a b st
theorem v_eqA : V2 z (fun x y H Q => r_eq z.K x y H Q ∨ rEqDR false x y H Q) (fEqA false) := by
  intro ρ st H x y d1 d2 Q xw rs h1 h2 h
  unfold fEqA at h
  split at h
  · exact .inr (v_eqDic ρ st H x y d1 d2 Q xw rs h1 h2 h)
  · exact .inl (v_eq ρ st H x y d1 d2 Q xw rs h1 h2 h)
theorem v_neA : V2 z (fun x y H Q => r_ne z.K x y H Q ∨ rEqDR true x y H Q) (fEqA true) := by
  intro ρ st H x y d1 d2 Q xw rs h1 h2 h
  unfold fEqA at h
  split at h
  · exact .inr (v_eqDic ρ st H x y d1 d2 Q xw rs h1 h2 h)
  · exact .inl (v_ne ρ st H x y d1 d2 Q xw rs h1 h2 h)
theorem o_eqA (hu : X.A.units + 64 < cLine) : OpR X (compareOp .Eq) (fun x y H Q => r_eq X.K x y H Q ∨ rEqDR false x y H Q) := (o_eq hu).or (op_eqDR (by omega))
theorem o_neA (hu : X.A.units + 64 < cLine) : OpR X (compareOp .NotEq) (fun x y H Q => r_ne X.K x y H Q ∨ rEqDR true x y H Q) := (o_ne hu).or (op_neDR (by omega))
end
end Nn

namespace Nn
open PySem PySem.Spec PyProof.Rows L2 Lb
section
variable {X : Cx} {z : Zc} {W : WM} {e tg : Expr} {g : MG} {pos : Pos}
/-- a loop's turn begins with the slots that live on -/
def gKl (vs : List Nat) (g : MG) : MG := fun d env st => g d (wipeM env vs) st
theorem qg_kl {vs : List Nat} (h : PG X tg (tG z g)) : PG X tg (tG z (gKl vs g)) := pg_imp h (by
  rintro v σ H Q ⟨ρ, st, env, d, rs, re, rv, h⟩
  exact ⟨ρ, st, wipeM env vs, d, rs, re.kills vs, rv, h⟩)
/-- what is never asked -/
def mDead : ME := fun _ _ => .bad
theorem q_dead : PE X e (tE z W mDead) := ⟨fun pins s σ H Q I h => by
  obtain ⟨_, _, _, _, _, q⟩ := h
  exact q.elim⟩
theorem pt_or {t t1 t2 : TT} (h1 : PT X e t1) (h2 : PT X e t2) (h : ∀ σ H Q, t σ H Q → t1 σ H Q ∨ t2 σ H Q) : PT X e t := ⟨fun pins s σ H Q I q => by
  rcases h σ H Q q with q | q
  · exact h1.run pins s σ H Q I q
  · exact h2.run pins s σ H Q I q⟩
variable {a b : Expr} {ma mb : ME} {ρ : List Addr} {H : Hp} {env : Ev} {st : S} {xw : XW} {P : Bool → Hp → Prop}
theorem inA_orT {neg : Bool} (h : Post z eqB ρ H (mB (m2 (fInA neg) ma mb) env st) P xw) : Post z eqB ρ H (mB (m2 (fIn neg) ma mb) env st) P xw ∨ Post z eqB ρ H (mB (m2 (fDin neg) ma mb) env st) P xw := by
  cases q1 : ma env st with
  | bad => unfold mB m2 at h; rw [q1] at h; exact h.elim
  | ex c f s => exact .inl (by unfold mB m2 at h ⊢; rw [q1] at h ⊢; exact h)
  | ok d s1 =>
    cases q2 : mb env s1 with
    | bad => unfold mB m2 at h; rw [q1] at h; simp only [R.bind] at h; rw [q2] at h; exact h.elim
    | ex c f s => exact .inl (by unfold mB m2 at h ⊢; rw [q1] at h ⊢; simp only [R.bind] at h ⊢; rw [q2] at h ⊢; exact h)
    | ok k s2 =>
      have h' : Post z eqB ρ H ((fInA neg d k s2).bind fun d s1 => match d with | .bl b => .ok b s1 | _ => .bad) P xw := by
        unfold mB m2 at h
        rw [q1] at h
        simp only [R.bind] at h
        rw [q2] at h
        exact h
      unfold fInA at h'
      split at h'
      · exact .inr (by unfold mB m2; rw [q1]; simp only [R.bind]; rw [q2]; exact h')
      · exact .inl (by unfold mB m2; rw [q1]; simp only [R.bind]; rw [q2]; exact h')
theorem qt_inA (hu65 : X.A.units + 65 < cLine) (hz : z.K = X.K) (ha : PE X a (tE z W ma)) (hb : PE X b (tE z W mb)) (hm : behindInMarks .In b = false := by first | exact nobehind _ (by decide) (by decide) | rfl) : PT X (.Compare a [.In] [b] pos) (tT z W (mB (m2 (fInA false) ma mb))) := by
  refine pt_or (qt_cmp (W := W) (pos := pos) (o_in hu65) (by rw [← hz]; exact v_in) ha hb hm) (qt_din (W := W) (pos := pos) (by omega) ha hb hm) ?_
  rintro σ H Q ⟨ρ, st, env, rs, re, h⟩
  rcases inA_orT h with h | h
  · exact .inl ⟨ρ, st, env, rs, re, h⟩
  · exact .inr ⟨ρ, st, env, rs, re, h⟩
theorem qt_notinA (hu65 : X.A.units + 65 < cLine) (hz : z.K = X.K) (ha : PE X a (tE z W ma)) (hb : PE X b (tE z W mb)) (hm : behindInMarks .NotIn b = false := by first | exact nobehind _ (by decide) (by decide) | rfl) : PT X (.Compare a [.NotIn] [b] pos) (tT z W (mB (m2 (fInA true) ma mb))) := by
  refine pt_or (qt_cmp (W := W) (pos := pos) (o_notin hu65) (by rw [← hz]; exact v_in) ha hb hm) (qt_dnotin (W := W) (pos := pos) (by omega) ha hb hm) ?_
  rintro σ H Q ⟨ρ, st, env, rs, re, h⟩
  rcases inA_orT h with h | h
  · exact .inl ⟨ρ, st, env, rs, re, h⟩
  · exact .inr ⟨ρ, st, env, rs, re, h⟩
end
end Nn

/-! how a mirror is worked out: applied equations alone, no binder is entered -/
namespace Nn
open PySem PySem.Spec PyProof.Rows L2 Lb
section
variable {env env' : Ev} {st s1 s2 : S} {d : D} {ds : List D} {b : Bool} {ma mb mc : ME} {mt mu : MT} {ar : MA} {p q : MS} {g : MG} {mi : MI} {c : String} {fs : List (Str × D)}
theorem bind_ok {α β : Type} {a : α} {k : α → S → R β} : (R.ok a st).bind k = k a st := rfl
theorem bindS_ok {α : Type} {a : α} {k : α → S → Rt} : (R.ok a st).bindS env k = k a st := rfl
theorem bindN_nx {k : Ev → S → Rt} : (Rt.nx env st).bindN k = k env st := rfl
theorem bindN_rt {k : Ev → S → Rt} : (Rt.rt d st).bindN k = .rt d st := rfl
theorem bindN_ct {k : Ev → S → Rt} : (Rt.ct env st).bindN k = .ct env st := rfl
theorem bindN_bk {k : Ev → S → Rt} : (Rt.bk env st).bindN k = .bk env st := rfl
theorem seq_ap : mSeq p q env st = (p env st).bindN q := rfl
theorem next_ap : mNext env st = .nx env st := rfl
theorem brk_ap : mBrk env st = .bk env st := rfl
theorem cnt_ap : mCnt env st = .ct env st := rfl
def varK (o : Option (Option D)) (st : S) : R D := match o with
  | some (some d) => .ok d st
  | _ => .bad
theorem var_ap {i : Nat} : mVar i env st = varK (env.sl[i]?) st := rfl
theorem varK_ok : varK (some (some d)) st = .ok d st := rfl
theorem c_ap : mC d env st = .ok d st := rfl
def m2J (f : D → D → S → R D) (x y : D) (s : S) : R D := f x y s
def m2K (f : D → D → S → R D) (mb : ME) (env : Ev) (x : D) (s : S) : R D := (mb env s).bind (m2J f x)
theorem m2_ap {f : D → D → S → R D} : m2 f ma mb env st = (ma env st).bind (m2K f mb env) := rfl
theorem m2K_ap {f : D → D → S → R D} {x : D} : m2K f mb env x st = (mb env st).bind (m2J f x) := rfl
theorem m2J_ap {f : D → D → S → R D} {x y : D} : m2J f x y st = f x y st := rfl
theorem m1_ap {f : D → S → R D} : m1 f ma env st = (ma env st).bind f := rfl
def mBK (d : D) (s : S) : R Bool := match d with
  | .bl b => .ok b s
  | _ => .bad
theorem mB_ap : mB ma env st = (ma env st).bind mBK := rfl
theorem mBK_ap : mBK (.bl b) st = .ok b st := rfl
def andK (u : MT) (env : Ev) (b : Bool) (s : S) : R Bool := if b = true then u env s else .ok false s
def orK (u : MT) (env : Ev) (b : Bool) (s : S) : R Bool := if b = true then .ok true s else u env s
def notK (b : Bool) (s : S) : R Bool := .ok (!b) s
theorem and_ap : mAnd mt mu env st = (mt env st).bind (andK mu env) := rfl
theorem or_ap : mOr mt mu env st = (mt env st).bind (orK mu env) := rfl
theorem not_ap : mNot mt env st = (mt env st).bind notK := rfl
theorem andK_T : andK mu env true st = mu env st := rfl
theorem andK_F : andK mu env false st = .ok false st := rfl
theorem orK_T : orK mu env true st = .ok true st := rfl
theorem orK_F : orK mu env false st = mu env st := rfl
theorem notK_ap : notK b st = .ok (!b) st := rfl
def andVK (mb : ME) (env : Ev) (d : D) (s : S) : R D := match d with
  | .bl true => mb env s
  | .bl false => .ok (.bl false) s
  | _ => .bad
def orVK (mb : ME) (env : Ev) (d : D) (s : S) : R D := match d with
  | .bl false => mb env s
  | .bl true => .ok (.bl true) s
  | _ => .bad
def notVK (d : D) (s : S) : R D := match d with
  | .bl b => .ok (.bl (!b)) s
  | _ => .bad
def ifEK (ma mb : ME) (env : Ev) (c : Bool) (s : S) : R D := if c = true then ma env s else mb env s
theorem andV_ap : mAndV ma mb env st = (ma env st).bind (andVK mb env) := rfl
theorem orV_ap : mOrV ma mb env st = (ma env st).bind (orVK mb env) := rfl
theorem notV_ap : mNotV ma env st = (ma env st).bind notVK := rfl
theorem ifE_ap : mIf mt ma mb env st = (mt env st).bind (ifEK ma mb env) := rfl
theorem andVK_T : andVK mb env (.bl true) st = mb env st := rfl
theorem andVK_F : andVK mb env (.bl false) st = .ok (.bl false) st := rfl
theorem orVK_T : orVK mb env (.bl true) st = .ok (.bl true) st := rfl
theorem orVK_F : orVK mb env (.bl false) st = mb env st := rfl
theorem notVK_ap : notVK (.bl b) st = .ok (.bl (!b)) st := rfl
theorem ifEK_T : ifEK ma mb env true st = ma env st := rfl
theorem ifEK_F : ifEK ma mb env false st = mb env st := rfl
def consJ (d : D) (ds : List D) (s : S) : R (List D) := .ok (d :: ds) s
def consK (r : MA) (env : Ev) (d : D) (s : S) : R (List D) := (r env s).bind (consJ d)
theorem nil_ap : mNil env st = .ok [] st := rfl
theorem cons_ap : mCons ma ar env st = (ma env st).bind (consK ar env) := rfl
theorem consK_ap : consK ar env d st = (ar env st).bind (consJ d) := rfl
theorem consJ_ap : consJ d ds st = .ok (d :: ds) st := rfl
def starJ (l ds : List D) (s : S) : R (List D) := .ok (l ++ ds) s
def starK (r : MA) (env : Ev) (d : D) (s : S) : R (List D) := match seqD s d with
  | some l => (r env s).bind (starJ l)
  | none => .bad
theorem star_ap : mStarA ma ar env st = (ma env st).bind (starK ar env) := rfl
theorem starK_ap {l : List D} (h : seqD st d = some l) : starK ar env d st = (ar env st).bind (starJ l) := by unfold starK; rw [h]
theorem starJ_ap {l : List D} : starJ l ds st = .ok (l ++ ds) st := rfl
def tupK (ds : List D) (s : S) : R D := if ds.length ≤ sizeLine then .ok (.tup ds) s else .bad
def lstK (own : Bool) (ds : List D) (s : S) : R D := if ds.length ≤ sizeLine then newL own ds s else .bad
theorem tup_ap : mTup ar env st = (ar env st).bind tupK := rfl
theorem lst_ap {own : Bool} : mLst own ar env st = (ar env st).bind (lstK own) := rfl
theorem big_line : (1000000 : Nat) < sizeLine := by decide +kernel
theorem tupK_ap (h : ds.length ≤ 1000000) : tupK ds st = .ok (.tup ds) st := by unfold tupK; rw [if_pos (by have := big_line; omega)]
theorem lstK_ap {own : Bool} (h : ds.length ≤ 1000000) : lstK own ds st = newL own ds st := by unfold lstK; rw [if_pos (by have := big_line; omega)]
theorem newL_T {l : List D} : newL true l st = .ok (.loc st.length) (st ++ [.lst l]) := rfl
theorem newL_F {l : List D} : newL false l st = .ok (.fl l) st := rfl
theorem newD_T {l : List (Key × D)} : newD true l st = .ok (.loc st.length) (st ++ [.dic l]) := rfl
theorem newD_F {l : List (Key × D)} : newD false l st = .ok (.fd (l.map (·.1)) (l.map (·.2))) st := rfl
theorem dnew_ap {own : Bool} : mDnew own env st = newD own [] st := rfl
theorem cb_ap {f : List D → S → R D} : mCB f ar env st = (ar env st).bind f := rfl
theorem call_ap {md : List Bool} {f : Fn} : mCall md f ar env st = (ar env st).bind (callF md f) := rfl
def trK (d : D) (s : S) : R Bool := match truD s d with
  | some k => .ok k s
  | none => .bad
theorem tr_ap : mTr ma env st = (ma env st).bind trK := rfl
theorem trK_ap (h : truD st d = some b) : trK d st = .ok b st := by unfold trK; rw [h]
theorem trK_bl : trK (.bl b) st = .ok b st := rfl
/-! statements -/
def asgJ (r : R Ev) : Rt := match r with
  | .ok env' s2 => .nx env' s2
  | _ => .bad
def asgK (g : MG) (env : Ev) (d : D) (s : S) : Rt := asgJ (g d env s)
theorem asg_ap : mAsg ma g env st = (ma env st).bindS env (asgK g env) := by
  unfold mAsg asgK asgJ
  cases ma env st with
  | ok a s => simp only [R.bindS]; all_goals (split <;> rename_i h <;> simp [h])
  | ex c f s => rfl
  | bad => rfl
theorem asgK_ap : asgK g env d st = asgJ (g d env st) := rfl
theorem asgJ_ok : asgJ (.ok env st) = .nx env st := rfl
theorem gnm_ap {i : Nat} : gNm i d env st = .ok (env.put i (some d)) st := rfl
theorem gkl_ap {vs : List Nat} : gKl vs g d env st = g d (wipeM env vs) st := rfl
def retK (d : D) (s : S) : Rt := .rt d s
theorem ret_ap : mRet ma env st = (ma env st).bindS env retK := rfl
theorem retK_ap : retK d st = .rt d st := rfl
theorem retN_ap : mRetN env st = .rt .non st := rfl
def dropK (env : Ev) (d : D) (s : S) : Rt := .nx env s
theorem drop_ap : mDrop ma env st = (ma env st).bindS env (dropK env) := rfl
theorem dropK_ap : dropK env d st = .nx env st := rfl
def ifK (p q : MS) (env : Ev) (c : Bool) (s : S) : Rt := if c = true then p env s else q env s
theorem if_ap : mIfS mt p q env st = (mt env st).bindS env (ifK p q env) := rfl
theorem ifK_T : ifK p q env true st = p env st := rfl
theorem ifK_F : ifK p q env false st = q env st := rfl
def klK (vs : List Nat) (env : Ev) (s : S) : Rt := .nx (wipeM env vs) s
theorem kl_ap {vs : List Nat} : mKl p vs env st = (p env st).bindN (klK vs) := rfl
theorem klK_ap {vs : List Nat} : klK vs env st = .nx (wipeM env vs) st := rfl
theorem wipe_nil : wipeM env [] = env := rfl
theorem wipe_cons {v : Nat} {vs : List Nat} : wipeM env (v :: vs) = (wipeM env vs).put v none := rfl
/-- no error is handled -/
theorem put_mk {l : List (Option D)} {i : Nat} {o : Option D} : (Ev.mk l none).put i o = ⟨l.set i o, none⟩ := rfl
theorem start_mk {n : Nat} : startM n ds = ⟨ds.map some ++ List.replicate (n - ds.length) none, none⟩ := rfl
noncomputable def forK (g : MG) (b : MS) (env : Ev) (it : ItM) (s : S) : Rt := loopL it.ok g b it.l env s
theorem for_ap : mFor mi g p env st = (mi env st).bindS env (forK g p env) := rfl
theorem forK_ap {it : ItM} : forK g p env it st = loopL it.ok g p it.l env st := rfl
/-- a turn's end -/
noncomputable def turnK (ok : S → Prop) (g : MG) (b : MS) (r : List D) (t : Rt) : Rt := match t with
  | .nx env2 s2 => loopL ok g b r env2 s2
  | .ct env2 s2 => loopL ok g b r env2 s2
  | .bk env2 s2 => .nx env2 s2
  | r => r
theorem loopP_nil {l0 : List D} : loopL (itP l0).ok g p [] env st = .nx env st := by unfold loopL; rw [if_pos (show (itP l0).ok st from trivial)]
theorem loopP_cons {l0 l : List D} (h : g d env st = .ok env' s1) : loopL (itP l0).ok g p (d :: l) env st = turnK (itP l0).ok g p l (p env' s1) := by
  conv => lhs; unfold loopL
  rw [if_pos (show (itP l0).ok st from trivial), h]
  unfold turnK
  simp only
  all_goals (cases p env' s1 <;> rfl)
theorem turn_nx {ok : S → Prop} {r : List D} : turnK ok g p r (.nx env st) = loopL ok g p r env st := rfl
theorem turn_ct {ok : S → Prop} {r : List D} : turnK ok g p r (.ct env st) = loopL ok g p r env st := rfl
theorem turn_rt {ok : S → Prop} {r : List D} : turnK ok g p r (.rt d st) = .rt d st := rfl
theorem turn_bk {ok : S → Prop} {r : List D} : turnK ok g p r (.bk env st) = .nx env st := rfl
theorem itP_ok {l m : List D} : (itP l).ok = (itP m).ok := rfl
theorem itP_l {l : List D} : (itP l).l = l := rfl
theorem itL_l {n : Nat} {l : List D} : (itL n l).l = l := rfl
def itK (d : D) (s : S) : R ItM := match d with
  | .str x => .ok (itP (sgn x)) s
  | .fd ks _ => .ok (itP (ks.map kd)) s
  | .loc n => match rdL s n with
    | some l => .ok (itL n l) s
    | none => .bad
  | d => match seqD s d with
    | some l => .ok (itP l) s
    | none => .bad
theorem it_ap : mIt ma env st = (ma env st).bind itK := rfl
theorem itK_tup {l : List D} : itK (.tup l) st = .ok (itP l) st := rfl
theorem itK_tuf {l : List D} : itK (.tuf l) st = .ok (itP l) st := rfl
theorem itK_fl {l : List D} : itK (.fl l) st = .ok (itP l) st := rfl
theorem itK_sc {l : List D} : itK (.sc l) st = .ok (itP l) st := rfl
theorem itK_str {x : Str} : itK (.str x) st = .ok (itP (sgn x)) st := rfl
theorem itK_fd {ks : List Key} {l : List D} : itK (.fd ks l) st = .ok (itP (ks.map kd)) st := rfl
def rg1K (ds : List D) (s : S) : R ItM := match ds with
  | [.int j] => if okR j = true then .ok (itP (rgD 0 j.toNat)) s else .bad
  | _ => .bad
def enK (ds : List D) (s : S) : R ItM := match ds with
  | [.loc n] => match rdL s n with
    | some l => .ok ⟨enD 0 l, fun st => rdL st n = some l⟩ s
    | none => .bad
  | [d] => match seqD s d with
    | some l => .ok (itP (enD 0 l)) s
    | none => .bad
  | _ => .bad
theorem range1_ap : mRange1 ar env st = (ar env st).bind rg1K := rfl
theorem rg1K_ap {j : Int} (h : okR j = true) : rg1K [.int j] st = .ok (itP (rgD 0 j.toNat)) st := by unfold rg1K; simp only [h, if_true]
theorem enum_ap : mEnum ar env st = (ar env st).bind enK := rfl
theorem enK_tup {l : List D} : enK [.tup l] st = .ok (itP (enD 0 l)) st := rfl
theorem enK_tuf {l : List D} : enK [.tuf l] st = .ok (itP (enD 0 l)) st := rfl
theorem enK_fl {l : List D} : enK [.fl l] st = .ok (itP (enD 0 l)) st := rfl
/-! comprehensions -/
def newLK (own : Bool) (l : List D) (s : S) : R D := newL own l s
noncomputable def lcK (own : Bool) (g : MG) (t : MT) (m : ME) (env : Ev) (it : ItM) (s : S) : R D := (lcL it.ok g t m env it.l [] s).bind (newLK own)
theorem lc_ap {own : Bool} {vs : List Nat} : mLc own mi g mt ma vs env st = (mi env st).bind (lcK own g mt ma (wipeM env vs)) := rfl
theorem lcK_ap {own : Bool} {it : ItM} : lcK own g mt ma env it st = (lcL it.ok g mt ma env it.l [] st).bind (newLK own) := rfl
theorem newLK_ap {own : Bool} {l : List D} : newLK own l st = newL own l st := rfl
theorem yes_ap : mYes env st = .ok true st := rfl
theorem lcL_map {l0 : List D} (f : D → D) : ∀ (l acc : List D), (∀ x ∈ l, ∃ env1, g x env st = .ok env1 st ∧ mt env1 st = .ok true st ∧ ma env1 st = .ok (f x) st) → acc.length + l.length ≤ 1000000 → lcL (itP l0).ok g mt ma env l acc st = .ok (acc ++ l.map f) st
  | [], acc, _, _ => by unfold lcL; rw [if_pos (show (itP l0).ok st from trivial)]; simp
  | d :: l, acc, h, hl => by
    obtain ⟨env1, h1, h2, h3⟩ := h d (List.mem_cons_self ..)
    have := big_line
    rw [List.length_cons] at hl
    unfold lcL
    rw [if_pos (show (itP l0).ok st from trivial)]
    simp only [h1, h2, h3]
    rw [if_pos (by omega), lcL_map f l (acc ++ [f d]) (fun x hx => h x (List.mem_cons_of_mem _ hx)) (by simp; omega)]
    simp
theorem lcL_filter {l0 : List D} (f : D → D) (k : D → Bool) : ∀ (l acc : List D), (∀ x ∈ l, ∃ env1, g x env st = .ok env1 st ∧ mt env1 st = .ok (k x) st ∧ (k x = true → ma env1 st = .ok (f x) st)) → acc.length + l.length ≤ 1000000 → lcL (itP l0).ok g mt ma env l acc st = .ok (acc ++ (l.filter k).map f) st
  | [], acc, _, _ => by unfold lcL; rw [if_pos (show (itP l0).ok st from trivial)]; simp
  | d :: l, acc, h, hl => by
    obtain ⟨env1, h1, h2, h3⟩ := h d (List.mem_cons_self ..)
    have := big_line
    rw [List.length_cons] at hl
    unfold lcL
    rw [if_pos (show (itP l0).ok st from trivial)]
    cases hk : k d with
    | true =>
      have h3 := h3 hk
      rw [hk] at h2
      simp only [h1, h2, h3]
      rw [if_pos (by omega), lcL_filter f k l (acc ++ [f d]) (fun x hx => h x (List.mem_cons_of_mem _ hx)) (by simp; omega), List.filter_cons, hk]
      simp
    | false =>
      rw [hk] at h2
      simp only [h1, h2]
      rw [lcL_filter f k l acc (fun x hx => h x (List.mem_cons_of_mem _ hx)) (by omega), List.filter_cons, hk]
      simp
/-- a comprehension that changes the store: what holds of what is made so far -/
theorem lcL_ind {l0 : List D} (I : List D → S → Prop) : ∀ (l acc : List D) (st : S), I acc st → (∀ x ∈ l, ∀ acc st, I acc st → ∃ env1 s1 y s2, g x env st = .ok env1 st ∧ mt env1 st = .ok true s1 ∧ ma env1 s1 = .ok y s2 ∧ I (acc ++ [y]) s2) → acc.length + l.length ≤ 1000000 → ∃ acc' st', lcL (itP l0).ok g mt ma env l acc st = .ok acc' st' ∧ I acc' st' ∧ acc'.length = acc.length + l.length
  | [], acc, st, h0, _, _ => ⟨acc, st, by unfold lcL; rw [if_pos (show (itP l0).ok st from trivial)], h0, rfl⟩
  | d :: l, acc, st, h0, h, hl => by
    obtain ⟨env1, s1, y, s2, h1, h2, h3, h4⟩ := h d (List.mem_cons_self ..) acc st h0
    have := big_line
    rw [List.length_cons] at hl
    obtain ⟨acc', st', k1, k2, k3⟩ := lcL_ind I l (acc ++ [y]) s2 h4 (fun x hx => h x (List.mem_cons_of_mem _ hx)) (by simp; omega)
    refine ⟨acc', st', ?_, k2, by rw [k3]; simp; omega⟩
    unfold lcL
    rw [if_pos (show (itP l0).ok st from trivial)]
    simp only [h1, h2, h3]
    rw [if_pos (by omega)]
    exact k1
/-! data -/
theorem atD {α : Type} {l : List α} (n : Nat) : atI l (n : Int) = l[n]? := by
  unfold L2.atI L2.ixN
  rw [if_pos (by omega)]
  by_cases h : (n : Int) < l.length
  · rw [if_pos h]; rfl
  · rw [if_neg h, List.getElem?_eq_none (by omega)]; rfl
theorem at0 {α : Type} {l : List α} : atI l 0 = l[0]? := atD 0
theorem at1 {α : Type} {l : List α} : atI l 1 = l[1]? := atD 1
theorem at2 {α : Type} {l : List α} : atI l 2 = l[2]? := atD 2
theorem at3 {α : Type} {l : List α} : atI l 3 = l[3]? := atD 3
theorem at4 {α : Type} {l : List α} : atI l 4 = l[4]? := atD 4
theorem at5 {α : Type} {l : List α} : atI l 5 = l[5]? := atD 5
theorem at6 {α : Type} {l : List α} : atI l 6 = l[6]? := atD 6
theorem at7 {α : Type} {l : List α} : atI l 7 = l[7]? := atD 7
theorem at8 {α : Type} {l : List α} : atI l 8 = l[8]? := atD 8
theorem at9 {α : Type} {l : List α} : atI l 9 = l[9]? := atD 9
def oD (o : Option D) (st : S) : R D := match o with
  | some d => .ok d st
  | none => .bad
theorem oD_some : oD (some d) st = .ok d st := rfl
theorem ix_tup {l : List D} {i : Int} : fIxA (.tup l) (.int i) st = oD (atI l i) st := by unfold fIxA fIx oD; simp only [dcD, seqD]; all_goals (cases atI l i <;> rfl)
theorem ix_tuf {l : List D} {i : Int} : fIxA (.tuf l) (.int i) st = oD (atI l i) st := by unfold fIxA fIx oD; simp only [dcD, seqD]; all_goals (cases atI l i <;> rfl)
theorem ix_fl {l : List D} {i : Int} : fIxA (.fl l) (.int i) st = oD (atI l i) st := by unfold fIxA fIx oD; simp only [dcD, seqD]; all_goals (cases atI l i <;> rfl)
theorem ix_sc {l : List D} {i : Int} : fIxA (.sc l) (.int i) st = oD (atI l i) st := by unfold fIxA fIx oD; simp only [dcD, seqD]; all_goals (cases atI l i <;> rfl)
theorem ix_loc {n : Nat} {l : List D} {i : Int} (h : st[n]? = some (.lst l)) : fIxA (.loc n) (.int i) st = oD (atI l i) st := by unfold fIxA fIx oD; simp only [dcD, seqD, h, rdL]; all_goals (cases atI l i <;> rfl)
theorem ix_str {x : Str} {i : Int} (h : x.length ≤ sizeLine) : fIxA (.str x) (.int i) st = oD ((atI x.cps.toList i).map fun c => .str ⟨#[c]⟩) st := by
  unfold fIxA fIx oD
  simp only [dcD, if_pos h]
  cases atI x.cps.toList i <;> rfl
theorem ix_fd {ks : List Key} {l : List D} {k : Key} (h : ks.length = l.length) : fIxA (.fd ks l) (kd k) st = oD (getK (ks.zip l) k) st := by
  unfold fIxA fDix oD
  have e : keyD (kd k) = some k := by cases k <;> rfl
  simp only [dcD, if_pos h, e]
  all_goals (cases getK (ks.zip l) k <;> rfl)
theorem ix_dic {n : Nat} {kvs : List (Key × D)} {k : Key} (h : st[n]? = some (.dic kvs)) : fIxA (.loc n) (kd k) st = oD (getK kvs k) st := by
  unfold fIxA fDix oD
  have e : keyD (kd k) = some k := by cases k <;> rfl
  simp only [dcD, h, e]
  all_goals (cases getK kvs k <;> rfl)
theorem kd_str {s : Str} : kd (.inr s) = .str s := rfl
theorem add_int {i j : Int} {o : Bool} : fAdd o (.int i) (.int j) st = .ok (.int (i + j)) st := rfl
theorem sub_int {i j : Int} : fSub (.int i) (.int j) st = .ok (.int (i - j)) st := rfl
theorem neg_int {i : Int} : fNeg (.int i) st = .ok (.int (-i)) st := rfl
theorem add_tup {a b : List D} {o : Bool} (h : a.length + b.length ≤ 1000000) : fAdd o (.tup a) (.tup b) st = .ok (.tup (a ++ b)) st := by unfold fAdd; simp only; rw [if_pos (by have := big_line; omega)]
theorem add_fl {a b : List D} {o : Bool} (h : a.length + b.length ≤ 1000000) : fAdd o (.fl a) (.fl b) st = newL o (a ++ b) st := by unfold fAdd; simp only [lsD]; rw [if_pos (by have := big_line; omega)]
theorem lt_int {i j : Int} : fLt (.int i) (.int j) st = .ok (.bl (decide (i < j))) st := rfl
theorem le_int {i j : Int} : fLe (.int i) (.int j) st = .ok (.bl (decide (i ≤ j))) st := rfl
theorem gt_int {i j : Int} : fGt (.int i) (.int j) st = .ok (.bl (decide (j < i))) st := rfl
theorem ge_int {i j : Int} : fGe (.int i) (.int j) st = .ok (.bl (decide (j ≤ i))) st := rfl
theorem eq_int {neg : Bool} {i j : Int} : fEqA neg (.int i) (.int j) st = .ok (.bl (ng neg (decide (i = j)))) st := by
  unfold fEqA fEq
  simp only [dcD]
  rw [if_pos (show scal2 (D.int i) (D.int j) = true from rfl)]
  have : eqF (D.int i) (D.int j) = decide (i = j) := Bool.beq_eq_decide_eq i j
  rw [this]
  rfl
theorem eq_str {neg : Bool} {i j : Str} : fEqA neg (.str i) (.str j) st = .ok (.bl (ng neg (decide (i = j)))) st := by
  unfold fEqA fEq
  simp only [dcD]
  rw [if_pos (show scal2 (D.str i) (D.str j) = true from rfl)]
  have : eqF (D.str i) (D.str j) = decide (i = j) := Bool.beq_eq_decide_eq i j
  rw [this]
  rfl
theorem eq_bl {neg : Bool} {i j : Bool} : fEqA neg (.bl i) (.bl j) st = .ok (.bl (ng neg (decide (i = j)))) st := by
  unfold fEqA fEq
  simp only [dcD]
  rw [if_pos (show scal2 (D.bl i) (D.bl j) = true from rfl)]
  have : eqF (D.bl i) (D.bl j) = decide (i = j) := Bool.beq_eq_decide_eq i j
  rw [this]
  rfl
theorem is_non {neg : Bool} : fIsN neg .non .non st = .ok (.bl (!neg)) st := rfl
theorem is_tup {neg : Bool} {l : List D} : fIsN neg (.tup l) .non st = .ok (.bl neg) st := rfl
theorem is_str {neg : Bool} {l : Str} : fIsN neg (.str l) .non st = .ok (.bl neg) st := rfl
theorem is_int {neg : Bool} {l : Int} : fIsN neg (.int l) .non st = .ok (.bl neg) st := rfl
theorem is_bl {neg : Bool} {a b : Bool} : fIsN neg (.bl a) (.bl b) st = .ok (.bl (if neg then !(a == b) else a == b)) st := rfl
theorem int_int {i : Int} : fInt [.int i] st = .ok (.int i) st := rfl
theorem int_bl {b : Bool} : fInt [.bl b] st = .ok (.int (if b then 1 else 0)) st := rfl
theorem abs_int {i : Int} : fAbs [.int i] st = .ok (.int (if i < 0 then -i else i)) st := rfl
theorem mod_int {i j : Int} (h : 0 < j) : fMod (.int i) (.int j) st = .ok (.int (i % j)) st := by simp only [fMod, fI, decide_eq_true h, if_true]
theorem log_small {x m : Nat} (h : x < 2 ^ m) (hm : 0 < m) : x.log2 < m := by
  by_cases h0 : x = 0
  · rw [h0]
    exact hm
  · exact (Nat.log2_lt h0).mpr h
theorem div_int {i j : Int} (h : 0 < j) (h2 : j.natAbs < 2 ^ 200) : fDiv (.int i) (.int j) st = .ok (.int (i / j)) st := by
  have : cDiv i j = true := decide_eq_true ⟨h, Nat.lt_of_lt_of_le (log_small h2 (by decide)) (by decide)⟩
  simp only [fDiv, fI, this, if_true]
theorem mul_int {i j : Int} (hi : i.natAbs < 2 ^ 100) (hj : j.natAbs < 2 ^ 100) : fMul (.int i) (.int j) st = .ok (.int (i * j)) st := by
  have h1 := log_small hi (by decide)
  have h2 := log_small hj (by decide)
  have : cMul i j = true := decide_eq_true (by omega)
  simp only [fMul, fI, this, if_true]
theorem len_tup {l : List D} : fLen [.tup l] st = .ok (.int l.length) st := rfl
theorem len_tuf {l : List D} : fLen [.tuf l] st = .ok (.int l.length) st := rfl
theorem len_fl {l : List D} : fLen [.fl l] st = .ok (.int l.length) st := rfl
theorem len_sc {l : List D} : fLen [.sc l] st = .ok (.int l.length) st := rfl
theorem len_loc {n : Nat} {l : List D} (h : st[n]? = some (.lst l)) : fLen [.loc n] st = .ok (.int l.length) st := by unfold fLen; simp only [seqD, rdL, h]
theorem len_str {x : Str} (h : x.length ≤ sizeLine) : fLen [.str x] st = .ok (.int x.length) st := by unfold fLen; simp only [if_pos h]
theorem tuple_fl {l : List D} : fTuple [.fl l] st = .ok (.tup l) st := rfl
theorem tupleF_fl {l : List D} : fTupleF [.fl l] st = .ok (.tuf l) st := rfl
theorem list_of {own : Bool} {l : List D} (h : seqD st d = some l) : fList own [d] st = newL own l st := by unfold fList; simp only [h]
theorem isi_str {x : Str} : fIsi [.str x, .ty "str"] st = .ok (.bl true) st := by unfold fIsi; simp only [tyD]; rfl
theorem isi_tup {l : List D} : fIsi [.tup l, .ty "tuple"] st = .ok (.bl true) st := by unfold fIsi; simp only [tyD]; rfl
theorem isi_tuf {l : List D} : fIsi [.tuf l, .ty "tuple"] st = .ok (.bl true) st := by unfold fIsi; simp only [tyD]; rfl
/-! calls -/
/-- values alone -/
def pureB : List Bool → List D → Bool
  | [], [] => true
  | false :: md, d :: ds => low d && pureB md ds
  | _, _ => false
theorem pure_mut : ∀ {md : List Bool} {ds : List D}, pureB md ds = true → mutPl md ds = some [] ∧ (∀ p st j, mArgs p st md ds j = some ds) ∧ lentB md ds = false
  | [], [], _ => ⟨rfl, fun _ _ _ => rfl, rfl⟩
  | [], _ :: _, h => by cases h
  | true :: _, [], h => by cases h
  | false :: _, [], h => by cases h
  | true :: _, _ :: _, h => by cases h
  | false :: md, d :: ds, h => by
    unfold pureB at h
    rw [Bool.and_eq_true] at h
    obtain ⟨i1, i2, i3⟩ := pure_mut h.2
    refine ⟨i1, fun p st j => ?_, ?_⟩
    · unfold mArgs fz
      rw [if_pos h.1, i2]
    · unfold lentB
      rw [h.1, i3]
      rfl
/-- a call of values alone that gives a value -/
theorem call_val {md : List Bool} {f : Fn} (hp : pureB md ds = true) (h : f ds [] = .ok d []) (hd : low d = true) : callF md f ds st = .ok d st := by
  obtain ⟨h1, h2, h3⟩ := pure_mut hp
  unfold callF
  rw [h1]
  simp only [nodupB, if_true, minis]
  rw [h2, h3]
  simp only [h, callR]
  rw [if_pos ⟨(fun q => by cases q), rfl⟩]
  simp only [List.length_nil, if_true]
  cases d with
  | loc j => unfold low at hd; cases hd
  | _ => simp only [hd, if_true, wb]
/-- .. that gives a new object -/
theorem call_own {md : List Bool} {f : Fn} {o : O} (hp : pureB md ds = true) (h : f ds [] = .ok (.loc 0) [o]) (ho : lowO o = true) : callF md f ds st = .ok (.loc st.length) (st ++ [o]) := by
  obtain ⟨h1, h2, h3⟩ := pure_mut hp
  unfold callF
  rw [h1]
  simp only [nodupB, if_true, minis]
  rw [h2, h3]
  simp only [h, callR]
  rw [if_pos ⟨(fun q => by cases q), by simp [ho]⟩]
  simp [wb]
/-- .. that changes what it was handed -/
theorem call_mut {md : List Bool} {f : Fn} {ds' : List D} {ps : List Nat} {mini s' : S} (h1 : mutPl md ds = some ps) (hn : nodupB ps = true) (h2 : minis st ps = some mini) (h3 : mArgs (fun k => !(ps.contains k)) st md ds 0 = some ds') (h4 : lentB md ds = false) (h : f ds' mini = .ok d s') (hd : low d = true) (hs : s'.all lowO = true) (hl : s'.length = ps.length) : callF md f ds st = .ok d (wb st ps s') := by
  unfold callF
  rw [h1]
  simp only [hn, if_true]
  rw [h2, h3, h4]
  simp only [h, callR]
  rw [if_pos ⟨(fun q => by cases q), hs⟩]
  simp only [hl, if_true]
  cases d with
  | loc j => unfold low at hd; cases hd
  | _ => simp only [hd, if_true]
/-! ends -/
theorem fin_val {m : Nat} {st' : S} {own : Bool} (hd : low d = true) (h : (st'.take m).all lowO = true) (hm : m ≤ st'.length) : fin own m (.rt d st') = .ok d (st'.take m) := by
  show finV own m d st' = _
  unfold finV
  rw [if_pos ⟨h, hm⟩]
  have fzd : fz (fun k => Nat.ble m k) true st' d = some d := by unfold fz; rw [if_pos hd]
  cases d with
  | loc k => unfold low at hd; cases hd
  | _ => cases own <;> simp only [fzd]
theorem low_fzG {p : Nat → Bool} {n k : Nat} {st' : S} {l : List D} (hk : st'[k]? = some (.lst l)) (hl : lows l = true) (hp : p k = true) : fz p true st' (.loc k) = some (.fl l) := by
  unfold fz
  rw [if_neg (by unfold low; simp)]
  unfold fzG
  simp only [hp, if_true, hk]
  unfold lowM
  rw [if_pos hl]
  rfl
theorem low_fzD {p : Nat → Bool} {n k : Nat} {st' : S} {l : List (Key × D)} (hk : st'[k]? = some (.dic l)) (hl : lows (l.map (·.2)) = true) (hp : p k = true) : fz p true st' (.loc k) = some (.fd (l.map (·.1)) (l.map (·.2))) := by
  unfold fz
  rw [if_neg (by unfold low; simp)]
  unfold fzG
  simp only [hp, if_true, hk]
  unfold lowM
  rw [if_pos hl]
  rfl
theorem fin_fl {m k : Nat} {st' : S} {l : List D} (hk : st'[k]? = some (.lst l)) (hl : lows l = true) (hmk : m ≤ k) (h : (st'.take m).all lowO = true) : fin false m (.rt (.loc k) st') = .ok (.fl l) (st'.take m) := by
  show finV false m (.loc k) st' = _
  have hlt := (List.getElem?_eq_some_iff.mp hk).1
  unfold finV
  rw [if_pos ⟨h, by omega⟩]
  simp only
  rw [if_neg (by omega), low_fzG (n := 0) hk hl (by simpa using hmk)]
theorem fin_fd {m k : Nat} {st' : S} {l : List (Key × D)} (hk : st'[k]? = some (.dic l)) (hl : lows (l.map (·.2)) = true) (hmk : m ≤ k) (h : (st'.take m).all lowO = true) : fin false m (.rt (.loc k) st') = .ok (.fd (l.map (·.1)) (l.map (·.2))) (st'.take m) := by
  show finV false m (.loc k) st' = _
  have hlt := (List.getElem?_eq_some_iff.mp hk).1
  unfold finV
  rw [if_pos ⟨h, by omega⟩]
  simp only
  rw [if_neg (by omega), low_fzD (n := 0) hk hl (by simpa using hmk)]
theorem fin_own {m k : Nat} {st' : S} {o : O} (hk : st'[k]? = some o) (hl : lowO o = true) (hmk : m ≤ k) (h : (st'.take m).all lowO = true) : fin true m (.rt (.loc k) st') = .ok (.loc m) (st'.take m ++ [o]) := by
  show finV true m (.loc k) st' = _
  have hlt := (List.getElem?_eq_some_iff.mp hk).1
  unfold finV
  rw [if_pos ⟨h, by omega⟩]
  simp only [hk]
  rw [if_neg (by omega), if_pos hl]
end
end Nn

/-! what a mirror's end fulfils: frames, joins, loops, calls -/
namespace Nn
open PySem PySem.Spec PyProof.Rows L2 Lb
def R.sat {α : Type} (Q : α → S → Prop) (r : R α) : Prop := match r with
  | .ok a s => Q a s
  | _ => False
def Rt.go (P : Rt → Prop) (r : Rt) : Prop := P r
section
variable {α β γ : Type} {r : R α} {k : α → S → R β} {k' : β → S → R γ} {kS : α → S → Rt} {kb : β → S → Rt} {env : Ev} {st : S} {P : Rt → Prop} {Q : α → S → Prop} {Qb : β → S → Prop} {t : Rt} {kN kM : Ev → S → Rt} {p q : MS} {b : Bool} {c : Prop} [Decidable c]
theorem sat_ok {a : α} : (R.ok a st).sat Q = Q a st := rfl
theorem sat_mk {a : α} (h : Q a st) : (R.ok a st).sat Q := h
theorem sat_eq (h : r.sat Q) : ∃ a s, r = .ok a s ∧ Q a s := by
  cases r with
  | ok a s => exact ⟨a, s, rfl, h⟩
  | ex _ _ _ => exact h.elim
  | bad => exact h.elim
theorem sat_imp {Q' : α → S → Prop} (h : r.sat Q) (i : ∀ a s, Q a s → Q' a s) : r.sat Q' := by
  cases r with
  | ok a s => exact i _ _ h
  | ex _ _ _ => exact h.elim
  | bad => exact h.elim
theorem sat_bind (h : r.sat fun a s => (k a s).sat Qb) : (r.bind k).sat Qb := by
  cases r with
  | ok a s => exact h
  | ex _ _ _ => exact h.elim
  | bad => exact h.elim
theorem go_bindS (h : r.sat fun a s => (kS a s).go P) : (r.bindS env kS).go P := by
  cases r with
  | ok a s => exact h
  | ex _ _ _ => exact h.elim
  | bad => exact h.elim
/-- join: what holds behind a piece -/
def NxP (M : Ev → S → Prop) (P : Rt → Prop) (r : Rt) : Prop := match r with
  | .nx e s => M e s
  | r => P r
theorem go_join (M : Ev → S → Prop) (h1 : t.go (NxP M P)) (h2 : ∀ e s, M e s → (kN e s).go P) : (t.bindN kN).go P := by
  cases t with
  | nx e s => exact h2 _ _ h1
  | _ => exact h1
theorem go_nx {M : Ev → S → Prop} (h : M env st) : (Rt.nx env st).go (NxP M P) := h
theorem go_rt {d : D} : (Rt.rt d st).go P = P (.rt d st) := rfl
theorem go_rtN {M : Ev → S → Prop} {d : D} : (Rt.rt d st).go (NxP M P) = P (.rt d st) := rfl
/-! frames in frames -/
def bbK (k : α → S → R β) (k' : β → S → R γ) (a : α) (s : S) : R γ := (k a s).bind k'
def bsK (env : Ev) (k : α → S → R β) (kb : β → S → Rt) (a : α) (s : S) : Rt := (k a s).bindS env kb
def snK (kS : α → S → Rt) (kN : Ev → S → Rt) (a : α) (s : S) : Rt := (kS a s).bindN kN
def nnK (kM kN : Ev → S → Rt) (e : Ev) (s : S) : Rt := (kM e s).bindN kN
theorem bind_bind : (r.bind k).bind k' = r.bind (bbK k k') := by cases r <;> rfl
theorem bind_bindS : (r.bind k).bindS env kb = r.bindS env (bsK env k kb) := by cases r <;> rfl
theorem bindS_bindN : (r.bindS env kS).bindN kN = r.bindS env (snK kS kN) := by cases r <;> rfl
theorem bindN_bindN : (t.bindN kM).bindN kN = t.bindN (nnK kM kN) := by cases t <;> rfl
theorem bbK_ap {a : α} : bbK k k' a st = (k a st).bind k' := rfl
theorem bsK_ap {a : α} : bsK env k kb a st = (k a st).bindS env kb := rfl
theorem snK_ap {a : α} : snK kS kN a st = (kS a st).bindN kN := rfl
theorem nnK_ap : nnK kM kN env st = (kM env st).bindN kN := rfl
/-! tests that are open -/
theorem go_ifN (h1 : b = true → ((p env st).bindN kN).go P) (h2 : b = false → ((q env st).bindN kN).go P) : ((ifK p q env b st).bindN kN).go P := by
  cases b with
  | true => exact h1 rfl
  | false => exact h2 rfl
theorem go_if (h1 : b = true → (p env st).go P) (h2 : b = false → (q env st).go P) : (ifK p q env b st).go P := by
  cases b with
  | true => exact h1 rfl
  | false => exact h2 rfl
theorem go_ifDN (h1 : c → ((p env st).bindN kN).go P) (h2 : ¬ c → ((q env st).bindN kN).go P) : ((ifK p q env (decide c) st).bindN kN).go P := go_ifN (fun h => h1 (of_decide_eq_true h)) (fun h => h2 (of_decide_eq_false h))
theorem go_ifD (h1 : c → (p env st).go P) (h2 : ¬ c → (q env st).go P) : (ifK p q env (decide c) st).go P := go_if (fun h => h1 (of_decide_eq_true h)) (fun h => h2 (of_decide_eq_false h))
/-! a def's end -/
theorem fnM_ap {own : Bool} {n : Nat} {m : MS} {ds : List D} : fnM own n m ds st = fin own st.length (m (startM n ds) st) := rfl
theorem noX_ap {f : Fn} {ds : List D} {Q : D → S → Prop} (h : (f ds st).sat Q) : (noX f ds st).sat Q := by
  obtain ⟨a, s, e, q⟩ := sat_eq h
  unfold noX
  rw [e]
  exact q
/-- a def: what its body's end fulfils -/
theorem def_sat {own : Bool} {n : Nat} {m : MS} {ds : List D} {Q : D → S → Prop} (h : (m (startM n ds) st).go fun r => (fin own st.length r).sat Q) : (noX (fnM own n m) ds st).sat Q := noX_ap h
/-! loops -/
def LP (I : Ev → S → Prop) (P : Rt → Prop) (r : Rt) : Prop := match r with
  | .nx e s => I e s
  | .ct e s => I e s
  | .bk e s => P (.nx e s)
  | r => P r
theorem loopP_inv {l0 : List D} {g : MG} {bd : MS} (I : List D → Ev → S → Prop) (hs : ∀ d r env st, I (d :: r) env st → (g d env st).sat fun env1 s1 => (bd env1 s1).go (LP (I r) P)) : ∀ (l : List D) (env : Ev) (st : S), I l env st → (∀ env st, I [] env st → P (.nx env st)) → (loopL (itP l0).ok g bd l env st).go P
  | [], env, st, h, he => by
    rw [loopP_nil]
    exact he _ _ h
  | d :: r, env, st, h, he => by
    obtain ⟨env1, s1, e, q⟩ := sat_eq (hs d r env st h)
    rw [loopP_cons e]
    unfold turnK
    cases eb : bd env1 s1 with
    | nx e s => rw [eb] at q; exact loopP_inv I hs r e s q he
    | ct e s => rw [eb] at q; exact loopP_inv I hs r e s q he
    | bk e s => rw [eb] at q; exact q
    | rt d s => rw [eb] at q; exact q
    | ex c f e s => rw [eb] at q; exact q
    | bad => rw [eb] at q; exact q
theorem go_loop {l0 l : List D} {g : MG} {bd : MS} (I : List D → Ev → S → Prop) (h0 : I l env st) (hs : ∀ d r env st, I (d :: r) env st → (g d env st).sat fun env1 s1 => (bd env1 s1).go (LP (I r) (fun t => (t.bindN kN).go P))) (he : ∀ env st, I [] env st → (kN env st).go P) : ((loopL (itP l0).ok g bd l env st).bindN kN).go P :=
  loopP_inv (P := fun t => (t.bindN kN).go P) I hs l env st h0 (fun env st h => he env st h)
theorem go_loopE {l0 l : List D} {g : MG} {bd : MS} (I : List D → Ev → S → Prop) (h0 : I l env st) (hs : ∀ d r env st, I (d :: r) env st → (g d env st).sat fun env1 s1 => (bd env1 s1).go (LP (I r) P)) (he : ∀ env st, I [] env st → P (.nx env st)) : (loopL (itP l0).ok g bd l env st).go P :=
  loopP_inv I hs l env st h0 he
theorem lp_nx {I : Ev → S → Prop} (h : I env st) : (Rt.nx env st).go (LP I P) := h
theorem lp_ct {I : Ev → S → Prop} (h : I env st) : (Rt.ct env st).go (LP I P) := h
theorem lp_bk {I : Ev → S → Prop} (h : P (.nx env st)) : (Rt.bk env st).go (LP I P) := h
theorem lp_rt {I : Ev → S → Prop} {d : D} (h : P (.rt d st)) : (Rt.rt d st).go (LP I P) := h
/-! calls -/
theorem call_pure {md : List Bool} {f : Fn} {ds : List D} {Q : D → S → Prop} (hp : pureB md ds = true) (h : (f ds []).sat fun d s => s = [] ∧ low d = true ∧ Q d st) : (callF md f ds st).sat Q := by
  obtain ⟨d, s, e, rfl, hl, q⟩ := sat_eq h
  rw [call_val hp e hl]
  exact q
/-- a call that changes what stands at the places ps -/
theorem call_at {md : List Bool} {f : Fn} {ds ds' : List D} {ps : List Nat} {mini : S} {Q : D → S → Prop} (h1 : mutPl md ds = some ps) (hn : nodupB ps = true) (h2 : minis st ps = some mini) (h3 : mArgs (fun k => !(ps.contains k)) st md ds 0 = some ds')
    (h : (f ds' mini).sat fun d s' => low d = true ∧ (lentB md ds = true → nref d = true ∧ s'.all nrefO = true) ∧ s'.all lowO = true ∧ s'.length = ps.length ∧ Q d (wb st ps s')) : (callF md f ds st).sat Q := by
  obtain ⟨d, s', e, hd, hlt, hs, hl, q⟩ := sat_eq h
  unfold callF
  rw [h1]
  simp only [hn, if_true]
  rw [h2, h3]
  simp only [e, callR]
  rw [if_pos ⟨hlt, hs⟩]
  simp only [hl, if_true]
  cases d with
  | loc j => unfold low at hd; cases hd
  | _ => simp only [hd, if_true]; exact q
/-- a call that gives a new object -/
theorem call_new {md : List Bool} {f : Fn} {ds ds' : List D} {ps : List Nat} {mini : S} {Q : D → S → Prop} (h1 : mutPl md ds = some ps) (hn : nodupB ps = true) (h2 : minis st ps = some mini) (h3 : mArgs (fun k => !(ps.contains k)) st md ds 0 = some ds')
    (h : (f ds' mini).sat fun d s' => d = .loc ps.length ∧ (lentB md ds = true → s'.all nrefO = true) ∧ lentB md ds = false ∧ s'.all lowO = true ∧ ∃ s2 o, s' = s2 ++ [o] ∧ s2.length = ps.length ∧ Q (.loc st.length) (wb st ps s' ++ [o])) : (callF md f ds st).sat Q := by
  obtain ⟨d, s', e, rfl, hlt, hlf, hs, s2, o, rfl, hl, q⟩ := sat_eq h
  unfold callF
  rw [h1]
  simp only [hn, if_true]
  rw [h2, h3]
  simp only [e, callR]
  rw [if_pos ⟨(fun z => by rw [hlf] at z; cases z), hs⟩]
  have e1 : ¬ (s2 ++ [o]).length = ps.length := by simp [hl]
  have e2 : (s2 ++ [o]).length = ps.length + 1 := by simp [hl]
  rw [if_neg e1, if_pos e2]
  simp only [if_true]
  have e3 : (s2 ++ [o])[ps.length]? = some o := by rw [← hl]; simp
  rw [e3]
  exact q
end
end Nn
namespace Nn
open PySem PySem.Spec PyProof.Rows L2 Lb
section
variable {env : Ev} {st : S} {d o k : D} {ds l : List D} {ma mb mo mi : ME} {ar : MA} {n : Nat} {i : Int} {x : Str}
/-! the store's own lists and dicts, by what stands there -/
def ixO (o : Option O) (k : D) (st : S) : R D := match o with
  | some (.lst l) => match k with
    | .int i => oD (atI l i) st
    | _ => .bad
  | some (.dic kvs) => match keyD k with
    | some k => oD (getK kvs k) st
    | none => .bad
  | _ => .bad
theorem ix_lc : fIxA (.loc n) k st = ixO (st[n]?) k st := by
  unfold ixO
  cases h : st[n]? with
  | none => unfold fIxA fIx; cases k <;> simp [dcD, seqD, rdL, h]
  | some o =>
    cases o with
    | lst l => cases k <;> first | exact ix_loc h | (unfold fIxA fIx; simp [dcD, seqD, rdL, h])
    | dic kvs =>
      unfold fIxA fDix
      simp only [dcD, h]
      cases keyD k <;> simp only
      rename_i k
      cases getK kvs k <;> rfl
    | ins c f => unfold fIxA fIx; cases k <;> simp [dcD, seqD, rdL, h]
theorem ixO_lst : ixO (some (.lst l)) (.int i) st = oD (atI l i) st := rfl
theorem ixO_dic {kvs : List (Key × D)} {s : Str} : ixO (some (.dic kvs)) (.str s) st = oD (getK kvs (.inr s)) st := rfl
theorem ixO_dicI {kvs : List (Key × D)} : ixO (some (.dic kvs)) (.int i) st = oD (getK kvs (.inl i)) st := rfl
def lenO (o : Option O) (st : S) : R D := match o with
  | some (.lst l) => .ok (.int l.length) st
  | _ => .bad
theorem lenO_lst : lenO (some (.lst l)) st = .ok (.int l.length) st := rfl
def setO (o : Option O) (n : Nat) (k v : D) (st : S) : R Unit := match o with
  | some (.lst l) => match k with
    | .int i => match ixN l.length i with
      | some j => .ok () (st.set n (.lst (l.set j v)))
      | none => .bad
    | _ => .bad
  | some (.dic kvs) => match keyD k with
    | some key => if kvs.length < sizeLine then .ok () (st.set n (.dic (putD kvs key v))) else .bad
    | none => .bad
  | _ => .bad
theorem set_lc : fSet (.loc n) k d st = setO (st[n]?) n k d st := by
  cases h : st[n]? with
  | none => simp only [fSet, setO, h]
  | some o =>
    cases o with
    | lst l =>
      cases k with
      | int i => cases h2 : ixN l.length i <;> simp only [fSet, setO, h, h2]
      | _ => simp only [fSet, setO, h]
    | dic kvs =>
      cases h2 : keyD k <;> simp only [fSet, setO, h, h2]
    | ins c f => simp only [fSet, setO, h]
def setJ (o : Option Nat) (n : Nat) (l : List D) (v : D) (st : S) : R Unit := match o with
  | some j => .ok () (st.set n (.lst (l.set j v)))
  | none => .bad
theorem setO_lst : setO (some (.lst l)) n (.int i) d st = setJ (ixN l.length i) n l d st := by
  cases h : ixN l.length i <;> simp only [setO, setJ, h]
theorem setJ_some {j : Nat} : setJ (some j) n l d st = .ok () (st.set n (.lst (l.set j d))) := rfl
theorem ixN_lit {m j : Nat} (h : j < m) : ixN m ((j : Nat) : Int) = some j := by
  unfold L2.ixN
  rw [if_pos (by omega), if_pos (by omega)]
  rfl
theorem ixN_0 {m : Nat} : ixN (m + 1) 0 = some 0 := ixN_lit (j := 0) (by omega)
theorem ixN_1 {m : Nat} : ixN (m + 1 + 1) 1 = some 1 := ixN_lit (j := 1) (by omega)
theorem setO_dic {kvs : List (Key × D)} {s : Str} (h : kvs.length ≤ 1000000) : setO (some (.dic kvs)) n (.str s) d st = .ok () (st.set n (.dic (putD kvs (.inr s) d))) := by
  unfold setO
  simp only [keyD]
  rw [if_pos (by have := big_line; omega)]
/-! stores to items -/
def okB {α β : Type} (r : R α) (k : α → S → R β) : R β := match r with
  | .ok a s => k a s
  | _ => .bad
def gsE (env : Ev) (_ : Unit) (s3 : S) : R Ev := .ok env s3
def gsC (d : D) (env : Ev) (o i : D) (s2 : S) : R Ev := (fSet o i d s2).bind (gsE env)
def gsA (mi : ME) (d : D) (env : Ev) (o : D) (s1 : S) : R Ev := okB (mi env s1) (gsC d env o)
theorem gsb_ap : gSb mo mi d env st = okB (mo env st) (gsA mi d env) := by
  cases h1 : mo env st with
  | ok o s => cases h2 : mi env s <;> simp only [gSb, okB, gsA, gsC, h1, h2] <;> rfl
  | _ => simp only [gSb, okB, h1]
theorem okB_ok {α β : Type} {a : α} {k : α → S → R β} : okB (.ok a st) k = k a st := rfl
theorem gsA_ap {o : D} : gsA mi d env o st = okB (mi env st) (gsC d env o) := rfl
theorem gsC_ap {o i : D} : gsC d env o i st = (fSet o i d st).bind (gsE env) := rfl
theorem gsE_ap {u : Unit} : gsE env u st = .ok env st := rfl
/-! o.m(..) of a list -/
def blJ (f : D → List D → S → R D) (o : D) (ds : List D) (s : S) : R D := f o ds s
def blK (f : D → List D → S → R D) (ar : MA) (env : Ev) (o : D) (s1 : S) : R D := match o with
  | .loc n => match rdL s1 n with
    | some _ => (ar env s1).bind (blJ f o)
    | none => .bad
  | _ => .bad
theorem bl_ap {f : D → List D → S → R D} : mBL f mo ar env st = (mo env st).bind (blK f ar env) := by
  unfold mBL blK
  cases mo env st with
  | ok o s => cases o <;> rfl
  | _ => rfl
def blO (q : Option O) (f : D → List D → S → R D) (ar : MA) (env : Ev) (o : D) (s1 : S) : R D := match q with
  | some (.lst _) => (ar env s1).bind (blJ f o)
  | _ => .bad
theorem blK_ap {f : D → List D → S → R D} : blK f ar env (.loc n) st = blO (st[n]?) f ar env (.loc n) st := by
  unfold blK blO rdL
  cases h : st[n]? with
  | none => simp only [h]
  | some o => cases o <;> simp only [h]
theorem blO_ap {f : D → List D → S → R D} : blO (some (.lst l)) f ar env o st = (ar env st).bind (blJ f o) := rfl
theorem blJ_ap {f : D → List D → S → R D} : blJ f o ds st = f o ds st := rfl
def apO (q : Option O) (n : Nat) (d : D) (st : S) : R D := match q with
  | some (.lst l) => if l.length < sizeLine then .ok .non (st.set n (.lst (l ++ [d]))) else .bad
  | _ => .bad
/-! x op= e -/
def augJ (i : Nat) (env : Ev) (w : D) (s2 : S) : Rt := .nx (env.put i (some w)) s2
def augI (i : Nat) (f : D → D → S → R D) (env : Ev) (x y : D) (s1 : S) : Rt := (f x y s1).bindS env (augJ i env)
def augK (i : Nat) (m : ME) (f : D → D → S → R D) (env : Ev) (o : Option (Option D)) (st : S) : Rt := match o with
  | some (some x) => (m env st).bindS env (augI i f env x)
  | _ => .bad
theorem aug_ap {i : Nat} {f : D → D → S → R D} : mAug i ma f env st = augK i ma f env (env.sl[i]?) st := by
  unfold mAug augK
  cases env.sl[i]? with
  | none => rfl
  | some o => cases o <;> rfl
theorem augK_ap {i : Nat} {f : D → D → S → R D} : augK i ma f env (some (some d)) st = (ma env st).bindS env (augI i f env d) := rfl
theorem augI_ap {i : Nat} {f : D → D → S → R D} {y : D} : augI i f env d y st = (f d y st).bindS env (augJ i env) := rfl
theorem augJ_ap {i : Nat} : augJ i env d st = .nx (env.put i (some d)) st := rfl
end
end Nn
namespace Nn
theorem eq_of_sat {α : Type} {r : R α} {a : α} {s : S} (h : r.sat fun d t => d = a ∧ t = s) : r = .ok a s := by
  obtain ⟨d, t, e, rfl, rfl⟩ := sat_eq h
  exact e
end Nn

namespace Nn
open PySem PySem.Spec PyProof.Rows L2 Lb
section
variable {env : Ev} {st : S} {d o k : D} {ds l : List D} {ma mb mo mi : ME} {ar : MA} {n : Nat} {i : Int} {x s : Str} {neg own : Bool}
/-! len -/
def lenQ (o : Option O) (n : Nat) (st : S) : R D := match o with
  | some (.lst l) => .ok (.int l.length) st
  | some (.dic l) => .ok (.int l.length) st
  | _ => .bad
theorem len_lc : fLen [.loc n] st = lenQ (st[n]?) n st := by
  cases h : st[n]? with
  | none => simp only [fLen, lenQ, seqD, rdL, dcD, h]
  | some o =>
    cases o with
    | lst l => exact len_loc h
    | dic l => simp only [fLen, lenQ, seqD, rdL, h, dcD]
    | ins c f => simp only [fLen, lenQ, seqD, rdL, h, dcD]
theorem lenQ_lst : lenQ (some (.lst l)) n st = .ok (.int l.length) st := rfl
theorem lenQ_dic {kvs : List (Key × D)} : lenQ (some (.dic kvs)) n st = .ok (.int kvs.length) st := rfl
/-! x.index(y) -/
def idxT (l : List D) (d : D) (s : S) : R D := fIndexT l d s
def idxL (o : D) (d : D) (s : S) : R D := fIndexL o d s
def idxK (mb : ME) (env : Ev) (o : D) (s1 : S) : R D := match o with
  | .tuf l => (mb env s1).bind (idxT l)
  | o => match lsD s1 o with
    | some _ => (mb env s1).bind (idxL o)
    | none => .bad
theorem index_ap : mIndex mo mb env st = (mo env st).bind (idxK mb env) := by
  unfold mIndex idxK
  cases mo env st with
  | ok o s => cases o <;> rfl
  | _ => rfl
theorem idxK_tuf : idxK mb env (.tuf l) st = (mb env st).bind (idxT l) := rfl
theorem idxK_fl : idxK mb env (.fl l) st = (mb env st).bind (idxL (.fl l)) := rfl
theorem strsD_map : ∀ ss : List Str, strsD (ss.map D.str) = some ss
  | [] => rfl
  | s :: ss => by rw [List.map_cons]; unfold strsD; rw [strsD_map ss]; rfl
theorem idxT_at {ss : List Str} {j : Nat} (h : ss.findIdx? (fun y => decide (y = x)) = some j) : idxT (ss.map D.str) (.str x) st = .ok (.int (j : Nat)) st := by
  unfold idxT fIndexT
  simp only [strsD_map, h]
theorem find_nodup : ∀ {ss : List Str} {j : Nat}, ss.Nodup → ss[j]? = some x → ss.findIdx? (fun y => decide (y = x)) = some j
  | [], j, _, h => by simp at h
  | y :: ss, 0, nd, h => by
    have e : y = x := by simpa using h
    rw [List.findIdx?_cons]
    simp [e]
  | y :: ss, j + 1, nd, h => by
    have e : ss[j]? = some x := by simpa using h
    have ne : y ≠ x := fun q => by
      rw [List.nodup_cons] at nd
      exact nd.1 (by rw [q]; exact List.mem_of_getElem? e)
    rw [List.findIdx?_cons]
    simp only [decide_eq_false ne, Bool.false_eq_true, if_false]
    rw [find_nodup (List.nodup_cons.mp nd).2 e]
    rfl
theorem idx_word {ss : List Str} {j : Nat} (nd : ss.Nodup) (h : ss[j]? = some x) : idxT (ss.map D.str) (.str x) st = .ok (.int (j : Nat)) st := idxT_at (find_nodup nd h)
/-! sep.join(xs) -/
def joinJ (a : Str) (y : D) (s : S) : R D := fJoin (.str a) y s
def joinK (mb : ME) (env : Ev) (o : D) (s1 : S) : R D := match o with
  | .str a => (mb env s1).bind (joinJ a)
  | _ => .bad
theorem join_ap : mJoin mo mb env st = (mo env st).bind (joinK mb env) := by
  unfold mJoin joinK
  cases mo env st with
  | ok o s => cases o <;> rfl
  | _ => rfl
theorem joinK_ap {a : Str} : joinK mb env (.str a) st = (mb env st).bind (joinJ a) := rfl
theorem joinJ_fl {a : Str} {ss : List Str} (h : (ss.map (·.length)).sum + ss.length * a.length ≤ 16777216) : joinJ a (.fl (ss.map D.str)) st = .ok (.str (Txt.join a ss)) st := by
  unfold joinJ fJoin
  simp only [seqD, strsD_map]
  rw [if_pos h]
/-! x in xs -/
theorem flat_strs : ∀ ss : List Str, (ss.map D.str).all flat = true
  | [] => rfl
  | s :: ss => by rw [List.map_cons, List.all_cons, flat_strs ss]; rfl
theorem any_strs : ∀ ss : List Str, ((ss.map D.str).any fun e => eqF e (.str x)) = decide (x ∈ ss)
  | [] => rfl
  | s :: ss => by
    rw [List.map_cons, List.any_cons, any_strs ss]
    have : eqF (D.str s) (D.str x) = decide (s = x) := Bool.beq_eq_decide_eq s x
    rw [this]
    by_cases h : s = x
    · simp [h]
    · have h' : ¬ x = s := fun q => h q.symm
      simp [h, h']
def inS (neg : Bool) (x : Str) (o : Option (List D)) (st : S) : R D := match o with
  | some l => if l.all flat then .ok (.bl (ng neg (l.any fun e => eqF e (.str x)))) st else .bad
  | none => .bad
theorem inS_strs {ss : List Str} : inS neg x (some (ss.map D.str)) st = .ok (.bl (ng neg (decide (x ∈ ss)))) st := by
  unfold inS
  simp only [flat_strs, if_true, any_strs]
theorem in_tup (h : l.all flat = true) : fInA neg (.str x) (.tup l) st = inS neg x (some l) st := by
  unfold fInA fIn inS
  simp only [dcD, seqD, h, flat, Bool.true_and, if_true]
theorem in_tuf (h : l.all flat = true) : fInA neg (.str x) (.tuf l) st = inS neg x (some l) st := by
  unfold fInA fIn inS
  simp only [dcD, seqD, h, flat, Bool.true_and, if_true]
theorem in_fl (h : l.all flat = true) : fInA neg (.str x) (.fl l) st = inS neg x (some l) st := by
  unfold fInA fIn inS
  simp only [dcD, seqD, h, flat, Bool.true_and, if_true]
theorem in_loc {l : List D} (e : st[n]? = some (.lst l)) (h : l.all flat = true) : fInA neg (.str x) (.loc n) st = inS neg x (some l) st := by
  unfold fInA fIn inS
  simp only [dcD, seqD, rdL, e, h, flat, Bool.true_and, if_true]
theorem in_tupS {ss : List Str} : fInA neg (.str x) (.tup (ss.map D.str)) st = .ok (.bl (ng neg (decide (x ∈ ss)))) st := (in_tup (flat_strs ss)).trans inS_strs
theorem in_tufS {ss : List Str} : fInA neg (.str x) (.tuf (ss.map D.str)) st = .ok (.bl (ng neg (decide (x ∈ ss)))) st := (in_tuf (flat_strs ss)).trans inS_strs
theorem in_flS {ss : List Str} : fInA neg (.str x) (.fl (ss.map D.str)) st = .ok (.bl (ng neg (decide (x ∈ ss)))) st := (in_fl (flat_strs ss)).trans inS_strs
/-- .. in a list of the store, by what stands there -/
def inO (neg : Bool) (a : D) (q : Option O) (n : Nat) (st : S) : R D := match q with
  | some (.lst l) => if flat a && l.all flat then .ok (.bl (ng neg (l.any fun e => eqF e a))) st else fInA neg a (.loc n) st
  | some (.dic kvs) => match keyD a with
    | some k => .ok (.bl (ng neg (getK kvs k).isSome)) st
    | none => fInA neg a (.loc n) st
  | _ => fInA neg a (.loc n) st
theorem inO_strs {ss : List Str} : inO neg (.str x) (some (.lst (ss.map D.str))) n st = .ok (.bl (ng neg (decide (x ∈ ss)))) st := by
  unfold inO
  simp only [flat, flat_strs, Bool.true_and, if_true, any_strs]
/-! fields -/
def fldO (f : Str) (ks : List Str) (l : List D) (st : S) : R D := match lookD ks l f with
  | some x => .ok x st
  | none => .bad
def fldK (cs : List String) (f : Str) (d : D) (s1 : S) : R D := match inD s1 d with
  | some (c, ks, l) => if cs.contains c = true then fldO f ks l s1 else .bad
  | none => .bad
theorem fld_ap {cs : List String} {f : Str} : mFld cs f ma env st = (ma env st).bind (fldK cs f) := rfl
theorem fldK_fo {cs : List String} {c : String} {f : Str} {ks : List Str} (h : cs.contains c = true) : fldK cs f (.fo c ks l) st = fldO f ks l st := by
  unfold fldK
  simp only [inD, h, if_true]
theorem fldO_at {f : Str} {ks : List Str} (h : lookD ks l f = some d) : fldO f ks l st = .ok d st := by unfold fldO; rw [h]
/-! o.f = v -/
def sfJ (cs : List String) (f : Str) (env : Ev) (d o : D) (s2 : S) : Rt := match o with
  | .loc n => match s2[n]? with
    | some (.ins c fs) => if cs.contains c = true ∧ fs.length < 1000 then .nx env (s2.set n (.ins c (putFD f d fs))) else .bad
    | _ => .bad
  | _ => .bad
def sfK (cs : List String) (f : Str) (mo : ME) (env : Ev) (d : D) (s1 : S) : Rt := (mo env s1).bindS env (sfJ cs f env d)
theorem sfld_ap {cs : List String} {f : Str} : mSfld cs f mo ma env st = (ma env st).bindS env (sfK cs f mo env) := by
  unfold mSfld sfK
  cases ma env st with
  | ok a s =>
    show (mo env s).bindS env _ = (mo env s).bindS env _
    cases mo env s with
    | ok o s2 => cases o <;> rfl
    | _ => rfl
  | _ => rfl
theorem sfK_ap {cs : List String} {f : Str} : sfK cs f mo env d st = (mo env st).bindS env (sfJ cs f env d) := rfl
theorem sfJ_at {cs : List String} {f : Str} {c : String} {fs : List (Str × D)} (e : st[n]? = some (.ins c fs)) (h : cs.contains c = true) (hf : fs.length < 1000) : sfJ cs f env d (.loc n) st = .nx env (st.set n (.ins c (putFD f d fs))) := by
  unfold sfJ
  simp only [e]
  rw [if_pos ⟨h, hf⟩]
/-! C(..) -/
def mkO (c : String) (r : R D) (s1 : S) : R D := match r with
  | .ok .non [.ins c' fs] => if c' = c ∧ lows (fs.map (·.2)) = true then .ok (.fo c (fs.map (·.1)) (fs.map (·.2))) s1 else .bad
  | _ => .bad
def mkK (c : String) (n : Nat) (g : Fn) (ds : List D) (s1 : S) : R D := if ds.length = n ∧ lows ds = true then mkO c (g (.loc 0 :: ds) [.ins c []]) s1 else .bad
theorem mkF_ap {c : String} {g : Fn} : mMkF c n g ar env st = (ar env st).bind (mkK c n g) := rfl
theorem mkK_at {c : String} {g : Fn} {fs : List (Str × D)} (hn : ds.length = n) (hl : lows ds = true) (h : g (.loc 0 :: ds) [.ins c []] = .ok .non [.ins c fs]) (hf : lows (fs.map (·.2)) = true) : mkK c n g ds st = .ok (.fo c (fs.map (·.1)) (fs.map (·.2))) st := by
  unfold mkK
  rw [if_pos ⟨hn, hl⟩, h]
  show (if c = c ∧ lows (fs.map (·.2)) = true then _ else _) = _
  rw [if_pos ⟨rfl, hf⟩]
/-! slices -/
def slC (own : Bool) (d : D) (l h : Option Int) (s3 : S) : R D := fSl own d l h s3
def slB (own : Bool) (hi : MO) (env : Ev) (d : D) (l : Option Int) (s2 : S) : R D := (hi env s2).bind (slC own d l)
def slA (own : Bool) (lo hi : MO) (env : Ev) (d : D) (s1 : S) : R D := (lo env s1).bind (slB own hi env d)
def partK (d : D) (s : S) : R (Option Int) := match d with
  | .int i => .ok (some i) s
  | _ => .bad
variable {lo hi : MO} {a b : Option Int}
theorem part_ap : mPart ma env st = (ma env st).bind partK := rfl
theorem partK_ap : partK (.int i) st = .ok (some i) st := rfl
theorem noPart_ap : mNoPart env st = .ok none st := rfl
theorem sl_ap : mSl own ma lo hi env st = (ma env st).bind (slA own lo hi env) := rfl
theorem slA_ap : slA own lo hi env d st = (lo env st).bind (slB own hi env d) := rfl
theorem slB_ap : slB own hi env d a st = (hi env st).bind (slC own d a) := rfl
theorem slC_ap : slC own d a b st = fSl own d a b st := rfl
end
end Nn
namespace Nn
open PySem PySem.Spec PyProof.Rows L2 Lb
theorem ixN_L0 {m : Nat} : ixN (m + 1) 0 = some 0 := ixN_lit (j := 0) (by omega)
theorem ixN_L1 {m : Nat} : ixN (m + 2) 1 = some 1 := ixN_lit (j := 1) (by omega)
theorem ixN_L2 {m : Nat} : ixN (m + 3) 2 = some 2 := ixN_lit (j := 2) (by omega)
theorem ixN_L3 {m : Nat} : ixN (m + 4) 3 = some 3 := ixN_lit (j := 3) (by omega)
theorem ixN_L4 {m : Nat} : ixN (m + 5) 4 = some 4 := ixN_lit (j := 4) (by omega)
theorem ixN_L5 {m : Nat} : ixN (m + 6) 5 = some 5 := ixN_lit (j := 5) (by omega)
end Nn
namespace Nn
open PySem PySem.Spec PyProof.Rows L2 Lb
section
variable {env : Ev} {st : S} {mt mu : MT} {ma mb : ME} {P : Rt → Prop} {b : Bool} {c : Prop} [Decidable c]
theorem pow_18 : fPow (.int 10) (.int 18) st = .ok (.int 1000000000000000000) st := rfl
theorem pow_20 : fPow (.int 10) (.int 20) st = .ok (.int 100000000000000000000) st := rfl
/-! open tests within chains -/
theorem sat_andB {Q : Bool → S → Prop} (h1 : b = true → (mu env st).sat Q) (h2 : b = false → Q false st) : (andK mu env b st).sat Q := by
  cases b with
  | true => exact h1 rfl
  | false => exact h2 rfl
theorem sat_orB {Q : Bool → S → Prop} (h1 : b = true → Q true st) (h2 : b = false → (mu env st).sat Q) : (orK mu env b st).sat Q := by
  cases b with
  | true => exact h1 rfl
  | false => exact h2 rfl
theorem sat_andVB {Q : D → S → Prop} (h1 : b = true → (mb env st).sat Q) (h2 : b = false → Q (.bl false) st) : (andVK mb env (.bl b) st).sat Q := by
  cases b with
  | true => exact h1 rfl
  | false => exact h2 rfl
theorem sat_orVB {Q : D → S → Prop} (h1 : b = true → Q (.bl true) st) (h2 : b = false → (mb env st).sat Q) : (orVK mb env (.bl b) st).sat Q := by
  cases b with
  | true => exact h1 rfl
  | false => exact h2 rfl
theorem sat_ifB {Q : D → S → Prop} (h1 : b = true → (ma env st).sat Q) (h2 : b = false → (mb env st).sat Q) : (ifEK ma mb env b st).sat Q := by
  cases b with
  | true => exact h1 rfl
  | false => exact h2 rfl
theorem sat_andD {Q : Bool → S → Prop} (h1 : c → (mu env st).sat Q) (h2 : ¬ c → Q false st) : (andK mu env (decide c) st).sat Q := sat_andB (fun h => h1 (of_decide_eq_true h)) (fun h => h2 (of_decide_eq_false h))
theorem sat_orD {Q : Bool → S → Prop} (h1 : c → Q true st) (h2 : ¬ c → (mu env st).sat Q) : (orK mu env (decide c) st).sat Q := sat_orB (fun h => h1 (of_decide_eq_true h)) (fun h => h2 (of_decide_eq_false h))
theorem sat_andVD {Q : D → S → Prop} (h1 : c → (mb env st).sat Q) (h2 : ¬ c → Q (.bl false) st) : (andVK mb env (.bl (decide c)) st).sat Q := sat_andVB (fun h => h1 (of_decide_eq_true h)) (fun h => h2 (of_decide_eq_false h))
theorem sat_orVD {Q : D → S → Prop} (h1 : c → Q (.bl true) st) (h2 : ¬ c → (mb env st).sat Q) : (orVK mb env (.bl (decide c)) st).sat Q := sat_orVB (fun h => h1 (of_decide_eq_true h)) (fun h => h2 (of_decide_eq_false h))
theorem sat_ifD {Q : D → S → Prop} (h1 : c → (ma env st).sat Q) (h2 : ¬ c → (mb env st).sat Q) : (ifEK ma mb env (decide c) st).sat Q := sat_ifB (fun h => h1 (of_decide_eq_true h)) (fun h => h2 (of_decide_eq_false h))
/-! ends -/
theorem goF_rt {Q : D → S → Prop} {own : Bool} {m : Nat} {d : D} (h : (fin own m (.rt d st)).sat Q) : (Rt.rt d st).go fun r => (fin own m r).sat Q := h
theorem goF_nx {Q : D → S → Prop} {own : Bool} {m : Nat} (h : (fin own m (.rt .non st)).sat Q) : (Rt.nx env st).go fun r => (fin own m r).sat Q := h
theorem fin_low {Q : D → S → Prop} {own : Bool} {d : D} (hd : low d = true) (h : st.all lowO = true) (q : Q d st) : (fin own st.length (.rt d st)).sat Q := by
  rw [fin_val hd (by rw [List.take_length]; exact h) (Nat.le_refl _), List.take_length]
  exact q
theorem fin_lowN {Q : D → S → Prop} {own : Bool} {d : D} {m : Nat} (hd : low d = true) (hm : m ≤ st.length) (h : (st.take m).all lowO = true) (q : Q d (st.take m)) : (fin own m (.rt d st)).sat Q := by
  rw [fin_val hd h hm]
  exact q
theorem lows_int : ∀ l : List Int, lows (l.map D.int) = true
  | [] => rfl
  | i :: l => by
    rw [List.map_cons]
    unfold lows
    rw [lows_int l]
    rfl
theorem lows_str : ∀ l : List Str, lows (l.map D.str) = true
  | [] => rfl
  | i :: l => by
    rw [List.map_cons]
    unfold lows
    rw [lows_str l]
    rfl
theorem nrefs_str : ∀ l : List Str, nrefs (l.map D.str) = true
  | [] => rfl
  | i :: l => by
    rw [List.map_cons]
    unfold nrefs
    rw [nrefs_str l]
    rfl
end
end Nn
namespace Nn
open PySem PySem.Spec PyProof.Rows L2 Lb
theorem of_inj {a b : String} : (Str.ofString a = Str.ofString b) ↔ a = b := by
  constructor
  · intro h
    rw [Str.ofString_eq_toList, Str.ofString_eq_toList] at h
    have h1 : (a.toList.map Char.toNat) = b.toList.map Char.toNat := by
      have := congrArg (fun s : Str => s.cps.toList) h
      simpa using this
    have inj : ∀ (l m : List Char), l.map Char.toNat = m.map Char.toNat → l = m := by
      intro l
      induction l with
      | nil => intro m e; cases m with
        | nil => rfl
        | cons _ _ => simp at e
      | cons c l ih =>
        intro m e
        cases m with
        | nil => simp at e
        | cons d m =>
          simp only [List.map_cons, List.cons.injEq] at e
          have hc : c = d := by
            have := e.1
            apply Char.ext
            apply UInt32.toNat_inj.mp
            exact this
          rw [hc, ih m e.2]
    have := inj _ _ h1
    rw [← String.ofList_toList (s := a), ← String.ofList_toList (s := b), this]
  · intro h
    rw [h]
theorem in_sign {neg : Bool} {c : Nat} {z : Str} {st : S} : fInA neg (.str ⟨#[c]⟩) (.str z) st = .ok (.bl (ng neg (decide (c ∈ z.cps.toList)))) st := by
  have : fInA neg (.str ⟨#[c]⟩) (.str z) st = .ok (.bl (ng neg (!(Builtin.Str.occurrences z ⟨#[c]⟩ 0 z.length 1).isEmpty))) st := rfl
  rw [this, PySem.StrLaws.found_one]
/-- pigeons -/
theorem nodup_le {α : Type} [DecidableEq α] : ∀ {l m : List α}, l.Nodup → (∀ x ∈ l, x ∈ m) → l.length ≤ m.length
  | [], m, _, _ => Nat.zero_le _
  | x :: l, m, nd, h => by
    rw [List.nodup_cons] at nd
    have hx := h x (List.mem_cons_self ..)
    have := nodup_le (l := l) (m := m.erase x) nd.2 fun y hy => (List.mem_erase_of_ne (fun e => nd.1 (by rw [← e]; exact hy))).mpr (h y (List.mem_cons_of_mem _ hy))
    rw [List.length_erase_of_mem hx] at this
    have := List.length_pos_of_mem hx
    rw [List.length_cons]
    omega
theorem atI_mem {α : Type} {l : List α} {i : Int} (h0 : 0 ≤ i) (h1 : i < l.length) : ∃ d, atI l i = some d ∧ d ∈ l := by
  obtain ⟨j, rfl⟩ : ∃ j : Nat, i = (j : Int) := ⟨i.toNat, by omega⟩
  have hj : j < l.length := by omega
  exact ⟨l[j], by rw [atD, List.getElem?_eq_getElem hj], List.getElem_mem hj⟩
theorem atI_map {α β : Type} {f : α → β} {l : List α} {i : Int} (h0 : 0 ≤ i) (h1 : i < l.length) : ∃ d, atI (l.map f) i = some (f d) ∧ d ∈ l ∧ l[i.toNat]? = some d := by
  obtain ⟨j, rfl⟩ : ∃ j : Nat, i = (j : Int) := ⟨i.toNat, by omega⟩
  have hj : j < l.length := by omega
  exact ⟨l[j], by rw [atD, List.getElem?_map, List.getElem?_eq_getElem hj]; rfl, List.getElem_mem hj, by rw [Int.toNat_natCast, List.getElem?_eq_getElem hj]⟩
theorem oD_bindS {P : Rt → Prop} {env : Ev} {st : S} {o : Option D} {k : D → S → Rt} (h : ∃ d, o = some d ∧ (k d st).go P) : ((oD o st).bindS env k).go P := by
  obtain ⟨d, rfl, h⟩ := h
  exact h
theorem oD_sat {Q : D → S → Prop} {st : S} {o : Option D} (h : ∃ d, o = some d ∧ Q d st) : (oD o st).sat Q := by
  obtain ⟨d, rfl, h⟩ := h
  exact h
theorem oD_bind {α : Type} {Q : α → S → Prop} {st : S} {o : Option D} {k : D → S → R α} (h : ∃ d, o = some d ∧ (k d st).sat Q) : ((oD o st).bind k).sat Q := by
  obtain ⟨d, rfl, h⟩ := h
  exact h
/-- a comprehension over data: what holds of the list made so far -/
theorem lc_inv {g : MG} {t : MT} {m : ME} {env : Ev} {l0 : List D} {Q : List D → S → Prop} (I : List D → List D → S → Prop) (hs : ∀ d r acc st, I (d :: r) acc st → (g d env st).sat fun env1 s1 => (t env1 s1).sat fun b s2 => if b = true then (m env1 s2).sat fun y s3 => acc.length ≤ 1000000 ∧ I r (acc ++ [y]) s3 else I r acc s2)
    (he : ∀ acc st, I [] acc st → Q acc st) : ∀ (l acc : List D) (st : S), I l acc st → (lcL (itP l0).ok g t m env l acc st).sat Q
  | [], acc, st, h => by
    unfold lcL
    rw [if_pos (show (itP l0).ok st from trivial)]
    exact he _ _ h
  | d :: r, acc, st, h => by
    obtain ⟨env1, s1, e1, q1⟩ := sat_eq (hs d r acc st h)
    obtain ⟨b, s2, e2, q2⟩ := sat_eq q1
    unfold lcL
    rw [if_pos (show (itP l0).ok st from trivial)]
    cases b with
    | true =>
      rw [if_pos rfl] at q2
      obtain ⟨y, s3, e3, hl, q3⟩ := sat_eq q2
      simp only [e1, e2, e3]
      rw [if_pos (by have := big_line; omega)]
      exact lc_inv I hs he r _ _ q3
    | false =>
      rw [if_neg Bool.false_ne_true] at q2
      simp only [e1, e2]
      exact lc_inv I hs he r _ _ q2
end Nn
namespace Nn
theorem okR_small {i : Int} (h1 : 0 ≤ i ∧ i ≤ 100000) : okR i = true := okR_mk h1.1 h1.2
end Nn
namespace Nn
open PySem PySem.Spec PyProof.Rows L2 Lb
section
variable {st : S} {n m : Nat} {a d : D} {l : List D} {neg : Bool}
theorem in_lc : fInA neg a (.loc n) st = inO neg a (st[n]?) n st := by
  unfold inO
  cases h : st[n]? with
  | none => rfl
  | some o =>
    cases o with
    | lst l =>
      simp only
      split
      · rename_i hf
        simp only [Bool.and_eq_true] at hf
        unfold fInA fIn
        simp only [dcD, seqD, rdL, h, hf, Bool.and_self, if_true]
      · rfl
    | dic kvs =>
      simp only
      cases hk : keyD a with
      | none => rfl
      | some k =>
        unfold fInA fDin
        simp only [dcD, h, hk]
    | ins c f => rfl
theorem ap_lc : fAppend (.loc n) [d] st = apO (st[n]?) n d st := by
  cases h : st[n]? with
  | none => simp only [fAppend, apO, h]
  | some o => cases o <;> simp only [fAppend, apO, h]
theorem apO_lst (h : l.length ≤ 1000000) : apO (some (.lst l)) n d st = .ok .non (st.set n (.lst (l ++ [d]))) := by
  unfold apO
  simp only
  rw [if_pos (by have := big_line; omega)]
def popO (q : Option O) (n : Nat) (st : S) : R D := match q with
  | some (.lst l) => match l[l.length - 1]? with
    | some d => .ok d (st.set n (.lst l.dropLast))
    | none => .bad
  | _ => .bad
theorem pop_lc : fPop (.loc n) [] st = popO (st[n]?) n st := by
  cases h : st[n]? with
  | none => simp only [fPop, popO, h]
  | some o =>
    cases o with
    | lst l => cases h2 : l[l.length - 1]? <;> simp only [fPop, popO, h, h2]
    | _ => simp only [fPop, popO, h]
theorem popO_snoc : popO (some (.lst (l ++ [d]))) n st = .ok d (st.set n (.lst l)) := by
  unfold popO
  have : (l ++ [d])[(l ++ [d]).length - 1]? = some d := by simp
  simp only [this]
  simp
def revO (q : Option O) (n : Nat) (st : S) : R D := match q with
  | some (.lst l) => .ok .non (st.set n (.lst l.reverse))
  | _ => .bad
theorem rev_lc : fReverse (.loc n) [] st = revO (st[n]?) n st := by
  cases h : st[n]? with
  | none => simp only [fReverse, revO, h]
  | some o => cases o <;> simp only [fReverse, revO, h]
theorem revO_lst : revO (some (.lst l)) n st = .ok .non (st.set n (.lst l.reverse)) := rfl
def remO (q : Option O) (n : Nat) (d : D) (st : S) : R D := match q with
  | some (.lst l) => if flat d && l.all flat then match fiD l d with
    | some j => .ok .non (st.set n (.lst (l.eraseIdx j)))
    | none => .bad else .bad
  | _ => .bad
theorem rem_lc : fRemove (.loc n) [d] st = remO (st[n]?) n d st := by
  cases h : st[n]? with
  | none => simp only [fRemove, remO, h]
  | some o =>
    cases o with
    | lst l => cases h2 : fiD l d <;> simp only [fRemove, remO, h, h2]
    | _ => simp only [fRemove, remO, h]
def exO (q r : Option O) (n : Nat) (st : S) : R D := match q, r with
  | some (.lst l), some (.lst m) => if l.length + m.length ≤ sizeLine then .ok .non (st.set n (.lst (l ++ m))) else .bad
  | _, _ => .bad
theorem ex_lc : fExtend (.loc n) [.loc m] st = exO (st[n]?) (st[m]?) n st := by
  cases h : st[n]? with
  | none => cases h2 : st[m]? <;> simp only [fExtend, exO, h, h2]
  | some o =>
    cases h2 : st[m]? with
    | none => cases o <;> simp only [fExtend, exO, h, h2]
    | some q => cases o <;> cases q <;> simp only [fExtend, exO, h, h2]
theorem exO_lst {m' : List D} (h : l.length + m'.length ≤ 1000000) : exO (some (.lst l)) (some (.lst m')) n st = .ok .non (st.set n (.lst (l ++ m'))) := by
  unfold exO
  simp only
  rw [if_pos (by have := big_line; omega)]
def insO (q : Option O) (n : Nat) (i : Int) (d : D) (st : S) : R D := match q with
  | some (.lst l) => if l.length < sizeLine ∧ 0 ≤ i ∧ okR i = true then .ok .non (st.set n (.lst (l.take i.toNat ++ [d] ++ l.drop i.toNat))) else .bad
  | _ => .bad
theorem ins_lc {i : Int} : fInsert (.loc n) [.int i, d] st = insO (st[n]?) n i d st := by
  cases h : st[n]? with
  | none => simp only [fInsert, insO, h]
  | some o => cases o <;> simp only [fInsert, insO, h]
/-! list(x) -/
theorem list_tup {own : Bool} : fList own [.tup l] st = newL own l st := rfl
theorem list_tuf {own : Bool} : fList own [.tuf l] st = newL own l st := rfl
theorem list_fl {own : Bool} : fList own [.fl l] st = newL own l st := rfl
theorem list_sc {own : Bool} : fList own [.sc l] st = newL own l st := rfl
def lsO (q : Option O) (own : Bool) (st : S) : R D := match q with
  | some (.lst l) => newL own l st
  | _ => .bad
theorem list_lc {own : Bool} : fList own [.loc n] st = lsO (st[n]?) own st := by
  cases h : st[n]? with
  | none => simp only [fList, lsO, seqD, rdL, h]
  | some o => cases o <;> simp only [fList, lsO, seqD, rdL, h]
theorem lsO_lst {own : Bool} : lsO (some (.lst l)) own st = newL own l st := rfl
/-! x == y is x itself -/
theorem eq_non {neg : Bool} : fEqA neg .non .non st = .ok (.bl (!neg)) st := by cases neg <;> rfl
theorem eq_strI {neg : Bool} {x : Str} {i : Int} : fEqA neg (.str x) (.int i) st = .ok (.bl neg) st := by cases neg <;> rfl
end
end Nn
namespace Nn
theorem lowO_strs (ss : List PySem.Str) : lowO (.lst (ss.map D.str)) = true := lows_str ss
theorem lowO_ints (ss : List Int) : lowO (.lst (ss.map D.int)) = true := lows_int ss
end Nn
namespace Nn
theorem lowO_l (l : List D) : lowO (.lst l) = lows l := by unfold lowO; rfl
theorem lowO_d (l : List (L2.Key × D)) : lowO (.dic l) = lows (l.map (·.2)) := by unfold lowO; rfl
theorem lowO_i (c : String) (l : List (PySem.Str × D)) : lowO (.ins c l) = lows (l.map (·.2)) := by unfold lowO; rfl
theorem lows_app : ∀ (l m : List D), lows (l ++ m) = (lows l && lows m)
  | [], m => by unfold lows; simp [lows]
  | d :: l, m => by
    rw [List.cons_append]
    unfold lows
    rw [lows_app l m]
    rw [Bool.and_assoc]
    cases m <;> rfl
end Nn
namespace Nn
open PySem PySem.Spec PyProof.Rows L2 Lb
section
variable {st : S} {env : Ev} {ws : List Str} {i : Int}
/-- a word out of a row -/
theorem word_bindS {P : Rt → Prop} {k : D → S → Rt} (h0 : 0 ≤ i) (h1 : i < ws.length) (h : ∀ w, w ∈ ws → (k (.str w) st).go P) : ((oD (atI (ws.map D.str) i) st).bindS env k).go P := by
  obtain ⟨w, e, hw, _⟩ := atI_map (f := D.str) h0 h1
  rw [e]
  exact h w hw
theorem word_bind {α : Type} {Q : α → S → Prop} {k : D → S → R α} (h0 : 0 ≤ i) (h1 : i < ws.length) (h : ∀ w, w ∈ ws → (k (.str w) st).sat Q) : ((oD (atI (ws.map D.str) i) st).bind k).sat Q := by
  obtain ⟨w, e, hw, _⟩ := atI_map (f := D.str) h0 h1
  rw [e]
  exact h w hw
theorem word_sat {Q : D → S → Prop} (h0 : 0 ≤ i) (h1 : i < ws.length) (h : ∀ w, w ∈ ws → Q (.str w) st) : (oD (atI (ws.map D.str) i) st).sat Q := by
  obtain ⟨w, e, hw, _⟩ := atI_map (f := D.str) h0 h1
  rw [e]
  exact h w hw
theorem margs_pure {p : Nat → Bool} : ∀ {as : List D} {j : Nat}, as.all low = true → mArgs p st (List.replicate as.length false) as j = some as
  | [], _, _ => rfl
  | a :: as, j, h => by
    rw [List.all_cons, Bool.and_eq_true] at h
    show (match fz p false st a, mArgs p st (List.replicate as.length false) as j with | some d', some r => some (d' :: r) | _, _ => none) = _
    rw [margs_pure h.2]
    unfold fz
    rw [if_pos h.1]
theorem mut_pure : ∀ {as : List D}, mutPl (List.replicate as.length false) as = some []
  | [] => rfl
  | a :: as => (mut_pure (as := as) : mutPl (List.replicate as.length false) as = some [])
theorem lent_pure : ∀ {as : List D}, as.all low = true → lentB (List.replicate as.length false) as = false
  | [], _ => rfl
  | a :: as, h => by
    rw [List.all_cons, Bool.and_eq_true] at h
    show (!low a || lentB (List.replicate as.length false) as) = false
    rw [h.1, lent_pure h.2]
    rfl
/-- a call with one thing of the store that it changes, and values -/
theorem call_1 {f : Fn} {as : List D} {md : List Bool} {n : Nat} {o : O} {Q : D → S → Prop} (hst : st[n]? = some o) (ho : lowO o = true) (hlow : as.all low = true) (h : (f (.loc 0 :: as) [o]).sat fun d s' => ∃ o', s' = [o'] ∧ low d = true ∧ lowO o' = true ∧ Q d (st.set n o')) (hmd : md = true :: List.replicate as.length false := by rfl) : (callF md f (.loc n :: as) st).sat Q := by
  subst hmd
  refine call_at (ps := [n]) (mini := [o]) (ds' := .loc 0 :: as) ?_ rfl ?_ ?_ (sat_imp h ?_)
  · show (mutPl (List.replicate as.length false) as).map (n :: ·) = _
    rw [mut_pure]
    rfl
  · unfold minis minis
    rw [hst]
    simp only [ho, if_true]
  · show (mArgs _ st (List.replicate as.length false) as 1).map (.loc 0 :: ·) = _
    rw [margs_pure hlow]
    rfl
  · rintro d s' ⟨o', rfl, hd, ho', q⟩
    refine ⟨hd, fun z => ?_, by rw [List.all_cons, ho']; rfl, rfl, q⟩
    have : lentB (List.replicate as.length false) as = true := z
    rw [lent_pure hlow] at this
    cases this
/-- with two things of the store, and no values -/
theorem call_2 {f : Fn} {n k : Nat} {o q : O} {Q : D → S → Prop} (hst : st[n]? = some o) (hsk : st[k]? = some q) (hne : n ≠ k) (ho : lowO o = true) (hq : lowO q = true) (h : (f [.loc 0, .loc 1] [o, q]).sat fun d s' => ∃ o' q', s' = [o', q'] ∧ low d = true ∧ lowO o' = true ∧ lowO q' = true ∧ Q d ((st.set n o').set k q')) : (callF [true, true] f [.loc n, .loc k] st).sat Q := by
  refine call_at (ps := [n, k]) (mini := [o, q]) (ds' := [.loc 0, .loc 1]) rfl ?_ ?_ rfl (sat_imp h ?_)
  · simp [nodupB, hne]
  · unfold minis minis minis
    rw [hst, hsk]
    simp only [ho, hq, if_true]
  · rintro d s' ⟨o', q', rfl, hd, ho', hq', q⟩
    exact ⟨hd, (fun z => nomatch z), by simp [ho', hq'], rfl, q⟩
/-- with two things of the store and a value between them -/
theorem call_1v1 {f : Fn} {n k : Nat} {a : D} {o q : O} {Q : D → S → Prop} (hst : st[n]? = some o) (hsk : st[k]? = some q) (hne : n ≠ k) (ho : lowO o = true) (hq : lowO q = true) (ha : low a = true) (h : (f [.loc 0, a, .loc 1] [o, q]).sat fun d s' => ∃ o' q', s' = [o', q'] ∧ low d = true ∧ lowO o' = true ∧ lowO q' = true ∧ Q d ((st.set n o').set k q')) : (callF [true, false, true] f [.loc n, a, .loc k] st).sat Q := by
  refine call_at (ps := [n, k]) (mini := [o, q]) (ds' := [.loc 0, a, .loc 1]) rfl ?_ ?_ ?_ (sat_imp h ?_)
  · simp [nodupB, hne]
  · unfold minis minis minis
    rw [hst, hsk]
    simp only [ho, hq, if_true]
  · show ((match fz _ false st a, (some [D.loc 1]) with | some d', some r => some (d' :: r) | _, _ => none).map (D.loc 0 :: ·)) = _
    unfold fz
    rw [if_pos ha]
    rfl
  · rintro d s' ⟨o', q', rfl, hd, ho', hq', q⟩
    refine ⟨hd, fun z => ?_, by simp [ho', hq'], rfl, q⟩
    have : (!low a || false) = true := z
    rw [ha] at this
    cases this
end
end Nn
namespace Nn
theorem nd_dec {c : Prop} [Decidable c] : (!decide c) = decide (¬ c) := decide_not.symm
end Nn
namespace Nn
open PySem PySem.Spec PyProof.Rows L2 Lb
section
variable {st : S}
theorem mut_mid {n : Nat} {bs : List D} : ∀ {as : List D}, mutPl (List.replicate as.length false ++ true :: List.replicate bs.length false) (as ++ .loc n :: bs) = some [n]
  | [] => by
    show (mutPl (List.replicate bs.length false) bs).map (n :: ·) = _
    rw [mut_pure]
    rfl
  | a :: as => (mut_mid (as := as) : mutPl (List.replicate as.length false ++ true :: List.replicate bs.length false) (as ++ .loc n :: bs) = some [n])
theorem args_mid {p : Nat → Bool} {n : Nat} {bs : List D} (hb : bs.all low = true) : ∀ {as : List D} {j : Nat}, as.all low = true → mArgs p st (List.replicate as.length false ++ true :: List.replicate bs.length false) (as ++ .loc n :: bs) j = some (as ++ .loc j :: bs)
  | [], j, _ => by
    show (mArgs p st (List.replicate bs.length false) bs (j + 1)).map (D.loc j :: ·) = _
    rw [margs_pure hb]
    rfl
  | a :: as, j, h => by
    rw [List.all_cons, Bool.and_eq_true] at h
    show (match fz p false st a, mArgs p st (List.replicate as.length false ++ true :: List.replicate bs.length false) (as ++ .loc n :: bs) j with | some d', some r => some (d' :: r) | _, _ => none) = _
    rw [args_mid hb h.2]
    unfold fz
    rw [if_pos h.1]
    rfl
theorem lent_mid {n : Nat} {bs : List D} (hb : bs.all low = true) : ∀ {as : List D}, as.all low = true → lentB (List.replicate as.length false ++ true :: List.replicate bs.length false) (as ++ .loc n :: bs) = false
  | [], _ => (lent_pure hb : lentB (List.replicate bs.length false) bs = false)
  | a :: as, h => by
    rw [List.all_cons, Bool.and_eq_true] at h
    show (!low a || lentB (List.replicate as.length false ++ true :: List.replicate bs.length false) (as ++ .loc n :: bs)) = false
    rw [h.1, lent_mid hb h.2]
    rfl
/-- a call with one thing of the store among values -/
theorem call_mid {f : Fn} (as bs : List D) {md : List Bool} {ds : List D} {n : Nat} {o : O} {Q : D → S → Prop} (hst : st[n]? = some o) (ho : lowO o = true) (ha : as.all low = true) (hb : bs.all low = true) (h : (f (as ++ .loc 0 :: bs) [o]).sat fun d s' => ∃ o', s' = [o'] ∧ low d = true ∧ lowO o' = true ∧ Q d (st.set n o')) (hds : ds = as ++ .loc n :: bs := by rfl) (hmd : md = List.replicate as.length false ++ true :: List.replicate bs.length false := by rfl) : (callF md f ds st).sat Q := by
  subst hmd hds
  refine call_at (ps := [n]) (mini := [o]) (ds' := as ++ .loc 0 :: bs) mut_mid rfl ?_ (args_mid hb ha) (sat_imp h ?_)
  · unfold minis minis
    rw [hst]
    simp only [ho, if_true]
  · rintro d s' ⟨o', rfl, hd, ho', q⟩
    refine ⟨hd, fun z => ?_, by rw [List.all_cons, ho']; rfl, rfl, q⟩
    rw [lent_mid hb ha] at z
    cases z
theorem find_mem {x : Str} : ∀ {ss : List Str}, x ∈ ss → ss.findIdx? (fun y => decide (y = x)) = some (ss.idxOf x)
  | [], h => by simp at h
  | y :: ss, h => by
    rw [List.findIdx?_cons, List.idxOf_cons]
    by_cases e : y = x
    · subst e
      simp
    · have hm : x ∈ ss := (List.mem_cons.mp h).resolve_left fun q => e q.symm
      have e1 : (y == x) = false := beq_eq_false_iff_ne.mpr e
      rw [decide_eq_false e, find_mem hm, e1]
      rfl
theorem idx_mem {ss : List Str} {x : Str} (h : x ∈ ss) : idxT (ss.map D.str) (.str x) st = .ok (.int (ss.idxOf x : Nat)) st := idxT_at (find_mem h)
end
end Nn
namespace Nn
open PySem PySem.Spec PyProof.Rows L2 Lb
section
variable {env : Ev} {st : S} {d x y : D} {ds l : List D} {ma mb mc : ME} {ar : MA} {n : Nat} {f g : D → D → S → R D}
/-! a < b < c -/
def chD (g : D → D → S → R D) (y w : D) (s4 : S) : R D := g y w s4
def chC (g : D → D → S → R D) (mc : ME) (env : Ev) (y k : D) (s3 : S) : R D := match k with
  | .bl true => (mc env s3).bind (chD g y)
  | .bl false => .ok (.bl false) s3
  | _ => .bad
def chB (f g : D → D → S → R D) (mc : ME) (env : Ev) (x y : D) (s2 : S) : R D := (f x y s2).bind (chC g mc env y)
def chA (f g : D → D → S → R D) (mb mc : ME) (env : Ev) (x : D) (s1 : S) : R D := (mb env s1).bind (chB f g mc env x)
theorem chain_ap : mChain f g ma mb mc env st = (ma env st).bind (chA f g mb mc env) := by
  unfold mChain chA
  cases ma env st with
  | ok a s =>
    show (mb env s).bind _ = (mb env s).bind _
    cases mb env s with
    | ok b s =>
      show (f a b s).bind _ = (f a b s).bind _
      cases f a b s with
      | ok k s => cases k <;> first | rfl | (rename_i b; cases b <;> rfl)
      | _ => rfl
    | _ => rfl
  | _ => rfl
theorem chA_ap : chA f g mb mc env x st = (mb env st).bind (chB f g mc env x) := rfl
theorem chB_ap : chB f g mc env x y st = (f x y st).bind (chC g mc env y) := rfl
theorem chC_T : chC g mc env y (.bl true) st = (mc env st).bind (chD g y) := rfl
theorem chC_F : chC g mc env y (.bl false) st = .ok (.bl false) st := rfl
theorem chD_ap : chD g x y st = g x y st := rfl
theorem sat_chB {b : Bool} {Q : D → S → Prop} (h1 : b = true → ((mc env st).bind (chD g y)).sat Q) (h2 : b = false → Q (.bl false) st) : (chC g mc env y (.bl b) st).sat Q := by
  cases b with
  | true => exact h1 rfl
  | false => exact h2 rfl
theorem sat_chDec {c : Prop} [Decidable c] {Q : D → S → Prop} (h1 : c → ((mc env st).bind (chD g y)).sat Q) (h2 : ¬ c → Q (.bl false) st) : (chC g mc env y (.bl (decide c)) st).sat Q := sat_chB (fun h => h1 (of_decide_eq_true h)) (fun h => h2 (of_decide_eq_false h))
/-! isinstance -/
def isiO (t : Option String) (c : String) (st : S) : R D := match t with
  | some t => match isiT t c with
    | some b => .ok (.bl b) st
    | none => .bad
  | none => .bad
theorem isi_ap {c : String} : fIsi [d, .ty c] st = isiO (tyD st d) c st := by
  unfold fIsi isiO
  cases h : tyD st d with
  | none => simp only [h]
  | some t => cases h2 : isiT t c <;> simp only [h, h2]
theorem ty_non : tyD st .non = some "NoneType" := rfl
theorem ty_bl {b : Bool} : tyD st (.bl b) = some "bool" := rfl
theorem ty_int {b : Int} : tyD st (.int b) = some "int" := rfl
theorem ty_str {b : Str} : tyD st (.str b) = some "str" := rfl
theorem ty_tup : tyD st (.tup l) = some "tuple" := rfl
theorem ty_tuf : tyD st (.tuf l) = some "tuple" := rfl
theorem ty_fl : tyD st (.fl l) = some "list" := rfl
theorem ty_sc : tyD st (.sc l) = some "list" := rfl
theorem ty_fd {ks : List Key} : tyD st (.fd ks l) = some "dict" := rfl
def tyO (o : Option O) : Option String := match o with
  | some (.lst _) => some "list"
  | some (.dic _) => some "dict"
  | _ => none
theorem ty_lc : tyD st (.loc n) = tyO (st[n]?) := by
  cases h : st[n]? with
  | none => simp only [tyO, tyD, h]
  | some o => cases o <;> simp only [tyO, tyD, h]
theorem tyO_lst : tyO (some (.lst l)) = some "list" := rfl
theorem tyO_dic {kvs : List (Key × D)} : tyO (some (.dic kvs)) = some "dict" := rfl
theorem iT_NoneType_bool : isiT "NoneType" "bool" = some false := by decide +kernel
theorem isO_NoneType_bool : isiO (some "NoneType") "bool" st = .ok (.bl false) st := by unfold isiO; simp only [iT_NoneType_bool]
theorem iT_NoneType_int : isiT "NoneType" "int" = some false := by decide +kernel
theorem isO_NoneType_int : isiO (some "NoneType") "int" st = .ok (.bl false) st := by unfold isiO; simp only [iT_NoneType_int]
theorem iT_NoneType_str : isiT "NoneType" "str" = some false := by decide +kernel
theorem isO_NoneType_str : isiO (some "NoneType") "str" st = .ok (.bl false) st := by unfold isiO; simp only [iT_NoneType_str]
theorem iT_NoneType_tuple : isiT "NoneType" "tuple" = some false := by decide +kernel
theorem isO_NoneType_tuple : isiO (some "NoneType") "tuple" st = .ok (.bl false) st := by unfold isiO; simp only [iT_NoneType_tuple]
theorem iT_NoneType_list : isiT "NoneType" "list" = some false := by decide +kernel
theorem isO_NoneType_list : isiO (some "NoneType") "list" st = .ok (.bl false) st := by unfold isiO; simp only [iT_NoneType_list]
theorem iT_NoneType_dict : isiT "NoneType" "dict" = some false := by decide +kernel
theorem isO_NoneType_dict : isiO (some "NoneType") "dict" st = .ok (.bl false) st := by unfold isiO; simp only [iT_NoneType_dict]
theorem iT_bool_bool : isiT "bool" "bool" = some true := by decide +kernel
theorem isO_bool_bool : isiO (some "bool") "bool" st = .ok (.bl true) st := by unfold isiO; simp only [iT_bool_bool]
theorem iT_bool_int : isiT "bool" "int" = some true := by decide +kernel
theorem isO_bool_int : isiO (some "bool") "int" st = .ok (.bl true) st := by unfold isiO; simp only [iT_bool_int]
theorem iT_bool_str : isiT "bool" "str" = some false := by decide +kernel
theorem isO_bool_str : isiO (some "bool") "str" st = .ok (.bl false) st := by unfold isiO; simp only [iT_bool_str]
theorem iT_bool_tuple : isiT "bool" "tuple" = some false := by decide +kernel
theorem isO_bool_tuple : isiO (some "bool") "tuple" st = .ok (.bl false) st := by unfold isiO; simp only [iT_bool_tuple]
theorem iT_bool_list : isiT "bool" "list" = some false := by decide +kernel
theorem isO_bool_list : isiO (some "bool") "list" st = .ok (.bl false) st := by unfold isiO; simp only [iT_bool_list]
theorem iT_bool_dict : isiT "bool" "dict" = some false := by decide +kernel
theorem isO_bool_dict : isiO (some "bool") "dict" st = .ok (.bl false) st := by unfold isiO; simp only [iT_bool_dict]
theorem iT_int_bool : isiT "int" "bool" = some false := by decide +kernel
theorem isO_int_bool : isiO (some "int") "bool" st = .ok (.bl false) st := by unfold isiO; simp only [iT_int_bool]
theorem iT_int_int : isiT "int" "int" = some true := by decide +kernel
theorem isO_int_int : isiO (some "int") "int" st = .ok (.bl true) st := by unfold isiO; simp only [iT_int_int]
theorem iT_int_str : isiT "int" "str" = some false := by decide +kernel
theorem isO_int_str : isiO (some "int") "str" st = .ok (.bl false) st := by unfold isiO; simp only [iT_int_str]
theorem iT_int_tuple : isiT "int" "tuple" = some false := by decide +kernel
theorem isO_int_tuple : isiO (some "int") "tuple" st = .ok (.bl false) st := by unfold isiO; simp only [iT_int_tuple]
theorem iT_int_list : isiT "int" "list" = some false := by decide +kernel
theorem isO_int_list : isiO (some "int") "list" st = .ok (.bl false) st := by unfold isiO; simp only [iT_int_list]
theorem iT_int_dict : isiT "int" "dict" = some false := by decide +kernel
theorem isO_int_dict : isiO (some "int") "dict" st = .ok (.bl false) st := by unfold isiO; simp only [iT_int_dict]
theorem iT_str_bool : isiT "str" "bool" = some false := by decide +kernel
theorem isO_str_bool : isiO (some "str") "bool" st = .ok (.bl false) st := by unfold isiO; simp only [iT_str_bool]
theorem iT_str_int : isiT "str" "int" = some false := by decide +kernel
theorem isO_str_int : isiO (some "str") "int" st = .ok (.bl false) st := by unfold isiO; simp only [iT_str_int]
theorem iT_str_str : isiT "str" "str" = some true := by decide +kernel
theorem isO_str_str : isiO (some "str") "str" st = .ok (.bl true) st := by unfold isiO; simp only [iT_str_str]
theorem iT_str_tuple : isiT "str" "tuple" = some false := by decide +kernel
theorem isO_str_tuple : isiO (some "str") "tuple" st = .ok (.bl false) st := by unfold isiO; simp only [iT_str_tuple]
theorem iT_str_list : isiT "str" "list" = some false := by decide +kernel
theorem isO_str_list : isiO (some "str") "list" st = .ok (.bl false) st := by unfold isiO; simp only [iT_str_list]
theorem iT_str_dict : isiT "str" "dict" = some false := by decide +kernel
theorem isO_str_dict : isiO (some "str") "dict" st = .ok (.bl false) st := by unfold isiO; simp only [iT_str_dict]
theorem iT_tuple_bool : isiT "tuple" "bool" = some false := by decide +kernel
theorem isO_tuple_bool : isiO (some "tuple") "bool" st = .ok (.bl false) st := by unfold isiO; simp only [iT_tuple_bool]
theorem iT_tuple_int : isiT "tuple" "int" = some false := by decide +kernel
theorem isO_tuple_int : isiO (some "tuple") "int" st = .ok (.bl false) st := by unfold isiO; simp only [iT_tuple_int]
theorem iT_tuple_str : isiT "tuple" "str" = some false := by decide +kernel
theorem isO_tuple_str : isiO (some "tuple") "str" st = .ok (.bl false) st := by unfold isiO; simp only [iT_tuple_str]
theorem iT_tuple_tuple : isiT "tuple" "tuple" = some true := by decide +kernel
theorem isO_tuple_tuple : isiO (some "tuple") "tuple" st = .ok (.bl true) st := by unfold isiO; simp only [iT_tuple_tuple]
theorem iT_tuple_list : isiT "tuple" "list" = some false := by decide +kernel
theorem isO_tuple_list : isiO (some "tuple") "list" st = .ok (.bl false) st := by unfold isiO; simp only [iT_tuple_list]
theorem iT_tuple_dict : isiT "tuple" "dict" = some false := by decide +kernel
theorem isO_tuple_dict : isiO (some "tuple") "dict" st = .ok (.bl false) st := by unfold isiO; simp only [iT_tuple_dict]
theorem iT_list_bool : isiT "list" "bool" = some false := by decide +kernel
theorem isO_list_bool : isiO (some "list") "bool" st = .ok (.bl false) st := by unfold isiO; simp only [iT_list_bool]
theorem iT_list_int : isiT "list" "int" = some false := by decide +kernel
theorem isO_list_int : isiO (some "list") "int" st = .ok (.bl false) st := by unfold isiO; simp only [iT_list_int]
theorem iT_list_str : isiT "list" "str" = some false := by decide +kernel
theorem isO_list_str : isiO (some "list") "str" st = .ok (.bl false) st := by unfold isiO; simp only [iT_list_str]
theorem iT_list_tuple : isiT "list" "tuple" = some false := by decide +kernel
theorem isO_list_tuple : isiO (some "list") "tuple" st = .ok (.bl false) st := by unfold isiO; simp only [iT_list_tuple]
theorem iT_list_list : isiT "list" "list" = some true := by decide +kernel
theorem isO_list_list : isiO (some "list") "list" st = .ok (.bl true) st := by unfold isiO; simp only [iT_list_list]
theorem iT_list_dict : isiT "list" "dict" = some false := by decide +kernel
theorem isO_list_dict : isiO (some "list") "dict" st = .ok (.bl false) st := by unfold isiO; simp only [iT_list_dict]
theorem iT_dict_bool : isiT "dict" "bool" = some false := by decide +kernel
theorem isO_dict_bool : isiO (some "dict") "bool" st = .ok (.bl false) st := by unfold isiO; simp only [iT_dict_bool]
theorem iT_dict_int : isiT "dict" "int" = some false := by decide +kernel
theorem isO_dict_int : isiO (some "dict") "int" st = .ok (.bl false) st := by unfold isiO; simp only [iT_dict_int]
theorem iT_dict_str : isiT "dict" "str" = some false := by decide +kernel
theorem isO_dict_str : isiO (some "dict") "str" st = .ok (.bl false) st := by unfold isiO; simp only [iT_dict_str]
theorem iT_dict_tuple : isiT "dict" "tuple" = some false := by decide +kernel
theorem isO_dict_tuple : isiO (some "dict") "tuple" st = .ok (.bl false) st := by unfold isiO; simp only [iT_dict_tuple]
theorem iT_dict_list : isiT "dict" "list" = some false := by decide +kernel
theorem isO_dict_list : isiO (some "dict") "list" st = .ok (.bl false) st := by unfold isiO; simp only [iT_dict_list]
theorem iT_dict_dict : isiT "dict" "dict" = some true := by decide +kernel
theorem isO_dict_dict : isiO (some "dict") "dict" st = .ok (.bl true) st := by unfold isiO; simp only [iT_dict_dict]
/-! truth -/
theorem tru_tup : truD st (.tup l) = some (!l.isEmpty) := rfl
theorem tru_fl : truD st (.fl l) = some (!l.isEmpty) := rfl
theorem tru_non : truD st .non = some false := rfl
theorem tru_int {i : Int} : truD st (.int i) = some (i != 0) := rfl
def trO (o : Option Bool) (s : S) : R Bool := match o with
  | some k => .ok k s
  | none => .bad
theorem trK_gen : trK d st = trO (truD st d) st := rfl
theorem trO_some {b : Bool} : trO (some b) st = .ok b st := rfl
theorem emp_nil : ([] : List D).isEmpty = true := rfl
theorem emp_cons : (d :: l).isEmpty = false := rfl
theorem emp_map {α : Type} {f : α → D} {l : List α} : (l.map f).isEmpty = decide (l = []) := by cases l <;> rfl
/-! all, any -/
theorem all_bls {k : D → Bool} : blsD (l.map fun x => .bl (k x)) = some (l.map k) := by
  induction l with
  | nil => rfl
  | cons x l ih => rw [List.map_cons]; unfold blsD; rw [ih]; rfl
theorem all_fl {k : D → Bool} : fAllAny true [.fl (l.map fun x => .bl (k x))] st = .ok (.bl (l.all k)) st := by
  unfold fAllAny
  simp only [lsD, all_bls, if_true]
  rw [List.all_map]
  rfl
theorem all_nil : fAllAny true [.fl []] st = .ok (.bl true) st := rfl
theorem sum_nil : fSum [.fl []] st = .ok (.int 0) st := rfl
end
end Nn

/-! == of data at any depth -/
namespace Nn
open PySem PySem.Spec PyProof.Rows L2 Lb
mutual
def pD : D → PyData
  | .non => .none
  | .bl b => .bool b
  | .int i => .int i
  | .str x => .str x
  | .tup l => .tuple (pDs l)
  | .tuf l => .tuple (pDs l)
  | .fl l => .list (pDs l)
  | .sc l => .list (pDs l)
  | .ty _ => .none
  | .loc _ => .none
  | .fd _ _ => .none
  | .fo _ _ _ => .none
def pDs : List D → List PyData
  | [] => []
  | d :: l => pD d :: pDs l
end
def sOk (x : Str) : Bool := x.cps.all (· < 0x110000)
mutual
/-- plain data, at most n deep -/
def okP : Nat → D → Bool
  | _, .non => true
  | _, .bl _ => true
  | _, .int _ => true
  | _, .str x => sOk x
  | n + 1, .tup l => okPs n l
  | n + 1, .tuf l => okPs n l
  | n + 1, .fl l => okPs n l
  | n + 1, .sc l => okPs n l
  | 0, .tup _ => false
  | 0, .tuf _ => false
  | 0, .fl _ => false
  | 0, .sc _ => false
  | _, .ty _ => false
  | _, .loc _ => false
  | _, .fd _ _ => false
  | _, .fo _ _ _ => false
def okPs : Nat → List D → Bool
  | _, [] => true
  | n, d :: l => okP n d && okPs n l
end
mutual
theorem okP_lay : ∀ (n : Nat) (d : D), okP n d = true → (pD d).canLay0 = true ∧ (pD d).depth ≤ n
  | n, .non, _ => ⟨rfl, Nat.zero_le _⟩
  | n, .bl b, _ => ⟨rfl, Nat.zero_le _⟩
  | n, .int b, _ => ⟨rfl, Nat.zero_le _⟩
  | n, .str b, h => ⟨by unfold okP at h; exact h, Nat.zero_le _⟩
  | n + 1, .tup l, h => by unfold okP at h; obtain ⟨a, b⟩ := okPs_lay n l h; exact ⟨a, Nat.succ_le_succ b⟩
  | n + 1, .tuf l, h => by unfold okP at h; obtain ⟨a, b⟩ := okPs_lay n l h; exact ⟨a, Nat.succ_le_succ b⟩
  | n + 1, .fl l, h => by unfold okP at h; obtain ⟨a, b⟩ := okPs_lay n l h; exact ⟨a, Nat.succ_le_succ b⟩
  | n + 1, .sc l, h => by unfold okP at h; obtain ⟨a, b⟩ := okPs_lay n l h; exact ⟨a, Nat.succ_le_succ b⟩
  | 0, .tup _, h => by unfold okP at h; cases h
  | 0, .tuf _, h => by unfold okP at h; cases h
  | 0, .fl _, h => by unfold okP at h; cases h
  | 0, .sc _, h => by unfold okP at h; cases h
  | n, .ty _, h => by unfold okP at h; cases h
  | n, .loc _, h => by unfold okP at h; cases h
  | n, .fd _ _, h => by unfold okP at h; cases h
  | n, .fo _ _ _, h => by unfold okP at h; cases h
theorem okPs_lay : ∀ (n : Nat) (l : List D), okPs n l = true → PyData.canLayAll0 (pDs l) = true ∧ PyData.depthAll (pDs l) ≤ n
  | n, [], _ => ⟨rfl, Nat.zero_le _⟩
  | n, d :: l, h => by
    unfold okPs at h
    rw [Bool.and_eq_true] at h
    obtain ⟨a, b⟩ := okP_lay n d h.1
    obtain ⟨a', b'⟩ := okPs_lay n l h.2
    refine ⟨?_, Nat.max_le.mpr ⟨b, b'⟩⟩
    show (PyData.canLay0 (pD d) && PyData.canLayAll0 (pDs l)) = true
    rw [a, a']
    rfl
end
mutual
theorem toP_eq {st : S} : ∀ (n m : Nat) (d : D), okP n d = true → n ≤ m → toP st m d = some (pD d)
  | n, m, .non, _, _ => by unfold toP pD; rfl
  | n, m, .bl b, _, _ => by unfold toP pD; rfl
  | n, m, .int b, _, _ => by unfold toP pD; rfl
  | n, m, .str b, h, _ => by unfold toP pD; rfl
  | n + 1, m + 1, .tup l, h, hm => by unfold okP at h; unfold toP pD; rw [toPs_eq n m l h (by omega)]; rfl
  | n + 1, m + 1, .tuf l, h, hm => by unfold okP at h; unfold toP pD; rw [toPs_eq n m l h (by omega)]; rfl
  | n + 1, m + 1, .fl l, h, hm => by unfold okP at h; unfold toP pD; rw [toPs_eq n m l h (by omega)]; rfl
  | n + 1, m + 1, .sc l, h, hm => by unfold okP at h; unfold toP pD; rw [toPs_eq n m l h (by omega)]; rfl
  | n + 1, 0, .tup _, h, hm => by omega
  | n + 1, 0, .tuf _, h, hm => by omega
  | n + 1, 0, .fl _, h, hm => by omega
  | n + 1, 0, .sc _, h, hm => by omega
  | 0, _, .tup _, h, _ => by unfold okP at h; cases h
  | 0, _, .tuf _, h, _ => by unfold okP at h; cases h
  | 0, _, .fl _, h, _ => by unfold okP at h; cases h
  | 0, _, .sc _, h, _ => by unfold okP at h; cases h
  | n, _, .ty _, h, _ => by unfold okP at h; cases h
  | n, _, .loc _, h, _ => by unfold okP at h; cases h
  | n, _, .fd _ _, h, _ => by unfold okP at h; cases h
  | n, _, .fo _ _ _, h, _ => by unfold okP at h; cases h
theorem toPs_eq {st : S} : ∀ (n m : Nat) (l : List D), okPs n l = true → n ≤ m → l.mapM (toP st m) = some (pDs l)
  | n, m, [], _, _ => rfl
  | n, m, d :: l, h, hm => by
    unfold okPs at h
    rw [Bool.and_eq_true] at h
    rw [List.mapM_cons, toP_eq n m d h.1 hm, toPs_eq n m l h.2 hm]
    rfl
end
theorem shaped_ok {n : Nat} {d : D} (h : okP n d = true) (hn : n ≤ 50) : SeqAt.shaped (pD d) = true := by
  obtain ⟨a, b⟩ := okP_lay n d h
  unfold SeqAt.shaped
  rw [a, decide_eq_true (show (pD d).depth ≤ 64 by omega)]
  rfl
def eqD (a b : D) : Bool := PyData.eqv (pD a) (pD b)
theorem eqF_eqv {a b : D} (h : scal2 a b = true) : eqF a b = eqD a b := by
  unfold eqD
  cases a <;> cases b <;> first | rfl | (unfold scal2 at h; simp [flat] at h)
theorem dc_ok {n : Nat} {d : D} {st : S} (h : okP n d = true) : dcD st d = none := by
  cases d <;> first | rfl | (unfold okP at h; cases n <;> cases h)
/-- == of plain data -/
theorem eq_deep {neg : Bool} {n : Nat} {a b : D} {st : S} (ha : okP n a = true) (hb : okP n b = true) (hn : n ≤ 50) : fEqA neg a b st = .ok (.bl (ng neg (eqD a b))) st := by
  have e0 : fEqA neg a b st = fEq neg a b st := by
    unfold fEqA
    rw [dc_ok ha]
  rw [e0]
  unfold fEq
  by_cases hs : scal2 a b = true
  · rw [if_pos hs, eqF_eqv hs]
    rfl
  · rw [if_neg hs, toP_eq n 50 a ha hn, toP_eq n 50 b hb hn]
    simp only [shaped_ok ha hn, shaped_ok hb hn, Bool.and_self, if_true]
    rfl
/-! plain data without numbers: == is sameness -/
mutual
/-- texts, None, tuples of such -/
def strD : D → Bool
  | .non => true
  | .str _ => true
  | .tup l => strDs l
  | _ => false
def strDs : List D → Bool
  | [] => true
  | d :: l => strD d && strDs l
end
mutual
theorem eqv_str : ∀ {a b : D}, strD a = true → strD b = true → (PyData.eqv (pD a) (pD b) = true ↔ a = b)
  | .non, .non, _, _ => by simp [pD, PyData.eqv]
  | .non, .str _, _, _ => by simp [pD, PyData.eqv]
  | .non, .tup _, _, _ => by simp [pD, PyData.eqv]
  | .str _, .non, _, _ => by simp [pD, PyData.eqv]
  | .str x, .str y, _, _ => by simp [pD, PyData.eqv]
  | .str _, .tup _, _, _ => by simp [pD, PyData.eqv]
  | .tup _, .non, _, _ => by simp [pD, PyData.eqv]
  | .tup _, .str _, _, _ => by simp [pD, PyData.eqv]
  | .tup l, .tup m, h, k => by
    unfold strD at h k
    have := eqvs_str (a := l) (b := m) h k
    simp only [pD, PyData.eqv, D.tup.injEq]
    exact this
  | .bl _, _, h, _ => by unfold strD at h; cases h
  | .int _, _, h, _ => by unfold strD at h; cases h
  | .ty _, _, h, _ => by unfold strD at h; cases h
  | .loc _, _, h, _ => by unfold strD at h; cases h
  | .fl _, _, h, _ => by unfold strD at h; cases h
  | .sc _, _, h, _ => by unfold strD at h; cases h
  | .tuf _, _, h, _ => by unfold strD at h; cases h
  | .fd _ _, _, h, _ => by unfold strD at h; cases h
  | .fo _ _ _, _, h, _ => by unfold strD at h; cases h
  | .non, .bl _, _, h => by unfold strD at h; cases h
  | .non, .int _, _, h => by unfold strD at h; cases h
  | .non, .ty _, _, h => by unfold strD at h; cases h
  | .non, .loc _, _, h => by unfold strD at h; cases h
  | .non, .fl _, _, h => by unfold strD at h; cases h
  | .non, .sc _, _, h => by unfold strD at h; cases h
  | .non, .tuf _, _, h => by unfold strD at h; cases h
  | .non, .fd _ _, _, h => by unfold strD at h; cases h
  | .non, .fo _ _ _, _, h => by unfold strD at h; cases h
  | .str _, .bl _, _, h => by unfold strD at h; cases h
  | .str _, .int _, _, h => by unfold strD at h; cases h
  | .str _, .ty _, _, h => by unfold strD at h; cases h
  | .str _, .loc _, _, h => by unfold strD at h; cases h
  | .str _, .fl _, _, h => by unfold strD at h; cases h
  | .str _, .sc _, _, h => by unfold strD at h; cases h
  | .str _, .tuf _, _, h => by unfold strD at h; cases h
  | .str _, .fd _ _, _, h => by unfold strD at h; cases h
  | .str _, .fo _ _ _, _, h => by unfold strD at h; cases h
  | .tup _, .bl _, _, h => by unfold strD at h; cases h
  | .tup _, .int _, _, h => by unfold strD at h; cases h
  | .tup _, .ty _, _, h => by unfold strD at h; cases h
  | .tup _, .loc _, _, h => by unfold strD at h; cases h
  | .tup _, .fl _, _, h => by unfold strD at h; cases h
  | .tup _, .sc _, _, h => by unfold strD at h; cases h
  | .tup _, .tuf _, _, h => by unfold strD at h; cases h
  | .tup _, .fd _ _, _, h => by unfold strD at h; cases h
  | .tup _, .fo _ _ _, _, h => by unfold strD at h; cases h
theorem eqvs_str : ∀ {a b : List D}, strDs a = true → strDs b = true → (PyData.eqvAll (pDs a) (pDs b) = true ↔ a = b)
  | [], [], _, _ => by simp [pDs, PyData.eqvAll]
  | [], _ :: _, _, _ => by simp [pDs, PyData.eqvAll]
  | _ :: _, [], _, _ => by simp [pDs, PyData.eqvAll]
  | x :: l, y :: m, h, k => by
    unfold strDs at h k
    rw [Bool.and_eq_true] at h k
    have e1 := eqv_str (a := x) (b := y) h.1 k.1
    have e2 := eqvs_str (a := l) (b := m) h.2 k.2
    simp only [pDs, PyData.eqvAll, Bool.and_eq_true, List.cons.injEq]
    rw [e1, e2]
end
/-! lists of texts -/
theorem okPs_strs {n : Nat} : ∀ {l : List Str}, (∀ x ∈ l, sOk x = true) → okPs n (l.map D.str) = true
  | [], _ => by unfold okPs; rfl
  | x :: l, h => by
    rw [List.map_cons]
    unfold okPs okP
    rw [h x (List.mem_cons_self ..), okPs_strs fun y hy => h y (List.mem_cons_of_mem _ hy)]
    rfl
theorem pDs_strs : ∀ l : List Str, pDs (l.map D.str) = l.map PyData.str
  | [] => rfl
  | x :: l => by
    rw [List.map_cons]
    unfold pDs pD
    rw [pDs_strs l]
    rfl
theorem eqvAll_strs : ∀ l m : List Str, PyData.eqvAll (l.map PyData.str) (m.map PyData.str) = decide (l = m)
  | [], [] => rfl
  | [], _ :: _ => rfl
  | _ :: _, [] => rfl
  | x :: l, y :: m => by
    rw [List.map_cons, List.map_cons]
    show (PyData.eqv (.str x) (.str y) && PyData.eqvAll (l.map PyData.str) (m.map PyData.str)) = _
    rw [eqvAll_strs l m]
    have : PyData.eqv (.str x) (.str y) = decide (x = y) := Bool.beq_eq_decide_eq x y
    rw [this, Bool.eq_iff_iff]
    simp
theorem eq_flS {neg : Bool} {l m : List Str} {st : S} (hl : ∀ x ∈ l, sOk x = true) (hm : ∀ x ∈ m, sOk x = true) : fEqA neg (.fl (l.map .str)) (.fl (m.map .str)) st = .ok (.bl (ng neg (decide (l = m)))) st := by
  rw [eq_deep (n := 1) (by unfold okP; exact okPs_strs hl) (by unfold okP; exact okPs_strs hm) (by omega)]
  unfold eqD pD
  rw [pDs_strs, pDs_strs]
  show R.ok (D.bl (ng neg (PyData.eqvAll (l.map PyData.str) (m.map PyData.str)))) st = _
  rw [eqvAll_strs]
theorem eq_flS0 {neg : Bool} {l : List Str} {st : S} (hl : ∀ x ∈ l, sOk x = true) : fEqA neg (.fl (l.map .str)) (.fl []) st = .ok (.bl (ng neg (decide (l = [])))) st := eq_flS (m := []) hl (fun x h => absurd h List.not_mem_nil)
theorem sOk_name {x : Str} (h : ∀ c ∈ x.cps.toList, 97 ≤ c ∧ c < 123) : sOk x = true := by
  unfold sOk
  rw [Array.all_eq_true_iff_forall_mem]
  intro c hc
  have := h c (Array.mem_toList_iff.mpr hc)
  exact decide_eq_true (by omega)
end Nn
namespace Nn
open PySem PySem.Spec PyProof.Rows L2 Lb
section
variable {st : S} {kvs : List (Key × D)} {s : Str}
theorem zip_unzip {α β : Type} : ∀ l : List (α × β), (l.map (·.1)).zip (l.map (·.2)) = l
  | [] => rfl
  | (a, b) :: l => by simp [zip_unzip l]
theorem dc_fdM : dcD st (.fd (kvs.map (·.1)) (kvs.map (·.2))) = some kvs := by
  unfold dcD
  simp only [List.length_map, if_true, zip_unzip]
theorem ix_fdM : fIxA (.fd (kvs.map (·.1)) (kvs.map (·.2))) (.str s) st = oD (getK kvs (.inr s)) st := by
  have := ix_fd (st := st) (ks := kvs.map (·.1)) (l := kvs.map (·.2)) (k := .inr s) (by simp)
  rw [zip_unzip] at this
  exact this
theorem in_fdM {neg : Bool} : fInA neg (.str s) (.fd (kvs.map (·.1)) (kvs.map (·.2))) st = .ok (.bl (ng neg (getK kvs (.inr s)).isSome)) st := by
  unfold fInA fDin
  simp only [dc_fdM, keyD]
end
end Nn
namespace Nn
open PySem PySem.Spec PyProof.Rows L2 Lb
section
variable {st : S} {f k : Str} {ks : List Str} {d : D} {l : List D} {c : String} {cs : List String} {env : Ev} {n : Nat} {fs : List (Str × D)}
theorem lookD_cons : lookD (k :: ks) (d :: l) f = if f = k then some d else lookD ks l f := rfl
theorem putFD_nil : putFD f d [] = [(f, d)] := rfl
theorem putFD_cons {e : D} : putFD f d ((k, e) :: fs) = if k = f then (k, d) :: fs else (k, e) :: putFD f d fs := rfl
def fldC (b : Bool) (f : Str) (ks : List Str) (l : List D) (st : S) : R D := if b = true then fldO f ks l st else .bad
theorem fldK_foG : fldK cs f (.fo c ks l) st = fldC (cs.contains c) f ks l st := rfl
theorem fldC_T : fldC true f ks l st = fldO f ks l st := rfl
def fldP (o : Option D) (st : S) : R D := match o with
  | some x => .ok x st
  | none => .bad
theorem fldO_gen : fldO f ks l st = fldP (lookD ks l f) st := rfl
theorem fldP_some : fldP (some d) st = .ok d st := rfl
def sfO (o : Option O) (cs : List String) (f : Str) (env : Ev) (d : D) (n : Nat) (st : S) : Rt := match o with
  | some (.ins c fs) => if cs.contains c = true ∧ fs.length < 1000 then .nx env (st.set n (.ins c (putFD f d fs))) else .bad
  | _ => .bad
theorem sfJ_lc : sfJ cs f env d (.loc n) st = sfO (st[n]?) cs f env d n st := by
  unfold sfJ sfO
  cases h : st[n]? with
  | none => simp only [h]
  | some o => cases o <;> simp only [h]
theorem sfO_ins (h : cs.contains c = true ∧ fs.length < 1000) : sfO (some (.ins c fs)) cs f env d n st = .nx env (st.set n (.ins c (putFD f d fs))) := by
  show (if cs.contains c = true ∧ fs.length < 1000 then _ else _) = _
  rw [if_pos h]
end
end Nn
namespace Nn
open PySem PySem.Spec PyProof.Rows L2 Lb
theorem cont1 {c : String} : ([c] : List String).contains c = true := by simp
theorem sfO_ins1 {st : S} {f : Str} {d : D} {c : String} {env : Ev} {n : Nat} {fs : List (Str × D)} (h : fs.length ≤ 999) : sfO (some (.ins c fs)) [c] f env d n st = .nx env (st.set n (.ins c (putFD f d fs))) := sfO_ins ⟨cont1, by omega⟩
end Nn
namespace Nn
theorem tru_bl {st : S} {b : Bool} : truD st (.bl b) = some b := rfl
end Nn
namespace Nn
open PySem PySem.Spec PyProof.Rows L2 Lb
theorem go_end0 {own : Bool} {d : D} {Q : D → S → Prop} (hd : low d = true) (q : Q d []) : (Rt.rt d []).go fun r => (fin own 0 r).sat Q := fin_low (st := []) hd rfl q
theorem go_end1 {own : Bool} {d : D} {o : O} {Q : D → S → Prop} (hd : low d = true) (ho : lowO o = true) (q : Q d [o]) : (Rt.rt d [o]).go fun r => (fin own 1 r).sat Q := fin_low (st := [o]) hd (by rw [List.all_cons, ho]; rfl) q
/-- what the def made besides is let go -/
theorem go_endN {own : Bool} {d : D} {m : Nat} {st : S} {Q : D → S → Prop} (hd : low d = true) (hm : m ≤ st.length) (h : (st.take m).all lowO = true) (q : Q d (st.take m)) : (Rt.rt d st).go fun r => (fin own m r).sat Q := fin_lowN hd hm h q
theorem go_endX {own : Bool} {m : Nat} {st : S} {Q : D → S → Prop} (hm : m ≤ st.length) (h : (st.take m).all lowO = true) (q : Q .non (st.take m)) : (Rt.nx env st).go fun r => (fin own m r).sat Q := by
  have : fin own m (.nx env st) = fin own m (.rt .non st) := rfl
  show (fin own m (.nx env st)).sat Q
  rw [this]
  exact fin_lowN rfl hm h q
end Nn
namespace Nn
open PySem PySem.Spec PyProof.Rows L2 Lb
section
variable {st : S} {env : Ev} {ar : MA} {l acc : List D} {n : Nat} {g : MG} {t : MT} {m : ME} {l0 : List D}
theorem lcL_nil : lcL (itP l0).ok g t m env [] acc st = .ok acc st := by
  unfold lcL
  rw [if_pos (show (itP l0).ok st from trivial)]
theorem starK_tup : starK ar env (.tup l) st = (ar env st).bind (starJ l) := rfl
theorem starK_tuf : starK ar env (.tuf l) st = (ar env st).bind (starJ l) := rfl
theorem starK_fl : starK ar env (.fl l) st = (ar env st).bind (starJ l) := rfl
def starO (q : Option O) (r : MA) (env : Ev) (s : S) : R (List D) := match q with
  | some (.lst l) => (r env s).bind (starJ l)
  | _ => .bad
theorem starK_lc : starK ar env (.loc n) st = starO (st[n]?) ar env st := by
  cases h : st[n]? with
  | none => simp only [starK, starO, seqD, rdL, h]
  | some o => cases o <;> simp only [starK, starO, seqD, rdL, h]
theorem starO_lst : starO (some (.lst l)) ar env st = (ar env st).bind (starJ l) := rfl
end
end Nn
namespace Nn
open PySem PySem.Spec PyProof.Rows L2 Lb
section
variable {d : D} {l : List D}
theorem lows_nil : lows [] = true := by unfold lows; rfl
theorem idB {b : Bool} (h : b = true) : b = true := h
theorem lows_cons : lows (d :: l) = (low d && lows l) := by conv => lhs; unfold lows
theorem low_non : low .non = true := by conv => lhs; unfold low
theorem low_bl {b : Bool} : low (.bl b) = true := by conv => lhs; unfold low
theorem low_int {b : Int} : low (.int b) = true := by conv => lhs; unfold low
theorem low_str {b : Str} : low (.str b) = true := by conv => lhs; unfold low
theorem low_ty {b : String} : low (.ty b) = true := by conv => lhs; unfold low
theorem low_tup : low (.tup l) = lows l := by conv => lhs; unfold low
theorem low_tuf : low (.tuf l) = lows l := by conv => lhs; unfold low
theorem low_fl : low (.fl l) = lows l := by conv => lhs; unfold low
theorem low_sc : low (.sc l) = lows l := by conv => lhs; unfold low
theorem low_fd {ks : List Key} : low (.fd ks l) = lows l := by conv => lhs; unfold low
theorem low_fo {c : String} {ks : List Str} : low (.fo c ks l) = lows l := by conv => lhs; unfold low
end
end Nn

/-! loops and comprehensions over written rows, turn by turn; targets that are rows; slices of written rows -/
namespace Nn
open PySem PySem.Spec PyProof.Rows L2 Lb
section
variable {st : S} {env env' : Ev} {ar : MA} {l l0 acc ds : List D} {n : Nat} {g : MG} {gs : MGs} {t : MT} {m : ME} {p : MS} {d e : D} {ok : S → Prop} {b : Bool} {x : Str}
noncomputable def lpC (ok : S → Prop) (g : MG) (p : MS) (l : List D) (r : R Ev) : Rt := match r with
  | .ok e s => turnK ok g p l (p e s)
  | _ => .bad
theorem loopP_consG : loopL (itP l0).ok g p (d :: l) env st = lpC (itP l0).ok g p l (g d env st) := by
  cases h : g d env st with
  | ok e s => rw [loopP_cons h]; rfl
  | ex c f s => conv => lhs; unfold loopL
                rw [if_pos (show (itP l0).ok st from trivial), h]; rfl
  | bad => conv => lhs; unfold loopL
           rw [if_pos (show (itP l0).ok st from trivial), h]; rfl
theorem lpC_ok : lpC ok g p l (.ok env st) = turnK ok g p l (p env st) := rfl
noncomputable def lcC3 (ok : S → Prop) (g : MG) (t : MT) (m : ME) (env : Ev) (r acc : List D) (y : D) (s3 : S) : R (List D) := if acc.length < sizeLine then lcL ok g t m env r (acc ++ [y]) s3 else .bad
noncomputable def lcC2 (ok : S → Prop) (g : MG) (t : MT) (m : ME) (env : Ev) (r acc : List D) (env1 : Ev) (b : Bool) (s2 : S) : R (List D) := if b = true then okB (m env1 s2) (lcC3 ok g t m env r acc) else lcL ok g t m env r acc s2
noncomputable def lcC1 (ok : S → Prop) (g : MG) (t : MT) (m : ME) (env : Ev) (r acc : List D) (env1 : Ev) (s1 : S) : R (List D) := okB (t env1 s1) (lcC2 ok g t m env r acc env1)
theorem lcL_consG : lcL (itP l0).ok g t m env (d :: l) acc st = okB (g d env st) (lcC1 (itP l0).ok g t m env l acc) := by
  conv => lhs; unfold lcL
  rw [if_pos (show (itP l0).ok st from trivial)]
  cases h : g d env st with
  | ok e s =>
    simp only [okB, lcC1]
    cases h2 : t e s with
    | ok b s2 =>
      simp only [okB, lcC2]
      cases b with
      | true =>
        simp only [if_true]
        cases h3 : m e s2 with
        | ok y s3 => simp only [okB, lcC3]
        | _ => simp only [okB]
      | false => simp only [Bool.false_eq_true, if_false]
    | _ => simp only [okB]
  | _ => simp only [okB]
theorem lcC1_ap {ok} : lcC1 ok g t m env l acc env' st = okB (t env' st) (lcC2 ok g t m env l acc env') := rfl
theorem lcC2_T {ok} : lcC2 ok g t m env l acc env' true st = okB (m env' st) (lcC3 ok g t m env l acc) := rfl
theorem lcC2_F {ok} : lcC2 ok g t m env l acc env' false st = lcL ok g t m env l acc st := rfl
theorem lcC3_ap {ok} (h : acc.length ≤ 1000000) : lcC3 ok g t m env l acc d st = lcL ok g t m env l (acc ++ [d]) st := by
  unfold lcC3
  rw [if_pos (by have := big_line; omega)]
/-! targets -/
def gtK (n : Nat) (r : MGs) (env : Ev) (st : S) (l : List D) (k : Nat) : R Ev := if k = n then r l env st else .bad
theorem gtp_tup : gTp n gs (.tup l) env st = gtK n gs env st l l.length := rfl
theorem gtK_ok : gtK n gs env st l n = gs l env st := by unfold gtK; rw [if_pos rfl]
def gcJ (r : MGs) (l : List D) (env' : Ev) (s1 : S) : R Ev := r l env' s1
theorem gcn_ap : gCn g gs (d :: l) env st = (g d env st).bind (gcJ gs l) := rfl
theorem gcJ_ap : gcJ gs l env st = gs l env st := rfl
theorem gnl_ap : gNl [] env st = .ok env st := rfl
/-! rows -/
theorem en_nil {k : Nat} : enD k [] = [] := rfl
theorem en_cons {k : Nat} : enD k (d :: l) = .tup [.int (k : Nat), d] :: enD (k + 1) l := rfl
theorem zp_cons {l m : List D} : zpD (d :: l) (e :: m) = .tup [d, e] :: zpD l m := rfl
theorem zp_nil {m : List D} : zpD [] m = [] := rfl
theorem zp_nil2 : zpD l [] = [] := by cases l <;> rfl
theorem rg_0 : rgD 0 0 = [] := rfl
theorem rg_1 : rgD 0 1 = [.int 0] := rfl
theorem rg_2 : rgD 0 2 = [.int 0, .int 1] := rfl
theorem rg_3 : rgD 0 3 = [.int 0, .int 1, .int 2] := rfl
theorem rg_4 : rgD 0 4 = [.int 0, .int 1, .int 2, .int 3] := rfl
theorem rg_5 : rgD 0 5 = [.int 0, .int 1, .int 2, .int 3, .int 4] := rfl
/-! slices -/
theorem sl_tup {own : Bool} {lo hi : Option Int} : fSl own (.tup l) lo hi st = .ok (.tup (cutD l lo hi)) st := rfl
theorem sl_fl {own : Bool} {lo hi : Option Int} : fSl own (.fl l) lo hi st = newL own (cutD l lo hi) st := rfl
theorem cut_drop {k : Nat} (h : k ≤ 100000) : cutD l (some (k : Int)) none = l.drop k := by
  unfold cutD
  have e0 : HT.sIx l.length 0 (some (k : Int)) = min k l.length := HT.sIx_nat _ _ _
  have e1 : HT.sIx l.length l.length none = l.length := rfl
  rw [e0, e1]
  by_cases hk : k ≤ l.length
  · rw [Nat.min_eq_left hk, List.take_of_length_le (by simp)]
  · rw [Nat.min_eq_right (by omega), List.drop_eq_nil_of_le (Nat.le_refl _), List.drop_eq_nil_of_le (by omega)]
    simp
theorem cut_take {k : Nat} (h : k ≤ 100000) : cutD l none (some (k : Int)) = l.take k := by
  unfold cutD
  have e0 : HT.sIx l.length 0 none = 0 := rfl
  have e1 : HT.sIx l.length l.length (some (k : Int)) = min k l.length := HT.sIx_nat _ _ _
  rw [e0, e1]
  simp
theorem cut_d1 : cutD l (some 1) none = l.drop 1 := cut_drop (k := 1) (by omega)
theorem cut_d2 : cutD l (some 2) none = l.drop 2 := cut_drop (k := 2) (by omega)
theorem cut_t1 : cutD l none (some 1) = l.take 1 := cut_take (k := 1) (by omega)
theorem cut_t2 : cutD l none (some 2) = l.take 2 := cut_take (k := 2) (by omega)
end
end Nn
namespace Nn
open PySem PySem.Spec PyProof.Rows L2 Lb
section
variable {env : Ev} {st : S} {P : Rt → Prop} {kN : Ev → S → Rt} {l : List D} {n : Nat}
theorem loopG_nil {ok : S → Prop} {g : MG} {bd : MS} (h : ok st) : loopL ok g bd [] env st = .nx env st := by unfold loopL; rw [if_pos h]
theorem loopG_inv {ok : S → Prop} {g : MG} {bd : MS} (I : List D → Ev → S → Prop) (hok : ∀ l env st, I l env st → ok st) (hs : ∀ d r env st, I (d :: r) env st → (g d env st).sat fun env1 s1 => (bd env1 s1).go (LP (I r) P)) : ∀ (l : List D) (env : Ev) (st : S), I l env st → (∀ env st, I [] env st → P (.nx env st)) → (loopL ok g bd l env st).go P
  | [], env, st, h, he => by
    rw [loopG_nil (hok _ _ _ h)]
    exact he _ _ h
  | d :: r, env, st, h, he => by
    obtain ⟨env1, s1, e, q⟩ := sat_eq (hs d r env st h)
    unfold loopL
    rw [if_pos (hok _ _ _ h), e]
    simp only
    cases eb : bd env1 s1 with
    | nx e s => rw [eb] at q; exact loopG_inv I hok hs r e s q he
    | ct e s => rw [eb] at q; exact loopG_inv I hok hs r e s q he
    | bk e s => rw [eb] at q; exact q
    | rt d s => rw [eb] at q; exact q
    | ex c f e s => rw [eb] at q; exact q
    | bad => rw [eb] at q; exact q
/-- a loop over a list of the store that stands -/
theorem go_loopI {l0 l : List D} {g : MG} {bd : MS} (I : List D → Ev → S → Prop) (h0 : I l env st) (hok : ∀ l env st, I l env st → rdL st n = some l0) (hs : ∀ d r env st, I (d :: r) env st → (g d env st).sat fun env1 s1 => (bd env1 s1).go (LP (I r) (fun t => (t.bindN kN).go P))) (he : ∀ env st, I [] env st → (kN env st).go P) : ((loopL (itL n l0).ok g bd l env st).bindN kN).go P :=
  loopG_inv (P := fun t => (t.bindN kN).go P) I hok hs l env st h0 (fun env st h => he env st h)
def itO (o : Option O) (n : Nat) (s : S) : R ItM := match o with
  | some (.lst l) => .ok (itL n l) s
  | _ => .bad
theorem itK_lc : itK (.loc n) st = itO (st[n]?) n st := by
  cases h : st[n]? with
  | none => simp only [itK, itO, rdL, h]
  | some o => cases o <;> simp only [itK, itO, rdL, h]
theorem itO_lst : itO (some (.lst l)) n st = .ok (itL n l) st := rfl
theorem fin_fdS {Q : D → S → Prop} {m k : Nat} {st' : S} {kvs : List (Key × D)} (hk : st'[k]? = some (.dic kvs)) (hl : lows (kvs.map (·.2)) = true) (hmk : m ≤ k) (h : (st'.take m).all lowO = true) (q : Q (.fd (kvs.map (·.1)) (kvs.map (·.2))) (st'.take m)) : (fin false m (.rt (.loc k) st')).sat Q := by
  rw [fin_fd hk hl hmk h]
  exact q
theorem fin_flS {Q : D → S → Prop} {m k : Nat} {st' : S} {l : List D} (hk : st'[k]? = some (.lst l)) (hl : lows l = true) (hmk : m ≤ k) (h : (st'.take m).all lowO = true) (q : Q (.fl l) (st'.take m)) : (fin false m (.rt (.loc k) st')).sat Q := by
  rw [fin_fl hk hl hmk h]
  exact q
theorem fin_ownS {Q : D → S → Prop} {m k : Nat} {st' : S} {o : O} (hk : st'[k]? = some o) (hl : lowO o = true) (hmk : m ≤ k) (h : (st'.take m).all lowO = true) (q : Q (.loc m) (st'.take m ++ [o])) : (fin true m (.rt (.loc k) st')).sat Q := by
  rw [fin_own hk hl hmk h]
  exact q
/-- dicts that tell the same texts -/
theorem eq_dic {neg : Bool} {x y : D} {k m : List (Key × D)} (hx : dcD st x = some k) (hy : dcD st y = some m) (h : sameD k m = true) : fEqA neg x y st = .ok (.bl (!neg)) st := by
  unfold fEqA fEqDic
  rw [hx, hy]
  simp only [h, if_true]
end
end Nn
namespace Nn
open PySem PySem.Spec PyProof.Rows L2 Lb
section
variable {env : Ev} {st : S} {l : List D} {ma : ME} {own : Bool}
def revAK (own : Bool) (d : D) (s1 : S) : R D := match d with
  | .tup l => .ok (.tup l.reverse) s1
  | .tuf l => .ok (.tup l.reverse) s1
  | d => match lsD s1 d with
    | some l => newL own l.reverse s1
    | none => .bad
theorem revA_ap : mRevA own ma env st = (ma env st).bind (revAK own) := rfl
theorem revAK_tup : revAK own (.tup l) st = .ok (.tup l.reverse) st := rfl
theorem revAK_tuf : revAK own (.tuf l) st = .ok (.tup l.reverse) st := rfl
theorem revAK_fl : revAK own (.fl l) st = newL own l.reverse st := rfl
end
end Nn
namespace Nn
open PySem PySem.Spec PyProof.Rows L2 Lb
section
variable {st : S} {k : Key} {v d : D}
theorem putD_nil : putD [] k v = [(k, v)] := rfl
theorem getK_one : getK [(k, v)] k = some v := by simp [getK]
/-- a call that is lent lists and dicts, and gives a value -/
theorem call_lent {md : List Bool} {f : Fn} {ds ds' : List D} (h1 : mutPl md ds = some []) (h3 : mArgs (fun k => !(([] : List Nat).contains k)) st md ds 0 = some ds') (h : f ds' [] = .ok d []) (hd : low d = true) (hr : nref d = true) : callF md f ds st = .ok d st := by
  unfold callF
  rw [h1]
  simp only [nodupB, if_true, minis]
  rw [h3]
  simp only [h, callR]
  rw [if_pos ⟨(fun _ => ⟨hr, rfl⟩), rfl⟩]
  simp only [List.length_nil, if_true]
  cases d with
  | loc j => unfold low at hd; cases hd
  | _ => simp only [hd, if_true, wb]
end
end Nn
namespace Nn
theorem cast_0 : ((0 : Nat) : Int) = 0 := rfl
theorem cast_1 : ((1 : Nat) : Int) = 1 := rfl
theorem cast_2 : ((2 : Nat) : Int) = 2 := rfl
theorem cast_3 : ((3 : Nat) : Int) = 3 := rfl
theorem cast_4 : ((4 : Nat) : Int) = 4 := rfl
theorem cast_5 : ((5 : Nat) : Int) = 5 := rfl
theorem cast_6 : ((6 : Nat) : Int) = 6 := rfl
theorem cast_7 : ((7 : Nat) : Int) = 7 := rfl
theorem cast_8 : ((8 : Nat) : Int) = 8 := rfl
theorem cast_9 : ((9 : Nat) : Int) = 9 := rfl
theorem cast_10 : ((10 : Nat) : Int) = 10 := rfl
theorem cast_11 : ((11 : Nat) : Int) = 11 := rfl
theorem cast_12 : ((12 : Nat) : Int) = 12 := rfl
theorem cast_13 : ((13 : Nat) : Int) = 13 := rfl
theorem cast_14 : ((14 : Nat) : Int) = 14 := rfl
theorem cast_15 : ((15 : Nat) : Int) = 15 := rfl
theorem cast_16 : ((16 : Nat) : Int) = 16 := rfl
theorem cast_17 : ((17 : Nat) : Int) = 17 := rfl
theorem cast_18 : ((18 : Nat) : Int) = 18 := rfl
theorem cast_19 : ((19 : Nat) : Int) = 19 := rfl
theorem cast_20 : ((20 : Nat) : Int) = 20 := rfl
theorem cast_21 : ((21 : Nat) : Int) = 21 := rfl
theorem cast_22 : ((22 : Nat) : Int) = 22 := rfl
theorem cast_23 : ((23 : Nat) : Int) = 23 := rfl
theorem cast_24 : ((24 : Nat) : Int) = 24 := rfl
theorem cast_25 : ((25 : Nat) : Int) = 25 := rfl
theorem cast_26 : ((26 : Nat) : Int) = 26 := rfl
theorem cast_27 : ((27 : Nat) : Int) = 27 := rfl
theorem cast_28 : ((28 : Nat) : Int) = 28 := rfl
theorem cast_29 : ((29 : Nat) : Int) = 29 := rfl
theorem cast_30 : ((30 : Nat) : Int) = 30 := rfl
theorem cast_31 : ((31 : Nat) : Int) = 31 := rfl
theorem cast_32 : ((32 : Nat) : Int) = 32 := rfl
theorem cast_33 : ((33 : Nat) : Int) = 33 := rfl
theorem cast_34 : ((34 : Nat) : Int) = 34 := rfl
theorem cast_35 : ((35 : Nat) : Int) = 35 := rfl
theorem cast_36 : ((36 : Nat) : Int) = 36 := rfl
theorem cast_37 : ((37 : Nat) : Int) = 37 := rfl
theorem cast_38 : ((38 : Nat) : Int) = 38 := rfl
theorem cast_39 : ((39 : Nat) : Int) = 39 := rfl
theorem cast_40 : ((40 : Nat) : Int) = 40 := rfl
end Nn

/-! a dict's display -/
namespace Nn
open PySem PySem.Spec PyProof.Rows L2 Lb
def mPrs : List (ME × ME) → Ev → S → R (List (Key × D))
  | [], _, st => .ok [] st
  | p :: r, env, st => (p.1 env st).bind fun k s1 => (p.2 env s1).bind fun v s2 => (mPrs r env s2).bind fun l s3 => match keyD k with
    | some key => .ok ((key, v) :: l) s3
    | none => .bad
def mergeD (kvs more : List (Key × D)) : List (Key × D) := more.foldl (fun acc kv => putD acc kv.1 kv.2) kvs
def dispK (own : Bool) (r : R (List (Key × D))) : R D := match r with
  | .ok kvs s2 => if kvs.length ≤ 15 then newD own (mergeD [] kvs) s2 else .bad
  | _ => .bad
def mDisp (own : Bool) (ps : List (ME × ME)) : ME := fun env st => dispK own (mPrs ps env st)
section
variable {X : Cx} {z : Zc} {W : WM} {ρ : List Addr} {st : S} {H : Hp} {pos : Pos}
/-- pairs and what they are -/
def RKs (z : Zc) (ρ : List Addr) (H : Hp) (l : List (Key × D)) (qs : List (V × V)) : Prop := ∃ ks : List (Key × V), qs = ks.map (fun kv => (kV kv.1, kv.2)) ∧ ks.map (·.1) = l.map (·.1) ∧ RVs z ρ H (l.map (·.2)) (ks.map (·.2))
theorem s_prs {av : Addr → Prop} : ∀ (ps : List (ME × ME)) {ρ : List Addr} {st s2 : S} {H : Hp} {env : Ev} {σ : L2.St} {l : List (Key × D)} {P : List (V × V) → Hp → Prop}, RS (z.wav av) ρ st H → RE (z.wav av) ρ H env σ → mPrs ps env st = .ok l s2 →
    (∀ ρ2 H2 qs, Ext (z.wav av) ρ H ρ2 H2 → RS (z.wav av) ρ2 s2 H2 → RKs (z.wav av) ρ2 H2 l qs → P qs H2) → tPairs (ps.map fun p => (eE z p.1, eE z p.2)) σ H P
  | [], ρ, st, s2, H, env, σ, l, P, rs, re, e, h => by
    cases e
    exact h ρ H [] Ext.refl rs ⟨[], rfl, rfl, RVs.nil⟩
  | p :: r, ρ, st, s2, H, env, σ, l, P, rs, re, e, h => by
    unfold mPrs at e
    cases e1 : p.1 env st with
    | ex c f s => rw [e1] at e; cases e
    | bad => rw [e1] at e; cases e
    | ok k s3 =>
      rw [e1] at e
      simp only [R.bind] at e
      cases e2 : p.2 env s3 with
      | ex c f s => rw [e2] at e; cases e
      | bad => rw [e2] at e; cases e
      | ok v s4 =>
        rw [e2] at e
        simp only at e
        cases e3 : mPrs r env s4 with
        | ex c f s => rw [e3] at e; cases e
        | bad => rw [e3] at e; cases e
        | ok l' s5 =>
          rw [e3] at e
          simp only at e
          cases ek : keyD k with
          | none => rw [ek] at e; cases e
          | some key =>
            rw [ek] at e
            simp only at e
            cases e
            refine ⟨av, ρ, st, env, rs, re, ?_⟩
            rw [e1]
            intro ρ1 H1 x x1 rs1 rv1
            refine ⟨av, ρ1, s3, env, rs1, re.ext x1, ?_⟩
            rw [e2]
            intro ρ2 H2 y x2 rs2 rv2
            refine s_prs r rs2 ((re.ext x1).ext x2) e3 fun ρ3 H3 qs x3 rs3 rk => ?_
            obtain ⟨ks, rfl, k1, k2⟩ := rk
            have ex := rv_key ek ((rv1.ext x2).ext x3)
            subst ex
            exact h ρ3 H3 _ ((x1.trans x2).trans x3) rs3 ⟨(key, y) :: ks, rfl, by rw [List.map_cons, List.map_cons, k1], RVs.cons (rv2.ext x3) k2⟩
theorem merge_rv : ∀ {l : List (Key × D)} {ks : List (Key × V)} {acc : List (Key × D)} {as : List (Key × V)}, ks.map (·.1) = l.map (·.1) → RVs z ρ H (l.map (·.2)) (ks.map (·.2)) → as.map (·.1) = acc.map (·.1) → RVs z ρ H (acc.map (·.2)) (as.map (·.2)) →
    (mergeK as ks).map (·.1) = (mergeD acc l).map (·.1) ∧ RVs z ρ H ((mergeD acc l).map (·.2)) ((mergeK as ks).map (·.2))
  | [], [], acc, as, _, _, a1, a2 => ⟨a1, a2⟩
  | [], _ :: _, _, _, h, _, _, _ => by simp at h
  | _ :: _, [], _, _, h, _, _, _ => by simp at h
  | (k1, d) :: l, (k2, v) :: ks, acc, as, h, r, a1, a2 => by
    rw [List.map_cons, List.map_cons] at h
    injection h with h1 h2
    have h1 : k2 = k1 := h1
    subst h1
    rw [List.map_cons, List.map_cons] at r
    unfold RVs at r
    obtain ⟨x, w, e, r1, r2⟩ := r
    injection e with e1 e2
    subst e1 e2
    obtain ⟨b1, b2⟩ := put_rv (k := k2) a1 a2 r1
    exact merge_rv (l := l) (ks := ks) h2 r2 b1 b2
theorem q_disp {own : Bool} {keys : List (Option Expr)} {values : List Expr} {ps : List (ME × ME)} (h : PPs X pos keys values (ps.map fun p => (eE z p.1, eE z p.2))) (hall : keys.all (·.isSome) = true := by rfl) (hl : keys.length = values.length := by rfl) (h0 : keys ≠ [] := by exact List.cons_ne_nil _ _)
    (h15 : keys.length ≤ 15 := by decide) : PE X (.Dict keys values pos) (tE z W (mDisp own ps)) := pe_imp (pe_disp h hall hl h0 h15) (by
  rintro σ H Q ⟨ρ, st, env, rs, re, h⟩ p hp
  have cH : Car z ρ H (z.wav (avp z p)) ρ (upd H p (.dK [])) (fun _ => True) := Car.hide hp
  have np : ¬ z.av p := rs.nav hp
  have fp : p ∉ ρ := rs.free hp
  have rs1 : RS (z.wav (avp z p)) ρ st (upd H p (.dK [])) := rs.hide hp
  have re1 : RE (z.wav (avp z p)) ρ (upd H p (.dK [])) env σ := re.car cH rfl (fun d ys q n => ⟨by rw [upd_ne (ne_of_none q hp)]; exact q, n⟩)
  unfold mDisp at h
  cases e : mPrs ps env st with
  | ex c f s => rw [e] at h; exact h.elim
  | bad => rw [e] at h; exact h.elim
  | ok l s2 =>
    rw [e] at h
    simp only [dispK] at h
    split at h
    · rename_i h15
      refine s_prs ps rs1 re1 e fun ρ2 H2 qs x2 rs2 rk => ?_
      obtain ⟨ks, rfl, k1, k2⟩ := rk
      have hz : H2 p = some (.dK []) := x2.kv upd_same fp (.inr rfl)
      have hk : ks.length = l.length := by simpa using congrArg List.length k1
      obtain ⟨m1, m2⟩ := merge_rv k1 k2 (acc := []) (as := []) rfl RVs.nil
      refine ⟨hz, ks, rfl, by omega, ?_⟩
      have np2 : p ∉ ρ2 := fun q => rs2.avo p q (.inr rfl)
      have ct : Car (z.wav (avp z p)) ρ2 H2 (z.wav (avp z p)) ρ2 (upd H2 p (.dK (mergeK [] ks))) (fun _ => True) := Car.turn hz (fun _ q => nomatch q) (fun _ _ q => nomatch q)
      have rs3 := rs2.turn (u := .dK (mergeK [] ks)) hz (fun _ q => nomatch q) (fun _ _ q => nomatch q) (fun _ q => nomatch q)
      have ex : Ext z ρ H ρ2 (upd H2 p (.dK (mergeK [] ks))) := ((Ext.new hp).trans (x2.wav fun _ k => .inl k)).turn hp
      have rvm := m2.car ct (lows_T _)
      unfold newD at h
      split at h
      · have rvA := rvm.car Car.adopt (lows_T _)
        refine h.at ⟨fun n a q => by rw [List.getElem?_append_left (List.getElem?_eq_some_iff.mp (ex.pl n a q)).1]; exact ex.pl n a q, ex.tp, ex.kq, fun a q n => ?_⟩ (rs3.adopt (o := .dic (mergeD [] l)) np ⟨_, upd_same, m1, rvA⟩) (rv_loc (by rw [← rs2.len]; simp))
        rcases List.mem_append.mp q with q | q
        · exact ex.nw a q n
        · rw [List.mem_singleton.mp q]
          exact hp
      · exact h.at ex rs3.show (rv_fd ⟨.inl upd_same, np2, np⟩ m1 (rvm.car Car.show (lows_T _)))
    · exact h.elim)
/-! worked out -/
variable {ma mb : ME} {ps : List (ME × ME)} {env : Ev} {k v : D} {own : Bool} {s1 s2 : S} {l : List (Key × D)}
theorem disp_ap : mDisp own ps env st = dispK own (mPrs ps env st) := rfl
theorem prs_nil : mPrs [] env st = .ok [] st := rfl
def prC (k v : D) (l : List (Key × D)) (s3 : S) : R (List (Key × D)) := match keyD k with
  | some key => .ok ((key, v) :: l) s3
  | none => .bad
def prB (r : List (ME × ME)) (env : Ev) (k v : D) (s2 : S) : R (List (Key × D)) := (mPrs r env s2).bind (prC k v)
def prA (mb : ME) (r : List (ME × ME)) (env : Ev) (k : D) (s1 : S) : R (List (Key × D)) := (mb env s1).bind (prB r env k)
theorem prs_cons : mPrs ((ma, mb) :: ps) env st = (ma env st).bind (prA mb ps env) := rfl
theorem prA_ap : prA mb ps env k st = (mb env st).bind (prB ps env k) := rfl
theorem prB_ap : prB ps env k v st = (mPrs ps env st).bind (prC k v) := rfl
theorem prC_str {x : Str} : prC (.str x) v l st = .ok ((.inr x, v) :: l) st := rfl
theorem prC_int {x : Int} : prC (.int x) v l st = .ok ((.inl x, v) :: l) st := rfl
theorem dispK_1 {k : Key} : dispK own (.ok [(k, v)] st) = newD own [(k, v)] st := by unfold dispK; rfl
end
end Nn

/-! a call whose argument is either one of the store, to be changed, or a value -/
namespace Nn
open PySem PySem.Spec PyProof.Rows L2 Lb
def isLocD : D → Bool
  | .loc _ => true
  | _ => false
def dynMd : List Bool → List D → List Bool
  | m :: md, d :: ds => (m && isLocD d) :: dynMd md ds
  | [], _ => []
  | md, [] => md
theorem dyn_len : ∀ (md : List Bool) (ds : List D), (dynMd md ds).length = md.length
  | [], ds => by cases ds <;> rfl
  | m :: md, [] => rfl
  | m :: md, d :: ds => by
    show (dynMd md ds).length + 1 = md.length + 1
    rw [dyn_len md ds]
def callD (md : List Bool) (f : Fn) : Fn := fun ds st => callF (dynMd md ds) f ds st
def mCallD (md : List Bool) (f : Fn) (ar : MA) : ME := fun env st => (ar env st).bind fun ds s1 => callD md f ds s1
section
variable {X : Cx} {z : Zc} {W : WM} {pos : Pos} {es : List Expr} {e : Expr} {ar : MA} {md : List Bool} {g : Fn} {env : Ev} {st : S} {d : D} {ds l : List D} {n : Nat} {ks : List Key}
theorem s_callD (hx : NX g) {E : XK} : ∀ σ H Q, tE z W (mCallD md g ar) σ H Q → tCall (spM z.K z.cm md.length g) [] E (tA z W ar) σ H Q := by
  rintro σ H Q ⟨ρ, st, env, rs, re, h⟩
  refine ⟨ρ, st, env, rs, re, h.bind fun ds s1 ρ1 H1 xs e1 rs1 rv1 h1 => ?_⟩
  unfold callD at h1
  have hb : callF (dynMd md ds) g ds s1 ≠ .bad := fun q => by rw [q] at h1; exact h1
  have h2 : Post z (RV z) ρ1 H1 (callF (dynMd md ds) g ds s1) Q (XE z E) := by
    cases q : callF (dynMd md ds) g ds s1 with
    | ok d s => rw [q] at h1; exact h1
    | ex c fs s => exact absurd q (callF_nex hx)
    | bad => exact absurd q hb
  obtain ⟨av, ρm, mini, ds', a1, a2, a3⟩ := callF_post rs1 rv1 h2 fun _ _ _ _ _ _ _ q => q
  refine ⟨av, ρm, mini, ds', ?_, a1, by rw [List.append_nil]; exact a2, a3⟩
  rw [List.append_nil, ← RVs.length rv1, callF_len hb, dyn_len]
theorem q_callD {x : Str} {p : Pos} {n : Nat} {f : Addr} {fd : FuncData} {ps : List Str} (hx : NX g) (hl : md.length = ps.length := by rfl) (F : FnOk X.prog X.w X.K X.mg X.base CX0 n f fd ps (spM z.K z.cm ps.length g)) (hr : Room n X.A) (hg : Gl X x) (hm : X.mg x = some (.ref f)) (hk : PySem.W.keepIn X.K (.ref f) = true) (hb : Binds X.K fd ps [])
    (ha : PA X (e :: es) (tA z W ar)) (hdb : (x == ("__debug__" : Str)) = false := by decide) (he : starEach (e :: es) X.env = (false, eval e X.env) :: starEach es X.env := by rfl) (hpl : (backTo pos (starEach es X.env)).any (·.1) = false := by rfl) :
    PE X (.Call (.Name x p) (e :: es) [] pos) (tE z W (mCallD md g ar)) := pe_imp (pe_call F hr hg hm hk hb .nil pass0 ha hdb he hpl) (by rw [← hl]; exact s_callD hx)
/-! worked out -/
theorem callD_ap : mCallD md g ar env st = (ar env st).bind (callD md g) := rfl
theorem callDD : callD md g ds st = callF (dynMd md ds) g ds st := rfl
theorem dyn_nil : dynMd [] ds = [] := by cases ds <;> rfl
theorem dyn_F : dynMd (false :: md) (d :: ds) = false :: dynMd md ds := rfl
theorem dyn_loc : dynMd (true :: md) (.loc n :: ds) = true :: dynMd md ds := rfl
theorem dyn_fd : dynMd (true :: md) (.fd ks l :: ds) = false :: dynMd md ds := rfl
theorem dyn_fl : dynMd (true :: md) (.fl l :: ds) = false :: dynMd md ds := rfl
theorem dyn_tup : dynMd (true :: md) (.tup l :: ds) = false :: dynMd md ds := rfl
theorem dyn_non : dynMd (true :: md) (.non :: ds) = false :: dynMd md ds := rfl
end
end Nn

/-! a block: what it made is let go at its end -/
namespace Nn
open PySem PySem.Spec PyProof.Rows L2 Lb
mutual
/-- no place from m on -/
def lowB (m : Nat) : D → Bool
  | .loc k => decide (k < m)
  | .tup l => lowBs m l
  | .fl l => lowBs m l
  | .sc l => lowBs m l
  | .tuf l => lowBs m l
  | .fd _ l => lowBs m l
  | .fo _ _ l => lowBs m l
  | .non => true
  | .bl _ => true
  | .int _ => true
  | .str _ => true
  | .ty _ => true
def lowBs (m : Nat) : List D → Bool
  | [] => true
  | d :: l => lowB m d && lowBs m l
end
mutual
theorem lowB_P {m : Nat} : ∀ {d : D}, lowB m d = true → Low (· < m) d
  | .loc k, h => by unfold lowB at h; unfold Low; exact of_decide_eq_true h
  | .tup l, h => by unfold lowB at h; unfold Low; exact lowBs_P h
  | .fl l, h => by unfold lowB at h; unfold Low; exact lowBs_P h
  | .sc l, h => by unfold lowB at h; unfold Low; exact lowBs_P h
  | .tuf l, h => by unfold lowB at h; unfold Low; exact lowBs_P h
  | .fd _ l, h => by unfold lowB at h; unfold Low; exact lowBs_P h
  | .fo _ _ l, h => by unfold lowB at h; unfold Low; exact lowBs_P h
  | .non, _ => by unfold Low; trivial
  | .bl _, _ => by unfold Low; trivial
  | .int _, _ => by unfold Low; trivial
  | .str _, _ => by unfold Low; trivial
  | .ty _, _ => by unfold Low; trivial
theorem lowBs_P {m : Nat} : ∀ {l : List D}, lowBs m l = true → Lows (· < m) l
  | [], _ => by unfold Lows; trivial
  | d :: l, h => by
    unfold lowBs at h
    rw [Bool.and_eq_true] at h
    unfold Lows
    exact ⟨lowB_P h.1, lowBs_P h.2⟩
end
mutual
theorem low_lowB {m : Nat} : ∀ {d : D}, low d = true → lowB m d = true
  | .loc k, h => by unfold low at h; cases h
  | .tup l, h => by unfold low at h; unfold lowB; exact lows_lowBs h
  | .fl l, h => by unfold low at h; unfold lowB; exact lows_lowBs h
  | .sc l, h => by unfold low at h; unfold lowB; exact lows_lowBs h
  | .tuf l, h => by unfold low at h; unfold lowB; exact lows_lowBs h
  | .fd _ l, h => by unfold low at h; unfold lowB; exact lows_lowBs h
  | .fo _ _ l, h => by unfold low at h; unfold lowB; exact lows_lowBs h
  | .non, _ => by unfold lowB; rfl
  | .bl _, _ => by unfold lowB; rfl
  | .int _, _ => by unfold lowB; rfl
  | .str _, _ => by unfold lowB; rfl
  | .ty _, _ => by unfold lowB; rfl
theorem lows_lowBs {m : Nat} : ∀ {l : List D}, lows l = true → lowBs m l = true
  | [], _ => by unfold lowBs; rfl
  | d :: l, h => by
    unfold lows at h
    rw [Bool.and_eq_true] at h
    unfold lowBs
    rw [low_lowB h.1, lows_lowBs h.2]
    rfl
end
def lowMB (m : Nat) (f : D → Option D) (l : List D) : Option (List D) := if lowBs m l = true then some l else l.mapM f
def fzB (m : Nat) (st : S) : Nat → D → Option D
  | _, .non => some .non
  | _, .bl b => some (.bl b)
  | _, .int b => some (.int b)
  | _, .str b => some (.str b)
  | _, .ty b => some (.ty b)
  | 0, _ => none
  | n + 1, .tup l => (lowMB m (fzB m st n) l).map .tup
  | n + 1, .fl l => (lowMB m (fzB m st n) l).map .fl
  | n + 1, .tuf l => (lowMB m (fzB m st n) l).map .tuf
  | n + 1, .sc l => (lowMB m (fzB m st n) l).map .sc
  | n + 1, .fd ks l => (lowMB m (fzB m st n) l).map (.fd ks)
  | n + 1, .fo c ks l => (lowMB m (fzB m st n) l).map (.fo c ks)
  | n + 1, .loc k => if k < m then some (.loc k) else match st[k]? with
      | some (.lst l) => (lowMB m (fzB m st n) l).map .fl
      | some (.dic l) => (lowMB m (fzB m st n) (l.map (·.2))).map (.fd (l.map (·.1)))
      | some (.ins c l) => (lowMB m (fzB m st n) (l.map (·.2))).map (.fo c (l.map (·.1)))
      | none => none
def frz (m : Nat) (st : S) (d : D) : Option D := if lowB m d = true then some d else fzB m st 20 d
def frzs (m : Nat) (st : S) : List D → Option (List D)
  | [] => some []
  | d :: l => match frz m st d, frzs m st l with
    | some d', some l' => some (d' :: l')
    | _, _ => none
def frzO (m : Nat) (st : S) : O → Option O
  | .lst l => (frzs m st l).map .lst
  | .dic l => (frzs m st (l.map (·.2))).map fun r => .dic ((l.map (·.1)).zip r)
  | .ins c l => (frzs m st (l.map (·.2))).map fun r => .ins c ((l.map (·.1)).zip r)
def frzS (m : Nat) (st : S) : List O → Option (List O)
  | [] => some []
  | o :: l => match frzO m st o, frzS m st l with
    | some o', some l' => some (o' :: l')
    | _, _ => none
def frzE (m : Nat) (st : S) : List (Option D) → Option (List (Option D))
  | [] => some []
  | none :: l => (frzE m st l).map (none :: ·)
  | some d :: l => match frz m st d, frzE m st l with
    | some d', some l' => some (some d' :: l')
    | _, _ => none
def blkE (m : Nat) (env : Ev) (st : S) (k : Ev → S → Rt) : Rt := if m ≤ st.length then match env with
  | ⟨sl, none⟩ => match frzE m st sl, frzS m st (st.take m) with
    | some sl', some st' => k ⟨sl', none⟩ st'
    | _, _ => .bad
  | _ => .bad
  else .bad
def blkK (m : Nat) (r : Rt) : Rt := match r with
  | .nx env st => blkE m env st .nx
  | .ct env st => blkE m env st .ct
  | .bk env st => blkE m env st .bk
  | r => r
def mBlk (p : MS) : MS := fun env st => blkK st.length (p env st)
section
variable {z : Zc} {ρ ρ' : List Addr} {st st' : S} {H H' : Hp}
structure CutB (z : Zc) (ρ : List Addr) (st : S) (H : Hp) (ρ' : List Addr) (st' : S) (H' : Hp) : Prop where
  rs : RS z ρ st H
  e : Ext z ρ H ρ' H'
  rs' : RS z ρ' st' H'
  le : st.length ≤ st'.length
theorem CutB.sub (c : CutB z ρ st H ρ' st' H') {a : Addr} (h : a ∈ ρ) : a ∈ ρ' := by
  obtain ⟨i, hi, e⟩ := List.getElem_of_mem h
  exact List.mem_of_getElem? (c.e.pl i a (by rw [List.getElem?_eq_getElem hi, e]))
theorem CutB.back (c : CutB z ρ st H ρ' st' H') {k : Nat} {a : Addr} (hk : k < st.length) (h : ρ'[k]? = some a) : ρ[k]? = some a := by
  have hk' : k < ρ.length := by rw [c.rs.len]; exact hk
  have q := c.e.pl k _ (List.getElem?_eq_getElem hk')
  rw [q] at h
  rw [List.getElem?_eq_getElem hk', h]
theorem CutB.car (c : CutB z ρ st H ρ' st' H') : Car z ρ' H' z ρ H' (· < st.length) := ⟨rfl, rfl, fun k a hk h => c.back hk h, fun _ _ h => h, fun a u h n => ⟨u, h, .inl rfl, fun q => n.1 (c.sub q), n.2⟩⟩
theorem CutB.out (c : CutB z ρ st H ρ' st' H') {k : Nat} {a : Addr} (hk : st.length ≤ k) (h : ρ'[k]? = some a) : Out z ρ a := ⟨fun q => by
  obtain ⟨i, hi, e⟩ := List.getElem_of_mem q
  have e' : ρ[i]? = some a := by rw [List.getElem?_eq_getElem hi, e]
  have := c.rs'.inj i k a (c.e.pl i a e') h
  have := c.rs.len
  omega, c.rs'.avo a (List.mem_of_getElem? h)⟩
theorem CutB.ow (c : CutB z ρ st H ρ' st' H') {dx a : Addr} (h : H' dx = some (.own a)) (na : ¬ z.av dx) : Out z ρ dx := ⟨fun q => by
  obtain ⟨u, hu, _, _, hx⟩ := c.rs'.mem (c.sub q)
  rw [h] at hu
  exact hx a (Option.some.inj hu).symm, na⟩
theorem CutB.e0 (c : CutB z ρ st H ρ' st' H') : Ext z ρ H ρ H' := ⟨fun _ _ h => h, c.e.tp, c.e.kq, fun a h h' => absurd h h'⟩
theorem lowMB_rvs {m : Nat} {f : D → Option D} (e : Car z ρ' H' z ρ H' (· < m)) (hf : ∀ d d' v, f d = some d' → RV z ρ' H' d v → RV z ρ H' d' v) (l l' : List D) (xs : List V) (h : lowMB m f l = some l') (r : RVs z ρ' H' l xs) : RVs z ρ H' l' xs := by
  unfold lowMB at h
  split at h
  · rename_i hl
    cases h
    exact r.car e (lowBs_P hl)
  · exact mapM_rvs hf _ _ _ h r
theorem fzB_rv (c : CutB z ρ st H ρ' st' H') : ∀ (n : Nat) (d d' : D) (v : V), fzB st.length st' n d = some d' → RV z ρ' H' d v → RV z ρ H' d' v := by
  intro n
  induction n with
  | zero =>
    intro d d' v h r
    cases d with
    | non => cases h; rw [rvn r]; exact rv_non
    | bl b => cases h; rw [rvb r]; exact rv_bl
    | int b => cases h; rw [rvi r]; exact rv_int
    | str b => cases h; rw [rvs r]; exact rv_str
    | ty b => cases h; rw [rvy r]; exact rv_ty
    | _ => cases h
  | succ n ih =>
    intro d d' v h r
    have all := lowMB_rvs (m := st.length) (f := fzB st.length st' n) c.car (fun d d' v h r => ih d d' v h r)
    cases d with
    | non => cases h; rw [rvn r]; exact rv_non
    | bl b => cases h; rw [rvb r]; exact rv_bl
    | int b => cases h; rw [rvi r]; exact rv_int
    | str b => cases h; rw [rvs r]; exact rv_str
    | ty b => cases h; rw [rvy r]; exact rv_ty
    | tup l =>
      obtain ⟨l', e, rfl⟩ := Option.map_eq_some_iff.mp (show (lowMB st.length (fzB st.length st' n) l).map D.tup = some d' from h)
      obtain ⟨a, xs, rfl, q, t⟩ := rvt r
      exact rv_tup (c.car.tp a xs q) (all _ _ _ e t)
    | fl l =>
      obtain ⟨l', e, rfl⟩ := Option.map_eq_some_iff.mp (show (lowMB st.length (fzB st.length st' n) l).map D.fl = some d' from h)
      obtain ⟨a, xs, rfl, q, t⟩ := rvf r
      exact rv_fl (c.car.fp q) (all _ _ _ e t)
    | tuf l =>
      obtain ⟨l', e, rfl⟩ := Option.map_eq_some_iff.mp (show (lowMB st.length (fzB st.length st' n) l).map D.tuf = some d' from h)
      obtain ⟨a, xs, rfl, q, t⟩ := rvtf r
      exact rv_tuf (c.car.ft q) (all _ _ _ e t)
    | sc l =>
      obtain ⟨l', e, rfl⟩ := Option.map_eq_some_iff.mp (show (lowMB st.length (fzB st.length st' n) l).map D.sc = some d' from h)
      obtain ⟨a, xs, rfl, q, t⟩ := rvc r
      unfold RV
      exact ⟨a, xs, rfl, c.car.fz q, all _ _ _ e t⟩
    | fd ks l =>
      obtain ⟨l', e, rfl⟩ := Option.map_eq_some_iff.mp (show (lowMB st.length (fzB st.length st' n) l).map (D.fd ks) = some d' from h)
      obtain ⟨a, ys, rfl, q, k, t⟩ := rvd r
      exact rv_fd (c.car.fd q) k (all _ _ _ e t)
    | fo cc ks l =>
      obtain ⟨l', e, rfl⟩ := Option.map_eq_some_iff.mp (show (lowMB st.length (fzB st.length st' n) l).map (D.fo cc ks) = some d' from h)
      obtain ⟨a, C, dx, ys, rfl, hc, q, k, t⟩ := rvo r
      exact rv_fo (by rw [c.car.cm]; exact hc) (c.car.fo q) k (all _ _ _ e t)
    | loc k =>
      obtain ⟨a, pa, rfl⟩ := rvl r
      have h' : (if k < st.length then some (D.loc k) else match st'[k]? with
        | some (.lst l) => (lowMB st.length (fzB st.length st' n) l).map D.fl
        | some (.dic l) => (lowMB st.length (fzB st.length st' n) (l.map (·.2))).map (D.fd (l.map (·.1)))
        | some (.ins c l) => (lowMB st.length (fzB st.length st' n) (l.map (·.2))).map (D.fo c (l.map (·.1)))
        | none => none) = some d' := h
      split at h'
      · rename_i hk
        cases h'
        exact rv_loc (c.back hk pa)
      · rename_i hk
        have oa := c.out (Nat.le_of_not_lt hk) pa
        split at h'
        · rename_i l e0
          obtain ⟨l', e, rfl⟩ := Option.map_eq_some_iff.mp h'
          obtain ⟨xs, h1, t⟩ := c.rs'.obj k _ a e0 pa
          exact rv_fl ⟨h1, oa⟩ (all _ _ _ e t)
        · rename_i l e0
          obtain ⟨l', e, rfl⟩ := Option.map_eq_some_iff.mp h'
          obtain ⟨ys, h1, k1, t⟩ := c.rs'.obj k _ a e0 pa
          exact rv_fd ⟨.inl h1, oa⟩ k1 (all _ _ _ e t)
        · rename_i cc l e0
          obtain ⟨l', e, rfl⟩ := Option.map_eq_some_iff.mp h'
          obtain ⟨C, dx, ys, hc, h1, h2, na, k1, t⟩ := c.rs'.obj k _ a e0 pa
          exact rv_fo (by rw [c.car.cm]; exact hc) ⟨h1, h2, oa, c.ow h2 na⟩ k1 (all _ _ _ e t)
        · cases h'
theorem frz_rv (c : CutB z ρ st H ρ' st' H') {d d' : D} {v : V} (h : frz st.length st' d = some d') (r : RV z ρ' H' d v) : RV z ρ H' d' v := by
  unfold frz at h
  split at h
  · rename_i hl
    cases h
    exact r.car c.car (lowB_P hl)
  · exact fzB_rv c _ _ _ _ h r
theorem frzs_rv (c : CutB z ρ st H ρ' st' H') : ∀ {l l' : List D} {xs : List V}, frzs st.length st' l = some l' → RVs z ρ' H' l xs → RVs z ρ H' l' xs
  | [], l', xs, h, r => by
    cases h
    rw [rvs0 r]
    exact RVs.nil
  | d :: l, l', xs, h, r => by
    unfold frzs at h
    split at h
    · rename_i d' l'' e1 e2
      cases h
      unfold RVs at r
      obtain ⟨x, w, rfl, r1, r2⟩ := r
      exact RVs.cons (frz_rv c e1 r1) (frzs_rv c e2 r2)
    · cases h
theorem frzs_len {m : Nat} : ∀ {l l' : List D}, frzs m st l = some l' → l'.length = l.length
  | [], l', h => by cases h; rfl
  | d :: l, l', h => by
    unfold frzs at h
    split at h
    · rename_i e1 e2
      cases h
      rw [List.length_cons, List.length_cons, frzs_len e2]
    · cases h
theorem zip_fst {α β : Type} : ∀ (l : List α) (m : List β), l.length = m.length → (l.zip m).map (·.1) = l ∧ (l.zip m).map (·.2) = m
  | [], [], _ => ⟨rfl, rfl⟩
  | a :: l, b :: m, h => by
    obtain ⟨h1, h2⟩ := zip_fst l m (by simpa using h)
    rw [List.zip_cons_cons, List.map_cons, List.map_cons, h1, h2]
    exact ⟨rfl, rfl⟩
theorem frzO_ro (c : CutB z ρ st H ρ' st' H') {o o' : O} {a : Addr} (h : frzO st.length st' o = some o') (r : RO z ρ' H' o a) : RO z ρ H' o' a := by
  cases o with
  | lst l =>
    obtain ⟨l', e, rfl⟩ := Option.map_eq_some_iff.mp h
    obtain ⟨xs, q, t⟩ := r
    exact ⟨xs, q, frzs_rv c e t⟩
  | dic l =>
    obtain ⟨l', e, rfl⟩ := Option.map_eq_some_iff.mp h
    obtain ⟨ys, q, k, t⟩ := r
    obtain ⟨z1, z2⟩ := zip_fst (l.map (·.1)) l' (by rw [frzs_len e]; simp)
    exact ⟨ys, q, by rw [z1]; exact k, by rw [z2]; exact frzs_rv c e t⟩
  | ins cc l =>
    obtain ⟨l', e, rfl⟩ := Option.map_eq_some_iff.mp h
    obtain ⟨C, dx, ys, c1, q, d, na, k, t⟩ := r
    obtain ⟨z1, z2⟩ := zip_fst (l.map (·.1)) l' (by rw [frzs_len e]; simp)
    exact ⟨C, dx, ys, c1, q, d, na, by rw [z1]; exact k, by rw [z2]; exact frzs_rv c e t⟩
theorem frzS_get {m : Nat} : ∀ {l l' : List O} {k : Nat} {o' : O}, frzS m st l = some l' → l'[k]? = some o' → ∃ o, l[k]? = some o ∧ frzO m st o = some o'
  | [], l', k, o', h, g => by cases h; simp at g
  | o :: l, l', k, o', h, g => by
    unfold frzS at h
    split at h
    · rename_i e1 e2
      cases h
      cases k with
      | zero => exact ⟨o, rfl, by rw [e1]; simpa using g⟩
      | succ k =>
        obtain ⟨o2, h1, h2⟩ := frzS_get e2 (k := k) (by simpa using g)
        exact ⟨o2, by simpa using h1, h2⟩
    · cases h
theorem frzS_len {m : Nat} : ∀ {l l' : List O}, frzS m st l = some l' → l'.length = l.length
  | [], l', h => by cases h; rfl
  | d :: l, l', h => by
    unfold frzS at h
    split at h
    · rename_i e1 e2
      cases h
      rw [List.length_cons, List.length_cons, frzS_len e2]
    · cases h
theorem CutB.rs0 (c : CutB z ρ st H ρ' st' H') {s2 : S} (h : frzS st.length st' (st'.take st.length) = some s2) : RS z ρ s2 H' := by
  refine ⟨by rw [frzS_len h, List.length_take, c.rs.len]; have := c.le; omega, c.rs.inj, fun k o a h1 h2 => ?_, c.rs.avo, c.rs'.avh⟩
  obtain ⟨o1, g1, g2⟩ := frzS_get h h1
  obtain ⟨g3, _⟩ := take_get g1
  exact frzO_ro c g2 (c.rs'.obj k o1 a g3 (c.e.pl k a h2))
theorem frzE_re (c : CutB z ρ st H ρ' st' H') : ∀ {sl sl' : List (Option D)} {i : Nat} {d : D}, frzE st.length st' sl = some sl' → sl'[i]? = some (some d) → ∃ d0, sl[i]? = some (some d0) ∧ frz st.length st' d0 = some d
  | [], sl', i, d, h, g => by cases h; simp at g
  | none :: sl, sl', i, d, h, g => by
    obtain ⟨l', e, rfl⟩ := Option.map_eq_some_iff.mp (show (frzE st.length st' sl).map (none :: ·) = some sl' from h)
    cases i with
    | zero => simp at g
    | succ i => exact frzE_re c (i := i) e (by simpa using g)
  | some d1 :: sl, sl', i, d, h, g => by
    unfold frzE at h
    split at h
    · rename_i e1 e2
      cases h
      cases i with
      | zero => exact ⟨d1, rfl, by rw [e1]; simpa using g⟩
      | succ i =>
        obtain ⟨d0, k1, k2⟩ := frzE_re c (i := i) e2 (by simpa using g)
        exact ⟨d0, by simpa using k1, k2⟩
    · cases h
theorem frzE_len {m : Nat} : ∀ {sl sl' : List (Option D)}, frzE m st sl = some sl' → sl'.length = sl.length
  | [], sl', h => by cases h; rfl
  | none :: sl, sl', h => by
    obtain ⟨l', e, rfl⟩ := Option.map_eq_some_iff.mp (show (frzE m st sl).map (none :: ·) = some sl' from h)
    rw [List.length_cons, List.length_cons, frzE_len e]
  | some d1 :: sl, sl', h => by
    unfold frzE at h
    split at h
    · rename_i e1 e2
      cases h
      rw [List.length_cons, List.length_cons, frzE_len e2]
    · cases h
/-- the block's end -/
theorem blkE_post {env : Ev} {σ' : L2.St} {k : Ev → S → Rt} {P : L2.St → Hp → Prop} (rs : RS z ρ st H) (h : ∀ env' s2, blkE st.length env st' k = k env' s2 → (RS z ρ s2 H' → RE z ρ H' env' σ' → Ext z ρ H ρ H' → P σ' H'))
    (hb : blkE st.length env st' k ≠ .bad) (e : Ext z ρ H ρ' H') (rs' : RS z ρ' st' H') (re : RE z ρ' H' env σ') : P σ' H' := by
  unfold blkE at hb h
  split at hb
  · rename_i hle
    have c : CutB z ρ st H ρ' st' H' := ⟨rs, e, rs', hle⟩
    rw [if_pos hle] at h
    split at hb
    · rename_i sl
      simp only at h
      split at hb
      · rename_i sl' s2 e1 e2
        rw [e1, e2] at h
        refine h ⟨sl', none⟩ s2 rfl (c.rs0 e2) ⟨by have := re.1; rw [← this]; exact frzE_len e1, fun i d g => ?_, fun _ _ _ q => nomatch q⟩ c.e0
        obtain ⟨d0, k1, k2⟩ := frzE_re c e1 g
        obtain ⟨v, v1, v2⟩ := re.2.1 i d0 k1
        exact ⟨v, v1, frz_rv c k2 v2⟩
      · exact absurd rfl hb
    · exact absurd rfl hb
  · exact absurd rfl hb
theorem s_blk {W : WM} {p : MS} : ∀ D σ H, tS z W (mBlk p) D σ H → tS z W p D σ H := by
  rintro D σ H ⟨ρ, st, env, rs, re, h⟩
  refine ⟨ρ, st, env, rs, re, ?_⟩
  unfold mBlk at h
  cases q : p env st with
  | nx env1 st1 =>
    rw [q] at h
    intro ρ1 H1 σ1 e1 rs1 re1
    have h : PostS z ρ H (blkE st.length env1 st1 .nx) D W := h
    refine blkE_post (P := D.nx) (k := .nx) rs (fun env' s2 ee r1 r2 r3 => ?_) (fun qq => by rw [qq] at h; exact h) e1 rs1 re1
    rw [ee] at h
    exact h ρ H1 σ1 r3 r1 r2
  | ct env1 st1 =>
    rw [q] at h
    intro ρ1 H1 σ1 e1 rs1 re1
    have h : PostS z ρ H (blkE st.length env1 st1 .ct) D W := h
    refine blkE_post (P := D.ct) (k := .ct) rs (fun env' s2 ee r1 r2 r3 => ?_) (fun qq => by rw [qq] at h; exact h) e1 rs1 re1
    rw [ee] at h
    exact h ρ H1 σ1 r3 r1 r2
  | bk env1 st1 =>
    rw [q] at h
    intro ρ1 H1 σ1 e1 rs1 re1
    have h : PostS z ρ H (blkE st.length env1 st1 .bk) D W := h
    refine blkE_post (P := D.bk) (k := .bk) rs (fun env' s2 ee r1 r2 r3 => ?_) (fun qq => by rw [qq] at h; exact h) e1 rs1 re1
    rw [ee] at h
    exact h ρ H1 σ1 r3 r1 r2
  | rt d s => rw [q] at h; exact h
  | ex c f e s => rw [q] at h; exact h
  | bad => rw [q] at h; exact h
theorem qs_blk {X : Cx} {W : WM} {p : MS} {body : List Stmt} (h : PSs X body (tS z W p)) : PSs X body (tS z W (mBlk p)) := ⟨fun pins s σ H D I q => h.run pins s σ H D I (s_blk D σ H q)⟩
end
end Nn

/-! blocks, worked out -/
namespace Nn
open PySem PySem.Spec PyProof.Rows L2 Lb
section
variable {st st' : S} {env : Ev} {sl sl' : List (Option D)} {m k : Nat} {d d' : D} {l : List D} {kk : Ev → S → Rt} {p : MS} {o o' : O} {os os' : List O} {kvs : List (Key × D)}
theorem blk_ap : mBlk p env st = blkK st.length (p env st) := rfl
theorem blkK_nx : blkK m (.nx env st) = blkE m env st .nx := rfl
theorem blkK_ct : blkK m (.ct env st) = blkE m env st .ct := rfl
theorem blkK_bk : blkK m (.bk env st) = blkE m env st .bk := rfl
theorem blkK_rt : blkK m (.rt d st) = .rt d st := rfl
def blkO (a : Option (List (Option D))) (b : Option (List O)) (k : Ev → S → Rt) : Rt := match a, b with
  | some sl', some st' => k ⟨sl', none⟩ st'
  | _, _ => .bad
theorem blkE_ap (h : m ≤ st.length) : blkE m ⟨sl, none⟩ st kk = blkO (frzE m st sl) (frzS m st (st.take m)) kk := by
  unfold blkE
  rw [if_pos h]
  rfl
theorem blkO_some {s2 : List O} : blkO (some sl) (some s2) kk = kk ⟨sl, none⟩ s2 := rfl
def cons2 {α : Type} (a : Option α) (b : Option (List α)) : Option (List α) := match a, b with
  | some a, some b => some (a :: b)
  | _, _ => none
theorem cons2_some {α : Type} {a : α} {b : List α} : cons2 (some a) (some b) = some (a :: b) := rfl
theorem frzE_nil : frzE m st [] = some [] := rfl
theorem frzE_none : frzE m st (none :: sl) = cons2 (some none) (frzE m st sl) := by
  show (frzE m st sl).map (none :: ·) = _
  cases frzE m st sl <;> rfl
theorem frzE_cons : frzE m st (some d :: sl) = cons2 ((frz m st d).map some) (frzE m st sl) := by
  conv => lhs; unfold frzE
  cases frz m st d <;> cases frzE m st sl <;> rfl
theorem frzS_nil : frzS m st [] = some [] := rfl
theorem frzS_cons : frzS m st (o :: os) = cons2 (frzO m st o) (frzS m st os) := by
  conv => lhs; unfold frzS
  cases frzO m st o <;> cases frzS m st os <;> rfl
theorem frz_low (h : low d = true) : frz m st d = some d := by unfold frz; rw [if_pos (low_lowB h)]
theorem frz_lt (h : k < m) : frz m st (.loc k) = some (.loc k) := by
  have : lowB m (.loc k) = true := by unfold lowB; exact decide_eq_true h
  unfold frz
  rw [if_pos this]
def frzQ (o : Option O) : Option D := match o with
  | some (.lst l) => if lows l = true then some (.fl l) else none
  | some (.dic l) => if lows (l.map (·.2)) = true then some (.fd (l.map (·.1)) (l.map (·.2))) else none
  | _ => none
theorem frz_dic (hk : ¬ k < m) (h : st[k]? = some (.dic kvs)) (hl : lows (kvs.map (·.2)) = true) : frz m st (.loc k) = some (.fd (kvs.map (·.1)) (kvs.map (·.2))) := by
  have h1 : lowB m (.loc k) = false := by unfold lowB; exact decide_eq_false hk
  unfold frz
  rw [if_neg (by rw [h1]; exact Bool.false_ne_true)]
  unfold fzB
  rw [if_neg hk, h]
  simp only
  unfold lowMB
  rw [if_pos (lows_lowBs hl)]
  rfl
theorem frz_lst (hk : ¬ k < m) (h : st[k]? = some (.lst l)) (hl : lows l = true) : frz m st (.loc k) = some (.fl l) := by
  have h1 : lowB m (.loc k) = false := by unfold lowB; exact decide_eq_false hk
  unfold frz
  rw [if_neg (by rw [h1]; exact Bool.false_ne_true)]
  unfold fzB
  rw [if_neg hk, h]
  simp only
  unfold lowMB
  rw [if_pos (lows_lowBs hl)]
  rfl
theorem frzs_low : ∀ {l : List D}, lows l = true → frzs m st l = some l
  | [], _ => rfl
  | d :: l, h => by
    have h' : (low d && lows l) = true := by rw [← lows_cons]; exact h
    rw [Bool.and_eq_true] at h'
    unfold frzs
    rw [frz_low h'.1, frzs_low h'.2]
def app2 (a : Option (List D)) (b : Option D) : Option (List D) := match a, b with
  | some a, some b => some (a ++ [b])
  | _, _ => none
theorem app2_some {a : List D} {b : D} : app2 (some a) (some b) = some (a ++ [b]) := rfl
theorem frzs_app : ∀ {l : List D}, frzs m st (l ++ [d]) = app2 (frzs m st l) (frz m st d)
  | [] => by
    show (match frz m st d, some [] with | some d', some l' => some (d' :: l') | _, _ => none) = _
    cases frz m st d <;> rfl
  | e :: l => by
    show (match frz m st e, frzs m st (l ++ [d]) with | some d', some l' => some (d' :: l') | _, _ => none) = app2 (match frz m st e, frzs m st l with | some d', some l' => some (d' :: l') | _, _ => none) (frz m st d)
    rw [frzs_app (l := l)]
    cases frz m st e <;> cases frzs m st l <;> cases frz m st d <;> rfl
theorem frzO_lst : frzO m st (.lst l) = (frzs m st l).map .lst := rfl
theorem frzO_low (h : lowO o = true) : frzO m st o = some o := by
  cases o with
  | lst l =>
    have h : lows l = true := h
    show (frzs m st l).map O.lst = _
    rw [frzs_low h]
    rfl
  | dic l =>
    have h : lows (l.map (·.2)) = true := h
    show (frzs m st (l.map (·.2))).map (fun r => O.dic ((l.map (·.1)).zip r)) = _
    rw [frzs_low h]
    show some (O.dic ((l.map (·.1)).zip (l.map (·.2)))) = _
    rw [zip_unzip]
  | ins c l =>
    have h : lows (l.map (·.2)) = true := h
    show (frzs m st (l.map (·.2))).map (fun r => O.ins c ((l.map (·.1)).zip r)) = _
    rw [frzs_low h]
    show some (O.ins c ((l.map (·.1)).zip (l.map (·.2)))) = _
    rw [zip_unzip]
end
end Nn
namespace Nn
open PySem PySem.Spec PyProof.Rows L2 Lb
theorem tupleF_loc {st : S} {n : Nat} {l : List D} (h : st[n]? = some (.lst l)) : fTupleF [.loc n] st = .ok (.tuf l) st := by
  unfold fTupleF
  simp only [lsD, rdL, h]
end Nn
namespace Nn
open PySem PySem.Spec PyProof.Rows L2 Lb
section
variable {t : Rt} {m : Nat} {P : Rt → Prop} {env : Ev} {st : S}
theorem go_blk (h : t.go fun r => (blkK m r).go P) : (blkK m t).go P := h
theorem go_blkN (h : (blkK m (.nx env st)).go P) : (Rt.nx env st).go fun r => (blkK m r).go P := h
end
end Nn
namespace Nn
open PySem PySem.Spec PyProof.Rows L2 Lb
theorem go_joinS {α : Type} {r : R α} {env : Ev} {kS : α → S → Rt} {kN : Ev → S → Rt} {P : Rt → Prop} (M : Ev → S → Prop) (h1 : (r.bindS env kS).go (NxP M P)) (h2 : ∀ e s, M e s → (kN e s).go P) : (r.bindS env (snK kS kN)).go P := by
  rw [← bindS_bindN]
  exact go_join M h1 h2
end Nn

/-! an own exception class whose __init__ begins with super().__init__(text) -/
namespace Nn
open PySem PySem.Spec PyProof.Rows L2 Lb
/-- what the written part says of such a class C and of its __init__ at fI: its cell cc holds D -/
structure SupC (P : Program) (K : PySem.W.Frag) (mg : Str → Option Value) (D fI cda cc : Addr) (fd : FuncData) (sf : Str) : Prop where
  fn : ∃ (oc : Value) (od : Option Addr) (osl : Array (Option Value)), K.lookup fI = some ⟨oc, od, .func fd, osl⟩
  hd : ∃ ar, (fd.params.posonlyargs ++ fd.params.args).head? = some ar ∧ ar.arg = sf
  code : ∃ (ccl : Value) (cdd : Option Addr) (ccs : Array (Option Value)) (vs : Array Value) (file : Str) (tf : Tok), K.lookup cda = some ⟨ccl, cdd, .fields vs, ccs⟩ ∧ vs[2]? = some (.str file tf) ∧ ((P.main.file : Str) == file) = true
  top : (P.main.scope.names.lookup ("super" : Str)).isSome = false
  cell : ∃ (cl : Value) (cld : Option Addr) (csl : Array (Option Value)), K.lookup cc = some ⟨cl, cld, .cell (some (.ref D)), csl⟩
  cls : ∃ cd, PySem.W.clsIn K D = some cd
  sup : mg "super" = none
  opq : PySem.W.nsIn K PySem.cStatics "thirdparty.any" = some none
/-- .. and of the class of the thing that is made -/
structure SupM (K : PySem.W.Frag) (C D : Addr) : Prop where
  T : OexC K C
  sub : PySem.W.mroIn K C (.ref D) = some true
  up : PySem.W.ks_superIn K C D "__init__" = some (some (.builtin "ValueError.__init__"))
  isV : PySem.W.subIn K (.ref C) (.type "ValueError") = some true
section
variable {X : Cx} {pins : List (Addr × Obj)} {σ : L2.St} {H : Hp} {s : Shared} {a C D fI cda cc : Addr} {fd : FuncData} {sf msg : Str} {body : List Stmt} {p0 p1 p2 p3 p4 p5 : Pos} {kk : Nat}
theorem sup_block (I : Inv X pins σ H s) (SC : SupC X.prog X.K X.mg D fI cda cc fd sf) (M : SupM X.K C D) (hi : interactive X.env = false) (hks : X.env.kindOf "super" = some .globalImplicit) (hkc : X.env.kindOf "__class__" = some .free) (hka : X.env.kindOf sf = some .local)
    (hfu : X.env.func = some fI) (hco : X.env.code = .ref cda) (hcell : X.env.cells.lookup ("__class__" : Str) = some cc) (hN0 : X.N[0]? = some sf) (hs0 : σ[0]? = some (some (.ref a))) (e0 : H a = some (exo a C none)) {pl : Sem Bool}
    (he : eval (.Call (.Attribute (.Call (.Name "super" p0) [] [] p1) "__init__" p2) [.Constant (.str msg) kk p3] [] p4) X.env = (do
      let ov ← attributeBase (.Call (.Name "super" p0) [] [] p1) "__init__" X.env (eval (.Call (.Name "super" p0) [] [] p1) X.env)
      standAt p2.atName
      let (f, first) ← holding [ov] (getMethod ov "__init__" pl)
      callWith p4 f first (backTo p4 (starEach [.Constant (.str msg) kk p3] X.env)) [])) :
    PySem.wpAt (model X.prog X.w) X.A (.func body X.env) (exec (.Expr (.Call (.Attribute (.Call (.Name "super" p0) [] [] p1) "__init__" p2) [.Constant (.str msg) kk p3] [] p4) p5) X.env) (fun fl s' => fl = .next ∧ Inv X pins σ H s') X.xe s := by
  obtain ⟨oc, od, osl, hf⟩ := SC.fn
  obtain ⟨ar, har, hself⟩ := SC.hd
  obtain ⟨ccl, cdd, ccs, vs, file, tf, hcode, hvs, hfile⟩ := SC.code
  obtain ⟨cl, cld, csl, hcc⟩ := SC.cell
  obtain ⟨cdD, hD⟩ := SC.cls
  have KX := I.kIn
  refine PySem.ks_wpAt_Expr_any ?_ hi
  refine PySem.ks_wpAt_MethodCall ?_ he
  refine PySem.ks_wpAt_super_base hks hkc (by decide) hfu (KX _ _ hf) rfl har hco (KX _ _ hcode) rfl hvs hfile SC.top ?_
  obtain ⟨mb, hb1, hb2⟩ := I.mod.blt
  refine PySem.W.ks_loadName_global I.ok.kind hks (Calls.loadGlobal_builtin (by rw [I.ok.glob]; exact I.mod.glob.keeps I.bk) SC.sup (by rw [I.ok.blt]; exact hb1.keeps I.bk) ((hb2 "super" (by decide)).trans (by decide +kernel : bootBuiltins "super" = some (.type "super"))) ⟨rfl, ?_⟩)
  refine wpAny_loadName_free I.ok.kind hkc hcell ⟨_, KX _ _ hcc, rfl⟩ ?_
  obtain ⟨m, hns, hl⟩ := I.loc
  obtain ⟨u, ru, lk⟩ := hl 0 sf (.ref a) hN0 hs0 (.inl hka)
  have hu : u = .ref a := ru
  subst hu
  have hm : m ar.arg = some (.ref a) := by
    rw [hself]
    rcases lk with ⟨_, h⟩ | ⟨h, _⟩
    · exact h
    · rw [hka] at h
      rcases h with h | h <;> cases h
  refine wpAny_loadName_local I.ok.kind (by rw [hself]; exact hka) hns hm ?_
  obtain ⟨oD, hD1, hD2⟩ : ∃ oD, s.heap.get? D = some oD ∧ oD.data = .cls cdD := by
    unfold PySem.W.clsIn at hD
    split at hD
    · rename_i c d cd' sl ho
      cases hD
      exact ⟨_, KX _ _ ho, rfl⟩
    · cases hD
  obtain ⟨t1, ho⟩ := exo_at I.hok e0
  obtain ⟨hp, g, d, t, os⟩ := s
  refine PySem.ks_wpAny_isType_cls hD1 hD2 ⟨rfl, ?_⟩
  refine PySem.ks_wpAny_call_super hD1 hD2 ho rfl (fun c z => by cases z) (PySem.W.looks_mroIn KX M.sub) (fun h1 hso k1 => ?_)
  have I1 : Inv X pins σ H ⟨h1, g, d, t, os⟩ := I.kept (t' := t) k1
  have ho1 := k1 _ _ ho
  have hX : PySem.W.Looks (model X.prog X.w) h1 (isInstance (.ref a) (.type "ValueError")) true := (PySem.W.InstAt.type (⟨ho1, rfl, rfl, trivial⟩ : PySem.W.InstAt h1 a _ C none)).andThen (PySem.W.looks_subIn I1.kIn M.isV)
  obtain ⟨nm, q, N, bs, bm, sn, sub, ab, col, dd, k0, k1', k2, k3, k5, hC, hbm⟩ := M.T.cls
  have hcl : PySem.W.clsIn X.K C = some { name := nm, bases := bs, mro := .ref C :: bm, ns := N, qualname := q, hasDict := true, slotNames := sn, subclasses := sub, abstract := ab, collection := col, hasDel := false } := by unfold PySem.W.clsIn; rw [hC] <;> rfl
  have hup := M.up
  unfold PySem.W.ks_superIn at hup
  rw [hcl] at hup
  refine PySem.W.kxs_getMethod PySem.W.kxs_ValueError hso (PySem.W.looks_opaque I1.kIn SC.opq) (l₀ := .ref C :: bm) ?_ rfl I1.kIn hup hX ?_ (by decide) ?_
  · exact fun A Q E s k q => wpAny_bind ((PySem.W.looks_clsIn I1.kIn hcl) A _ E s k (wpAny_pure q))
  · exact PySem.W.ks_ne I1.kIn (⟨ho1, rfl, rfl, trivial⟩ : PySem.W.InstAt h1 a _ C none) hcl
  have I2 : Inv X pins σ H ⟨h1.push (PySem.W.kxs_mw "ValueError.__init__" a), g, d, t + 1, os⟩ := I1.kept (t' := t + 1) fun b o e => Heap.get?_push_of_some _ e
  have hu2 : (h1.push (PySem.W.kxs_mw "ValueError.__init__" a)).get? h1.objs.size = some (PySem.W.kxs_mw "ValueError.__init__" a) := Heap.get?_push_at rfl rfl
  have I3 : Inv X ((h1.objs.size, PySem.W.kxs_mw "ValueError.__init__" a) :: pins) σ H ⟨h1.push (PySem.W.kxs_mw "ValueError.__init__" a), g, d, t + 1, os⟩ := I2.pins_of fun p hp => by
    rcases List.mem_cons.mp hp with rfl | hp
    · exact ⟨hu2, I1.hok.fresh (Nat.le_refl _), fun z => by have := I1.lt; exact absurd this (by rw [← z]; exact Nat.lt_irrefl _), I1.nofs (Nat.le_refl _), fun v z => by cases z⟩
    · exact I2.pin p (List.mem_append_right _ hp)
  refine PySem.W.kxs_callWith (i := "ValueError.__init__") (x := a) rfl ?_
  refine Calls.evalArgs_plain ?_
  refine thn ((pa_cons pe_str pa_nil).run p4 _ _ σ H (fun vs H1 => H1 = H ∧ vs.length = 1) I3 ⟨rfl, rfl⟩) fun us s1 ⟨vs, H1, I4, r1, hH, hvl⟩ => ?_
  rw [hH] at I4
  have hpin := (I4.pin (h1.objs.size, PySem.W.kxs_mw "ValueError.__init__" a) (List.mem_append_right _ (List.mem_cons_self ..))).1
  refine ⟨hpin, ?_⟩
  obtain ⟨t2, he2⟩ := exo_at I4.hok e0
  have hlen : us.length ≤ sizeLine := by
    rw [← Paired.length r1, hvl, sizeLine_eq]
    omega
  obtain ⟨h5, g5, d5, t5, os5⟩ := s1
  refine wpAny_call (codeAny_of_tree ?_)
  show wpAny _ X.A.in1 (callAny (.ref h1.objs.size) ⟨us, []⟩) _ _ _
  simp only [callAny]
  refine wpAny_bind (wpAny_load hpin ?_)
  simp only [PySem.W.kxs_mw, show (Value.type "method-wrapper" == Value.type "method" || Value.type "method-wrapper" == Value.type "builtin_function_or_method" || Value.type "method-wrapper" == Value.type "method-wrapper") = true by decide, if_true]
  refine PySem.W.KFB.if_so (by decide) ?_
  refine wpAny_bind (PySem.W.check_bound_init F.excBase_ValueError.toExcCallFacts (I4.kIn _ _ hC) he2 rfl ?_)
  refine wpAny_bind (wpAny_pure (wpAny_pure ?_))
  refine ⟨PySem.plainId_quiet F.excBase_ValueError.init.plain _, codeAny_builtin F.excBase_ValueError.initEntry ?_⟩
  refine PySem.W.exc_init_tree (cls := .ref C) (t0 := t2) (dv := none) (c2 := .none) (c3 := .none) (b4 := .bool false) he2 hlen fun h6 k6 hx6 _ => ?_
  have J := I4.write (t' := t5) (x := a) (e := a) (o := exo a C none) (by rw [e0]; exact True.intro) (.inl rfl) k6 ⟨_, hx6⟩ (exo_ok hx6)
  have eu : upd H a (exo a C none) = H := by
    funext b
    by_cases hb : b = a
    · rw [hb, upd_same, e0]
    · rw [upd_ne hb]
  rw [eu] at J
  exact ⟨by first | trivial | rfl, J.pins_of fun p hp => J.pin p (List.mem_append_right _ (.tail _ hp))⟩
end
end Nn

namespace Nn
open PySem PySem.Spec PyProof.Rows L2 Lb NdefX
theorem sup_eval {env : Env} {msg : Str} {p0 p1 p2 p3 p4 : Pos} {kk : Nat} (hapos : (p2.endLine == p4.line) = true) : eval (.Call (.Attribute (.Call (.Name "super" p0) [] [] p1) "__init__" p2) [.Constant (.str msg) kk p3] [] p4) env = (do
      let ov ← attributeBase (.Call (.Name "super" p0) [] [] p1) "__init__" env (eval (.Call (.Name "super" p0) [] [] p1) env)
      standAt p2.atName
      let (f, first) ← holding [ov] (getMethod ov "__init__" (do return (← importBound (.Call (.Name "super" p0) [] [] p1) env).getD true))
      callWith p4 f first (backTo p4 (starEach [.Constant (.str msg) kk p3] env)) []) := by
  show (do
    let ov ← attributeBase (.Call (.Name "super" p0) [] [] p1) "__init__" env (eval (.Call (.Name "super" p0) [] [] p1) env)
    standAt p2.atName
    methodCall (.Call (.Name "super" p0) [] [] p1) "__init__" p2 p4 env ov 1 (backTo p4 (starEach [.Constant (.str msg) kk p3] env)) (backToKw p4 (keywordEach [] env))) = _
  unfold methodCall calleeOf methodCallPos
  have few : methodCallForm 1 (backTo p4 (starEach [.Constant (.str msg) kk p3] env)) (backToKw p4 (keywordEach [] env)) = true := rfl
  simp only [few, if_true, hapos, Bool.not_true, Bool.false_or, pure_bind]
  rfl
section
variable {CX : CXT} {P : Program} {w : World} {K : PySem.W.Frag} {mg : Str → Option Value} {base : Heap} {N ps : List Str} {k : Nat} {sp : Sp} {name qual sf msg : Str} {params : Arguments} {body rest : List Stmt} {scope : Scope} {dV kV doc pm ct oc : Value} {an od : Option Addr} {osl : Array (Option Value)} {f cc cda D : Addr} {p0 p1 p2 p3 p4 p5 : Pos} {kk : Nat}
/-- the words of such a def -/
abbrev supF (name qual : Str) (params : Arguments) (body : List Stmt) (scope : Scope) (cda cc : Addr) : NF := ⟨name, qual, params, body, scope, [("__class__", cc)], cda⟩
theorem fn_sup (lk : K.lookup f = some ⟨oc, od, .func (PySem.W.fnX name qual params body scope [("__class__", cc)] dV kV doc pm an (.ref cda) ct), osl⟩) (hcd : PySem.W.codeIn K (.ref cda) qual = true)
    (SC : SupC P K mg D f cda cc (PySem.W.fnX name qual params body scope [("__class__", cc)] dV kV doc pm an (.ref cda) ct) sf) (NS : NScope N ps ["__class__"] scope)
    (hbd : body = .Expr (.Call (.Attribute (.Call (.Name "super" p0) [] [] p1) "__init__" p2) [.Constant (.str msg) kk p3] [] p4) p5 :: rest)
    (hks : scope.names.lookup ("super" : Str) = some .globalImplicit) (hkc : scope.names.lookup ("__class__" : Str) = some .free) (hka : scope.names.lookup sf = some .local) (hN0 : N[0]? = some sf)
    (hapos : (p2.endLine == p4.line) = true)
    (len : ∀ vs H Q E, sp vs H Q E → vs.length = ps.length)
    (hbody : ∀ (A : Around) (outer : List Env) (s : Shared) (H : Hp) (vs : List V) (Q : VK) (E : XK), Room k (A.deeper (envF (supF name qual params body scope cda cc) f s.heap.objs.size)) → sp vs H Q E →
      (∃ a C r, vs = .ref a :: r ∧ SupM K C D ∧ H a = some (exo a C none)) ∧ ∃ t, PSs (ncx CX P w K mg base N (supF name qual params body scope cda cc) f A outer s H E) rest t ∧ t { nx := fun _ H' => Q .non H', rt := Q } (startF N vs [none]) H) :
    FnOk P w K mg base CX (k + 1) f (PySem.W.fnX name qual params body scope [("__class__", cc)] dV kV doc pm an (.ref cda) ct) ps sp := by
  refine ⟨len, fun A outer s H args us vs Q E hr e0 hb r hsp => ?_⟩
  have hl := len _ _ _ _ hsp
  have KX : K.In s.heap := e0.mod.kin.keeps fun b o e => (e0.bs b o e).1
  have lim : s.heap.NoLimit := e0.mod.nolimit.keeps fun b o e => (e0.bs b o e).1
  obtain ⟨cl, cld, csl, hcc⟩ := SC.cell
  have hbc := e0.mod.kin _ _ hcc
  have C : CellsAt [(("__class__" : Str), cc)] ["__class__"] [none] s.heap H := by
    refine ⟨rfl, fun y c h => ?_, fun x y c h1 h2 => ?_, fun i y h => ?_⟩
    · have hc : c = cc := by
        rw [List.lookup_cons] at h
        split at h
        · exact (Option.some.inj h).symm
        · cases h
      subst hc
      exact ⟨(e0.bs _ _ hbc).2, _, ⟨_, KX _ _ hcc, rfl⟩⟩
    · rw [List.lookup_cons] at h1 h2
      split at h1
      · rename_i q1
        split at h2
        · rename_i q2
          rw [eq_of_beq q1, eq_of_beq q2]
        · cases h2
      · cases h1
    · cases i with
      | zero =>
        have : y = "__class__" := by simpa using h.symm
        subst this
        exact ⟨cc, by simp, fun v z => by simp at z⟩
      | succ i => simp at h
  subst hbd
  refine PySem.ks_codeAny_call_defAt (fd := PySem.W.fnX name qual params _ scope [("__class__", cc)] dV kV doc pm an (.ref cda) ct) (binds := ps.zip us) hr.depth (KX _ _ lk) rfl lim (PySem.W.codeRec_of KX hcd) rfl hb NS.nocell (fun ⟨n, v⟩ hy => NS.par n (List.of_mem_zip hy).1) (fun h₁ hns kp => ?_) NS.co NS.gen NS.kind
  obtain ⟨⟨a, Cx', rr, rfl, M, ea⟩, t, ht, hq⟩ := hbody A outer s H vs Q E (hr.deeper _) hsp
  have I : Inv (ncx CX P w K mg base N (supF name qual params (.Expr (.Call (.Attribute (.Call (.Name "super" p0) [] [] p1) "__init__" p2) [.Constant (.str msg) kk p3] [] p4) p5 :: rest) scope cda cc) f A outer s H E) [] (startF N (V.ref a :: rr) [none]) H { s with heap := h₁, toks := s.toks + (ps.zip us).length } := inv_startN NS hr.hd e0 hl r C hns kp
  have hint : interactive (ncx CX P w K mg base N (supF name qual params (.Expr (.Call (.Attribute (.Call (.Name "super" p0) [] [] p1) "__init__" p2) [.Constant (.str msg) kk p3] [] p4) p5 :: rest) scope cda cc) f A outer s H E).env = false := by
    show interactive (PySem.W.envX qual scope s.heap.objs.size f (.ref cda) [("__class__", cc)]) = false
    unfold interactive
    simp [NS.kind]
  refine PySem.ks_wpAt_execs_cons ?_
  refine PySem.ks_wpAt_mono (sup_block I SC M hint hks hkc hka rfl rfl (by show ([(("__class__" : Str), cc)] : List (Str × Addr)).lookup ("__class__" : Str) = some cc; simp) hN0 rfl ea (sup_eval hapos)) (fun fl s' hs => ?_) (fun e s' hs => hs)
  obtain ⟨rfl, J⟩ := hs
  refine PySem.wpAt_of_wpAny (wpAny_mono (ht.run [] _ _ H _ J hq) (fun fl s' hs => ?_) fun e s' hs => hs)
  have fin : ∀ {σ' : L2.St} {H' : Hp} {v : V} {u : Value}, Inv (ncx CX P w K mg base N (supF name qual params (.Expr (.Call (.Attribute (.Call (.Name "super" p0) [] [] p1) "__init__" p2) [.Constant (.str msg) kk p3] [] p4) p5 :: rest) scope cda cc) f A outer s H E) [] σ' H' s' → L2.RelV v u → Q v H' → CE outer P w H s Q u s' :=
    fun {σ' H' v u} J rv q => ⟨v, H', J.os, J.bare, J.base, J.hok, rv, q⟩
  cases fl with
  | ret u =>
    obtain ⟨v, σ', H', J, rv, q⟩ := hs
    exact fin J rv q
  | next =>
    obtain ⟨σ', H', J, q⟩ := hs
    exact fin (v := V.non) (u := Value.none) J rfl q
  | brk =>
    obtain ⟨_, _, _, q⟩ := hs
    exact False.elim q
  | cont =>
    obtain ⟨_, _, _, q⟩ := hs
    exact False.elim q
end
end Nn

/-! list(range(n)) -/
namespace Nn
open PySem PySem.Spec PyProof.Rows L2 Lb
def rgLK (own : Bool) (d : D) (s1 : S) : R D := match d with
  | .int j => if okR j = true ∧ j ≤ 1000000 then newL own (rgD 0 j.toNat) s1 else .bad
  | _ => .bad
def mLstRg (own : Bool) (m : ME) : ME := fun env st => (m env st).bind (rgLK own)
section
variable {X : Cx} {z : Zc} {W : WM} {ρ : List Addr} {st : S} {H : Hp} {a : Expr} {ma : ME} {p p2 pos pos2 : Pos} {own : Bool} {env : Ev} {j : Int}
theorem rg_rv : ∀ l : List Nat, RVs z ρ H (l.map fun i => D.int (0 + (i : Nat))) (l.map fun i => V.int (0 + (i : Nat)))
  | [] => RVs.nil
  | i :: l => RVs.cons rv_int (rg_rv l)
theorem q_listRg (hc : X.calm = true) (hg : Gl X "list") (hm : X.mg "list" = none) (hg2 : Gl X "range") (hm2 : X.mg "range" = none) (ha : PE X a (tE z W ma)) (na : starEach [a] X.env = (false, eval a X.env) :: starEach [] X.env := by rfl)
    (na2 : starEach [.Call (.Name "range" p) [a] [] pos] X.env = (false, eval (.Call (.Name "range" p) [a] [] pos) X.env) :: starEach [] X.env := by rfl) : PE X (.Call (.Name "list" p2) [.Call (.Name "range" p) [a] [] pos] [] pos2) (tE z W (mLstRg own ma)) := pe_imp (pe_listRg hc hg hm (prg_1 hg2 hm2 ha na) na2) (by
  rintro σ H Q ⟨ρ, st, env, rs, re, h⟩
  refine ⟨ρ, st, env, rs, re, h.bind fun d s1 ρ1 H1 x e1 rs1 rv1 h1 => ?_⟩
  unfold rgLK at h1
  split at h1
  · split at h1
    · rename_i j hb
      have b := okR_of hb.1
      refine ⟨_, rvi rv1, ⟨by omega, by omega, by omega, by omega, by omega⟩, fun q hq => ?_⟩
      have e : rgV 0 j = (List.range j.toNat).map fun i => V.int (0 + (i : Nat)) := by unfold rgV; rw [Int.sub_zero]
      rw [e]
      exact Post.lst h1 rs1 (rg_rv _) q hq
    · exact h1.elim
  · exact h1.elim)
theorem lstRg_ap : mLstRg own ma env st = (ma env st).bind (rgLK own) := rfl
theorem rgLK_ap (h : 0 ≤ j ∧ j ≤ 1000) : rgLK own (.int j) st = newL own (rgD 0 j.toNat) st := by
  unfold rgLK
  simp only
  rw [if_pos ⟨okR_small ⟨h.1, by omega⟩, by omega⟩]
end
end Nn
namespace Nn
open PySem PySem.Spec PyProof.Rows L2 Lb
section
variable {st : S} {n : Nat} {l : List D} {own : Bool} {lo hi : Option Int} {i j : Int} {d : D}
def tupO (q : Option O) (st : S) : R D := match q with
  | some (.lst l) => .ok (.tup l) st
  | _ => .bad
theorem tuple_lc : fTuple [.loc n] st = tupO (st[n]?) st := by
  cases h : st[n]? with
  | none => simp only [fTuple, tupO, seqD, rdL, h]
  | some o => cases o <;> simp only [fTuple, tupO, seqD, rdL, h]
theorem tupO_lst : tupO (some (.lst l)) st = .ok (.tup l) st := rfl
def slO (q : Option O) (own : Bool) (lo hi : Option Int) (st : S) : R D := match q with
  | some (.lst l) => newL own (cutD l lo hi) st
  | _ => .bad
theorem sl_lc : fSl own (.loc n) lo hi st = slO (st[n]?) own lo hi st := by
  cases h : st[n]? with
  | none => simp only [fSl, slO, seqD, rdL, h]
  | some o => cases o <;> simp only [fSl, slO, seqD, rdL, h]
theorem slO_lst : slO (some (.lst l)) own lo hi st = newL own (cutD l lo hi) st := rfl
theorem min2_int : fMin2 [.int i, .int j] st = .ok (.int (if j < i then j else i)) st := rfl
theorem max2_int' : fMax2 [.int i, .int j] st = .ok (.int (if j > i then j else i)) st := rfl
end
end Nn

namespace Nn
open PySem PySem.Spec PyProof.Rows L2 Lb Sem
theorem wp_execs_app {M : Model} {A : Around} {Γ : PySem.Ctx} (hΓ : Γ.In A) {b : List Stmt} {env : Env} {Q : Flow → Shared → Prop} {E : Value → Shared → Prop} : ∀ (a : List Stmt) (p : Pos) (s : Shared), wp M Γ (execs a env) (fun f _ s' => match f with | .next => wpAny M A (execs b env) Q E s' | f => Q f s') (fun e _ s' => E e s') p s → wp M Γ (execs (a ++ b) env) (fun f _ s' => Q f s') (fun e _ s' => E e s') p s
  | [], p, s, h => by
    rw [execs_nil, Sem.wp_pure'] at h
    exact h Γ p hΓ
  | st :: a, p, s, h => by
    rw [execs_cons, Sem.wp_bind'] at h
    rw [List.cons_append, execs_cons, Sem.wp_bind']
    refine Sem.wp_mono M Γ _ (fun f p' s' h' => ?_) (fun _ _ _ h' => h') _ _ h
    cases f with
    | next => exact wp_execs_app hΓ a p' s' h'
    | ret v => rw [Sem.wp_pure'] at h' ⊢; exact h'
    | brk => rw [Sem.wp_pure'] at h' ⊢; exact h'
    | cont => rw [Sem.wp_pure'] at h' ⊢; exact h'
theorem pss_app {X : Cx} {a b : List Stmt} {t u : TS} (h1 : PSs X a t) (h2 : PSs X b u) : PSs X (a ++ b) (tSeq t u) := by
  refine ⟨fun pins s σ H D I h => fun Γ p hΓ => wp_execs_app hΓ a p s (Sem.wp_mono (model X.prog X.w) Γ _ (fun f p' s' q => ?_) (fun _ _ _ h' => h') _ _ (h1.run pins s σ H { D with nx := u D } I h Γ p hΓ))⟩
  cases f with
  | next =>
    obtain ⟨σ', H', I', q⟩ := q
    exact h2.run pins s' σ' H' D I' q
  | ret v => exact q
  | brk => exact q
  | cont => exact q
/-- the first n rows of a suite, then the others -/
theorem qs_app {z : Zc} {X : Cx} {W : WM} {ma mb : MS} {ss : List Stmt} (n : Nat) (h1 : PSs X (ss.take n) (tS z W ma)) (h2 : PSs X (ss.drop n) (tS z W mb)) : PSs X ss (tS z W (mSeq ma mb)) := by
  rw [← List.take_append_drop n ss]
  exact pss_imp (pss_app h1 h2) s_seq
end Nn

/-! errors: an own error class with one field, raise, defs that may raise, their calls, try .. except X as e -/
namespace Nn
open PySem PySem.Spec PyProof.Rows L2 Lb NdefX
/-- the promise of an error's __init__: the field f is set -/
def spErr (K : PySem.W.Frag) (D : Addr) (f : Str) : Sp := fun vs H Q _ => ∃ (a C : Addr) (v : V), vs = [.ref a, v] ∧ SupM K C D ∧ PySem.W.findIn K (.ref C) f = some none ∧ H a = some (exo a C none) ∧
  ∀ d, H d = none → d ≠ a → Q .non (upd (upd H d (exd d [(f, v)])) a (exo a C (some d)))
section
variable {CX : CXT} {P : Program} {w : World} {K : PySem.W.Frag} {mg : Str → Option Value} {base : Heap} {k : Nat} {name qual sf xf f msg : Str} {params : Arguments} {body : List Stmt} {scope : Scope} {dV kV doc pm ct oc : Value} {an od : Option Addr} {osl : Array (Option Value)} {fa cc cda D : Addr} {p0 p1 p2 p3 p4 p5 q1 q2 q3 q4 : Pos} {kk : Nat}
theorem fn_err (lk : K.lookup fa = some ⟨oc, od, .func (PySem.W.fnX name qual params body scope [("__class__", cc)] dV kV doc pm an (.ref cda) ct), osl⟩) (hcd : PySem.W.codeIn K (.ref cda) qual = true)
    (SC : SupC P K mg D fa cda cc (PySem.W.fnX name qual params body scope [("__class__", cc)] dV kV doc pm an (.ref cda) ct) sf) (NS : NScope [sf, xf, "__class__"] [sf, xf] ["__class__"] scope)
    (hbd : body = [.Expr (.Call (.Attribute (.Call (.Name "super" p0) [] [] p1) "__init__" p2) [.Constant (.str msg) kk p3] [] p4) p5, .Assign [.Attribute (.Name sf q1) f q2] (.Name xf q3) q4])
    (hks : scope.names.lookup ("super" : Str) = some .globalImplicit) (hkc : scope.names.lookup ("__class__" : Str) = some .free) (hka : scope.names.lookup sf = some .local) (hkx : scope.names.lookup xf = some .local)
    (hapos : (p2.endLine == p4.line) = true) (d1 : (sf == ("__debug__" : Str)) = false) (d2 : (sf == ("__classdict__" : Str)) = false) (d3 : (xf == ("__debug__" : Str)) = false) (d4 : (xf == ("__classdict__" : Str)) = false) :
    FnOk P w K mg base CX (k + 1) fa (PySem.W.fnX name qual params body scope [("__class__", cc)] dV kV doc pm an (.ref cda) ct) [sf, xf] (spErr K D f) := by
  refine fn_sup (rest := [.Assign [.Attribute (.Name sf q1) f q2] (.Name xf q3) q4]) lk hcd SC NS hbd hks hkc hka rfl hapos (fun vs H Q E h => ?_) (fun A outer s H vs Q E hr h => ?_)
  · obtain ⟨a, C, v, rfl, _⟩ := h
    rfl
  · obtain ⟨a, C, v, rfl, M, hf, ea, hq⟩ := h
    refine ⟨⟨a, C, _, rfl, M, ea⟩, _, pss_one (ps_ost (pe_var (i := 0) rfl (.inl hka) d1 d2) (pe_var (i := 1) rfl (.inl hkx) d3 d4)), ?_⟩
    exact ⟨v, rfl, .ref a, rfl, a, C, rfl, M.T, hf, .inl ⟨ea, fun dx n ne => hq dx n ne⟩⟩
end
/-! raise -/
/-- raise c(e): the error has the one field f -/
def mRaise (c : String) (f : Str) (ar : MA) : MS := fun env st => (ar env st).bindS env fun ds s1 => match ds with
  | [d] => .ex c [(f, d)] env s1
  | _ => .bad
theorem heap_back {H : Hp} {a d : Addr} {u1 u2 u3 u4 : HO} (ha : H a = none) (hne : d ≠ a) : upd (del (upd (upd (upd H a u1) d u2) a u3) a) d u4 = upd H d u4 := by
  funext b
  by_cases hb : b = d
  · rw [hb, upd_same, upd_same]
  · rw [upd_ne hb, upd_ne hb]
    by_cases hb2 : b = a
    · rw [hb2, del_same, ha]
    · rw [del_ne hb2, upd_ne hb2, upd_ne hb, upd_ne hb2]
section
variable {X : Cx} {z : Zc} {Wx : WX} {c : String} {f x : Str} {C D fI : Addr} {k : Nat} {fd : FuncData} {ps : List Str} {CX : CXT} {e : Expr} {es : List Expr} {ar : MA} {p pos pos' : Pos}
theorem q_raise (hz : z.K = X.K) (hc : X.calm = true) (tk : Takes X Wx) (hcm : z.cm c = some C) (M : SupM X.K C D) (hno : PySem.W.findIn X.K (.ref C) f = some none) (iC : PySem.W.findIn X.K (.ref C) "__init__" = some (some (.ref fI))) (tI : PySem.W.typeIn X.K (.ref fI) = some (.type "function"))
    (F : FnOk X.prog X.w X.K X.mg X.base CX0 k fI fd ps (spErr X.K D f)) (hr : Room (k + 1) X.A) (hb : Binds X.K fd ps []) (hg : Gl X x) (hm : X.mg x = some (.ref C)) (ha : PA X (e :: es) (tA z (wX z Wx) ar))
    (hdb : (x == ("__debug__" : Str)) = false := by decide) (he : starEach (e :: es) X.env = (false, eval e X.env) :: starEach es X.env := by rfl) (hpl : (backTo pos (starEach es X.env)).any (·.1) = false := by rfl) :
    PS X (.Raise (some (.Call (.Name x p) (e :: es) [] pos)) none pos') (tS z (wX z Wx) (mRaise c f ar)) := by
  refine ps_imp (ps_raise hc tk (pmk_oex M.T iC tI F hr hb .nil pass0 hg hm ha hdb he hpl)) ?_
  rintro D' σ H ⟨ρ, st, env, rs, re, h⟩
  refine ⟨ρ, st, env, rs, re, Post.bindS (W := wX z Wx) h re fun ds s1 ρ1 H1 vs e1 rs1 rv1 h1 => ?_⟩
  split at h1
  · rename_i d
    have hl := rv1.length
    unfold RVs at rv1
    obtain ⟨v, r, rfl, rv, rr⟩ := rv1
    have : r = [] := by unfold RVs at rr; exact rr
    subst this
    refine ⟨by simp, fun a ha1 => ⟨a, C, v, rfl, M, hno, upd_same, fun dd hd hne => ⟨rfl, dd, [(f, v)], ?_, ?_, ?_, ?_⟩⟩⟩
    · rw [upd_same]
    · rw [upd_ne hne, upd_same]
    · rw [upd_ne hne] at hd
      exact hd
    · rw [heap_back ha1 hne]
      have hd1 : H1 dd = none := by rw [upd_ne hne] at hd; exact hd
      refine h1 ρ1 _ σ (Ext.new hd1) (rs1.tup hd1) ((re.ext e1).ext (Ext.new hd1)) C (some dd) hcm ?_
      exact ⟨[(f, v)], upd_same, rs1.free hd1, rfl, RVs.cons (rv.ext (Ext.new hd1)) RVs.nil⟩
  · exact h1.elim
end
/-! a def that may raise, its calls -/
section
variable {P : Program} {w : World} {K : PySem.W.Frag} {mg : Str → Option Value} {base : Heap} {cm : String → Option Addr}
theorem ok_defX {x qual : Str} {s0 : Stmt} {f : Addr} {fd : FuncData} {N ps : List Str} {k : Nat} {own : Bool} {m : MS} (F : Fun K x qual s0 f fd) (sc : FnScope N ps (defScope s0))
    (hd : ∀ (av : Addr → Prop) (cdv : Value) (A : Around) (outer : List Env) (s : Shared) (H : Hp) (E : XK), Room k (A.deeper (envOfC qual (defScope s0) s.heap.objs.size f cdv)) →
      Takes (cxOf (L2.CX P w) P w K mg base N qual (defScope s0) f cdv A outer s H E) (fun cls d _ H => E cls d H) → PassesOwn (model P w) (A.deeper (envOfC qual (defScope s0) s.heap.objs.size f cdv)) (envOfC qual (defScope s0) s.heap.objs.size f cdv) (cxOf (L2.CX P w) P w K mg base N qual (defScope s0) f cdv A outer s H E).xe →
      PSs (cxOf (L2.CX P w) P w K mg base N qual (defScope s0) f cdv A outer s H E) (defBody s0) (tS ⟨K, cm, av, none⟩ (wX ⟨K, cm, av, none⟩ fun cls d _ H => E cls d H) m)) :
    FnOk P w K mg base (L2.CX P w) (k + 1) f fd ps (spM K cm ps.length (fnM own N.length m)) := by
  refine F.okX sc (fun vs H Q E h => ?_) (fun cdv A outer s H vs Q E hr h => ?_)
  · obtain ⟨av, ρ, st, ds, hl, _⟩ := h
    exact hl
  · obtain ⟨av, ρ, st, ds, hl, rs, rv, q⟩ := h
    exact ⟨_, hd av cdv A outer s H E hr (takes_of rfl rfl rfl rfl) (passes_of rfl), ρ, st, startM N.length ds, rs, re_start rv, fin_post rs q⟩
end
section
variable {X : Cx} {z : Zc} {Wx : WX} {pos : Pos} {es : List Expr} {e : Expr} {ar : MA} {md : List Bool} {g : Fn}
theorem s_callX : ∀ σ H Q, tE z (wX z Wx) (mCall md g ar) σ H Q → tCallS (spM z.K z.cm md.length g) (WE Wx) (tA z (wX z Wx) ar) σ H Q := by
  rintro σ H Q ⟨ρ, st, env, rs, re, h⟩
  refine ⟨ρ, st, env, rs, re, h.bind fun ds s1 ρ1 H1 xs e1 rs1 rv1 h1 => ?_⟩
  have hb : callF md g ds s1 ≠ .bad := fun q => by rw [q] at h1; exact h1
  obtain ⟨av, ρm, mini, ds', a1, a2, a3⟩ := callF_post (E := WE Wx σ) rs1 rv1 h1 fun _ _ _ _ _ _ _ q => q
  refine ⟨av, ρm, mini, ds', ?_, a1, a2, a3⟩
  rw [← RVs.length rv1]
  exact callF_len hb
theorem q_callX {x : Str} {p : Pos} {n : Nat} {f : Addr} {fd : FuncData} {ps : List Str} (tk : Takes X Wx) (hl : md.length = ps.length := by rfl) (F : FnOk X.prog X.w X.K X.mg X.base (L2.CX X.prog X.w) n f fd ps (spM z.K z.cm ps.length g)) (hr : Room n X.A) (hg : Gl X x) (hm : X.mg x = some (.ref f)) (hk : PySem.W.keepIn X.K (.ref f) = true) (hb : Binds X.K fd ps [])
    (ha : PA X (e :: es) (tA z (wX z Wx) ar)) (hdb : (x == ("__debug__" : Str)) = false := by decide) (he : starEach (e :: es) X.env = (false, eval e X.env) :: starEach es X.env := by rfl) (hpl : (backTo pos (starEach es X.env)).any (·.1) = false := by rfl) :
    PE X (.Call (.Name x p) (e :: es) [] pos) (tE z (wX z Wx) (mCall md g ar)) := pe_imp (pe_callS F hr hg hm hk hb (passAt tk) ha hdb he hpl) (by rw [← hl]; exact s_callX)
end
/-! try .. except X as e -/
/-- the same places, another error in hand -/
abbrev hand (z : Zc) (x : Option (Addr × Value × Option Addr)) : Zc := ⟨z.K, z.cm, z.av, x⟩
section
variable {z : Zc} {x y : Option (Addr × Value × Option Addr)} {ρ ρ' : List Addr} {H H' : Hp} {st : S} {d : D} {v : V} {l : List D} {xs : List V}
theorem car_hand : Car (hand z x) ρ H (hand z y) ρ H (fun _ => True) := ⟨rfl, rfl, fun _ _ _ h => h, fun _ _ h => h, fun a u h n => ⟨u, h, .inl rfl, n⟩⟩
theorem RV.hand (h : RV (hand z x) ρ H d v) : RV (hand z y) ρ H d v := h.car car_hand (low_T d)
theorem RVs.hand (h : RVs (hand z x) ρ H l xs) : RVs (hand z y) ρ H l xs := h.car car_hand (lows_T l)
theorem RO.hand {o : O} {a : Addr} (h : RO (hand z x) ρ H o a) : RO (hand z y) ρ H o a := by
  cases o with
  | lst l => obtain ⟨xs, q, r⟩ := h; exact ⟨xs, q, r.hand⟩
  | dic l => obtain ⟨ys, q, k, r⟩ := h; exact ⟨ys, q, k, r.hand⟩
  | ins c f => obtain ⟨C, dx, ys, c1, q, d, na, k, r⟩ := h; exact ⟨C, dx, ys, c1, q, d, na, k, r.hand⟩
theorem RS.hand (h : RS (hand z x) ρ st H) : RS (hand z y) ρ st H := ⟨h.len, h.inj, fun n o a e1 e2 => (h.obj n o a e1 e2).hand, h.avo, h.avh⟩
theorem Ext.hand (h : Ext (hand z x) ρ H ρ' H') : Ext (hand z y) ρ H ρ' H' := ⟨h.pl, h.tp, h.kq, h.nw⟩
theorem hand_eq (z : Zc) : Nn.hand z z.exa = z := rfl
end
/-- the suite's name is let go -/
def outX (j : Nat) (r : Rt) : Rt := match r with
  | .nx env st => .nx ⟨env.sl.set j none, none⟩ st
  | .bk env st => .bk ⟨env.sl.set j none, none⟩ st
  | .ct env st => .ct ⟨env.sl.set j none, none⟩ st
  | .rt d st => .rt d st
  | _ => .bad
/-- try: mb, except X as (slot j): ms; sub tells which errors are caught -/
def mTry (sub : String → Option Bool) (j : Nat) (mb ms : MS) : MS := fun env st => match mb env st with
  | .ex c fs env' st' => match sub c with
    | some true => if j < env'.sl.length then outX j (ms ⟨env'.sl.set j none, some (j, c, fs)⟩ st') else .bad
    | some false => .ex c fs env' st'
    | none => .bad
  | r => r
/-- the suite's wish: no error leaves it -/
abbrev WN : WM := fun _ _ _ _ _ _ _ => False
section
variable {X : Cx} {z : Zc} {x n : Str} {cv : Value} {j : Nat} {body suite : List Stmt} {b₀ : Stmt} {np pos pos' : Pos} {mb ms : MS} {Wx : WX} {sub : String → Option Bool}
theorem RE.gone {ρ : List Addr} {H : Hp} {env : Ev} {σ : L2.St} (h : RE z ρ H env σ) (y : Option (Addr × Value × Option Addr)) : RE (hand z y) ρ H ⟨env.sl.set j none, none⟩ (σ.set j none) := by
  refine ⟨by simp [h.1], fun i d e => ?_, fun _ _ _ e => nomatch e⟩
  have e : (env.sl.set j none)[i]? = some (some d) := e
  by_cases hj : j = i
  · subst hj
    by_cases hi : j < env.sl.length
    · rw [List.getElem?_set_self hi] at e
      cases e
    · rw [List.getElem?_eq_none (by simp; omega)] at e
      cases e
  · rw [List.getElem?_set_ne hj] at e
    obtain ⟨v, h1, h2⟩ := h.2.1 i d e
    exact ⟨v, by rw [List.getElem?_set_ne hj]; exact h1, RV.hand (z := z) (x := z.exa) h2⟩
theorem RE.caught {ρ : List Addr} {H : Hp} {env : Ev} {σ : L2.St} {a C : Addr} {dx : Option Addr} {c : String} {fs : List (Str × D)} (h : RE z ρ H env σ) (hj : j < σ.length) (hcm : z.cm c = some C)
    (hd : match dx with
      | none => fs = []
      | some d => ∃ ys : List (Str × V), H d = some (.xd ys) ∧ d ∉ ρ ∧ ys.map (·.1) = fs.map (·.1) ∧ RVs z ρ H (fs.map (·.2)) (ys.map (·.2))) :
    RE (hand z (some (a, .ref C, dx))) ρ H ⟨env.sl.set j none, some (j, c, fs)⟩ (σ.set j (some (.ref a))) := by
  refine ⟨by simp [h.1], fun i d e => ?_, fun j' c' fs' e => ?_⟩
  · have e : (env.sl.set j none)[i]? = some (some d) := e
    by_cases hi : j = i
    · subst hi
      rw [List.getElem?_set_self (by rw [h.1]; exact hj)] at e
      cases e
    · rw [List.getElem?_set_ne hi] at e
      obtain ⟨v, h1, h2⟩ := h.2.1 i d e
      exact ⟨v, by rw [List.getElem?_set_ne hi]; exact h1, RV.hand (z := z) (x := z.exa) h2⟩
  · cases e
    refine ⟨a, C, dx, rfl, hcm, List.getElem?_set_self hj, ?_⟩
    cases dx with
    | none => exact hd
    | some d =>
      obtain ⟨ys, k1, k2, k3, k4⟩ := hd
      exact ⟨ys, k1, k2, k3, RVs.hand (z := z) (x := z.exa) k4⟩
theorem q_try (hz : z.K = X.K) (hs : X.stack = X.env :: X.outer) (hf : X.env.frame = some X.env.locals) (hN : X.N.Nodup) (hi : X.N[j]? = some n) (hln : X.env.kindOf n = some .local) (hc : Names X x cv) (tk : Takes X Wx)
    (hsub : ∀ c b, sub c = some b → ∀ C, z.cm c = some C → PySem.W.exmOne X.K (.ref C) cv = some b)
    (hb : ∀ (W : WX) (pn : List (Addr × Obj)) (xe : Value → Shared → Prop), Takes (X.tr pn xe) W → PassesOwn (model X.prog X.w) X.A X.env xe → PSs (X.tr pn xe) body (tS z (wX z W) mb))
    (hsu : ∀ (a : Addr) (oe : Obj) (cls : Value) (d : Option Addr) (pn : List (Addr × Obj)), L2.Zc cls d oe → (∃ vs, oe.data = .fields vs) → PSs (X.suite a ((a, oe) :: pn)) (b₀ :: suite) (tS (hand z (some (a, cls, d))) WN ms)) :
    PS X (.Try body [.ExceptHandler (some (.Name x np)) (some n) (b₀ :: suite) pos'] [] [] pos) (tS z (wX z Wx) (mTry sub j mb ms)) := by
  refine ps_imp (ps_try_as (ts := fun a cls d => tS (hand z (some (a, cls, d))) WN ms) (tb := fun W => tS z (wX z W) mb) hs hf hN hi hln hc tk hb hsu) ?_
  rintro D' σ H ⟨ρ, st, env, rs, re, h⟩
  refine ⟨ρ, st, env, rs, re, ?_⟩
  unfold mTry at h
  cases hm : mb env st with
  | bad => rw [hm] at h; exact h
  | nx env' st' => rw [hm] at h; exact h
  | rt d st' => rw [hm] at h; exact h
  | bk env' st' => rw [hm] at h; exact h
  | ct env' st' => rw [hm] at h; exact h
  | ex c fs env' st' =>
    rw [hm] at h
    simp only at h
    intro ρ1 H1 σ1 e1 rs1 re1 C dx hC hd
    cases hsb : sub c with
    | none => rw [hsb] at h; exact h.elim
    | some b =>
      rw [hsb] at h
      refine ⟨b, hsub c b hsb C hC, fun hbt a na => ?_, fun hbf => ?_⟩
      · subst hbt
        simp only at h
        split at h
        case isFalse => exact h.elim
        rename_i hj
        rw [re1.1] at hj
        have h1 : PostS z ρ1 H1 (outX j (ms ⟨env'.sl.set j none, some (j, c, fs)⟩ st')) D' (wX z Wx) := h.mono e1
        refine ⟨ρ1, st', _, RS.hand (z := z) (x := z.exa) rs1, RE.caught re1 hj hC hd, ?_⟩
        have E' : ∀ {ρ2 : List Addr} {H2 : Hp}, Ext (hand z (some (a, .ref C, dx))) ρ1 H1 ρ2 H2 → Ext z ρ1 H1 ρ2 H2 := fun e => Ext.hand (z := z) (y := z.exa) e
        have R' : ∀ {ρ2 : List Addr} {H2 : Hp} {s2 : S}, RS (hand z (some (a, .ref C, dx))) ρ2 s2 H2 → RS z ρ2 s2 H2 := fun e => RS.hand (z := z) (y := z.exa) e
        cases hr : ms ⟨env'.sl.set j none, some (j, c, fs)⟩ st' with
        | bad => rw [hr] at h1; exact h1
        | ex _ _ _ _ => rw [hr] at h1; exact h1.elim
        | rt d2 s2 =>
          rw [hr] at h1
          exact fun ρ2 H2 v e2 rs2 rv2 => h1 ρ2 H2 v (E' e2) (R' rs2) (RV.hand (z := z) (y := z.exa) rv2)
        | nx env2 s2 =>
          rw [hr] at h1
          exact fun ρ2 H2 σ2 e2 rs2 re2 => h1 ρ2 H2 (σ2.set j none) (E' e2) (R' rs2) (RE.gone re2 z.exa)
        | bk env2 s2 =>
          rw [hr] at h1
          exact fun ρ2 H2 σ2 e2 rs2 re2 => h1 ρ2 H2 (σ2.set j none) (E' e2) (R' rs2) (RE.gone re2 z.exa)
        | ct env2 s2 =>
          rw [hr] at h1
          exact fun ρ2 H2 σ2 e2 rs2 re2 => h1 ρ2 H2 (σ2.set j none) (E' e2) (R' rs2) (RE.gone re2 z.exa)
      · subst hbf
        exact h ρ1 H1 σ1 e1 rs1 re1 C dx hC hd
end
end Nn

/-! the caught error: e.f, isinstance(e, C) -/
namespace Nn
open PySem PySem.Spec PyProof.Rows L2 Lb
/-- what the written part says of an error's class, for isinstance -/
structure IsE (K : PySem.W.Frag) (C : Addr) : Prop where
  ga : PySem.W.findIn K (.ref C) "__getattribute__" = some (some (.builtin "BaseException.__getattribute__"))
  gt : PySem.W.findIn K (.ref C) "__getattr__" = some none
  sb : PySem.W.subIn K (.ref C) (.type "BaseException") = some true
  dc : PySem.W.hasDictIn K C = true
  cl : PySem.W.findIn K (.ref C) "__class__" = some (some (.builtin "object.__class__"))
  gs : PySem.W.specialIn K (.builtin "object.__class__") "__get__" = some (some (.builtin "getset_descriptor.__get__"))
  tk : PySem.W.takesIn K (.builtin "object.__class__") = some true
  mo : PySem.W.mroIn K C (.type "object") = some true
theorem IsE.some {K : PySem.W.Frag} {C : Addr} (T : IsE K C) : (PySem.W.clsIn K C).isSome = true := by
  obtain ⟨cd, hc, _⟩ := PySem.W.any_some T.dc
  rw [hc]
  rfl
/-- e.f, e in slot j the error of class c that is handled -/
def mXf (c : String) (j : Nat) (f : Str) : ME := fun env st => match env.x with
  | some (j', c', fs) => if j' = j ∧ c' = c then match fs.lookup f with
    | some d => .ok d st
    | none => .bad
    else .bad
  | none => .bad
/-- isinstance(e, C'): b is what the classes say -/
def mXis (c : String) (j : Nat) (b : Bool) : ME := fun env st => match env.x with
  | some (j', c', fs) => if j' = j ∧ c' = c ∧ fs ≠ [] then .ok (.bl b) st else .bad
  | none => .bad
section
variable {X : Cx} {z : Zc} {W : WM} {a C C2 : Addr} {oe : Obj} {cls : Value} {d : Option Addr} {pn : List (Addr × Obj)} {x x2 f : Str} {c : String} {j : Nat} {p p2 pos : Pos} {b : Bool}
theorem rvs_lookup {ρ : List Addr} {H : Hp} {f : Str} {v : D} : ∀ {fs : List (Str × D)} {ys : List (Str × V)}, ys.map (·.1) = fs.map (·.1) → RVs z ρ H (fs.map (·.2)) (ys.map (·.2)) → fs.lookup f = some v → ∃ y, ys.lookup f = some y ∧ RV z ρ H v y
  | [], _, _, _, h => by cases h
  | (g, u) :: fs, [], k, _, _ => by simp at k
  | (g, u) :: fs, (g', y) :: ys, k, r, h => by
    simp only [List.map_cons, List.cons.injEq] at k
    obtain ⟨rfl, k⟩ := k
    simp only [List.map_cons] at r
    unfold RVs at r
    obtain ⟨x, r', e, r1, r2⟩ := r
    simp only [List.cons.injEq] at e
    obtain ⟨rfl, rfl⟩ := e
    rw [List.lookup_cons] at h ⊢
    split at h
    · rename_i hb
      cases h
      exact ⟨y, rfl, r1⟩
    · exact rvs_lookup k r2 h
theorem q_xf (T : XfC X.K C) (hno : PySem.W.findIn X.K (.ref C) f = some none) (hcm : z.cm c = some C) (hz : L2.Zc cls d oe) (hf : ∃ vs, oe.data = .fields vs)
    (hN : X.N[j]? = some x := by rfl) (hv : Vis X.env.scope x := by first | exact .inl rfl | exact .inr (.inl rfl) | exact .inr (.inr rfl)) (hd : (x == ("__debug__" : Str)) = false := by decide) (hcd : (x == ("__classdict__" : Str)) = false := by decide)
    (hb : attributeBase (.Name x p) f (X.suite a ((a, oe) :: pn)).env (eval (.Name x p) (X.suite a ((a, oe) :: pn)).env) = eval (.Name x p) (X.suite a ((a, oe) :: pn)).env := by rfl) :
    PE (X.suite a ((a, oe) :: pn)) (.Attribute (.Name x p) f pos) (tE (hand z (some (a, cls, d))) W (mXf c j f)) := by
  refine pe_imp (pe_xf T hno hz hf (pe_var (X := X.suite a ((a, oe) :: pn)) (i := j) hN hv hd hcd) hb) ?_
  rintro σ H Q ⟨ρ, st, env, rs, re, h⟩
  unfold mXf at h
  split at h
  · rename_i j' c' fs ex
    split at h
    · rename_i hh
      obtain ⟨rfl, rfl⟩ := hh
      split at h
      · rename_i v hl
        obtain ⟨a', C', dx, h1, h2, h3, h4⟩ := re.2.2 _ _ _ ex
        simp only [hand, Option.some.injEq, Prod.mk.injEq] at h1
        obtain ⟨rfl, rfl, rfl⟩ := h1
        have h2 : z.cm c' = some C' := h2
        rw [hcm] at h2
        cases h2
        cases d with
        | none =>
          have : fs = [] := h4
          subst this
          cases hl
        | some dd =>
          obtain ⟨ys, k1, k2, k3, k4⟩ := h4
          obtain ⟨y, y1, y2⟩ := rvs_lookup k3 k4 hl
          exact ⟨.ref a, h3, rfl, rfl, dd, ys, y, rfl, k1, y1, h.ok rs y2⟩
      · exact h.elim
    · exact h.elim
  · exact h.elim
def rIsX (K : PySem.W.Frag) (C2 a C : Addr) (cls : Value) (d : Option Addr) (b : Bool) : List V → Hp → VK → Prop := fun xs H Q => xs = [.ref a, .ref C2] ∧ cls = .ref C ∧ (∃ (dd : Addr) (ys : List (Str × V)), d = some dd ∧ H dd = some (.xd ys)) ∧ Q (.bl b) H
theorem call_isX (T : IsE X.K C) (hk : PySem.W.kitOne X.K (.ref C) (.ref C2) = some b) (hz : L2.Zc cls d oe) (hf : ∃ vs, oe.data = .fields vs) : CallR (X.suite a ((a, oe) :: pn)) (.builtin "isinstance") (rIsX X.K C2 a C cls d b) := by
  intro pins s σ H xs us Q I r h
  obtain ⟨rfl, rfl, ⟨dd, ys, rfl, hd⟩, q⟩ := h
  cases r with
  | cons rx rr =>
    cases rr with
    | cons rt rr =>
      cases rr
      cases rx
      cases rt
      obtain ⟨hget, _⟩ := I.pin (a, oe) (List.mem_append_left _ List.mem_cons_self)
      have hx : ObjOk X.prog X.w H s.heap dd (.xd ys) := I.hok dd _ hd
      obtain ⟨mA, hns, _⟩ := hx
      obtain ⟨od, ho, _⟩ := lookIn_ns hns
      obtain ⟨vs, hv⟩ := hf
      have J : PySem.W.InstAt s.heap a oe C (some od) := ⟨hget, hz.1, by unfold PySem.W.notCls; rw [hv] <;> rfl, by rw [hz.2]; exact ho⟩
      exact PySem.W.kia_one (PySem.W.kitx_exc T.some T.ga T.gt T.sb T.cl T.gs T.tk T.mo) I.kIn J hk (fun z => nomatch z) fun tk => ⟨.bl b, H, I.kept (t' := tk) fun _ _ z => z, rfl, q⟩
theorem q_xis (T : IsE X.K C) (hk : PySem.W.kitOne X.K (.ref C) (.ref C2) = some b) (hcm : z.cm c = some C) (hz : L2.Zc cls d oe) (hf : ∃ vs, oe.data = .fields vs)
    (hg : Gl X "isinstance") (hm : X.mg "isinstance" = none) (hg2 : Gl X x2) (hm2 : X.mg x2 = some (.ref C2))
    (hN : X.N[j]? = some x := by rfl) (hv : Vis X.env.scope x := by first | exact .inl rfl | exact .inr (.inl rfl) | exact .inr (.inr rfl)) (hd : (x == ("__debug__" : Str)) = false := by decide) (hcd : (x == ("__classdict__" : Str)) = false := by decide) (hd2 : (x2 == ("__debug__" : Str)) = false := by decide) {p1 : Pos} :
    PE (X.suite a ((a, oe) :: pn)) (.Call (.Name "isinstance" p1) [.Name x p, .Name x2 p2] [] pos) (tE (hand z (some (a, cls, d))) W (mXis c j b)) := by
  refine pe_imp (pe_callB (X := X.suite a ((a, oe) :: pn)) (call_isX T hk hz hf) hg hm (by decide +kernel) (pa_cons (pe_var (X := X.suite a ((a, oe) :: pn)) (i := j) hN hv hd hcd) (pa_cons (pe_glob (X := X.suite a ((a, oe) :: pn)) (v := .ref C2) hg2 hm2 rfl hd2) pa_nil))) ?_
  rintro σ H Q ⟨ρ, st, env, rs, re, h⟩
  unfold mXis at h
  split at h
  · rename_i j' c' fs ex
    split at h
    · rename_i hh
      obtain ⟨rfl, rfl, hfs⟩ := hh
      obtain ⟨a', C', dx, h1, h2, h3, h4⟩ := re.2.2 _ _ _ ex
      simp only [hand, Option.some.injEq, Prod.mk.injEq] at h1
      obtain ⟨rfl, rfl, rfl⟩ := h1
      have h2 : z.cm c' = some C' := h2
      rw [hcm] at h2
      cases h2
      cases d with
      | none => exact absurd h4 hfs
      | some dd =>
        obtain ⟨ys, k1, k2, k3, k4⟩ := h4
        exact ⟨.ref a, h3, rfl, rfl, ⟨dd, ys, rfl, k1⟩, h.ok rs rv_bl⟩
    · exact h.elim
  · exact h.elim
end
end Nn

/-! repr of nested lists and tuples, where the guards are known -/
namespace Nn
open PySem PySem.Spec PyProof.Rows L2 Lb
mutual
/-- the data as the kit's own data -/
def pdD : D → Option PyData
  | .non => some .none
  | .bl b => some (.bool b)
  | .int i => some (.int i)
  | .str x => some (.str x)
  | .tup l => (pdDs l).map .tuple
  | .tuf l => (pdDs l).map .tuple
  | .fl l => (pdDs l).map .list
  | _ => none
def pdDs : List D → Option (List PyData)
  | [] => some []
  | d :: l => match pdD d, pdDs l with
    | some p, some ps => some (p :: ps)
    | _, _ => none
end
def pdT (st : S) : D → Option PyData
  | .loc n => match rdL st n with
    | some l => (pdDs l).map .list
    | none => none
  | d => pdD d
/-- may it be shown? -/
def okP' (p : PyData) : Bool := isDisplay p && p.showable && !p.hasDict && Nat.ble p.depth 100 && Nat.ble p.shown.length sizeLine
def fRepr : List D → S → R D
  | [d], st => match pdT st d with
    | some p => if okP' p = true then .ok (.str p.shown) st else .bad
    | none => .bad
  | _, _ => .bad
def rRepr (z : Zc) : List V → Hp → VK → Prop := fun xs H Q => ∃ (ρ : List Addr) (st : S) (d : D) (v : V) (p : PyData), xs = [v] ∧ RS z ρ st H ∧ RV z ρ H d v ∧ pdT st d = some p ∧ okP' p = true ∧ Q (.str p.shown) H
section
variable {X : Cx} {z : Zc} {pins : List (Addr × Obj)} {σ : L2.St} {H : Hp} {s : Shared} {ρ : List Addr}
mutual
theorem reads_of (hz : z.K = X.K) (I : Inv X pins σ H s) : ∀ {d : D} {v : V} {u : Value} {p : PyData}, RV z ρ H d v → RelV v u → pdD d = some p → ∃ as, Reads s.heap u p as
  | .non, v, u, p, r, q, e => by
    unfold pdD at e
    cases e
    rw [rvn r] at q
    cases q
    exact ⟨_, .none⟩
  | .bl b, v, u, p, r, q, e => by
    unfold pdD at e
    cases e
    rw [rvb r] at q
    cases q
    exact ⟨_, .bool b⟩
  | .int i, v, u, p, r, q, e => by
    unfold pdD at e
    cases e
    rw [rvi r] at q
    obtain ⟨t, rfl⟩ := q
    exact ⟨_, .int i t⟩
  | .str x, v, u, p, r, q, e => by
    unfold pdD at e
    cases e
    rw [rvs r] at q
    obtain ⟨t, rfl⟩ := q
    exact ⟨_, .str x t⟩
  | .tup l, v, u, p, r, q, e => by
    unfold pdD at e
    obtain ⟨ps, e1, rfl⟩ := Option.map_eq_some_iff.mp e
    obtain ⟨a, xs, rfl, ht, rs⟩ := rvt r
    cases q
    rw [hz] at ht
    obtain ⟨its, rv, ⟨o, ho, hc, n, hd⟩, _⟩ := I.tuple ht
    obtain ⟨as, ra⟩ := reads_all hz I rs rv e1
    exact ⟨_, .tuple ho hc hd (by simpa using ra)⟩
  | .tuf l, v, u, p, r, q, e => by
    unfold pdD at e
    obtain ⟨ps, e1, rfl⟩ := Option.map_eq_some_iff.mp e
    obtain ⟨a, xs, rfl, ht, rs⟩ := rvtf r
    cases q
    obtain ⟨its, rv, ⟨o, ho, hc, n, hd⟩, _⟩ := I.tuple (FzT.sq ht)
    obtain ⟨as, ra⟩ := reads_all hz I rs rv e1
    exact ⟨_, .tuple ho hc hd (by simpa using ra)⟩
  | .fl l, v, u, p, r, q, e => by
    unfold pdD at e
    obtain ⟨ps, e1, rfl⟩ := Option.map_eq_some_iff.mp e
    obtain ⟨a, xs, rfl, ht, rs⟩ := rvf r
    cases q
    obtain ⟨its, rv, ⟨o, n, ho, hc, hdd, hd⟩, _⟩ := I.list (SqL.of ht.1)
    obtain ⟨as, ra⟩ := reads_all hz I rs rv e1
    exact ⟨_, .list ho hc hd (by simpa using ra)⟩
  | .ty _, _, _, _, _, _, e => by unfold pdD at e; cases e
  | .loc _, _, _, _, _, _, e => by unfold pdD at e; cases e
  | .sc _, _, _, _, _, _, e => by unfold pdD at e; cases e
  | .fd _ _, _, _, _, _, _, e => by unfold pdD at e; cases e
  | .fo _ _ _, _, _, _, _, _, e => by unfold pdD at e; cases e
theorem reads_all (hz : z.K = X.K) (I : Inv X pins σ H s) : ∀ {l : List D} {xs : List V} {us : List Value} {ps : List PyData}, RVs z ρ H l xs → Vals xs us → pdDs l = some ps → ∃ as, ReadsAll s.heap us ps as
  | [], xs, us, ps, r, q, e => by
    unfold pdDs at e
    cases e
    unfold RVs at r
    subst r
    cases q
    exact ⟨_, .nil⟩
  | d :: l, xs, us, ps, r, q, e => by
    unfold pdDs at e
    split at e
    · rename_i p ps' e1 e2
      cases e
      unfold RVs at r
      obtain ⟨x, xr, rfl, r1, r2⟩ := r
      cases q with
      | cons q1 q2 =>
        obtain ⟨as, k1⟩ := reads_of hz I r1 q1 e1
        obtain ⟨bs, k2⟩ := reads_all hz I r2 q2 e2
        exact ⟨_, .cons k1 k2⟩
    · cases e
end
theorem call_reprX (hz : z.K = X.K) (hg : X.A.guards = some []) {k : Nat} (hr : Room k X.A) : CallR X (.builtin "repr") (rRepr z) := by
  intro pins s σ H xs us Q I r h
  obtain ⟨ρ, st, d, v, p, rfl, rs, rv, e, ok, q⟩ := h
  unfold okP' at ok
  simp only [Bool.and_eq_true, Bool.not_eq_true', Nat.ble_eq] at ok
  obtain ⟨⟨⟨⟨o1, o2⟩, o3⟩, o4⟩, o5⟩ := ok
  cases r with
  | cons ru rr =>
    cases rr
    rename_i u
    have main : ∃ as, Reads s.heap u p as := by
      unfold pdT at e
      split at e
      · split at e
        · rename_i n l hl
          obtain ⟨ps, e1, rfl⟩ := Option.map_eq_some_iff.mp e
          obtain ⟨a, pa, rfl⟩ := rvl rv
          obtain ⟨ys, h1, h2⟩ := rs.lst (rdL_some hl) pa
          cases ru
          obtain ⟨its, rv', ⟨o, n', ho, hc, hdd, hd⟩, _⟩ := I.list (SqL.of h1)
          obtain ⟨as, ra⟩ := reads_all hz I h2 rv' e1
          exact ⟨_, .list ho hc hd (by simpa using ra)⟩
        · cases e
      · exact reads_of hz I rv ru e
    obtain ⟨as, hR⟩ := main
    obtain ⟨a, rfl⟩ := isRef_of_reads hR o1
    have hu := hr.un
    exact repr_of_reads' hR o2 (fun q => by rw [o3] at q; cases q) hg (by omega) (fun _ _ e => e) (fun h' u tk hk => ⟨.str p.shown, H, I.kept (t' := tk) hk, ⟨u, rfl⟩, q⟩) o5
theorem v_repr : VA z (rRepr z) fRepr := by
  intro ρ st H xs ds Q xw rs rv h
  unfold fRepr at h
  split at h
  · rename_i d
    obtain ⟨x, rfl, r1⟩ := rvs1 rv
    split at h
    · rename_i p e
      split at h
      · rename_i o
        exact ⟨ρ, st, d, x, p, rfl, rs, r1, e, o, h.ok rs rv_str⟩
      · exact h.elim
    · exact h.elim
  · exact h.elim
end
/-! ### the law's def where the guards are known -/
/-- as FnOk, where nothing guards -/
structure FnG (P : Program) (w : World) (K : PySem.W.Frag) (mg : Str → Option Value) (base : Heap) (CX : CXT) (k : Nat) (f : Addr) (fd : FuncData) (ps : List Str) (sp : Sp) : Prop where
  ln : ∀ vs H Q E, sp vs H Q E → vs.length = ps.length
  go : ∀ (B : Around) (up : List Env) (t : Shared) (G : Hp) (ar : Args) (us : List Value) (vs : List V) (Q : VK) (E : XK), B.guards = some [] → Room k B → Env0 P w K mg base B up t G → BindsTo t fd ar (ps.zip us) → Vals vs us → sp vs G Q E → codeAny (model P w) B (.call (.ref f) ar) (CR CX up P w G t Q E) t
section
variable {P : Program} {w : World} {K : PySem.W.Frag} {mg : Str → Option Value} {base : Heap}
theorem fng_of {CX : CXT} {k : Nat} {f : Addr} {nm ql : Str} {pr : Arguments} {bd : List Stmt} {sc : Scope} {dV kV doc pm cdv ct oc : Value} {an od : Option Addr} {osl : Array (Option Value)} {N ps : List Str} {sp : Sp}
    (lk : K.lookup f = some ⟨oc, od, .func (PySem.W.fnOf nm ql pr bd sc dV kV doc pm an cdv ct), osl⟩) (cd : PySem.W.codeIn K cdv ql = true) (S : FnScope N ps sc) (ln : ∀ vs H Q E, sp vs H Q E → vs.length = ps.length)
    (hb : ∀ (B : Around) (up : List Env) (t : Shared) (G : Hp) (vs : List V) (Q : VK) (E : XK), B.guards = some [] → Room k (B.deeper (envOfC ql sc t.heap.objs.size f cdv)) → sp vs G Q E → ∃ tt, PSs (cxOf CX P w K mg base N ql sc f cdv B up t G E) bd tt ∧ tt { nx := fun _ H' => Q .non H', rt := Q } (start N vs) G) :
    FnG P w K mg base CX (k + 1) f (PySem.W.fnOf nm ql pr bd sc dV kV doc pm an cdv ct) ps sp := by
  refine ⟨ln, fun B up t G ar us vs Q E gd rm e0 bi rv hs => ?_⟩
  have lim : t.heap.NoLimit := e0.mod.nolimit.keeps fun b o q => (e0.bs b o q).1
  have KX : K.In t.heap := e0.mod.kin.keeps fun b o q => (e0.bs b o q).1
  have par : ∀ y ∈ ps.zip us, sc.names.lookup y.1 = some .local ∨ (sc.names.lookup y.1 = some .cell ∧ ((cellsFrom (t.heap.objs.size + 1) sc.names []).lookup y.1).isSome = true) := fun ⟨n, v⟩ hy => (S.par n (List.of_mem_zip hy).1).imp id fun q => ⟨q, PySem.W.cellsFrom_some _ _ _ (.inl q)⟩
  obtain ⟨tt, ht, hq⟩ := hb B up t G vs Q E gd (rm.deeper _) hs
  refine codeAny_call_function rm.depth (KX _ _ lk) rfl S.co S.gen rfl (PySem.W.codeRec_of KX cd) (bi _ _ _ _ (wpAny_newFunctionEnv_cells S.kind par fun ev he t1 y => ?_))
  subst he
  refine ⟨lim.keeps y.toInCall.keep, codeAny_func (wpAny_mono (ht.run [] t1 (start N vs) G _ (inv_start S rm.hd e0 (ln _ _ _ _ hs) rv y) hq) (fun fl t' hh => ?_) fun e t' hh => hh)⟩
  have out : ∀ {τ : L2.St} {G' : Hp} {v : V} {u : Value}, Inv (cxOf CX P w K mg base N ql sc f cdv B up t G E) [] τ G' t' → L2.RelV v u → Q v G' → CE up P w G t Q u t' := fun J r q => ⟨_, _, J.os, J.bare, J.base, J.hok, r, q⟩
  cases fl with
  | next => obtain ⟨τ, G', J, q⟩ := hh; exact out (v := V.non) (u := Value.none) J rfl q
  | ret u => obtain ⟨v, τ, G', J, r, q⟩ := hh; exact out J r q
  | brk => exact hh.choose_spec.choose_spec.2.elim
  | cont => exact hh.choose_spec.choose_spec.2.elim
/-- a def by its mirror, no error leaves it, nothing guards -/
theorem ok_defG {cm : String → Option Addr} {x qual : Str} {s0 : Stmt} {f : Addr} {fd : FuncData} {N ps : List Str} {k : Nat} {own : Bool} {m : MS} (F : Fun K x qual s0 f fd) (sc : FnScope N ps (defScope s0))
    (hd : ∀ (av : Addr → Prop) (cdv : Value) (A : Around) (outer : List Env) (s : Shared) (H : Hp) (E : XK), A.guards = some [] → Room k (A.deeper (envOfC qual (defScope s0) s.heap.objs.size f cdv)) → PSs (cxOf CX0 P w K mg base N qual (defScope s0) f cdv A outer s H E).nox (defBody s0) (tS ⟨K, cm, av, none⟩ WF m)) :
    FnG P w K mg base CX0 (k + 1) f fd ps (spM K cm ps.length (noX (fnM own N.length m))) := by
  obtain ⟨oc, od, kV, doc, pm, an, cdv, ct, osl, rfl, lk, hcd⟩ := F.ex
  refine fng_of lk hcd sc (fun vs H Q E h => ?_) (fun A outer s H vs Q E gd hr h => ?_)
  · obtain ⟨av, ρ, st, ds, hl, _⟩ := h
    exact hl
  · obtain ⟨av, ρ, st, ds, hl, rs, rv, q⟩ := h
    refine ⟨_, (hd av cdv A outer s H E gd hr).nox, ρ, st, startM N.length ds, rs, re_start rv, ?_⟩
    have q' : Post ⟨K, cm, av, none⟩ (RV ⟨K, cm, av, none⟩) ρ H (fin own st.length (m (startM N.length ds) st)) Q (XE ⟨K, cm, av, none⟩ E) ∧ ∀ c fs e s, m (startM N.length ds) st ≠ .ex c fs e s := by
      unfold noX fnM at q
      split at q
      · exact q.elim
      · rename_i hn
        refine ⟨q, fun c fs e s qe => ?_⟩
        rw [qe] at q hn
        have q : Post ⟨K, cm, av, none⟩ (RV ⟨K, cm, av, none⟩) ρ H (finX st.length c fs s) Q (XE ⟨K, cm, av, none⟩ E) := q
        unfold finX at q
        split at q
        · rename_i c0
          split at q
          · rename_i fs' ef
            refine hn c fs' (s.take st.length) ?_
            show finX st.length c fs s = _
            unfold finX
            rw [if_pos c0, ef]
          · exact q
        · exact q
    exact PostS.wf (fin_post rs q'.1) q'.2 WF
theorem top_ofG {k : Nat} {f : Addr} {fd : FuncData} {x : Str} {g : Fn} {cm : String → Option Addr} (h : FnG P w K mg base CX0 k f fd [x] (spM K cm 1 g)) : FnG P w K mg base CX0 k f fd [x] (spTop g K) := ⟨fun vs H Q E q => h.ln vs H Q E (q cm), fun B up t G ar us vs Q E h1 h2 h3 h4 h5 q => h.go B up t G ar us vs Q E h1 h2 h3 h4 h5 (q cm)⟩
end
section
variable {P : Program} {w : World} {K : PySem.W.Frag} {mg mb : Str → Option Value} {CX : CXT} {k : Nat} {fa a : Addr} {fd : FuncData} {x : Str} {sp : Sp} {t : Shared} {vs : List Value} {ns : List Int}
/-- from an abstract heap in which the script alone may be tracked -/
theorem core_G (KX : K.In t.heap) (hns : t.heap.Ns mainGlobals mg) (hb : t.heap.Ns builtinsNs mb) (hbb : ∀ x : Str, x ≠ "__name__" → mb x = bootBuiltins x) (hlim : t.heap.NoLimit) (hg : t.gens = #[])
    (ha : t.heap.get? a = some { cls := .type "list", data := .seq vs.toArray }) (hr : Room k callerA) (F : ∀ base : Heap, K.In base → base.Ns mainGlobals mg → FnG P w K mg base CX k fa fd [x] sp) (hbind : ∀ (s : Shared) (u : Value), BindsTo s fd ⟨[u], []⟩ [(x, u)])
    (hCX : ∀ H e s', CX [] H t (fun _ _ _ => False) e s' → False) (H : Hp) (hO : Only H) (hsp : sp [.ref a] H (fun v _ => v = .bl true) fun _ _ _ => False) (hok : HOk P w H t.heap) (hA : ∀ b, H b ≠ none → b = a) (hK : H a ≠ none → K.lookup a = none) :
    codeAny (model P w) callerA (.call (.ref fa) ⟨[.ref a], []⟩) (fun r s' => r = .ok (.ret (.bool true)) ∧ OldK t.heap s'.heap ∧ s'.os = t.os ∧ AllBare s'.gens) t := by
  have only : ∀ {b : Addr} {u : HO}, H b = some u → b = a := fun q => hA _ (by rw [q]; exact Option.some_ne_none _)
  have free : ∀ {b : Addr} {o : Obj} {es : Array DictEntry} {ep : Nat}, t.heap.get? b = some o → o.data = .dict es ep → H b = none := fun {b o es ep} e d => by
    cases q : H b with
    | none => rfl
    | some u =>
      rw [only q, ha] at e
      rw [← Option.some.inj e] at d
      cases d
  have kept : ∀ {b : Addr} {m : Str → Option Value}, t.heap.Ns b m → (hidT t.heap H).Ns b m := fun ⟨o, es, ep, e, d, r⟩ => ⟨o, es, ep, hidT_get e (free e d), d, r⟩
  have inK : K.In (hidT t.heap H) := fun b o e => hidT_get (KX b o e) (by
    cases q : H b with
    | none => rfl
    | some u =>
      have eb := only q
      rw [eb] at q e
      rw [hK (by rw [q]; exact Option.some_ne_none _)] at e
      cases e)
  obtain ⟨mc, l1, l2⟩ := hlim
  have e0 : Env0 P w K mg (hidT t.heap H) callerA [] t H := ⟨rfl, ⟨inK, kept hns, ⟨mb, kept hb, hbb⟩, ⟨mc, kept l1, l2⟩⟩, fun b o e => of_hidT e, Nat.le_of_eq (hidT_size _ _), trivial, (fun b hb => nomatch (show b ∈ ([] : List Addr) from hb)), hok, .of_eq hg⟩
  refine codeAny_mono ((F _ inK (kept hns)).go callerA [] t H ⟨[.ref a], []⟩ [.ref a] [.ref a] _ _ rfl hr e0 (hbind t (.ref a)) (.cons rfl .nil) hsp) fun r s' h => ?_
  match r, h with
  | .error e, h => exact (hCX H e s' h).elim
  | .ok .next, h => exact False.elim h
  | .ok .brk, h => exact False.elim h
  | .ok .cont, h => exact False.elim h
  | .ok (.ret u), ⟨v, H', os, bare, un, hok', r', q⟩ =>
    obtain rfl : v = .bl true := q
    obtain rfl : u = Value.bool true := r'
    refine ⟨rfl, OldK.of_keep fun b o e => ?_, os, bare⟩
    rcases hO b with z | ⟨ob, xs, z⟩
    · exact un.keep b o e z (fun z => by cases (show b ∈ ([] : List Addr) from z)) (by simp)
    · have c1 := (hok b _ z).1
      rw [e] at c1
      cases c1
      exact (hok' b _ (un.frzs b _ _ z)).1
theorem law_callG (KX : K.In t.heap) (hns : t.heap.Ns mainGlobals mg) (hb : t.heap.Ns builtinsNs mb) (hbb : ∀ x : Str, x ≠ "__name__" → mb x = bootBuiltins x) (hlim : t.heap.NoLimit) (hg : t.gens = #[])
    (ha : t.heap.get? a = some { cls := .type "list", data := .seq vs.toArray }) (hi : IntsAre vs ns) (hl : ns.length ≤ sizeLine) (hr : Room k callerA) (F : ∀ base : Heap, K.In base → base.Ns mainGlobals mg → FnG P w K mg base CX k fa fd [x] sp)
    (hbind : ∀ (s : Shared) (u : Value), BindsTo s fd ⟨[u], []⟩ [(x, u)]) (hsp : ∀ H : Hp, Only H → SqL K H a (ns.map V.int) → sp [.ref a] H (fun v _ => v = .bl true) fun _ _ _ => False) (hCX : ∀ H e s', CX [] H t (fun _ _ _ => False) e s' → False) :
    codeAny (model P w) callerA (.call (.ref fa) ⟨[.ref a], []⟩) (fun r s' => r = .ok (.ret (.bool true)) ∧ OldK t.heap s'.heap ∧ s'.os = t.os ∧ AllBare s'.gens) t := by
  have rv := vals_ints hi
  cases hk : K.lookup a with
  | some o =>
    have e := KX a o hk
    rw [ha] at e
    cases e
    have hO : Only (fun _ => none) := fun _ => .inl rfl
    refine core_G KX hns hb hbb hlim hg ha hr F hbind hCX (fun _ => none) hO (hsp _ hO (.inr ⟨_, vs.toArray, _, hk, rfl, rfl, rfl, by rw [List.size_toArray, hi.length]; exact hl, by simpa using rv⟩)) (fun b u z => nomatch (show (none : Option HO) = some u from z)) (fun b z => absurd rfl z) fun z => absurd rfl z
  | none =>
    have hO : Only (fun b => if b = a then some (HO.frz { cls := .type "list", data := .seq vs.toArray } (.lst (ns.map V.int))) else none) := fun b => by
      by_cases hb : b = a
      · exact .inr ⟨_, _, if_pos hb⟩
      · exact .inl (if_neg hb)
    refine core_G KX hns hb hbb hlim hg ha hr F hbind hCX _ hO (hsp _ hO (.inl (.inr ⟨{ cls := .type "list", data := .seq vs.toArray }, if_pos rfl⟩))) (fun b u z => ?_) (fun b z => Classical.byContradiction fun hb => z (if_neg hb)) fun _ => hk
    have hb : b = a := Classical.byContradiction fun hb => by
      rw [if_neg hb] at z
      cases z
    rw [if_pos hb] at z
    cases z
    rw [hb]
    exact ⟨ha, by rw [List.length_map]; exact hl, vs, _, rv, ha⟩
end
theorem walk_ofG {l : PySem.W.OpenLaw} {n k : Nat} {q : Program} {loose : List Str} {XP : (Str → Option Value) → Heap → Prop} {YP : World → Heap → Prop} {d : DefRec} {K : Params → PySem.W.Frag} {CX : World → CXT} {sp : World → Sp} {x : Str} (hn : l.most = some n) (hn2 : n ≤ sizeLine) (hdf : d.params.defaults = []) (hr : Room k callerA) (hY : ∀ (w : World) (h : Heap), YP w h → (K w.params).In h)
    (F : ∀ (w : World) (mg : Str → Option Value) (fa : Addr) (h : Heap), (K w.params).In h → h.Ns mainGlobals mg → mg d.name = some (.ref fa) → ∃ fd : FuncData, (∀ (s : Shared) (u : Value), BindsTo s fd ⟨[u], []⟩ [(x, u)]) ∧ ∀ base : Heap, (K w.params).In base → base.Ns mainGlobals mg → FnG l.prog w (K w.params) mg base (CX w) k fa fd [x] (sp w))
    (hsp : ∀ (w : World) (H : Hp) (a : Addr) (ns : List Int), ns.length ≤ n → Only H → SqL (K w.params) H a (ns.map V.int) → sp w [.ref a] H (fun v _ => v = .bl true) fun _ _ _ => False) (hCX : ∀ (w : World) (H : Hp) (s : Shared) (e : Value) (s' : Shared), CX w [] H s (fun _ _ _ => False) e s' → False) :
    PySem.W.WalkO q loose XP YP l.row.toRowW d [] (fun f vs => PySem.call f vs) := by
  refine Att.attach_call hn hdf fun w _ t mg mb fa _ _ _ _ a vs ns G Y _ _ _ hmg hobj hints hlen hg => ?_
  obtain ⟨fd, hb, hF⟩ := F w mg fa _ (hY w _ Y) G.T.g hmg
  exact law_callG (hY w _ Y) G.T.g G.T.b G.T.builtins G.T.nolimit hg hobj hints (Nat.le_trans hlen hn2) hr hF hb (fun H => hsp w H a ns hlen) fun H e => hCX w H t e
end Nn

/-! a def that hands out a list of two lists that the caller may change -/
namespace Nn
open PySem PySem.Spec PyProof.Rows L2 Lb
def finP (m : Nat) (r : Rt) : R D := match r with
  | .rt (.loc k) st => match st[k]? with
    | some (.lst [.loc i, .loc j]) => match st[i]?, st[j]? with
      | some (.lst a), some (.lst b) => if ((st.take m).all lowO = true ∧ m ≤ st.length) ∧ (m ≤ i ∧ m ≤ j ∧ m ≤ k) ∧ (i ≠ j ∧ i ≠ k ∧ j ≠ k) ∧ lows a = true ∧ lows b = true then .ok (.fl [.loc m, .loc (m + 1)]) (st.take m ++ [.lst a, .lst b]) else .bad
      | _, _ => .bad
    | _ => .bad
  | _ => .bad
def fnP (n : Nat) (m : MS) : Fn := fun ds st => finP st.length (m (startM n ds) st)
section
variable {z : Zc} {ρ ρ' ρ'' : List Addr} {st st' s'' : S} {H H' : Hp}
theorem RS.pick (rs : RS z ρ' st' H') (sub : ∀ a ∈ ρ'', a ∈ ρ') (len : ρ''.length = s''.length) (inj : ∀ (i j : Nat) a, ρ''[i]? = some a → ρ''[j]? = some a → i = j)
    (obj : ∀ (n : Nat) o a, s''[n]? = some o → ρ''[n]? = some a → lowO o = true ∧ ∃ n' : Nat, st'[n']? = some o ∧ ρ'[n']? = some a) : RS z ρ'' s'' H' := by
  refine ⟨len, inj, fun n o a h1 h2 => ?_, fun a h => rs.avo a (sub a h), rs.avh⟩
  obtain ⟨lo, n', k1, k2⟩ := obj n o a h1 h2
  exact RO.low lo (rs.obj n' o a k1 k2) ⟨rfl, rfl, fun _ _ q => q.elim, fun _ _ h => h, fun b u h q => ⟨u, h, .inl rfl, fun y => q.1 (sub b y), q.2⟩⟩ fun dx _ na => na
theorem finP_post {r : Rt} {Q : VK} {xw : XW} {W : WM} (rs : RS z ρ st H) (h : Post z (RV z) ρ H (finP st.length r) Q xw) : PostS z ρ H r { nx := fun _ H' => Q .non H', rt := Q } W := by
  unfold finP at h
  split at h
  · rename_i k s
    intro ρ' H' v e rs' rv
    split at h
    · rename_i i j ek
      split at h
      · rename_i a b ei ej
        split at h
        · rename_i c0
          obtain ⟨⟨c1, c2⟩, ⟨hi, hj, hk⟩, ⟨nij, nik, njk⟩, la, lb⟩ := c0
          have c : Cut z ρ st H ρ' s H' := ⟨rs, e, rs', c1, c2⟩
          obtain ⟨ai, pi⟩ := rs'.addr ei
          obtain ⟨aj, pj⟩ := rs'.addr ej
          obtain ⟨ak, pk, rfl⟩ := rvl rv
          have ne : ∀ {x y : Nat} {p q : Addr}, ρ'[x]? = some p → ρ'[y]? = some q → x ≠ y → p ≠ q := fun h1 h2 n e => n (rs'.inj _ _ _ h1 (e ▸ h2))
          have lr := rs.len
          have sub : ∀ x ∈ ρ ++ [ai, aj], x ∈ ρ' := fun x q => by
            rcases List.mem_append.mp q with q | q
            · exact c.sub q
            · simp only [List.mem_cons, List.not_mem_nil, or_false] at q
              rcases q with rfl | rfl
              · exact List.mem_of_getElem? pi
              · exact List.mem_of_getElem? pj
          -- each place of the new row is a place of ours
          have at' : ∀ (n : Nat) x, (ρ ++ [ai, aj])[n]? = some x → ∃ n' : Nat, ρ'[n']? = some x ∧ ((n < ρ.length ∧ n' = n) ∨ (n = ρ.length ∧ n' = i) ∨ (n = ρ.length + 1 ∧ n' = j)) := fun n x q => by
            by_cases hn : n < ρ.length
            · rw [List.getElem?_append_left hn] at q
              exact ⟨n, e.pl n x q, .inl ⟨hn, rfl⟩⟩
            · rw [List.getElem?_append_right (by omega)] at q
              have hb := (List.getElem?_eq_some_iff.mp q).1
              simp only [List.length_cons, List.length_nil] at hb
              have h2 : n - ρ.length = 0 ∨ n - ρ.length = 1 := by omega
              rcases h2 with h2 | h2
              · rw [h2] at q
                cases q
                exact ⟨i, pi, .inr (.inl ⟨by omega, rfl⟩)⟩
              · rw [h2] at q
                cases q
                exact ⟨j, pj, .inr (.inr ⟨by omega, rfl⟩)⟩
          have ltk : (s.take st.length).length = st.length := by rw [List.length_take]; omega
          have rs2 : RS z (ρ ++ [ai, aj]) (s.take st.length ++ [.lst a, .lst b]) H' := by
            refine RS.pick rs' sub (by simp [lr]; omega) (fun x y p h1 h2 => ?_) fun n o p h1 h2 => ?_
            · obtain ⟨x', a1, a2⟩ := at' x p h1
              obtain ⟨y', b1, b2⟩ := at' y p h2
              have := rs'.inj x' y' p a1 b1
              omega
            · obtain ⟨n', a1, a2⟩ := at' n p h2
              rcases a2 with ⟨hn, rfl⟩ | ⟨rfl, rfl⟩ | ⟨rfl, rfl⟩
              · rw [List.getElem?_append_left (by omega)] at h1
                obtain ⟨g1, g2⟩ := take_get h1
                exact ⟨List.all_eq_true.mp c1 o (List.mem_of_getElem? h1), n', g1, a1⟩
              · rw [List.getElem?_append_right (by omega), show ρ.length - (s.take st.length).length = 0 by omega] at h1
                cases h1
                exact ⟨la, n', ei, a1⟩
              · rw [List.getElem?_append_right (by omega), show ρ.length + 1 - (s.take st.length).length = 1 by omega] at h1
                cases h1
                exact ⟨lb, n', ej, a1⟩
          have ex : Ext z ρ H (ρ ++ [ai, aj]) H' := ⟨fun n x q => by rw [List.getElem?_append_left (List.getElem?_eq_some_iff.mp q).1]; exact q, e.tp, e.kq, fun x q n => e.nw x (sub x q) n⟩
          obtain ⟨xs, o1, o2⟩ := rs'.lst ek pk
          have xe : xs = [.ref ai, .ref aj] := by
            unfold RVs at o2
            obtain ⟨x, r, rfl, r1, r2⟩ := o2
            unfold RVs at r2
            obtain ⟨y, r', rfl, r3, r4⟩ := r2
            unfold RVs at r4
            subst r4
            obtain ⟨p, q1, rfl⟩ := rvl r1
            obtain ⟨p', q2, rfl⟩ := rvl r3
            rw [pi] at q1
            rw [pj] at q2
            cases q1
            cases q2
            rfl
          subst xe
          refine h.at ex rs2 (rv_fl (xs := [.ref ai, .ref aj]) ⟨o1, fun q => ?_, rs'.avo _ (List.mem_of_getElem? pk)⟩ (RVs.cons (rv_loc ?_) (RVs.cons (rv_loc ?_) RVs.nil)))
          · rcases List.mem_append.mp q with q | q
            · exact (c.out hk pk).1 q
            · simp only [List.mem_cons, List.not_mem_nil, or_false] at q
              rcases q with q | q
              · exact ne pi pk nik q.symm
              · exact ne pj pk njk q.symm
          · rw [List.getElem?_append_right (by omega), lr]
            simp
          · rw [List.getElem?_append_right (by omega), lr]
            simp
        · exact h.elim
      · exact h.elim
    · exact h.elim
  · exact h.elim
end
section
variable {P : Program} {w : World} {K : PySem.W.Frag} {mg : Str → Option Value} {base : Heap} {cm : String → Option Addr}
theorem nx_fnP {n : Nat} {m : MS} : NX (fnP n m) := fun ds st c fs s q => by
  unfold fnP finP at q
  split at q
  · split at q
    · split at q
      · split at q <;> cases q
      · cases q
    · cases q
  · cases q
theorem ok_defP {x qual : Str} {s0 : Stmt} {f : Addr} {fd : FuncData} {N ps : List Str} {k : Nat} {m : MS} (F : Fun K x qual s0 f fd) (sc : FnScope N ps (defScope s0))
    (hd : ∀ (av : Addr → Prop) (cdv : Value) (A : Around) (outer : List Env) (s : Shared) (H : Hp) (E : XK), Room k (A.deeper (envOfC qual (defScope s0) s.heap.objs.size f cdv)) → PSs (cxOf CX0 P w K mg base N qual (defScope s0) f cdv A outer s H E).nox (defBody s0) (tS ⟨K, cm, av, none⟩ WF m)) :
    FnOk P w K mg base CX0 (k + 1) f fd ps (spM K cm ps.length (fnP N.length m)) := by
  refine F.ok sc (fun vs H Q E h => ?_) (fun cdv A outer s H vs Q E hr h => ?_)
  · obtain ⟨av, ρ, st, ds, hl, _⟩ := h
    exact hl
  · obtain ⟨av, ρ, st, ds, hl, rs, rv, q⟩ := h
    exact ⟨_, hd av cdv A outer s H E hr, ρ, st, startM N.length ds, rs, re_start rv, finP_post rs q⟩
end
/-! its call -/
def callRP (ps : List Nat) (st : S) (r : R D) : R D := match r with
  | .ok (.fl [.loc i, .loc j]) s' => match s'[i]?, s'[j]? with
    | some o1, some o2 => if s'.all lowO = true ∧ s'.length = ps.length + 2 ∧ i = ps.length ∧ j = ps.length + 1 then .ok (.fl [.loc st.length, .loc (st.length + 1)]) (wb st ps s' ++ [o1, o2]) else .bad
    | _, _ => .bad
  | _ => .bad
def callFP (md : List Bool) (f : Fn) : Fn := fun ds st => match mutPl md ds with
  | some ps => if nodupB ps = true ∧ lentB md ds = false then match minis st ps, mArgs (fun k => !(ps.contains k)) st md ds 0 with
      | some mini, some ds' => callRP ps st (f ds' mini)
      | _, _ => .bad
    else .bad
  | none => .bad
def mCallP (md : List Bool) (f : Fn) (ar : MA) : ME := fun env st => (ar env st).bind fun ds s1 => callFP md f ds s1
section
variable {z : Zc} {ρ : List Addr} {st : S} {H : Hp} {Q : VK} {xw : XW} {ds : List D} {vs : List V} {md : List Bool} {f : Fn}
theorem callFP_post {E : XK} (hx : NX f) (rs : RS z ρ st H) (rv : RVs z ρ H ds vs) (h : Post z (RV z) ρ H (callFP md f ds st) Q xw) :
    ds.length = md.length ∧ ∃ av ρm mini ds', RS ⟨z.K, z.cm, av, none⟩ ρm mini H ∧ RVs ⟨z.K, z.cm, av, none⟩ ρm H ds' vs ∧ Post ⟨z.K, z.cm, av, none⟩ (RV ⟨z.K, z.cm, av, none⟩) ρm H (f ds' mini) Q (XE ⟨z.K, z.cm, av, none⟩ E) := by
  unfold callFP at h
  split at h
  · rename_i ps hps
    refine ⟨mutPl_len hps, ?_⟩
    split at h
    · rename_i hn
      obtain ⟨hn, hlent⟩ := hn
      split at h
      · rename_i mini ds' hm ha
        obtain ⟨m1, m2⟩ := minis_get hm
        obtain ⟨ρm, s⟩ : ∃ ρm, Sel ρ ps ρm := sel_mk fun p hp => by
          obtain ⟨j, hj, e⟩ := List.getElem_of_mem hp
          obtain ⟨o, _, k2, _⟩ := m2 j p (by rw [List.getElem?_eq_getElem hj, e])
          exact rs.addr k2
        refine ⟨avC z ρ ρm H (lentB md ds), ρm, mini, ds', rs.mini s hn hm, args_rv rs s (pre := []) hps rfl (fun q => q) ha rv, ?_⟩
        have lm : ρm.length = ps.length := s.1
        cases hr : f ds' mini with
        | bad => rw [hr] at h; exact h.elim
        | ex c fs s1 => exact absurd hr (hx _ _ _ _ _)
        | ok d s1 =>
          rw [hr] at h
          unfold callRP at h
          intro ρ1 H1 v e1 rs1 rv1
          split at h
          · rename_i i j s1' hh
            cases hh
            split at h
            · rename_i o1 o2 ei ej
              split at h
              · rename_i c0
                obtain ⟨lo, hl, rfl, rfl⟩ := c0
                have l1 := rs1.len
                have es := split_ext e1.pl (by omega)
                have lx : (ρ1.drop ρm.length).length = 2 := by rw [List.length_drop]; omega
                generalize hex : ρ1.drop ρm.length = ext at es lx
                subst es
                have B : Bk z ρ ρm ext st s1 H H1 ps (lentB md ds) := ⟨rs, s, hn, e1, rs1, lo, fun q => by rw [hlent] at q; cases q⟩
                have bx : RS z (ρ ++ ext) (wb st ps s1 ++ [o1, o2]) H1 := B.back [o1, o2] (by simp [lx]) (by omega) fun i o q => by
                  have hb := (List.getElem?_eq_some_iff.mp q).1
                  simp only [List.length_cons, List.length_nil] at hb
                  have h2 : i = 0 ∨ i = 1 := by omega
                  rcases h2 with rfl | rfl
                  · cases q
                    exact ei
                  · cases q
                    exact ej
                obtain ⟨a, xs, rfl, fp, rx⟩ := rvf rv1
                unfold RVs at rx
                obtain ⟨x, r, rfl, r1, r2⟩ := rx
                unfold RVs at r2
                obtain ⟨y, r', rfl, r3, r4⟩ := r2
                unfold RVs at r4
                subst r4
                obtain ⟨p, q1, rfl⟩ := rvl r1
                obtain ⟨p', q2, rfl⟩ := rvl r3
                rw [List.getElem?_append_right (by omega)] at q1 q2
                have lr := rs.len
                refine h.at B.exn bx (rv_fl (xs := [.ref p, .ref p']) ?_ (RVs.cons (rv_loc ?_) (RVs.cons (rv_loc ?_) RVs.nil)))
                · obtain ⟨k1, k2⟩ := (B.car hlent).kp fp.1 fp.2 (fun _ q => nomatch q)
                  exact ⟨k1, k2⟩
                · rw [List.getElem?_append_right (by omega), ← q1]
                  congr 1
                  omega
                · rw [List.getElem?_append_right (by omega), ← q2]
                  congr 1
                  omega
              · exact h.elim
            · exact h.elim
          · exact h.elim
      · exact h.elim
    · exact h.elim
  · exact h.elim
end
section
variable {X : Cx} {z : Zc} {W : WM} {pos : Pos} {es : List Expr} {e : Expr} {ar : MA} {md : List Bool} {g : Fn}
theorem s_callP (hx : NX g) {E : XK} : ∀ σ H Q, tE z W (mCallP md g ar) σ H Q → tCall (spM z.K z.cm md.length g) [] E (tA z W ar) σ H Q := by
  rintro σ H Q ⟨ρ, st, env, rs, re, h⟩
  refine ⟨ρ, st, env, rs, re, h.bind fun ds s1 ρ1 H1 xs e1 rs1 rv1 h1 => ?_⟩
  obtain ⟨hl, av, ρm, mini, ds', a1, a2, a3⟩ := callFP_post (E := E) hx rs1 rv1 h1
  refine ⟨av, ρm, mini, ds', ?_, a1, by rw [List.append_nil]; exact a2, a3⟩
  rw [List.append_nil, ← RVs.length rv1]
  exact hl
theorem q_callP {x : Str} {p : Pos} {n : Nat} {f : Addr} {fd : FuncData} {ps : List Str} (hx : NX g) (hl : md.length = ps.length := by rfl) (F : FnOk X.prog X.w X.K X.mg X.base CX0 n f fd ps (spM z.K z.cm ps.length g)) (hr : Room n X.A) (hg : Gl X x) (hm : X.mg x = some (.ref f)) (hk : PySem.W.keepIn X.K (.ref f) = true) (hb : Binds X.K fd ps [])
    (ha : PA X (e :: es) (tA z W ar)) (hdb : (x == ("__debug__" : Str)) = false := by decide) (he : starEach (e :: es) X.env = (false, eval e X.env) :: starEach es X.env := by rfl) (hpl : (backTo pos (starEach es X.env)).any (·.1) = false := by rfl) :
    PE X (.Call (.Name x p) (e :: es) [] pos) (tE z W (mCallP md g ar)) := pe_imp (pe_call F hr hg hm hk hb .nil pass0 ha hdb he hpl) (by rw [← hl]; exact s_callP hx)
end
end Nn

/-! the facts of an own error class, put together -/
namespace Nn
open PySem PySem.Spec PyProof.Rows L2 Lb NdefX
/-- what the written part says of the class -/
structure ErrC (K : PySem.W.Frag) (C : Addr) (f : Str) : Prop where
  M : SupM K C C
  nf : PySem.W.findIn K (.ref C) f = some none
  xf : XfC K C
  is : IsE K C
/-- .. and of its __init__ -/
structure ErrI (P : Program) (K : PySem.W.Frag) (mg : Str → Option Value) (C : Addr) (f : Str) : Prop where
  ex : ∃ (fI : Addr) (fd : FuncData) (ps : List Str), PySem.W.findIn K (.ref C) "__init__" = some (some (.ref fI)) ∧ PySem.W.typeIn K (.ref fI) = some (.type "function") ∧ Binds K fd ps [] ∧ ∀ (w : World) (base : Heap), FnOk P w K mg base CX0 1 fI fd ps (spErr K C f)
section
variable {P : Program} {K : PySem.W.Frag} {mg : Str → Option Value} {C fI cda cc : Addr} {f sf xf qual msg file : Str}
theorem errC_mk {nm q : Str} {N : Addr} {bs bm : List Value} {sn : List Str} {sub : List Value} {ab : Bool} {col : Option Bool} {dd : Option Addr} {k0 k1 k2 k3 k5 : Option Value}
    (l : K.lookup C = some (excClassObj nm q C N bs bm true sn sub ab col dd k0 k1 k2 k3 k5 "ValueError.__new__")) (hbm : PySem.HandSPX.refsVE bm = true) (sa : PySem.W.findIn K (.ref C) "__setattr__" = some (some (.builtin "object.__setattr__"))) (ex : PySem.W.subIn K (.ref C) (.type "BaseException") = some true)
    (ty : PySem.W.typeIn K (.ref C) = some (.type "type")) (kp : PySem.W.keepIn K (.ref C) = true) (mr : PySem.W.mroIn K C (.ref C) = some true) (up : PySem.W.ks_superIn K C C "__init__" = some (some (.builtin "ValueError.__init__"))) (ve : PySem.W.subIn K (.ref C) (.type "ValueError") = some true)
    (nf : PySem.W.findIn K (.ref C) f = some none) (ga : PySem.W.findIn K (.ref C) "__getattribute__" = some (some (.builtin "BaseException.__getattribute__"))) (gt : PySem.W.findIn K (.ref C) "__getattr__" = some none) (hd : PySem.W.hasDictIn K C = true)
    (cl : PySem.W.findIn K (.ref C) "__class__" = some (some (.builtin "object.__class__"))) (gs : PySem.W.specialIn K (.builtin "object.__class__") "__get__" = some (some (.builtin "getset_descriptor.__get__"))) (tk : PySem.W.takesIn K (.builtin "object.__class__") = some true) (mo : PySem.W.mroIn K C (.type "object") = some true) : ErrC K C f :=
  ⟨⟨⟨⟨nm, q, N, bs, bm, sn, sub, ab, col, dd, k0, k1, k2, k3, k5, l, hbm⟩, sa, ex, ty, kp⟩, mr, up, ve⟩, nf, ⟨ga, gt, ex, hd⟩, ⟨ga, gt, ex, hd, cl, gs, tk, mo⟩⟩
theorem errI_mk {st : Stmt} {p0 p1 p2 p3 p4 p5 q1 q2 q3 q4 : Pos} {kk : Nat} {oc kV doc pm ct ccl cl : Value} {an od cdd cld : Option Addr} {osl ccs csl : Array (Option Value)} {vs : Array Value} {tf : Tok} {cd : ClassData}
    (iC : PySem.W.findIn K (.ref C) "__init__" = some (some (.ref fI))) (tI : PySem.W.typeIn K (.ref fI) = some (.type "function")) (lk : K.lookup fI = some ⟨oc, od, .func (PySem.W.fnX "__init__" qual (defArgs st) (defBody st) (defScope st) [("__class__", cc)] .none kV doc pm an (.ref cda) ct), osl⟩)
    (hcd : PySem.W.codeIn K (.ref cda) qual = true) (lcd : K.lookup cda = some ⟨ccl, cdd, .fields vs, ccs⟩) (hv : vs[2]? = some (.str file tf)) (hfile : ((P.main.file : Str) == file) = true) (htop : (P.main.scope.names.lookup ("super" : Str)).isSome = false)
    (lcc : K.lookup cc = some ⟨cl, cld, .cell (some (.ref C)), csl⟩) (hcls : PySem.W.clsIn K C = some cd) (hsup : mg "super" = none) (hopq : PySem.W.nsIn K PySem.cStatics "thirdparty.any" = some none)
    (hp : ∃ ar, ((defArgs st).posonlyargs ++ (defArgs st).args).head? = some ar ∧ ar.arg = sf) (NS : NScope [sf, xf, "__class__"] [sf, xf] ["__class__"] (defScope st))
    (hbd : defBody st = [.Expr (.Call (.Attribute (.Call (.Name "super" p0) [] [] p1) "__init__" p2) [.Constant (.str msg) kk p3] [] p4) p5, .Assign [.Attribute (.Name sf q1) f q2] (.Name xf q3) q4])
    (hks : (defScope st).names.lookup ("super" : Str) = some .globalImplicit) (hkc : (defScope st).names.lookup ("__class__" : Str) = some .free) (hka : (defScope st).names.lookup sf = some .local) (hkx : (defScope st).names.lookup xf = some .local) (hapos : (p2.endLine == p4.line) = true)
    (d1 : (sf == ("__debug__" : Str)) = false) (d2 : (sf == ("__classdict__" : Str)) = false) (d3 : (xf == ("__debug__" : Str)) = false) (d4 : (xf == ("__classdict__" : Str)) = false)
    (hb : ∀ us : List Value, us.length = [sf, xf].length → bindArgs (PySem.W.fnX "__init__" qual (defArgs st) (defBody st) (defScope st) [("__class__", cc)] .none kV doc pm an (.ref cda) ct) ⟨us, []⟩ = pure ([sf, xf].zip us)) : ErrI P K mg C f := by
  have SC : SupC P K mg C fI cda cc (PySem.W.fnX "__init__" qual (defArgs st) (defBody st) (defScope st) [("__class__", cc)] .none kV doc pm an (.ref cda) ct) sf :=
    ⟨⟨oc, od, osl, lk⟩, hp, ⟨ccl, cdd, ccs, vs, file, tf, lcd, hv, hfile⟩, htop, ⟨cl, cld, csl, lcc⟩, ⟨cd, hcls⟩, hsup, hopq⟩
  exact ⟨⟨fI, _, [sf, xf], iC, tI, .all hb, fun w base => fn_err (k := 0) lk hcd SC NS hbd hks hkc hka hkx hapos d1 d2 d3 d4⟩⟩
end
section
variable {X : Cx} {z : Zc} {W : WM} {Wx : WX} {c : String} {f x : Str} {C : Addr} {e : Expr} {es : List Expr} {ar : MA} {p pos pos' : Pos}
theorem q_raiseE (hc : X.calm = true) (tk : Takes X Wx) (hcm : z.cm c = some C) (EC : ErrC X.K C f) (EI : ErrI X.prog X.K X.mg C f) (hr : Room 2 X.A) (hg : Gl X x) (hm : X.mg x = some (.ref C)) (hz : z.K = X.K) (ha : PA X (e :: es) (tA z (wX z Wx) ar))
    (hdb : (x == ("__debug__" : Str)) = false := by decide) (he : starEach (e :: es) X.env = (false, eval e X.env) :: starEach es X.env := by rfl) (hpl : (backTo pos (starEach es X.env)).any (·.1) = false := by rfl) :
    PS X (.Raise (some (.Call (.Name x p) (e :: es) [] pos)) none pos') (tS z (wX z Wx) (mRaise c f ar)) := by
  obtain ⟨fI, fd, ps, iC, tI, hb, F⟩ := EI.ex
  exact q_raise hz hc tk hcm EC.M EC.nf iC tI (F X.w X.base) hr hb hg hm ha hdb he hpl
/-- in a def that no error leaves -/
theorem ps_wf {s : Stmt} {m : MS} (h : PS X s (tS z (wX z Wx) m)) : PS X s (tS z WF m) := ps_imp h (by
  rintro D' σ H ⟨ρ, st, env, rs, re, q⟩
  refine ⟨ρ, st, env, rs, re, ?_⟩
  cases hm : m env st with
  | ex c fs env' st' =>
    rw [hm] at q
    exact fun ρ' H' σ' e1 e2 e3 => False.elim (q ρ' H' σ' e1 e2 e3)
  | nx _ _ => rw [hm] at q; exact q
  | rt _ _ => rw [hm] at q; exact q
  | bk _ _ => rw [hm] at q; exact q
  | ct _ _ => rw [hm] at q; exact q
  | bad => rw [hm] at q; exact q)
theorem sub1 {n : String} {b : Bool} {Cn : Addr} {cv : Value} {K : PySem.W.Frag} (hcm : z.cm n = some Cn) (h : PySem.W.exmOne K (.ref Cn) cv = some b) : ∀ c b', (fun c => if c = n then some b else none) c = some b' → ∀ C, z.cm c = some C → PySem.W.exmOne K (.ref C) cv = some b' := by
  intro c b' hs C hC
  simp only at hs
  split at hs
  · rename_i e
    subst e
    rw [hcm] at hC
    cases hC
    rw [h]
    exact hs
  · cases hs
end
end Nn

/-! working errors out -/
namespace Nn
open PySem PySem.Spec PyProof.Rows L2 Lb
section
variable {α β : Type} {c : String} {fs : List (Str × D)} {env : Ev} {st : S} {sl : List (Option D)} {i j : Nat} {t : String × List (Str × D)} {o : Option D} {f : Str} {d : D} {ar : MA} {mb ms : MS} {sub : String → Option Bool}
theorem bind_ex {k : α → S → R β} : (R.ex c fs st : R α).bind k = .ex c fs st := rfl
theorem bindS_ex {k : α → S → Rt} : (R.ex c fs st : R α).bindS env k = .ex c fs env st := rfl
theorem bindN_ex {k : Ev → S → Rt} : (Rt.ex c fs env st).bindN k = .ex c fs env st := rfl
def rsK (c : String) (f : Str) (env : Ev) (ds : List D) (s1 : S) : Rt := match ds with
  | [d] => .ex c [(f, d)] env s1
  | _ => .bad
theorem raise_ap : mRaise c f ar env st = (ar env st).bindS env (rsK c f env) := rfl
theorem rsK_1 : rsK c f env [d] st = .ex c [(f, d)] env st := rfl
theorem put_x1 (h : j ≠ i) : (Ev.mk sl (some (j, t))).put i o = ⟨sl.set i o, some (j, t)⟩ := by
  unfold Ev.put
  simp only [if_neg h]
theorem put_x2 : (Ev.mk sl (some (j, t))).put j o = ⟨sl.set j o, none⟩ := by
  unfold Ev.put
  simp only [if_true]
def tryK (sub : String → Option Bool) (j : Nat) (ms : MS) (r : Rt) : Rt := match r with
  | .ex c fs env' st' => match sub c with
    | some true => if j < env'.sl.length then outX j (ms ⟨env'.sl.set j none, some (j, c, fs)⟩ st') else .bad
    | some false => .ex c fs env' st'
    | none => .bad
  | r => r
theorem try_ap : mTry sub j mb ms env st = tryK sub j ms (mb env st) := rfl
theorem tryK_nx : tryK sub j ms (.nx env st) = .nx env st := rfl
theorem tryK_rt : tryK sub j ms (.rt d st) = .rt d st := rfl
theorem tryK_ex (h : j < sl.length) {y : Option (Nat × String × List (Str × D))} : tryK (fun x => if x = c then some true else none) j ms (.ex c fs ⟨sl, y⟩ st) = outX j (ms ⟨sl.set j none, some (j, c, fs)⟩ st) := by
  unfold tryK
  simp only [if_true]
  rw [if_pos h]
theorem out_nx {x : Option (Nat × String × List (Str × D))} : outX j (.nx ⟨sl, x⟩ st) = .nx ⟨sl.set j none, none⟩ st := rfl
theorem out_rt : outX j (.rt d st) = .rt d st := rfl
theorem xf_at : mXf c j f ⟨sl, some (j, c, [(f, d)])⟩ st = .ok d st := by
  unfold mXf
  simp [List.lookup]
theorem xis_at {b : Bool} {g : Str} : mXis c j b ⟨sl, some (j, c, [(g, d)])⟩ st = .ok (.bl b) st := by
  unfold mXis
  simp
theorem finX_at {own : Bool} {m : Nat} (h1 : (st.take m).all lowO = true) (h2 : m ≤ st.length) (h : low d = true) {env : Ev} : fin own m (.ex c [(f, d)] env st) = .ex c [(f, d)] (st.take m) := by
  show finX m c [(f, d)] st = _
  unfold finX
  rw [if_pos ⟨h1, h2⟩]
  have e1 : ∀ p, fzF p st [(f, d)] = some [(f, d)] := fun p => by
    unfold fzF fzF fz
    simp only [h, if_true]
  rw [e1]
/-- a call of plain values that raises -/
theorem call_raise {md : List Bool} {g : Fn} {ds : List D} (hp : pureB md ds = true) (h : g ds [] = .ex c [(f, d)] []) (hd : low d = true) : callF md g ds st = .ex c [(f, d)] st := by
  obtain ⟨h1, h2, h3⟩ := pure_mut hp
  unfold callF
  rw [h1]
  simp only [nodupB, if_true, minis]
  rw [h2, h3]
  simp [callR, h, wb, hd, lows_cons, lows_nil]
end
section
variable {cs : List String} {m : ME} {env : Ev} {st : S}
def isiTK (cs : List String) (d : D) (s1 : S) : R D := mIsiT cs (mC d) ⟨[], none⟩ s1
theorem isiT_ap : mIsiT cs m env st = (m env st).bind (isiTK cs) := rfl
def isiTO (t : Option String) (cs : List String) (s1 : S) : R D := match t with
  | some t => match isiAny t cs with
    | some b => .ok (.bl b) s1
    | none => .bad
  | none => .bad
theorem isiTK_ap {d : D} : isiTK cs d st = isiTO (tyD st d) cs st := rfl
theorem isiLT_list : isiTO (some "list") ["list", "tuple"] st = .ok (.bl true) st := by unfold isiTO; simp only [show isiAny "list" ["list", "tuple"] = some true by decide +kernel]
theorem isiLT_tuple : isiTO (some "tuple") ["list", "tuple"] st = .ok (.bl true) st := by unfold isiTO; simp only [show isiAny "tuple" ["list", "tuple"] = some true by decide +kernel]
theorem isiLT_str : isiTO (some "str") ["list", "tuple"] st = .ok (.bl false) st := by unfold isiTO; simp only [show isiAny "str" ["list", "tuple"] = some false by decide +kernel]
theorem isiLT_int : isiTO (some "int") ["list", "tuple"] st = .ok (.bl false) st := by unfold isiTO; simp only [show isiAny "int" ["list", "tuple"] = some false by decide +kernel]
theorem isiLT_bool : isiTO (some "bool") ["list", "tuple"] st = .ok (.bl false) st := by unfold isiTO; simp only [show isiAny "bool" ["list", "tuple"] = some false by decide +kernel]
theorem isiLT_dict : isiTO (some "dict") ["list", "tuple"] st = .ok (.bl false) st := by unfold isiTO; simp only [show isiAny "dict" ["list", "tuple"] = some false by decide +kernel]
theorem isiLT_none : isiTO (some "NoneType") ["list", "tuple"] st = .ok (.bl false) st := by unfold isiTO; simp only [show isiAny "NoneType" ["list", "tuple"] = some false by decide +kernel]
end
end Nn

namespace Ke
open PySem PySem.Spec PyProof.Rows L2 Lb Nn
def topS (i : Nat) : Stmt := PySem.Challenge.pw_drawnwhole_k44_edits_done.main.body.getD i (.Pass ⟨0, 0, 0, 0⟩)
abbrev sLaw : Stmt := topS 22
theorem scLaw : FnScope ["_law_script", "_law_bag", "_law_rows_here", "_law_old", "_law_other", "_law_shape", "_law_made", "_law_row", "_law_due", "_law_k", "_law_shown", "_law_edit_here", "_law_passed", "_law_kept", "_law_texts", "_law_turn", "_law_told", "e"] ["_law_script"] (defScope sLaw) := ⟨rfl, rfl, rfl, by decide +kernel, rfl, by decide +kernel, by decide +kernel⟩
abbrev sLRows : Stmt := topS 14
theorem scLRows : FnScope ["_law_bag", "_law_many", "_law_shape", "_law_twin", "_law_rows_here", "_law_k", "_law_value_here", "_law_where"] ["_law_bag"] (defScope sLRows) := ⟨rfl, rfl, rfl, by decide +kernel, rfl, by decide +kernel, by decide +kernel⟩
abbrev sLTake : Stmt := topS 11
theorem scLTake : FnScope ["_law_bag", "_law_many", "_law_cells", "_law_digit", "_law_cell", "_law_number"] ["_law_bag", "_law_many"] (defScope sLTake) := ⟨rfl, rfl, rfl, by decide +kernel, rfl, by decide +kernel, by decide +kernel⟩
abbrev sLValue : Stmt := topS 12
theorem scLValue : FnScope ["_law_bag", "_law_k", "_law_number"] ["_law_bag", "_law_k"] (defScope sLValue) := ⟨rfl, rfl, rfl, by decide +kernel, rfl, by decide +kernel, by decide +kernel⟩
abbrev sLPutIn : Stmt := topS 13
theorem scLPutIn : FnScope ["_law_bag", "_law_row", "_law_value_here", "_law_shape", "_law_at"] ["_law_bag", "_law_row", "_law_value_here", "_law_shape"] (defScope sLPutIn) := ⟨rfl, rfl, rfl, by decide +kernel, rfl, by decide +kernel, by decide +kernel⟩
abbrev sLEdit : Stmt := topS 21
theorem scLEdit : FnScope ["_law_bag", "_law_row", "_law_kind", "_law_word", "_law_value_here", "_law_edit_here"] ["_law_bag", "_law_row"] (defScope sLEdit) := ⟨rfl, rfl, rfl, by decide +kernel, rfl, by decide +kernel, by decide +kernel⟩
abbrev sLFresh : Stmt := topS 18
theorem scLFresh : FnScope ["_law_bag", "_law_row", "_law_value_here", "_law_k"] ["_law_bag", "_law_row"] (defScope sLFresh) := ⟨rfl, rfl, rfl, by decide +kernel, rfl, by decide +kernel, by decide +kernel⟩
abbrev sLPlace : Stmt := topS 15
theorem scLPlace : FnScope ["_law_row", "_law_value_here", "_law_k"] ["_law_row", "_law_value_here"] (defScope sLPlace) := ⟨rfl, rfl, rfl, by decide +kernel, rfl, by decide +kernel, by decide +kernel⟩
abbrev sLOdd : Stmt := topS 19
theorem scLOdd : FnScope ["_law_bag"] ["_law_bag"] (defScope sLOdd) := ⟨rfl, rfl, rfl, by decide +kernel, rfl, by decide +kernel, by decide +kernel⟩
abbrev sLTarget : Stmt := topS 20
theorem scLTarget : FnScope ["_law_bag", "_law_row", "_law_value_here", "_law_kind", "_law_found"] ["_law_bag", "_law_row", "_law_value_here"] (defScope sLTarget) := ⟨rfl, rfl, rfl, by decide +kernel, rfl, by decide +kernel, by decide +kernel⟩
abbrev sLDone : Stmt := topS 17
theorem scLDone : FnScope ["_law_row", "_law_edit_here", "_law_at", "_law_to"] ["_law_row", "_law_edit_here"] (defScope sLDone) := ⟨rfl, rfl, rfl, by decide +kernel, rfl, by decide +kernel, by decide +kernel⟩
abbrev sLIsValue : Stmt := topS 16
theorem scLIsValue : FnScope ["_law_value_here"] ["_law_value_here"] (defScope sLIsValue) := ⟨rfl, rfl, rfl, by decide +kernel, rfl, by decide +kernel, by decide +kernel⟩
abbrev sEdited : Stmt := topS 9
theorem scEdited : FnScope ["old", "edits", "row", "index", "edit", "at"] ["old", "edits"] (defScope sEdited) := ⟨rfl, rfl, rfl, by decide +kernel, rfl, by decide +kernel, by decide +kernel⟩
abbrev sIsEdit : Stmt := topS 8
theorem scIsEdit : FnScope ["row", "edit", "there"] ["row", "edit"] (defScope sIsEdit) := ⟨rfl, rfl, rfl, by decide +kernel, rfl, by decide +kernel, by decide +kernel⟩
abbrev sIsValue : Stmt := topS 6
theorem scIsValue : FnScope ["thing"] ["thing"] (defScope sIsValue) := ⟨rfl, rfl, rfl, by decide +kernel, rfl, by decide +kernel, by decide +kernel⟩
abbrev sIsTarget : Stmt := topS 7
theorem scIsTarget : FnScope ["row", "value", "target"] ["row", "value", "target"] (defScope sIsTarget) := ⟨rfl, rfl, rfl, by decide +kernel, rfl, by decide +kernel, by decide +kernel⟩
theorem boot_bool : bootBuiltins "bool" = some (.type "bool") := by decide +kernel
theorem boot_int : bootBuiltins "int" = some (.type "int") := by decide +kernel
theorem boot_isinstance : bootBuiltins "isinstance" = some (.builtin "isinstance") := by decide +kernel
theorem boot_len : bootBuiltins "len" = some (.builtin "len") := by decide +kernel
theorem boot_list : bootBuiltins "list" = some (.type "list") := by decide +kernel
theorem boot_repr : bootBuiltins "repr" = some (.builtin "repr") := by decide +kernel
theorem boot_str : bootBuiltins "str" = some (.type "str") := by decide +kernel
theorem boot_tuple : bootBuiltins "tuple" = some (.type "tuple") := by decide +kernel
structure TX (P : Program) (K : PySem.W.Frag) (mg : Str → Option Value) : Type where
  n_bool : mg "bool" = none
  n_enumerate : mg "enumerate" = none
  n_int : mg "int" = none
  n_isinstance : mg "isinstance" = none
  n_len : mg "len" = none
  n_list : mg "list" = none
  n_range : mg "range" = none
  n_repr : mg "repr" = none
  n_str : mg "str" = none
  n_tuple : mg "tuple" = none
  fLaw : Addr
  dLaw : FuncData
  FLaw : Fun K "law" "law" sLaw fLaw dLaw
  bLaw : Binds K dLaw ["_law_script"] []
  gLaw : mg "law" = some (.ref fLaw)
  fLRows : Addr
  dLRows : FuncData
  FLRows : Fun K "_law_rows" "_law_rows" sLRows fLRows dLRows
  bLRows : Binds K dLRows ["_law_bag"] []
  gLRows : mg "_law_rows" = some (.ref fLRows)
  fLTake : Addr
  dLTake : FuncData
  FLTake : Fun K "_law_take" "_law_take" sLTake fLTake dLTake
  bLTake : Binds K dLTake ["_law_bag", "_law_many"] []
  gLTake : mg "_law_take" = some (.ref fLTake)
  fLValue : Addr
  dLValue : FuncData
  FLValue : Fun K "_law_value" "_law_value" sLValue fLValue dLValue
  bLValue : Binds K dLValue ["_law_bag", "_law_k"] []
  gLValue : mg "_law_value" = some (.ref fLValue)
  fLPutIn : Addr
  dLPutIn : FuncData
  FLPutIn : Fun K "_law_put_in" "_law_put_in" sLPutIn fLPutIn dLPutIn
  bLPutIn : Binds K dLPutIn ["_law_bag", "_law_row", "_law_value_here", "_law_shape"] []
  gLPutIn : mg "_law_put_in" = some (.ref fLPutIn)
  fLEdit : Addr
  dLEdit : FuncData
  FLEdit : Fun K "_law_edit" "_law_edit" sLEdit fLEdit dLEdit
  bLEdit : Binds K dLEdit ["_law_bag", "_law_row"] []
  gLEdit : mg "_law_edit" = some (.ref fLEdit)
  fLFresh : Addr
  dLFresh : FuncData
  FLFresh : Fun K "_law_fresh" "_law_fresh" sLFresh fLFresh dLFresh
  bLFresh : Binds K dLFresh ["_law_bag", "_law_row"] []
  gLFresh : mg "_law_fresh" = some (.ref fLFresh)
  fLPlace : Addr
  dLPlace : FuncData
  FLPlace : Fun K "_law_place" "_law_place" sLPlace fLPlace dLPlace
  bLPlace : Binds K dLPlace ["_law_row", "_law_value_here"] []
  gLPlace : mg "_law_place" = some (.ref fLPlace)
  fLOdd : Addr
  dLOdd : FuncData
  FLOdd : Fun K "_law_odd" "_law_odd" sLOdd fLOdd dLOdd
  bLOdd : Binds K dLOdd ["_law_bag"] []
  gLOdd : mg "_law_odd" = some (.ref fLOdd)
  fLTarget : Addr
  dLTarget : FuncData
  FLTarget : Fun K "_law_target" "_law_target" sLTarget fLTarget dLTarget
  bLTarget : Binds K dLTarget ["_law_bag", "_law_row", "_law_value_here"] []
  gLTarget : mg "_law_target" = some (.ref fLTarget)
  fLDone : Addr
  dLDone : FuncData
  FLDone : Fun K "_law_done" "_law_done" sLDone fLDone dLDone
  bLDone : Binds K dLDone ["_law_row", "_law_edit_here"] []
  gLDone : mg "_law_done" = some (.ref fLDone)
  fLIsValue : Addr
  dLIsValue : FuncData
  FLIsValue : Fun K "_law_is_value" "_law_is_value" sLIsValue fLIsValue dLIsValue
  bLIsValue : Binds K dLIsValue ["_law_value_here"] []
  gLIsValue : mg "_law_is_value" = some (.ref fLIsValue)
  fEdited : Addr
  dEdited : FuncData
  FEdited : Fun K "edited" "edited" sEdited fEdited dEdited
  bEdited : Binds K dEdited ["old", "edits"] []
  gEdited : mg "edited" = some (.ref fEdited)
  fIsEdit : Addr
  dIsEdit : FuncData
  FIsEdit : Fun K "is_edit" "is_edit" sIsEdit fIsEdit dIsEdit
  bIsEdit : Binds K dIsEdit ["row", "edit"] []
  gIsEdit : mg "is_edit" = some (.ref fIsEdit)
  fIsValue : Addr
  dIsValue : FuncData
  FIsValue : Fun K "is_value" "is_value" sIsValue fIsValue dIsValue
  bIsValue : Binds K dIsValue ["thing"] []
  gIsValue : mg "is_value" = some (.ref fIsValue)
  fIsTarget : Addr
  dIsTarget : FuncData
  FIsTarget : Fun K "is_target" "is_target" sIsTarget fIsTarget dIsTarget
  bIsTarget : Binds K dIsTarget ["row", "value", "target"] []
  gIsTarget : mg "is_target" = some (.ref fIsTarget)
  cBadDeeds : Addr
  gcBadDeeds : mg "BadDeeds" = some (.ref cBadDeeds)
  cBadEdit : Addr
  gcBadEdit : mg "BadEdit" = some (.ref cBadEdit)
  cDrawnError : Addr
  gcDrawnError : mg "DrawnError" = some (.ref cDrawnError)
  cInvalidNumber : Addr
  gcInvalidNumber : mg "InvalidNumber" = some (.ref cInvalidNumber)
  ecBadEdit : ErrC K cBadEdit "index"
  eiBadEdit : ErrI P K mg cBadEdit "index"
  kit_BadEdit_BadDeeds : PySem.W.kitOne K (.ref cBadEdit) (.ref cBadDeeds) = some false
  kit_BadEdit_DrawnError : PySem.W.kitOne K (.ref cBadEdit) (.ref cDrawnError) = some true
  kit_BadEdit_InvalidNumber : PySem.W.kitOne K (.ref cBadEdit) (.ref cInvalidNumber) = some false
  exm_BadEdit_BadEdit : PySem.W.exmOne K (.ref cBadEdit) (.ref cBadEdit) = some true
section
variable {P : Program} {w : World} {K : PySem.W.Frag} {mg : Str → Option Value} {base : Heap}
def cmT (T : TX P K mg) : String → Option Addr := fun s => if s = "BadEdit" then some T.cBadEdit else none
theorem cm_BadEdit (T : TX P K mg) : cmT T "BadEdit" = some T.cBadEdit := by simp [cmT]
noncomputable def mbIsValue : MS :=
 (mRet (mOrV (mCB fIsi (mCons (mVar 0) (mCons (mC (.ty "str")) mNil))) (mAndV (mCB fIsi (mCons (mVar 0) (mCons (mC (.ty "int")) mNil))) (mNotV (mCB fIsi (mCons (mVar 0) (mCons (mC (.ty "bool")) mNil)))))))
noncomputable def mIsValue : Fn := noX (fnM false 1 mbIsValue)
theorem nxIsValue : NX mIsValue := nx_noX
theorem drIsValue (T : TX P K mg) (av : Addr → Prop) (cdv : Value) (A : Around) (outer : List Env) (s : Shared) (H : Hp) (E : XK) (hr : Room 0 (A.deeper (envOfC "is_value" (defScope sIsValue) s.heap.objs.size T.fIsValue cdv))) : PSs (cxOf CX0 P w K mg base ["thing"] "is_value" (defScope sIsValue) T.fIsValue cdv A outer s H E).nox (defBody sIsValue) (tS ⟨K, cmT T, av, none⟩ WF mbIsValue) := by
  unfold mbIsValue
  exact (qs_one (q_ret (q_or (q_callB call_isi v_isi (by rfl) T.n_isinstance boot_isinstance (qa_cons (qv 0) (qa_cons (q_ty (by rfl) T.n_str boot_str) qa_nil))) (q_one (q_and (q_callB call_isi v_isi (by rfl) T.n_isinstance boot_isinstance (qa_cons (qv 0) (qa_cons (q_ty (by rfl) T.n_int boot_int) qa_nil))) (q_one (q_not (q_callB call_isi v_isi (by rfl) T.n_isinstance boot_isinstance (qa_cons (qv 0) (qa_cons (q_ty (by rfl) T.n_bool boot_bool) qa_nil))))))))))
theorem okIsValue (T : TX P K mg) : FnOk P w K mg base CX0 1 T.fIsValue T.dIsValue ["thing"] (spM K (cmT T) 1 mIsValue) := ok_def T.FIsValue scIsValue (drIsValue T)
noncomputable def mbIsTarget : MS :=
 (mSeq (mIfS (mB (m2 (fIsN false) (mVar 2) (mC .non)))
 (mRet (mC (.bl true)))
 mNext)
 (mRet (mAndV (mCall [false] mIsValue (mCons (mVar 2) mNil)) (mAndV (m2 (fInA false) (mVar 2) (mVar 0)) (m2 (fEqA true) (mVar 2) (mVar 1))))))
noncomputable def mIsTarget : Fn := noX (fnM false 3 mbIsTarget)
theorem nxIsTarget : NX mIsTarget := nx_noX
theorem drIsTarget (T : TX P K mg) (av : Addr → Prop) (cdv : Value) (A : Around) (outer : List Env) (s : Shared) (H : Hp) (E : XK) (hr : Room 1 (A.deeper (envOfC "is_target" (defScope sIsTarget) s.heap.objs.size T.fIsTarget cdv))) : PSs (cxOf CX0 P w K mg base ["row", "value", "target"] "is_target" (defScope sIsTarget) T.fIsTarget cdv A outer s H E).nox (defBody sIsTarget) (tS ⟨K, cmT T, av, none⟩ WF mbIsTarget) := by
  unfold mbIsTarget
  exact (qs_cons (q_if (qt_cmp o_is v_is (qv 2) qnon)
 (qs_one (q_ret qbl))
 qs_nil)
 (qs_one (q_ret (q_and (q_call nxIsValue rfl (okIsValue T) (hr.mono (by decide)) (by rfl) T.gIsValue T.FIsValue.kp T.bIsValue (qa_cons (qv 2) qa_nil)) (q_and (q_inA (hu65 hr) rfl (qv 2) (qv 0)) (q_one (q_cmp (o_neA hr.units) v_neA (qv 2) (qv 1))))))))
theorem okIsTarget (T : TX P K mg) : FnOk P w K mg base CX0 2 T.fIsTarget T.dIsTarget ["row", "value", "target"] (spM K (cmT T) 3 mIsTarget) := ok_def T.FIsTarget scIsTarget (drIsTarget T)
noncomputable def mbIsEdit : MS :=
 (mSeq (mIfS (mOr (mNot (mTr (mCB fIsi (mCons (mVar 1) (mCons (mC (.ty "tuple")) mNil))))) (mOr (mB (m2 fLt (mCB fLen (mCons (mVar 1) mNil)) (mC (.int 2)))) (mOr (mNot (mTr (mCB fIsi (mCons (m2 fIxA (mVar 1) (mC (.int 0))) (mCons (mC (.ty "str")) mNil))))) (mNot (mTr (mCall [false] mIsValue (mCons (m2 fIxA (mVar 1) (mC (.int 1))) mNil)))))))
 (mRet (mC (.bl false)))
 mNext)
 (mSeq (mAsg (m2 (fInA false) (m2 fIxA (mVar 1) (mC (.int 1))) (mVar 0)) (gNm 2))
 (mSeq (mIfS (mB (m2 (fEqA false) (m2 fIxA (mVar 1) (mC (.int 0))) (mC (.str "drop"))))
 (mRet (mAndV (m2 (fEqA false) (mCB fLen (mCons (mVar 1) mNil)) (mC (.int 2))) (mVar 2)))
 mNext)
 (mSeq (mKl (mIfS (mOr (mB (m2 (fEqA true) (mCB fLen (mCons (mVar 1) mNil)) (mC (.int 3)))) (mNot (mTr (mCall [false, false, false] mIsTarget (mCons (mVar 0) (mCons (m2 fIxA (mVar 1) (mC (.int 1))) (mCons (m2 fIxA (mVar 1) (mC (.int 2))) mNil)))))))
 (mRet (mC (.bl false)))
 mNext) [0])
 (mRet (mOrV (mAndV (m2 (fEqA false) (m2 fIxA (mVar 1) (mC (.int 0))) (mC (.str "put"))) (mNotV (mVar 2))) (mAndV (m2 (fEqA false) (m2 fIxA (mVar 1) (mC (.int 0))) (mC (.str "move"))) (mVar 2))))))))
noncomputable def mIsEdit : Fn := noX (fnM false 3 mbIsEdit)
theorem nxIsEdit : NX mIsEdit := nx_noX
theorem drIsEdit (T : TX P K mg) (av : Addr → Prop) (cdv : Value) (A : Around) (outer : List Env) (s : Shared) (H : Hp) (E : XK) (hr : Room 2 (A.deeper (envOfC "is_edit" (defScope sIsEdit) s.heap.objs.size T.fIsEdit cdv))) : PSs (cxOf CX0 P w K mg base ["row", "edit", "there"] "is_edit" (defScope sIsEdit) T.fIsEdit cdv A outer s H E).nox (defBody sIsEdit) (tS ⟨K, cmT T, av, none⟩ WF mbIsEdit) := by
  unfold mbIsEdit
  exact (qs_cons (q_if (PW.pt (qw_or (qt_not (qt_tr rfl (q_callB call_isi v_isi (by rfl) T.n_isinstance boot_isinstance (qa_cons (qv 1) (qa_cons (q_ty (by rfl) T.n_tuple boot_tuple) qa_nil))) (by intro _; rfl))) (qw_or (qt_cmp o_lt v_ord (q_callB c_len' v_len (by rfl) T.n_len boot_len (qa_cons (qv 1) qa_nil)) qint) (qw_or (qt_not (qt_tr rfl (q_callB call_isi v_isi (by rfl) T.n_isinstance boot_isinstance (qa_cons (q_ixA rfl (qv 1) qint (hu_of hr) (fun _ _ => rfl) (fun _ _ => rfl)) (qa_cons (q_ty (by rfl) T.n_str boot_str) qa_nil))) (by intro _; rfl))) (qw_or1 (qt_not (qt_tr rfl (q_call nxIsValue rfl (okIsValue T) (hr.mono (by decide)) (by rfl) T.gIsValue T.FIsValue.kp T.bIsValue (qa_cons (q_ixA rfl (qv 1) qint (hu_of hr) (fun _ _ => rfl) (fun _ _ => rfl)) qa_nil)) (by intro _; rfl))))))))
 (qs_one (q_ret qbl))
 qs_nil)
 (qs_cons (q_set (i := 2) scIsEdit.nd rfl (.inl rfl) (q_inA (hu65 hr) rfl (q_ixA rfl (qv 1) qint (hu_of hr) (fun _ _ => rfl) (fun _ _ => rfl)) (qv 0)))
 (qs_cons (q_if (qt_cmp (o_eqA hr.units) v_eqA (q_ixA rfl (qv 1) qint (hu_of hr) (fun _ _ => rfl) (fun _ _ => rfl)) qstr)
 (qs_one (q_ret (q_and (q_cmp (o_eqA hr.units) v_eqA (q_callB c_len' v_len (by rfl) T.n_len boot_len (qa_cons (qv 1) qa_nil)) qint) (q_one (qv 2)))))
 qs_nil)
 (qs_cons (q_kl (q_if (PW.pt (qw_or (qt_cmp (o_neA hr.units) v_neA (q_callB c_len' v_len (by rfl) T.n_len boot_len (qa_cons (qv 1) qa_nil)) qint) (qw_or1 (qt_not (qt_tr rfl (q_call nxIsTarget rfl (okIsTarget T) (hr.mono (by decide)) (by rfl) T.gIsTarget T.FIsTarget.kp T.bIsTarget (qa_cons (qv 0) (qa_cons (q_ixA rfl (qv 1) qint (hu_of hr) (fun _ _ => rfl) (fun _ _ => rfl)) (qa_cons (q_ixA rfl (qv 1) qint (hu_of hr) (fun _ _ => rfl) (fun _ _ => rfl)) qa_nil)))) (by intro _; rfl))))))
 (qs_one (q_ret qbl))
 qs_nil))
 (qs_one (q_ret (q_or (q_and (q_cmp (o_eqA hr.units) v_eqA (q_ixA rfl (qv 1) qint (hu_of hr) (fun _ _ => rfl) (fun _ _ => rfl)) qstr) (q_one (q_not (qv 2)))) (q_one (q_and (q_cmp (o_eqA hr.units) v_eqA (q_ixA rfl (qv 1) qint (hu_of hr) (fun _ _ => rfl) (fun _ _ => rfl)) qstr) (q_one (qv 2)))))))))))
theorem okIsEdit (T : TX P K mg) : FnOk P w K mg base CX0 3 T.fIsEdit T.dIsEdit ["row", "edit"] (spM K (cmT T) 2 mIsEdit) := ok_def T.FIsEdit scIsEdit (drIsEdit T)
noncomputable def mbEdited : MS :=
 (mSeq (mIfS (mNot (mTr (mIsiT ["list", "tuple"] (mVar 1))))
 (mRaise "BadEdit" "index" (mCons (m1 fNeg (mC (.int 1))) mNil))
 mNext)
 (mSeq (mKl (mAsg (mCB (fList true) (mCons (mVar 0) mNil)) (gNm 2)) [0])
 (mSeq (mKl (mFor (mEnum (mCons (mVar 1) mNil)) (gKl [1, 3, 4, 5] (gTp 2 (gCn (gNm 3) (gCn (gNm 4) gNl))))
 (mSeq (mKl (mIfS (mNot (mTr (mCall [false, false] mIsEdit (mCons (mVar 2) (mCons (mVar 4) mNil)))))
 (mRaise "BadEdit" "index" (mCons (mVar 3) mNil))
 mNext) [3])
 (mSeq (mIfS (mB (m2 (fEqA true) (m2 fIxA (mVar 4) (mC (.int 0))) (mC (.str "put"))))
 (mDrop (mBL fRemove (mVar 2) (mCons (m2 fIxA (mVar 4) (mC (.int 1))) mNil)))
 mNext)
 (mKl (mIfS (mB (m2 (fEqA true) (m2 fIxA (mVar 4) (mC (.int 0))) (mC (.str "drop"))))
 (mSeq (mAsg (mIf (mB (m2 (fIsN false) (m2 fIxA (mVar 4) (mC (.int 2))) (mC .non))) (mCB fLen (mCons (mVar 2) mNil)) (mIndex (mVar 2) (m2 fIxA (mVar 4) (mC (.int 2))))) (gNm 5))
 (mKl (mDrop (mBL fInsert (mVar 2) (mCons (mVar 5) (mCons (m2 fIxA (mVar 4) (mC (.int 1))) mNil)))) [4, 5]))
 mNext) [4, 5])))) [1, 3, 4, 5])
 (mRet (mVar 2)))))
theorem drEdited (T : TX P K mg) (av : Addr → Prop) (cdv : Value) (A : Around) (outer : List Env) (s : Shared) (H : Hp) (E : XK) (hr : Room 3 (A.deeper (envOfC "edited" (defScope sEdited) s.heap.objs.size T.fEdited cdv))) (tk : Takes (cxOf (L2.CX P w) P w K mg base ["old", "edits", "row", "index", "edit", "at"] "edited" (defScope sEdited) T.fEdited cdv A outer s H E) (fun cls d _ H => E cls d H)) (po : PassesOwn (model P w) (A.deeper (envOfC "edited" (defScope sEdited) s.heap.objs.size T.fEdited cdv)) (envOfC "edited" (defScope sEdited) s.heap.objs.size T.fEdited cdv) (cxOf (L2.CX P w) P w K mg base ["old", "edits", "row", "index", "edit", "at"] "edited" (defScope sEdited) T.fEdited cdv A outer s H E).xe) : PSs (cxOf (L2.CX P w) P w K mg base ["old", "edits", "row", "index", "edit", "at"] "edited" (defScope sEdited) T.fEdited cdv A outer s H E) (defBody sEdited) (tS ⟨K, cmT T, av, none⟩ (wX ⟨K, cmT T, av, none⟩ fun cls d _ H => E cls d H) mbEdited) := by
  unfold mbEdited
  exact (qs_cons (q_if (qt_not (qt_tr rfl (q_isiT rfl (by rfl) T.n_isinstance boot_isinstance (qv 1) (.cons (pe_bltn (v := .ty "list") (by rfl) T.n_list boot_list rfl) (.cons (pe_bltn (v := .ty "tuple") (by rfl) T.n_tuple boot_tuple rfl) .nil rfl) rfl)) (by intro _; rfl)))
 (qs_one (q_raiseE rfl tk (cm_BadEdit T) T.ecBadEdit T.eiBadEdit (hr.mono (by decide)) (by rfl) T.gcBadEdit rfl (qa_cons (q_un un_neg v_neg qint) qa_nil)))
 qs_nil)
 (qs_cons (q_kl (q_set (i := 2) scEdited.nd rfl (.inl rfl) (q_callTy (r := qListOf K) c_list v_list (by rfl) T.n_list boot_list (qa_cons (qv 0) qa_nil))))
 (qs_cons (q_kl (q_for po rfl (q_enum rfl (by rfl) T.n_enumerate (qa_cons (qv 1) qa_nil)) (qg_kl (qg_tup rfl rfl (qgs_cons (qg_name (i := 3) scEdited.nd rfl (.inl rfl)) (qgs_cons (qg_name (i := 4) scEdited.nd rfl (.inl rfl)) qgs_nil))))
 (qs_cons (q_kl (q_if (qt_not (qt_tr rfl (q_call nxIsEdit rfl (okIsEdit T) (hr.mono (by decide)) (by rfl) T.gIsEdit T.FIsEdit.kp T.bIsEdit (qa_cons (qv 2) (qa_cons (qv 4) qa_nil))) (by intro _; rfl)))
 (qs_one (q_raiseE rfl tk (cm_BadEdit T) T.ecBadEdit T.eiBadEdit (hr.mono (by decide)) (by rfl) T.gcBadEdit rfl (qa_cons (qv 3) qa_nil)))
 qs_nil))
 (qs_cons (q_if (qt_cmp (o_neA hr.units) v_neA (q_ixA rfl (qv 4) qint (hu_of hr) (fun _ _ => rfl) (fun _ _ => rfl)) qstr)
 (qs_one (q_expr (q_bl rfl PySem.F.slot_list_remove PySem.F.type_list_remove mt_removeF v_remove (qv 2) (qa_cons (q_ixA rfl (qv 4) qint (hu_of hr) (fun _ _ => rfl) (fun _ _ => rfl)) qa_nil))))
 qs_nil)
 (qs_one (q_kl (q_if (qt_cmp (o_neA hr.units) v_neA (q_ixA rfl (qv 4) qint (hu_of hr) (fun _ _ => rfl) (fun _ _ => rfl)) qstr)
 (qs_cons (q_set (i := 5) scEdited.nd rfl (.inl rfl) (q_ifExp (qt_cmp o_is v_is (q_ixA rfl (qv 4) qint (hu_of hr) (fun _ _ => rfl) (fun _ _ => rfl)) qnon) (q_callB c_len' v_len (by rfl) T.n_len boot_len (qa_cons (qv 2) qa_nil)) (q_index rfl (qv 2) (q_ixA rfl (qv 4) qint (hu_of hr) (fun _ _ => rfl) (fun _ _ => rfl)))))
 (qs_one (q_kl (q_expr (q_bl rfl PySem.F.slot_list_insert PySem.F.type_list_insert mt_insert v_insert (qv 2) (qa_cons (qv 5) (qa_cons (q_ixA rfl (qv 4) qint (hu_of hr) (fun _ _ => rfl) (fun _ _ => rfl)) qa_nil)))))))
 qs_nil)))))))
 (qs_one (q_ret (qv 2))))))
noncomputable def mEdited : Fn := fnM false 6 mbEdited
theorem nxEdited : True := trivial
theorem okEdited (T : TX P K mg) : FnOk P w K mg base (L2.CX P w) 4 T.fEdited T.dEdited ["old", "edits"] (spM K (cmT T) 2 mEdited) := ok_defX T.FEdited scEdited (drEdited T)
noncomputable def mEditedo : Fn := fnM true 6 mbEdited
theorem nxEditedo : True := trivial
theorem okEditedo (T : TX P K mg) : FnOk P w K mg base (L2.CX P w) 4 T.fEdited T.dEdited ["old", "edits"] (spM K (cmT T) 2 mEditedo) := ok_defX T.FEdited scEdited (drEdited T)
noncomputable def mbLTake : MS :=
 (mSeq (mAsg (m2 fIxA (mVar 0) (mC (.int 0))) (gNm 2))
 (mSeq (mAsg (m2 (fAdd false) (m2 fIxA (mVar 0) (mC (.int 3))) (mC (.int 1))) (gSb (mVar 0) (mC (.int 3))))
 (mSeq (mIfS (mAnd (mB (m2 (fEqA false) (m2 fIxA (mVar 0) (mC (.int 2))) (mC (.int 0)))) (mAnd (mB (m2 fLt (m2 fIxA (mVar 0) (mC (.int 1))) (mCB fLen (mCons (mVar 2) mNil)))) (mB (m2 fGe (m2 fIxA (mVar 2) (m2 fIxA (mVar 0) (mC (.int 1)))) (m2 fPow (mC (.int 10)) (mC (.int 18)))))))
 (mSeq (mAsg (m2 fIxA (mVar 2) (m2 fIxA (mVar 0) (mC (.int 1)))) (gSb (mVar 0) (mC (.int 2))))
 (mAsg (m2 (fAdd false) (m2 fIxA (mVar 0) (mC (.int 1))) (mC (.int 1))) (gSb (mVar 0) (mC (.int 1)))))
 mNext)
 (mSeq (mKl (mIfS (mB (m2 fGt (m2 fIxA (mVar 0) (mC (.int 2))) (mC (.int 0))))
 (mSeq (mAsg (m2 fMod (mCB fInt (mCons (m2 fIxA (mVar 0) (mC (.int 2))) mNil)) (mVar 1)) (gNm 3))
 (mSeq (mKl (mAsg (m2 fDiv (mCB fInt (mCons (m2 fIxA (mVar 0) (mC (.int 2))) mNil)) (mVar 1)) (gSb (mVar 0) (mC (.int 2)))) [0, 1])
 (mRet (mVar 3))))
 mNext) [3])
 (mSeq (mAsg (mC (.int 0)) (gNm 4))
 (mSeq (mKl (mIfS (mB (m2 fGt (mCB fLen (mCons (mVar 2) mNil)) (mC (.int 0))))
 (mSeq (mKl (mAsg (mCB fInt (mCons (m2 fIxA (mVar 2) (m2 fMod (mCB fInt (mCons (m2 fIxA (mVar 0) (mC (.int 1))) mNil)) (mCB fLen (mCons (mVar 2) mNil)))) mNil)) (gNm 4)) [2])
 (mAsg (m2 (fAdd false) (m2 fIxA (mVar 0) (mC (.int 1))) (mC (.int 1))) (gSb (mVar 0) (mC (.int 1)))))
 mNext) [2])
 (mSeq (mKl (mAsg (m2 fMod (mCB fInt (mCons (m2 (fAdd false) (m2 (fAdd false) (m2 (fAdd false) (mVar 4) (m2 fMul (m2 fMul (mC (.int 7919)) (m2 fIxA (mVar 0) (mC (.int 3)))) (m2 fIxA (mVar 0) (mC (.int 3))))) (m2 fMul (mC (.int 104729)) (m2 fIxA (mVar 0) (mC (.int 3))))) (mC (.int 1))) mNil)) (mC (.int 2147483647))) (gNm 5)) [0, 4])
 (mSeq (mAsg (m2 fMod (mCB fInt (mCons (m2 fMul (mVar 5) (m2 (fAdd false) (m2 fDiv (mVar 5) (mC (.int 1009))) (mC (.int 69621)))) mNil)) (mC (.int 2147483647))) (gNm 5))
 (mSeq (mAsg (m2 fMod (mCB fInt (mCons (m2 fMul (mVar 5) (m2 (fAdd false) (m2 fDiv (mVar 5) (mC (.int 2003))) (mC (.int 40692)))) mNil)) (mC (.int 2147483399))) (gNm 5))
 (mRet (m2 fMod (mCB fInt (mCons (m2 fDiv (mVar 5) (mC (.int 16))) mNil)) (mVar 1))))))))))))
noncomputable def mLTake : Fn := noX (fnM false 6 mbLTake)
theorem nxLTake : NX mLTake := nx_noX
theorem drLTake (T : TX P K mg) (av : Addr → Prop) (cdv : Value) (A : Around) (outer : List Env) (s : Shared) (H : Hp) (E : XK) (hr : Room 0 (A.deeper (envOfC "_law_take" (defScope sLTake) s.heap.objs.size T.fLTake cdv))) : PSs (cxOf CX0 P w K mg base ["_law_bag", "_law_many", "_law_cells", "_law_digit", "_law_cell", "_law_number"] "_law_take" (defScope sLTake) T.fLTake cdv A outer s H E).nox (defBody sLTake) (tS ⟨K, cmT T, av, none⟩ WF mbLTake) := by
  unfold mbLTake
  exact (qs_cons (q_set (i := 2) scLTake.nd rfl (.inl rfl) (q_ixA rfl (qv 0) qint (hu_of hr) (fun _ _ => rfl) (fun _ _ => rfl)))
 (qs_cons (q_asg (q_op o_add v_add (q_ixA rfl (qv 0) qint (hu_of hr) (fun _ _ => rfl) (fun _ _ => rfl)) qint) (qg_sub (W := WF) (qv 0) qint (hu_of hr)))
 (qs_cons (q_if (PW.pt (qw_and (qt_cmp (o_eqA hr.units) v_eqA (q_ixA rfl (qv 0) qint (hu_of hr) (fun _ _ => rfl) (fun _ _ => rfl)) qint) (qw_and (qt_cmp o_lt v_ord (q_ixA rfl (qv 0) qint (hu_of hr) (fun _ _ => rfl) (fun _ _ => rfl)) (q_callB c_len' v_len (by rfl) T.n_len boot_len (qa_cons (qv 2) qa_nil))) (qw_and1 (qt_cmp o_ge v_ord (q_ixA rfl (qv 2) (q_ixA rfl (qv 0) qint (hu_of hr) (fun _ _ => rfl) (fun _ _ => rfl)) (hu_of hr) (fun _ _ => rfl) (fun _ _ => rfl)) (q_op op_pow v_pow qint qint))))))
 (qs_cons (q_asg (q_ixA rfl (qv 2) (q_ixA rfl (qv 0) qint (hu_of hr) (fun _ _ => rfl) (fun _ _ => rfl)) (hu_of hr) (fun _ _ => rfl) (fun _ _ => rfl)) (qg_sub (W := WF) (qv 0) qint (hu_of hr)))
 (qs_one (q_asg (q_op o_add v_add (q_ixA rfl (qv 0) qint (hu_of hr) (fun _ _ => rfl) (fun _ _ => rfl)) qint) (qg_sub (W := WF) (qv 0) qint (hu_of hr)))))
 qs_nil)
 (qs_cons (q_kl (q_if (qt_cmp o_gt v_ord (q_ixA rfl (qv 0) qint (hu_of hr) (fun _ _ => rfl) (fun _ _ => rfl)) qint)
 (qs_cons (q_set (i := 3) scLTake.nd rfl (.inl rfl) (q_op op_mod v_mod (q_callTy (r := qInt1) c_int v_int (by rfl) T.n_int boot_int (qa_cons (q_ixA rfl (qv 0) qint (hu_of hr) (fun _ _ => rfl) (fun _ _ => rfl)) qa_nil)) (qv 1)))
 (qs_cons (q_kl (q_asg (q_op op_fdivW v_div (q_callTy (r := qInt1) c_int v_int (by rfl) T.n_int boot_int (qa_cons (q_ixA rfl (qv 0) qint (hu_of hr) (fun _ _ => rfl) (fun _ _ => rfl)) qa_nil)) (qv 1)) (qg_sub (W := WF) (qv 0) qint (hu_of hr))))
 (qs_one (q_ret (qv 3)))))
 qs_nil))
 (qs_cons (q_set (i := 4) scLTake.nd rfl (.inl rfl) qint)
 (qs_cons (q_kl (q_if (qt_cmp o_gt v_ord (q_callB c_len' v_len (by rfl) T.n_len boot_len (qa_cons (qv 2) qa_nil)) qint)
 (qs_cons (q_kl (q_set (i := 4) scLTake.nd rfl (.inl rfl) (q_callTy (r := qInt1) c_int v_int (by rfl) T.n_int boot_int (qa_cons (q_ixA rfl (qv 2) (q_op op_mod v_mod (q_callTy (r := qInt1) c_int v_int (by rfl) T.n_int boot_int (qa_cons (q_ixA rfl (qv 0) qint (hu_of hr) (fun _ _ => rfl) (fun _ _ => rfl)) qa_nil)) (q_callB c_len' v_len (by rfl) T.n_len boot_len (qa_cons (qv 2) qa_nil))) (hu_of hr) (fun _ _ => rfl) (fun _ _ => rfl)) qa_nil))))
 (qs_one (q_asg (q_op o_add v_add (q_ixA rfl (qv 0) qint (hu_of hr) (fun _ _ => rfl) (fun _ _ => rfl)) qint) (qg_sub (W := WF) (qv 0) qint (hu_of hr)))))
 qs_nil))
 (qs_cons (q_kl (q_set (i := 5) scLTake.nd rfl (.inl rfl) (q_op op_mod v_mod (q_callTy (r := qInt1) c_int v_int (by rfl) T.n_int boot_int (qa_cons (q_op o_add v_add (q_op o_add v_add (q_op o_add v_add (qv 4) (q_op op_mulW v_mul (q_op op_mulW v_mul qint (q_ixA rfl (qv 0) qint (hu_of hr) (fun _ _ => rfl) (fun _ _ => rfl))) (q_ixA rfl (qv 0) qint (hu_of hr) (fun _ _ => rfl) (fun _ _ => rfl)))) (q_op op_mulW v_mul qint (q_ixA rfl (qv 0) qint (hu_of hr) (fun _ _ => rfl) (fun _ _ => rfl)))) qint) qa_nil)) qint)))
 (qs_cons (q_set (i := 5) scLTake.nd rfl (.inl rfl) (q_op op_mod v_mod (q_callTy (r := qInt1) c_int v_int (by rfl) T.n_int boot_int (qa_cons (q_op op_mulW v_mul (qv 5) (q_op o_add v_add (q_op op_fdivW v_div (qv 5) qint) qint)) qa_nil)) qint))
 (qs_cons (q_set (i := 5) scLTake.nd rfl (.inl rfl) (q_op op_mod v_mod (q_callTy (r := qInt1) c_int v_int (by rfl) T.n_int boot_int (qa_cons (q_op op_mulW v_mul (qv 5) (q_op o_add v_add (q_op op_fdivW v_div (qv 5) qint) qint)) qa_nil)) qint))
 (qs_one (q_ret (q_op op_mod v_mod (q_callTy (r := qInt1) c_int v_int (by rfl) T.n_int boot_int (qa_cons (q_op op_fdivW v_div (qv 5) qint) qa_nil)) (qv 1)))))))))))))
theorem okLTake (T : TX P K mg) : FnOk P w K mg base CX0 1 T.fLTake T.dLTake ["_law_bag", "_law_many"] (spM K (cmT T) 2 mLTake) := ok_def T.FLTake scLTake (drLTake T)
noncomputable def mbLPlace : MS :=
 (mSeq (mKl (mFor (mRange1 (mCons (mCB fLen (mCons (mVar 0) mNil)) mNil)) (gKl [2] (gNm 2))
 (mKl (mIfS (mAnd (mB (m2 (fEqA false) (mCB fIsi (mCons (m2 fIxA (mVar 0) (mVar 2)) (mCons (mC (.ty "str")) mNil))) (mCB fIsi (mCons (mVar 1) (mCons (mC (.ty "str")) mNil))))) (mB (m2 (fEqA false) (m2 fIxA (mVar 0) (mVar 2)) (mVar 1))))
 (mRet (mVar 2))
 mNext) [2])) [0, 1, 2])
 (mRet (m1 fNeg (mC (.int 1)))))
noncomputable def mLPlace : Fn := noX (fnM false 3 mbLPlace)
theorem nxLPlace : NX mLPlace := nx_noX
theorem drLPlace (T : TX P K mg) (av : Addr → Prop) (cdv : Value) (A : Around) (outer : List Env) (s : Shared) (H : Hp) (E : XK) (hr : Room 0 (A.deeper (envOfC "_law_place" (defScope sLPlace) s.heap.objs.size T.fLPlace cdv))) : PSs (cxOf CX0 P w K mg base ["_law_row", "_law_value_here", "_law_k"] "_law_place" (defScope sLPlace) T.fLPlace cdv A outer s H E).nox (defBody sLPlace) (tS ⟨K, cmT T, av, none⟩ WF mbLPlace) := by
  unfold mbLPlace
  exact (qs_cons (q_kl (q_for PassesOwn.never rfl (q_range1 (by rfl) T.n_range (qa_cons (q_callB c_len' v_len (by rfl) T.n_len boot_len (qa_cons (qv 0) qa_nil)) qa_nil)) (qg_kl (qg_name (i := 2) scLPlace.nd rfl (.inl rfl)))
 (qs_one (q_kl (q_if (PW.pt (qw_and (qt_cmp (o_eqA hr.units) v_eqA (q_callB call_isi v_isi (by rfl) T.n_isinstance boot_isinstance (qa_cons (q_ixA rfl (qv 0) (qv 2) (hu_of hr) (fun _ _ => rfl) (fun _ _ => rfl)) (qa_cons (q_ty (by rfl) T.n_str boot_str) qa_nil))) (q_callB call_isi v_isi (by rfl) T.n_isinstance boot_isinstance (qa_cons (qv 1) (qa_cons (q_ty (by rfl) T.n_str boot_str) qa_nil)))) (qw_and1 (qt_cmp (o_eqA hr.units) v_eqA (q_ixA rfl (qv 0) (qv 2) (hu_of hr) (fun _ _ => rfl) (fun _ _ => rfl)) (qv 1)))))
 (qs_one (q_ret (qv 2)))
 qs_nil)))))
 (qs_one (q_ret (q_un un_neg v_neg qint))))
theorem okLPlace (T : TX P K mg) : FnOk P w K mg base CX0 1 T.fLPlace T.dLPlace ["_law_row", "_law_value_here"] (spM K (cmT T) 2 mLPlace) := ok_def T.FLPlace scLPlace (drLPlace T)
noncomputable def mbLIsValue : MS :=
 (mRet (mOrV (mCB fIsi (mCons (mVar 0) (mCons (mC (.ty "str")) mNil))) (mAndV (mCB fIsi (mCons (mVar 0) (mCons (mC (.ty "int")) mNil))) (mNotV (mCB fIsi (mCons (mVar 0) (mCons (mC (.ty "bool")) mNil)))))))
noncomputable def mLIsValue : Fn := noX (fnM false 1 mbLIsValue)
theorem nxLIsValue : NX mLIsValue := nx_noX
theorem drLIsValue (T : TX P K mg) (av : Addr → Prop) (cdv : Value) (A : Around) (outer : List Env) (s : Shared) (H : Hp) (E : XK) (hr : Room 0 (A.deeper (envOfC "_law_is_value" (defScope sLIsValue) s.heap.objs.size T.fLIsValue cdv))) : PSs (cxOf CX0 P w K mg base ["_law_value_here"] "_law_is_value" (defScope sLIsValue) T.fLIsValue cdv A outer s H E).nox (defBody sLIsValue) (tS ⟨K, cmT T, av, none⟩ WF mbLIsValue) := by
  unfold mbLIsValue
  exact (qs_one (q_ret (q_or (q_callB call_isi v_isi (by rfl) T.n_isinstance boot_isinstance (qa_cons (qv 0) (qa_cons (q_ty (by rfl) T.n_str boot_str) qa_nil))) (q_one (q_and (q_callB call_isi v_isi (by rfl) T.n_isinstance boot_isinstance (qa_cons (qv 0) (qa_cons (q_ty (by rfl) T.n_int boot_int) qa_nil))) (q_one (q_not (q_callB call_isi v_isi (by rfl) T.n_isinstance boot_isinstance (qa_cons (qv 0) (qa_cons (q_ty (by rfl) T.n_bool boot_bool) qa_nil))))))))))
theorem okLIsValue (T : TX P K mg) : FnOk P w K mg base CX0 1 T.fLIsValue T.dLIsValue ["_law_value_here"] (spM K (cmT T) 1 mLIsValue) := ok_def T.FLIsValue scLIsValue (drLIsValue T)
noncomputable def mbLDone : MS :=
 (mSeq (mIfS (mOr (mNot (mTr (mCB fIsi (mCons (mVar 1) (mCons (mC (.ty "tuple")) mNil))))) (mOr (mB (m2 fLt (mCB fLen (mCons (mVar 1) mNil)) (mC (.int 2)))) (mB (m2 (fInA true) (m2 fIxA (mVar 1) (mC (.int 0))) (mTup (mCons (mC (.str "drop")) (mCons (mC (.str "put")) (mCons (mC (.str "move")) mNil))))))))
 (mRet (mC .non))
 mNext)
 (mSeq (mIfS (mOr (mNot (mTr (mCall [false] mLIsValue (mCons (m2 fIxA (mVar 1) (mC (.int 1))) mNil)))) (mB (m2 (fEqA true) (mCB fLen (mCons (mVar 1) mNil)) (m2 fSub (mC (.int 3)) (mCB fInt (mCons (m2 (fEqA false) (m2 fIxA (mVar 1) (mC (.int 0))) (mC (.str "drop"))) mNil))))))
 (mRet (mC .non))
 mNext)
 (mSeq (mAsg (mCall [false, false] mLPlace (mCons (mVar 0) (mCons (m2 fIxA (mVar 1) (mC (.int 1))) mNil))) (gNm 2))
 (mSeq (mIfS (mB (m2 (fEqA true) (m2 fLt (mVar 2) (mC (.int 0))) (m2 (fEqA false) (m2 fIxA (mVar 1) (mC (.int 0))) (mC (.str "put")))))
 (mRet (mC .non))
 mNext)
 (mSeq (mKl (mIfS (mB (m2 fGe (mVar 2) (mC (.int 0))))
 (mKl (mAsg (m2 (fAdd false) (mSl false (mVar 0) mNoPart (mPart (mVar 2))) (mSl false (mVar 0) (mPart (m2 (fAdd false) (mVar 2) (mC (.int 1)))) mNoPart)) (gNm 0)) [2])
 mNext) [2])
 (mSeq (mIfS (mB (m2 (fEqA false) (m2 fIxA (mVar 1) (mC (.int 0))) (mC (.str "drop"))))
 (mRet (mVar 0))
 mNext)
 (mSeq (mIfS (mB (m2 (fIsN false) (m2 fIxA (mVar 1) (mC (.int 2))) (mC .non)))
 (mRet (m2 (fAdd false) (mVar 0) (mLst false (mCons (m2 fIxA (mVar 1) (mC (.int 1))) mNil))))
 mNext)
 (mSeq (mIfS (mNot (mTr (mCall [false] mLIsValue (mCons (m2 fIxA (mVar 1) (mC (.int 2))) mNil))))
 (mRet (mC .non))
 mNext)
 (mSeq (mAsg (mCall [false, false] mLPlace (mCons (mVar 0) (mCons (m2 fIxA (mVar 1) (mC (.int 2))) mNil))) (gNm 3))
 (mSeq (mIfS (mB (m2 fLt (mVar 3) (mC (.int 0))))
 (mRet (mC .non))
 mNext)
 (mRet (m2 (fAdd false) (m2 (fAdd false) (mSl false (mVar 0) mNoPart (mPart (mVar 3))) (mLst false (mCons (m2 fIxA (mVar 1) (mC (.int 1))) mNil))) (mSl false (mVar 0) (mPart (mVar 3)) mNoPart)))))))))))))
noncomputable def mLDone : Fn := noX (fnM false 4 mbLDone)
theorem nxLDone : NX mLDone := nx_noX
theorem drLDone (T : TX P K mg) (av : Addr → Prop) (cdv : Value) (A : Around) (outer : List Env) (s : Shared) (H : Hp) (E : XK) (hr : Room 1 (A.deeper (envOfC "_law_done" (defScope sLDone) s.heap.objs.size T.fLDone cdv))) : PSs (cxOf CX0 P w K mg base ["_law_row", "_law_edit_here", "_law_at", "_law_to"] "_law_done" (defScope sLDone) T.fLDone cdv A outer s H E).nox (defBody sLDone) (tS ⟨K, cmT T, av, none⟩ WF mbLDone) := by
  unfold mbLDone
  exact (qs_cons (q_if (PW.pt (qw_or (qt_not (qt_tr rfl (q_callB call_isi v_isi (by rfl) T.n_isinstance boot_isinstance (qa_cons (qv 1) (qa_cons (q_ty (by rfl) T.n_tuple boot_tuple) qa_nil))) (by intro _; rfl))) (qw_or (qt_cmp o_lt v_ord (q_callB c_len' v_len (by rfl) T.n_len boot_len (qa_cons (qv 1) qa_nil)) qint) (qw_or1 (qt_notinA (hu65 hr) rfl (q_ixA rfl (qv 1) qint (hu_of hr) (fun _ _ => rfl) (fun _ _ => rfl)) (q_tup (qa_cons qstr (qa_cons qstr (qa_cons qstr qa_nil)))))))))
 (qs_one (q_ret qnon))
 qs_nil)
 (qs_cons (q_if (PW.pt (qw_or (qt_not (qt_tr rfl (q_call nxLIsValue rfl (okLIsValue T) (hr.mono (by decide)) (by rfl) T.gLIsValue T.FLIsValue.kp T.bLIsValue (qa_cons (q_ixA rfl (qv 1) qint (hu_of hr) (fun _ _ => rfl) (fun _ _ => rfl)) qa_nil)) (by intro _; rfl))) (qw_or1 (qt_cmp (o_neA hr.units) v_neA (q_callB c_len' v_len (by rfl) T.n_len boot_len (qa_cons (qv 1) qa_nil)) (q_op op_sub v_sub qint (q_callTy (r := qInt1) c_int v_int (by rfl) T.n_int boot_int (qa_cons (q_cmp (o_eqA hr.units) v_eqA (q_ixA rfl (qv 1) qint (hu_of hr) (fun _ _ => rfl) (fun _ _ => rfl)) qstr) qa_nil)))))))
 (qs_one (q_ret qnon))
 qs_nil)
 (qs_cons (q_set (i := 2) scLDone.nd rfl (.inl rfl) (q_call nxLPlace rfl (okLPlace T) (hr.mono (by decide)) (by rfl) T.gLPlace T.FLPlace.kp T.bLPlace (qa_cons (qv 0) (qa_cons (q_ixA rfl (qv 1) qint (hu_of hr) (fun _ _ => rfl) (fun _ _ => rfl)) qa_nil))))
 (qs_cons (q_if (qt_cmp (o_neA hr.units) v_neA (q_cmp o_lt v_ord (qv 2) qint) (q_cmp (o_eqA hr.units) v_eqA (q_ixA rfl (qv 1) qint (hu_of hr) (fun _ _ => rfl) (fun _ _ => rfl)) qstr))
 (qs_one (q_ret qnon))
 qs_nil)
 (qs_cons (q_kl (q_if (qt_cmp o_ge v_ord (qv 2) qint)
 (qs_one (q_kl (q_set (i := 0) scLDone.nd rfl (.inl rfl) (q_op o_add v_add (q_slice rfl (qv 0) qo_none (qo_some (qv 2))) (q_slice rfl (qv 0) (qo_some (q_op o_add v_add (qv 2) qint)) qo_none)))))
 qs_nil))
 (qs_cons (q_if (qt_cmp (o_eqA hr.units) v_eqA (q_ixA rfl (qv 1) qint (hu_of hr) (fun _ _ => rfl) (fun _ _ => rfl)) qstr)
 (qs_one (q_ret (qv 0)))
 qs_nil)
 (qs_cons (q_if (qt_cmp o_is v_is (q_ixA rfl (qv 1) qint (hu_of hr) (fun _ _ => rfl) (fun _ _ => rfl)) qnon)
 (qs_one (q_ret (q_op o_add v_add (qv 0) (q_lst (qa_cons (q_ixA rfl (qv 1) qint (hu_of hr) (fun _ _ => rfl) (fun _ _ => rfl)) qa_nil)))))
 qs_nil)
 (qs_cons (q_if (qt_not (qt_tr rfl (q_call nxLIsValue rfl (okLIsValue T) (hr.mono (by decide)) (by rfl) T.gLIsValue T.FLIsValue.kp T.bLIsValue (qa_cons (q_ixA rfl (qv 1) qint (hu_of hr) (fun _ _ => rfl) (fun _ _ => rfl)) qa_nil)) (by intro _; rfl)))
 (qs_one (q_ret qnon))
 qs_nil)
 (qs_cons (q_set (i := 3) scLDone.nd rfl (.inl rfl) (q_call nxLPlace rfl (okLPlace T) (hr.mono (by decide)) (by rfl) T.gLPlace T.FLPlace.kp T.bLPlace (qa_cons (qv 0) (qa_cons (q_ixA rfl (qv 1) qint (hu_of hr) (fun _ _ => rfl) (fun _ _ => rfl)) qa_nil))))
 (qs_cons (q_if (qt_cmp o_lt v_ord (qv 3) qint)
 (qs_one (q_ret qnon))
 qs_nil)
 (qs_one (q_ret (q_op o_add v_add (q_op o_add v_add (q_slice rfl (qv 0) qo_none (qo_some (qv 3))) (q_lst (qa_cons (q_ixA rfl (qv 1) qint (hu_of hr) (fun _ _ => rfl) (fun _ _ => rfl)) qa_nil))) (q_slice rfl (qv 0) (qo_some (qv 3)) qo_none))))))))))))))
theorem okLDone (T : TX P K mg) : FnOk P w K mg base CX0 2 T.fLDone T.dLDone ["_law_row", "_law_edit_here"] (spM K (cmT T) 2 mLDone) := ok_def T.FLDone scLDone (drLDone T)
noncomputable def mbLOdd : MS :=
 (mRet (m2 fIxA (mLst false (mCons (mC (.bl true)) (mCons (mC .non) (mCons (mTup (mCons (mC (.int 1)) mNil)) (mCons (mLst false (mCons (mC (.int 1)) mNil)) (mCons (mTup (mCons (mC (.str "a")) (mCons (mC (.str "b")) mNil))) mNil)))))) (mCall [true, false] mLTake (mCons (mVar 0) (mCons (mC (.int 5)) mNil)))))
noncomputable def mLOdd : Fn := noX (fnM false 1 mbLOdd)
theorem nxLOdd : NX mLOdd := nx_noX
theorem drLOdd (T : TX P K mg) (av : Addr → Prop) (cdv : Value) (A : Around) (outer : List Env) (s : Shared) (H : Hp) (E : XK) (hr : Room 1 (A.deeper (envOfC "_law_odd" (defScope sLOdd) s.heap.objs.size T.fLOdd cdv))) : PSs (cxOf CX0 P w K mg base ["_law_bag"] "_law_odd" (defScope sLOdd) T.fLOdd cdv A outer s H E).nox (defBody sLOdd) (tS ⟨K, cmT T, av, none⟩ WF mbLOdd) := by
  unfold mbLOdd
  exact (qs_one (q_ret (q_ixA rfl (q_lst (qa_cons qbl (qa_cons qnon (qa_cons (q_tup (qa_cons qint qa_nil)) (qa_cons (q_lst (qa_cons qint qa_nil)) (qa_cons (q_tup (qa_cons qstr (qa_cons qstr qa_nil))) qa_nil)))))) (q_call nxLTake rfl (okLTake T) (hr.mono (by decide)) (by rfl) T.gLTake T.FLTake.kp T.bLTake (qa_cons (qv 0) (qa_cons qint qa_nil))) (hu_of hr) (fun _ _ => rfl) (fun _ _ => rfl))))
theorem okLOdd (T : TX P K mg) : FnOk P w K mg base CX0 2 T.fLOdd T.dLOdd ["_law_bag"] (spM K (cmT T) 1 mLOdd) := ok_def T.FLOdd scLOdd (drLOdd T)
noncomputable def mbLFresh : MS :=
 (mSeq (mAsg (m2 (fAdd false) (m2 fMul (mCall [true, false] mLTake (mCons (mVar 0) (mCons (m2 fPow (mC (.int 10)) (mC (.int 20))) mNil))) (mC (.int 100))) (mC (.int 60))) (gNm 2))
 (mSeq (mKl (mFor (mRange1 (mCons (mC (.int 40)) mNil)) (gKl [3] (gNm 3))
 (mIfS (mB (m2 fGe (mCall [false, false] mLPlace (mCons (mVar 1) (mCons (mVar 2) mNil))) (mC (.int 0))))
 (mAsg (m2 (fAdd false) (mVar 2) (mC (.int 1))) (gNm 2))
 mNext)) [3])
 (mSeq (mKl (mIfS (mAnd (mB (m2 (fEqA false) (mCall [true, false] mLTake (mCons (mVar 0) (mCons (mC (.int 3)) mNil))) (mC (.int 0)))) (mB (m2 fLt (mCall [false, false] mLPlace (mCons (mVar 1) (mCons (mCB fStr (mCons (mVar 2) mNil)) mNil))) (mC (.int 0)))))
 (mRet (mCB fStr (mCons (mVar 2) mNil)))
 mNext) [0, 1])
 (mRet (mVar 2)))))
noncomputable def mLFresh : Fn := noX (fnM false 4 mbLFresh)
theorem nxLFresh : NX mLFresh := nx_noX
theorem drLFresh (T : TX P K mg) (av : Addr → Prop) (cdv : Value) (A : Around) (outer : List Env) (s : Shared) (H : Hp) (E : XK) (hr : Room 1 (A.deeper (envOfC "_law_fresh" (defScope sLFresh) s.heap.objs.size T.fLFresh cdv))) : PSs (cxOf CX0 P w K mg base ["_law_bag", "_law_row", "_law_value_here", "_law_k"] "_law_fresh" (defScope sLFresh) T.fLFresh cdv A outer s H E).nox (defBody sLFresh) (tS ⟨K, cmT T, av, none⟩ WF mbLFresh) := by
  unfold mbLFresh
  exact (qs_cons (q_set (i := 2) scLFresh.nd rfl (.inl rfl) (q_op o_add v_add (q_op op_mulW v_mul (q_call nxLTake rfl (okLTake T) (hr.mono (by decide)) (by rfl) T.gLTake T.FLTake.kp T.bLTake (qa_cons (qv 0) (qa_cons (q_op op_pow v_pow qint qint) qa_nil))) qint) qint))
 (qs_cons (q_kl (q_for PassesOwn.never rfl (q_range1 (by rfl) T.n_range (qa_cons qint qa_nil)) (qg_kl (qg_name (i := 3) scLFresh.nd rfl (.inl rfl)))
 (qs_one (q_if (qt_cmp o_ge v_ord (q_call nxLPlace rfl (okLPlace T) (hr.mono (by decide)) (by rfl) T.gLPlace T.FLPlace.kp T.bLPlace (qa_cons (qv 1) (qa_cons (qv 2) qa_nil))) qint)
 (qs_one (q_set (i := 2) scLFresh.nd rfl (.inl rfl) (q_op o_add v_add (qv 2) qint)))
 qs_nil))))
 (qs_cons (q_kl (q_if (PW.pt (qw_and (qt_cmp (o_eqA hr.units) v_eqA (q_call nxLTake rfl (okLTake T) (hr.mono (by decide)) (by rfl) T.gLTake T.FLTake.kp T.bLTake (qa_cons (qv 0) (qa_cons qint qa_nil))) qint) (qw_and1 (qt_cmp o_lt v_ord (q_call nxLPlace rfl (okLPlace T) (hr.mono (by decide)) (by rfl) T.gLPlace T.FLPlace.kp T.bLPlace (qa_cons (qv 1) (qa_cons (q_callTy c_str v_str (by rfl) T.n_str boot_str (qa_cons (qv 2) qa_nil)) qa_nil))) qint))))
 (qs_one (q_ret (q_callTy c_str v_str (by rfl) T.n_str boot_str (qa_cons (qv 2) qa_nil))))
 qs_nil))
 (qs_one (q_ret (qv 2))))))
theorem okLFresh (T : TX P K mg) : FnOk P w K mg base CX0 2 T.fLFresh T.dLFresh ["_law_bag", "_law_row"] (spM K (cmT T) 2 mLFresh) := ok_def T.FLFresh scLFresh (drLFresh T)
noncomputable def mbLTarget : MS :=
 (mSeq (mAsg (mCall [true, false] mLTake (mCons (mVar 0) (mCons (mC (.int 20)) mNil))) (gNm 3))
 (mSeq (mIfS (mB (m2 (fEqA false) (mVar 3) (mC (.int 0))))
 (mRet (mCall [true, false] mLFresh (mCons (mVar 0) (mCons (m2 (fAdd false) (mVar 1) (mLst false (mCons (mVar 2) mNil))) mNil))))
 mNext)
 (mSeq (mIfS (mB (m2 (fEqA false) (mVar 3) (mC (.int 1))))
 (mRet (mVar 2))
 mNext)
 (mSeq (mIfS (mB (m2 (fEqA false) (mVar 3) (mC (.int 2))))
 (mRet (mCall [true] mLOdd (mCons (mVar 0) mNil)))
 mNext)
 (mSeq (mIfS (mOr (mB (m2 fLt (mVar 3) (mC (.int 8)))) (mB (m2 (fEqA false) (mCB fLen (mCons (mVar 1) mNil)) (mC (.int 0)))))
 (mRet (mC .non))
 mNext)
 (mSeq (mKl (mAsg (m2 fIxA (mVar 1) (mCall [true, false] mLTake (mCons (mVar 0) (mCons (mCB fLen (mCons (mVar 1) mNil)) mNil)))) (gNm 4)) [0, 1])
 (mSeq (mKl (mIfS (mAnd (mB (m2 (fEqA false) (mVar 4) (mVar 2))) (mB (m2 fGt (mVar 3) (mC (.int 9)))))
 (mRet (mC .non))
 mNext) [2, 3])
 (mRet (mVar 4)))))))))
noncomputable def mLTarget : Fn := noX (fnM false 5 mbLTarget)
theorem nxLTarget : NX mLTarget := nx_noX
theorem drLTarget (T : TX P K mg) (av : Addr → Prop) (cdv : Value) (A : Around) (outer : List Env) (s : Shared) (H : Hp) (E : XK) (hr : Room 2 (A.deeper (envOfC "_law_target" (defScope sLTarget) s.heap.objs.size T.fLTarget cdv))) : PSs (cxOf CX0 P w K mg base ["_law_bag", "_law_row", "_law_value_here", "_law_kind", "_law_found"] "_law_target" (defScope sLTarget) T.fLTarget cdv A outer s H E).nox (defBody sLTarget) (tS ⟨K, cmT T, av, none⟩ WF mbLTarget) := by
  unfold mbLTarget
  exact (qs_cons (q_set (i := 3) scLTarget.nd rfl (.inl rfl) (q_call nxLTake rfl (okLTake T) (hr.mono (by decide)) (by rfl) T.gLTake T.FLTake.kp T.bLTake (qa_cons (qv 0) (qa_cons qint qa_nil))))
 (qs_cons (q_if (qt_cmp (o_eqA hr.units) v_eqA (qv 3) qint)
 (qs_one (q_ret (q_call nxLFresh rfl (okLFresh T) (hr.mono (by decide)) (by rfl) T.gLFresh T.FLFresh.kp T.bLFresh (qa_cons (qv 0) (qa_cons (q_op o_add v_add (qv 1) (q_lst (qa_cons (qv 2) qa_nil))) qa_nil)))))
 qs_nil)
 (qs_cons (q_if (qt_cmp (o_eqA hr.units) v_eqA (qv 3) qint)
 (qs_one (q_ret (qv 2)))
 qs_nil)
 (qs_cons (q_if (qt_cmp (o_eqA hr.units) v_eqA (qv 3) qint)
 (qs_one (q_ret (q_call nxLOdd rfl (okLOdd T) (hr.mono (by decide)) (by rfl) T.gLOdd T.FLOdd.kp T.bLOdd (qa_cons (qv 0) qa_nil))))
 qs_nil)
 (qs_cons (q_if (PW.pt (qw_or (qt_cmp o_lt v_ord (qv 3) qint) (qw_or1 (qt_cmp (o_eqA hr.units) v_eqA (q_callB c_len' v_len (by rfl) T.n_len boot_len (qa_cons (qv 1) qa_nil)) qint))))
 (qs_one (q_ret qnon))
 qs_nil)
 (qs_cons (q_kl (q_set (i := 4) scLTarget.nd rfl (.inl rfl) (q_ixA rfl (qv 1) (q_call nxLTake rfl (okLTake T) (hr.mono (by decide)) (by rfl) T.gLTake T.FLTake.kp T.bLTake (qa_cons (qv 0) (qa_cons (q_callB c_len' v_len (by rfl) T.n_len boot_len (qa_cons (qv 1) qa_nil)) qa_nil))) (hu_of hr) (fun _ _ => rfl) (fun _ _ => rfl))))
 (qs_cons (q_kl (q_if (PW.pt (qw_and (qt_cmp (o_eqA hr.units) v_eqA (qv 4) (qv 2)) (qw_and1 (qt_cmp o_gt v_ord (qv 3) qint))))
 (qs_one (q_ret qnon))
 qs_nil))
 (qs_one (q_ret (qv 4))))))))))
theorem okLTarget (T : TX P K mg) : FnOk P w K mg base CX0 3 T.fLTarget T.dLTarget ["_law_bag", "_law_row", "_law_value_here"] (spM K (cmT T) 3 mLTarget) := ok_def T.FLTarget scLTarget (drLTarget T)
noncomputable def mbLEdit : MS :=
 (mSeq (mAsg (mCall [true, false] mLTake (mCons (mVar 0) (mCons (mC (.int 30)) mNil))) (gNm 2))
 (mSeq (mAsg (m2 fIxA (mLst false (mCons (mC (.str "drop")) (mCons (mC (.str "put")) (mCons (mC (.str "move")) mNil)))) (mCall [true, false] mLTake (mCons (mVar 0) (mCons (mC (.int 3)) mNil)))) (gNm 3))
 (mSeq (mAsg (mCall [true, false] mLFresh (mCons (mVar 0) (mCons (mVar 1) mNil))) (gNm 4))
 (mSeq (mIfS (mAnd (mB (m2 (fEqA false) (mCB fLen (mCons (mVar 1) mNil)) (mC (.int 0)))) (mB (m2 fGt (mVar 2) (mC (.int 4)))))
 (mAsg (mC (.str "put")) (gNm 3))
 (mIfS (mAnd (mB (m2 (fEqA true) (mVar 3) (mC (.str "put")))) (mB (m2 fGt (mCB fLen (mCons (mVar 1) mNil)) (mC (.int 0)))))
 (mAsg (m2 fIxA (mVar 1) (mCall [true, false] mLTake (mCons (mVar 0) (mCons (mCB fLen (mCons (mVar 1) mNil)) mNil)))) (gNm 4))
 mNext))
 (mSeq (mIfS (mB (m2 (fEqA false) (mVar 2) (mC (.int 0))))
 (mAsg (mCall [true] mLOdd (mCons (mVar 0) mNil)) (gNm 4))
 mNext)
 (mSeq (mIfS (mAnd (mB (m2 (fEqA false) (mVar 2) (mC (.int 1)))) (mB (m2 fGt (mCB fLen (mCons (mVar 1) mNil)) (mC (.int 0)))))
 (mAsg (m2 fIxA (mVar 1) (mCall [true, false] mLTake (mCons (mVar 0) (mCons (mCB fLen (mCons (mVar 1) mNil)) mNil)))) (gNm 4))
 mNext)
 (mSeq (mKl (mAsg (mTup (mCons (mVar 3) (mCons (mVar 4) (mCons (mCall [true, false, false] mLTarget (mCons (mVar 0) (mCons (mVar 1) (mCons (mVar 4) mNil)))) mNil)))) (gNm 5)) [1])
 (mSeq (mKl (mIfS (mB (m2 (fEqA false) (mVar 3) (mC (.str "drop"))))
 (mAsg (mSl false (mVar 5) mNoPart (mPart (mC (.int 2)))) (gNm 5))
 mNext) [3])
 (mSeq (mIfS (mB (m2 (fEqA false) (mVar 2) (mC (.int 2))))
 (mAsg (m2 fIxA (mLst false (mCons (mSl false (mVar 5) mNoPart (mPart (mC (.int 1)))) (mCons (mSl false (mVar 5) mNoPart (mPart (mC (.int 2)))) (mCons (m2 (fAdd false) (mVar 5) (mTup (mCons (mC .non) mNil))) (mCons (mCB (fList false) (mCons (mVar 5) mNil)) (mCons (mTup (mCons (mC (.str "put")) mNil)) (mCons (mC .non) (mCons (mC (.str "drop")) mNil)))))))) (mCall [true, false] mLTake (mCons (mVar 0) (mCons (mC (.int 7)) mNil)))) (gNm 5))
 mNext)
 (mSeq (mKl (mIfS (mB (m2 (fEqA false) (mVar 2) (mC (.int 3))))
 (mKl (mAsg (m2 fIxA (mLst false (mCons (mTup (mCons (mC (.str "Drop")) (mCons (mVar 4) mNil))) (mCons (mTup (mCons (mC (.str "swap")) (mCons (mVar 4) (mCons (mC .non) mNil)))) (mCons (mTup (mCons (mC .non) (mCons (mVar 4) mNil))) (mCons (mTup (mCons (mC (.int 1)) (mCons (mVar 4) (mCons (mC .non) mNil)))) mNil))))) (mCall [true, false] mLTake (mCons (mVar 0) (mCons (mC (.int 4)) mNil)))) (gNm 5)) [0, 4])
 mNext) [0, 2, 4])
 (mRet (mVar 5))))))))))))
noncomputable def mLEdit : Fn := noX (fnM false 6 mbLEdit)
theorem nxLEdit : NX mLEdit := nx_noX
theorem drLEdit (T : TX P K mg) (av : Addr → Prop) (cdv : Value) (A : Around) (outer : List Env) (s : Shared) (H : Hp) (E : XK) (hr : Room 3 (A.deeper (envOfC "_law_edit" (defScope sLEdit) s.heap.objs.size T.fLEdit cdv))) : PSs (cxOf CX0 P w K mg base ["_law_bag", "_law_row", "_law_kind", "_law_word", "_law_value_here", "_law_edit_here"] "_law_edit" (defScope sLEdit) T.fLEdit cdv A outer s H E).nox (defBody sLEdit) (tS ⟨K, cmT T, av, none⟩ WF mbLEdit) := by
  unfold mbLEdit
  exact (qs_cons (q_set (i := 2) scLEdit.nd rfl (.inl rfl) (q_call nxLTake rfl (okLTake T) (hr.mono (by decide)) (by rfl) T.gLTake T.FLTake.kp T.bLTake (qa_cons (qv 0) (qa_cons qint qa_nil))))
 (qs_cons (q_set (i := 3) scLEdit.nd rfl (.inl rfl) (q_ixA rfl (q_lst (qa_cons qstr (qa_cons qstr (qa_cons qstr qa_nil)))) (q_call nxLTake rfl (okLTake T) (hr.mono (by decide)) (by rfl) T.gLTake T.FLTake.kp T.bLTake (qa_cons (qv 0) (qa_cons qint qa_nil))) (hu_of hr) (fun _ _ => rfl) (fun _ _ => rfl)))
 (qs_cons (q_set (i := 4) scLEdit.nd rfl (.inl rfl) (q_call nxLFresh rfl (okLFresh T) (hr.mono (by decide)) (by rfl) T.gLFresh T.FLFresh.kp T.bLFresh (qa_cons (qv 0) (qa_cons (qv 1) qa_nil))))
 (qs_cons (q_if (PW.pt (qw_and (qt_cmp (o_eqA hr.units) v_eqA (q_callB c_len' v_len (by rfl) T.n_len boot_len (qa_cons (qv 1) qa_nil)) qint) (qw_and1 (qt_cmp o_gt v_ord (qv 2) qint))))
 (qs_one (q_set (i := 3) scLEdit.nd rfl (.inl rfl) qstr))
 (qs_one (q_if (PW.pt (qw_and (qt_cmp (o_neA hr.units) v_neA (qv 3) qstr) (qw_and1 (qt_cmp o_gt v_ord (q_callB c_len' v_len (by rfl) T.n_len boot_len (qa_cons (qv 1) qa_nil)) qint))))
 (qs_one (q_set (i := 4) scLEdit.nd rfl (.inl rfl) (q_ixA rfl (qv 1) (q_call nxLTake rfl (okLTake T) (hr.mono (by decide)) (by rfl) T.gLTake T.FLTake.kp T.bLTake (qa_cons (qv 0) (qa_cons (q_callB c_len' v_len (by rfl) T.n_len boot_len (qa_cons (qv 1) qa_nil)) qa_nil))) (hu_of hr) (fun _ _ => rfl) (fun _ _ => rfl))))
 qs_nil)))
 (qs_cons (q_if (qt_cmp (o_eqA hr.units) v_eqA (qv 2) qint)
 (qs_one (q_set (i := 4) scLEdit.nd rfl (.inl rfl) (q_call nxLOdd rfl (okLOdd T) (hr.mono (by decide)) (by rfl) T.gLOdd T.FLOdd.kp T.bLOdd (qa_cons (qv 0) qa_nil))))
 qs_nil)
 (qs_cons (q_if (PW.pt (qw_and (qt_cmp (o_eqA hr.units) v_eqA (qv 2) qint) (qw_and1 (qt_cmp o_gt v_ord (q_callB c_len' v_len (by rfl) T.n_len boot_len (qa_cons (qv 1) qa_nil)) qint))))
 (qs_one (q_set (i := 4) scLEdit.nd rfl (.inl rfl) (q_ixA rfl (qv 1) (q_call nxLTake rfl (okLTake T) (hr.mono (by decide)) (by rfl) T.gLTake T.FLTake.kp T.bLTake (qa_cons (qv 0) (qa_cons (q_callB c_len' v_len (by rfl) T.n_len boot_len (qa_cons (qv 1) qa_nil)) qa_nil))) (hu_of hr) (fun _ _ => rfl) (fun _ _ => rfl))))
 qs_nil)
 (qs_cons (q_kl (q_set (i := 5) scLEdit.nd rfl (.inl rfl) (q_tup (qa_cons (qv 3) (qa_cons (qv 4) (qa_cons (q_call nxLTarget rfl (okLTarget T) (hr.mono (by decide)) (by rfl) T.gLTarget T.FLTarget.kp T.bLTarget (qa_cons (qv 0) (qa_cons (qv 1) (qa_cons (qv 4) qa_nil)))) qa_nil))))))
 (qs_cons (q_kl (q_if (qt_cmp (o_eqA hr.units) v_eqA (qv 3) qstr)
 (qs_one (q_set (i := 5) scLEdit.nd rfl (.inl rfl) (q_slice rfl (qv 5) qo_none (qo_some qint))))
 qs_nil))
 (qs_cons (q_if (qt_cmp (o_eqA hr.units) v_eqA (qv 2) qint)
 (qs_one (q_set (i := 5) scLEdit.nd rfl (.inl rfl) (q_ixA rfl (q_lst (qa_cons (q_slice rfl (qv 5) qo_none (qo_some qint)) (qa_cons (q_slice rfl (qv 5) qo_none (qo_some qint)) (qa_cons (q_op o_add v_add (qv 5) (q_tup (qa_cons qnon qa_nil))) (qa_cons (q_callTy (r := qListOf K) c_list v_list (by rfl) T.n_list boot_list (qa_cons (qv 5) qa_nil)) (qa_cons (q_tup (qa_cons qstr qa_nil)) (qa_cons qnon (qa_cons qstr qa_nil)))))))) (q_call nxLTake rfl (okLTake T) (hr.mono (by decide)) (by rfl) T.gLTake T.FLTake.kp T.bLTake (qa_cons (qv 0) (qa_cons qint qa_nil))) (hu_of hr) (fun _ _ => rfl) (fun _ _ => rfl))))
 qs_nil)
 (qs_cons (q_kl (q_if (qt_cmp (o_eqA hr.units) v_eqA (qv 2) qint)
 (qs_one (q_kl (q_set (i := 5) scLEdit.nd rfl (.inl rfl) (q_ixA rfl (q_lst (qa_cons (q_tup (qa_cons qstr (qa_cons (qv 4) qa_nil))) (qa_cons (q_tup (qa_cons qstr (qa_cons (qv 4) (qa_cons qnon qa_nil)))) (qa_cons (q_tup (qa_cons qnon (qa_cons (qv 4) qa_nil))) (qa_cons (q_tup (qa_cons qint (qa_cons (qv 4) (qa_cons qnon qa_nil)))) qa_nil))))) (q_call nxLTake rfl (okLTake T) (hr.mono (by decide)) (by rfl) T.gLTake T.FLTake.kp T.bLTake (qa_cons (qv 0) (qa_cons qint qa_nil))) (hu_of hr) (fun _ _ => rfl) (fun _ _ => rfl)))))
 qs_nil))
 (qs_one (q_ret (qv 5)))))))))))))
theorem okLEdit (T : TX P K mg) : FnOk P w K mg base CX0 4 T.fLEdit T.dLEdit ["_law_bag", "_law_row"] (spM K (cmT T) 2 mLEdit) := ok_def T.FLEdit scLEdit (drLEdit T)
noncomputable def mbLPutIn : MS :=
 (mSeq (mKl (mAsg (mCall [true, false] mLTake (mCons (mVar 0) (mCons (m2 (fAdd false) (mCB fLen (mCons (mVar 1) mNil)) (mC (.int 1))) mNil))) (gNm 4)) [0])
 (mSeq (mIfS (mB (m2 (fEqA false) (mVar 3) (mC (.int 1))))
 (mAsg (mCB fLen (mCons (mVar 1) mNil)) (gNm 4))
 mNext)
 (mSeq (mKl (mIfS (mB (m2 (fEqA false) (mVar 3) (mC (.int 2))))
 (mAsg (mC (.int 0)) (gNm 4))
 mNext) [3])
 (mKl (mDrop (mBL fInsert (mVar 1) (mCons (mVar 4) (mCons (mVar 2) mNil)))) [1, 2, 4]))))
noncomputable def mLPutIn : Fn := noX (fnM false 5 mbLPutIn)
theorem nxLPutIn : NX mLPutIn := nx_noX
theorem drLPutIn (T : TX P K mg) (av : Addr → Prop) (cdv : Value) (A : Around) (outer : List Env) (s : Shared) (H : Hp) (E : XK) (hr : Room 1 (A.deeper (envOfC "_law_put_in" (defScope sLPutIn) s.heap.objs.size T.fLPutIn cdv))) : PSs (cxOf CX0 P w K mg base ["_law_bag", "_law_row", "_law_value_here", "_law_shape", "_law_at"] "_law_put_in" (defScope sLPutIn) T.fLPutIn cdv A outer s H E).nox (defBody sLPutIn) (tS ⟨K, cmT T, av, none⟩ WF mbLPutIn) := by
  unfold mbLPutIn
  exact (qs_cons (q_kl (q_set (i := 4) scLPutIn.nd rfl (.inl rfl) (q_call nxLTake rfl (okLTake T) (hr.mono (by decide)) (by rfl) T.gLTake T.FLTake.kp T.bLTake (qa_cons (qv 0) (qa_cons (q_op o_add v_add (q_callB c_len' v_len (by rfl) T.n_len boot_len (qa_cons (qv 1) qa_nil)) qint) qa_nil)))))
 (qs_cons (q_if (qt_cmp (o_eqA hr.units) v_eqA (qv 3) qint)
 (qs_one (q_set (i := 4) scLPutIn.nd rfl (.inl rfl) (q_callB c_len' v_len (by rfl) T.n_len boot_len (qa_cons (qv 1) qa_nil))))
 qs_nil)
 (qs_cons (q_kl (q_if (qt_cmp (o_eqA hr.units) v_eqA (qv 3) qint)
 (qs_one (q_set (i := 4) scLPutIn.nd rfl (.inl rfl) qint))
 qs_nil))
 (qs_one (q_kl (q_expr (q_bl rfl PySem.F.slot_list_insert PySem.F.type_list_insert mt_insert v_insert (qv 1) (qa_cons (qv 4) (qa_cons (qv 2) qa_nil)))))))))
theorem okLPutIn (T : TX P K mg) : FnOk P w K mg base CX0 2 T.fLPutIn T.dLPutIn ["_law_bag", "_law_row", "_law_value_here", "_law_shape"] (spM K (cmT T) 4 mLPutIn) := ok_def T.FLPutIn scLPutIn (drLPutIn T)
noncomputable def mbLValue : MS :=
 (mSeq (mKl (mAsg (m2 (fAdd false) (m2 fMul (mCall [true, false] mLTake (mCons (mVar 0) (mCons (m2 fPow (mC (.int 10)) (mC (.int 24))) mNil))) (mC (.int 100))) (mVar 1)) (gNm 2)) [1])
 (mSeq (mIfS (mB (m2 fGt (mCall [true, false] mLTake (mCons (mVar 0) (mCons (mC (.int 2)) mNil))) (mC (.int 0))))
 (mAsg (m1 fNeg (mVar 2)) (gNm 2))
 mNext)
 (mSeq (mKl (mIfS (mB (m2 (fEqA false) (mCall [true, false] mLTake (mCons (mVar 0) (mCons (mC (.int 3)) mNil))) (mC (.int 0))))
 (mRet (mCB fStr (mCons (mVar 2) mNil)))
 mNext) [0])
 (mRet (mVar 2)))))
noncomputable def mLValue : Fn := noX (fnM false 3 mbLValue)
theorem nxLValue : NX mLValue := nx_noX
theorem drLValue (T : TX P K mg) (av : Addr → Prop) (cdv : Value) (A : Around) (outer : List Env) (s : Shared) (H : Hp) (E : XK) (hr : Room 1 (A.deeper (envOfC "_law_value" (defScope sLValue) s.heap.objs.size T.fLValue cdv))) : PSs (cxOf CX0 P w K mg base ["_law_bag", "_law_k", "_law_number"] "_law_value" (defScope sLValue) T.fLValue cdv A outer s H E).nox (defBody sLValue) (tS ⟨K, cmT T, av, none⟩ WF mbLValue) := by
  unfold mbLValue
  exact (qs_cons (q_kl (q_set (i := 2) scLValue.nd rfl (.inl rfl) (q_op o_add v_add (q_op op_mulW v_mul (q_call nxLTake rfl (okLTake T) (hr.mono (by decide)) (by rfl) T.gLTake T.FLTake.kp T.bLTake (qa_cons (qv 0) (qa_cons (q_op op_pow v_pow qint qint) qa_nil))) qint) (qv 1))))
 (qs_cons (q_if (qt_cmp o_gt v_ord (q_call nxLTake rfl (okLTake T) (hr.mono (by decide)) (by rfl) T.gLTake T.FLTake.kp T.bLTake (qa_cons (qv 0) (qa_cons qint qa_nil))) qint)
 (qs_one (q_set (i := 2) scLValue.nd rfl (.inl rfl) (q_un un_neg v_neg (qv 2))))
 qs_nil)
 (qs_cons (q_kl (q_if (qt_cmp (o_eqA hr.units) v_eqA (q_call nxLTake rfl (okLTake T) (hr.mono (by decide)) (by rfl) T.gLTake T.FLTake.kp T.bLTake (qa_cons (qv 0) (qa_cons qint qa_nil))) qint)
 (qs_one (q_ret (q_callTy c_str v_str (by rfl) T.n_str boot_str (qa_cons (qv 2) qa_nil))))
 qs_nil))
 (qs_one (q_ret (qv 2))))))
theorem okLValue (T : TX P K mg) : FnOk P w K mg base CX0 2 T.fLValue T.dLValue ["_law_bag", "_law_k"] (spM K (cmT T) 2 mLValue) := ok_def T.FLValue scLValue (drLValue T)
noncomputable def mbLRows : MS :=
 (mSeq (mAsg (mCall [true, false] mLTake (mCons (mVar 0) (mCons (mC (.int 9)) mNil))) (gNm 1))
 (mSeq (mIfS (mB (m2 (fEqA false) (mCall [true, false] mLTake (mCons (mVar 0) (mCons (mC (.int 8)) mNil))) (mC (.int 0))))
 (mAsg (m2 (fAdd false) (mVar 1) (mC (.int 20))) (gNm 1))
 mNext)
 (mSeq (mAsg (mCall [true, false] mLTake (mCons (mVar 0) (mCons (mC (.int 4)) mNil))) (gNm 2))
 (mSeq (mAsg (mCall [true, false] mLTake (mCons (mVar 0) (mCons (mC (.int 3)) mNil))) (gNm 3))
 (mSeq (mAsg (mLst true (mCons (mLst true mNil) (mCons (mLst true mNil) mNil))) (gNm 4))
 (mSeq (mKl (mFor (mRange1 (mCons (mVar 1) mNil)) (gKl [1, 5, 6, 7] (gNm 5))
 (mSeq (mAsg (mCall [true, false] mLValue (mCons (mVar 0) (mCons (mVar 5) mNil))) (gNm 6))
 (mSeq (mAsg (mCall [true, false] mLTake (mCons (mVar 0) (mCons (mC (.int 5)) mNil))) (gNm 7))
 (mSeq (mIfS (mB (m2 (fEqA true) (mVar 7) (mC (.int 1))))
 (mDrop (mCall [true, true, false, false] mLPutIn (mCons (mVar 0) (mCons (m2 fIxA (mVar 4) (mC (.int 0))) (mCons (mVar 6) (mCons (mC (.int 1)) mNil))))))
 mNext)
 (mSeq (mIfS (mB (m2 (fEqA true) (mVar 7) (mC (.int 0))))
 (mDrop (mCall [true, true, false, false] mLPutIn (mCons (mVar 0) (mCons (m2 fIxA (mVar 4) (mC (.int 1))) (mCons (mVar 6) (mCons (mVar 2) mNil))))))
 mNext)
 (mKl (mIfS (mAnd (mB (m2 (fEqA false) (mVar 3) (mC (.int 0)))) (mAnd (mB (m2 fLt (mVar 5) (mC (.int 3)))) (mNot (mTr (mCB fIsi (mCons (mVar 6) (mCons (mC (.ty "str")) mNil)))))))
 (mKl (mDrop (mCall [true, true, false, false] mLPutIn (mCons (mVar 0) (mCons (m2 fIxA (mVar 4) (m2 fMod (mVar 7) (mC (.int 2)))) (mCons (mCB fStr (mCons (mVar 6) mNil)) (mCons (mC (.int 0)) mNil)))))) [6, 7])
 mNext) [5, 6, 7])))))) [0, 1, 2, 3, 5, 6, 7])
 (mRet (mVar 4))))))))
noncomputable def mLRows : Fn := fnP 8 mbLRows
theorem nxLRows : NX mLRows := nx_fnP
theorem okLRows (T : TX P K mg) : FnOk P w K mg base CX0 3 T.fLRows T.dLRows ["_law_bag"] (spM K (cmT T) 1 mLRows) := ok_defP T.FLRows scLRows fun av cdv A outer s H E hr => by
  unfold mbLRows
  exact (qs_cons (q_set (i := 1) scLRows.nd rfl (.inl rfl) (q_call nxLTake rfl (okLTake T) (hr.mono (by decide)) (by rfl) T.gLTake T.FLTake.kp T.bLTake (qa_cons (qv 0) (qa_cons qint qa_nil))))
 (qs_cons (q_if (qt_cmp (o_eqA hr.units) v_eqA (q_call nxLTake rfl (okLTake T) (hr.mono (by decide)) (by rfl) T.gLTake T.FLTake.kp T.bLTake (qa_cons (qv 0) (qa_cons qint qa_nil))) qint)
 (qs_one (q_set (i := 1) scLRows.nd rfl (.inl rfl) (q_op o_add v_add (qv 1) qint)))
 qs_nil)
 (qs_cons (q_set (i := 2) scLRows.nd rfl (.inl rfl) (q_call nxLTake rfl (okLTake T) (hr.mono (by decide)) (by rfl) T.gLTake T.FLTake.kp T.bLTake (qa_cons (qv 0) (qa_cons qint qa_nil))))
 (qs_cons (q_set (i := 3) scLRows.nd rfl (.inl rfl) (q_call nxLTake rfl (okLTake T) (hr.mono (by decide)) (by rfl) T.gLTake T.FLTake.kp T.bLTake (qa_cons (qv 0) (qa_cons qint qa_nil))))
 (qs_cons (q_set (i := 4) scLRows.nd rfl (.inl rfl) (q_lst (qa_cons (q_lst qa_nil) (qa_cons (q_lst qa_nil) qa_nil))))
 (qs_cons (q_kl (q_for PassesOwn.never rfl (q_range1 (by rfl) T.n_range (qa_cons (qv 1) qa_nil)) (qg_kl (qg_name (i := 5) scLRows.nd rfl (.inl rfl)))
 (qs_cons (q_set (i := 6) scLRows.nd rfl (.inl rfl) (q_call nxLValue rfl (okLValue T) (hr.mono (by decide)) (by rfl) T.gLValue T.FLValue.kp T.bLValue (qa_cons (qv 0) (qa_cons (qv 5) qa_nil))))
 (qs_cons (q_set (i := 7) scLRows.nd rfl (.inl rfl) (q_call nxLTake rfl (okLTake T) (hr.mono (by decide)) (by rfl) T.gLTake T.FLTake.kp T.bLTake (qa_cons (qv 0) (qa_cons qint qa_nil))))
 (qs_cons (q_if (qt_cmp (o_neA hr.units) v_neA (qv 7) qint)
 (qs_one (q_expr (q_call nxLPutIn rfl (okLPutIn T) (hr.mono (by decide)) (by rfl) T.gLPutIn T.FLPutIn.kp T.bLPutIn (qa_cons (qv 0) (qa_cons (q_ixA rfl (qv 4) qint (hu_of hr) (fun _ _ => rfl) (fun _ _ => rfl)) (qa_cons (qv 6) (qa_cons qint qa_nil)))))))
 qs_nil)
 (qs_cons (q_if (qt_cmp (o_neA hr.units) v_neA (qv 7) qint)
 (qs_one (q_expr (q_call nxLPutIn rfl (okLPutIn T) (hr.mono (by decide)) (by rfl) T.gLPutIn T.FLPutIn.kp T.bLPutIn (qa_cons (qv 0) (qa_cons (q_ixA rfl (qv 4) qint (hu_of hr) (fun _ _ => rfl) (fun _ _ => rfl)) (qa_cons (qv 6) (qa_cons (qv 2) qa_nil)))))))
 qs_nil)
 (qs_one (q_kl (q_if (PW.pt (qw_and (qt_cmp (o_eqA hr.units) v_eqA (qv 3) qint) (qw_and (qt_cmp o_lt v_ord (qv 5) qint) (qw_and1 (qt_not (qt_tr rfl (q_callB call_isi v_isi (by rfl) T.n_isinstance boot_isinstance (qa_cons (qv 6) (qa_cons (q_ty (by rfl) T.n_str boot_str) qa_nil))) (by intro _; rfl)))))))
 (qs_one (q_kl (q_expr (q_call nxLPutIn rfl (okLPutIn T) (hr.mono (by decide)) (by rfl) T.gLPutIn T.FLPutIn.kp T.bLPutIn (qa_cons (qv 0) (qa_cons (q_ixA rfl (qv 4) (q_op op_mod v_mod (qv 7) qint) (hu_of hr) (fun _ _ => rfl) (fun _ _ => rfl)) (qa_cons (q_callTy c_str v_str (by rfl) T.n_str boot_str (qa_cons (qv 6) qa_nil)) (qa_cons qint qa_nil))))))))
 qs_nil)))))))))
 (qs_one (q_ret (qv 4)))))))))
noncomputable def mbLaw : MS :=
 (mSeq (mKl (mAsg (mLst true (mCons (mCB (fList false) (mCons (mVar 0) mNil)) (mCons (mC (.int 0)) (mCons (mC (.int 0)) (mCons (mC (.int 0)) mNil))))) (gNm 1)) [0])
 (mSeq (mBlk (mSeq (mAsg (mCallP [true] mLRows (mCons (mVar 1) mNil)) (gNm 2))
 (mSeq (mKl (mAsg (m2 fIxA (mVar 2) (mC (.int 0))) (gNm 3)) [2])
 (mIfS (mAnd (mB (m2 (fEqA false) (mCall [true, false] mLTake (mCons (mVar 1) (mCons (mC (.int 4)) mNil))) (mC (.int 0)))) (mB (m2 fLt (mCall [false, false] mLPlace (mCons (mVar 3) (mCons (mC (.int 1)) mNil))) (mC (.int 0)))))
 (mDrop (mBL fAppend (mVar 3) (mCons (mC (.int 1)) mNil)))
 mNext))))
 (mSeq (mBlk (mSeq (mAsg (mCall [true, false] mLTake (mCons (mVar 1) (mCons (mC (.int 16)) mNil))) (gNm 4))
 (mSeq (mAsg (mCall [true, false] mLTake (mCons (mVar 1) (mCons (mC (.int 2)) mNil))) (gNm 5))
 (mSeq (mAsg (mLst true mNil) (gNm 6))
 (mSeq (mAsg (mCB (fList false) (mCons (mVar 3) mNil)) (gNm 7))
 (mSeq (mAsg (mC .non) (gNm 8))
 (mKl (mFor (mRange1 (mCons (mCall [true, false] mLTake (mCons (mVar 1) (mCons (mC (.int 13)) mNil))) mNil)) (gKl [9, 10, 11] (gNm 9))
 (mSeq (mAsg (mVar 7) (gNm 10))
 (mSeq (mIfS (mB (m2 (fIsN false) (mVar 10) (mC .non)))
 (mAsg (mVar 3) (gNm 10))
 mNext)
 (mSeq (mKl (mAsg (mCall [true, false] mLEdit (mCons (mVar 1) (mCons (mVar 10) mNil))) (gNm 11)) [10])
 (mSeq (mDrop (mBL fAppend (mVar 6) (mCons (mVar 11) mNil)))
 (mKl (mIfS (mB (m2 (fIsN true) (mVar 7) (mC .non)))
 (mSeq (mKl (mAsg (mCall [false, false] mLDone (mCons (mVar 7) (mCons (mVar 11) mNil))) (gNm 7)) [11])
 (mKl (mIfS (mB (m2 (fIsN false) (mVar 7) (mC .non)))
 (mKl (mAsg (mVar 9) (gNm 8)) [9])
 mNext) [9]))
 mNext) [9, 11])))))) [9, 10, 11])))))))
 (mSeq (mAsg (mVar 6) (gNm 12))
 (mSeq (mKl (mIfS (mB (m2 fGt (mVar 5) (mC (.int 0))))
 (mAsg (mCB fTuple (mCons (mVar 6) mNil)) (gNm 12))
 mNext) [5])
 (mSeq (mKl (mIfS (mB (m2 (fEqA false) (mVar 4) (mC (.int 0))))
 (mSeq (mAsg (m1 fNeg (mC (.int 1))) (gNm 8))
 (mKl (mAsg (m2 fIxA (mLst false (mCons (mC .non) (mCons (mC (.str "drop")) (mCons (mDisp false [((mC (.str "drop")), (mC (.int 1)))]) (mCons (mC (.int 3)) (mCons (mC (.bl true)) mNil)))))) (mCall [true, false] mLTake (mCons (mVar 1) (mCons (mC (.int 5)) mNil)))) (gNm 12)) [1]))
 mNext) [1, 4])
 (mSeq (mAsg (mCB (fList false) (mCons (mVar 3) mNil)) (gNm 13))
 (mSeq (mAsg (mCB fRepr (mCons (mVar 6) mNil)) (gNm 14))
 (mSeq (mKl (mFor (mRange1 (mCons (mC (.int 2)) mNil)) (gKl [15, 16, 17] (gNm 15))
 (mBlk (mSeq (mKl (mAsg (mTup (mCons (mC (.str "none")) (mCons (mC .non) mNil))) (gNm 16)) [16])
 (mSeq (mKl (mTry (fun c => if c = "BadEdit" then some true else none) 17 (mAsg (mTup (mCons (mC (.str "told")) (mCons (mCall [false, false] mEditedo (mCons (mVar 13) (mCons (mVar 12) mNil))) mNil))) (gNm 16))
 (mSeq (mAsg (mTup (mCons (mC (.str "refused")) (mCons (mXf "BadEdit" 17 "index") mNil))) (gNm 16))
 (mKl (mIfS (mOr (mNot (mTr (mXis "BadEdit" 17 true))) (mOr (mTr (mXis "BadEdit" 17 false)) (mTr (mXis "BadEdit" 17 false))))
 (mRet (mC (.bl false)))
 mNext) [17]))) [17])
 (mSeq (mIfS (mAnd (mB (m2 (fIsN false) (mVar 8) (mC .non))) (mOr (mB (m2 (fEqA true) (m2 fIxA (mVar 16) (mC (.int 0))) (mC (.str "told")))) (mOr (mNot (mTr (mCB fIsi (mCons (m2 fIxA (mVar 16) (mC (.int 1))) (mCons (mC (.ty "list")) mNil))))) (mB (m2 (fEqA true) (m2 fIxA (mVar 16) (mC (.int 1))) (mVar 7))))))
 (mRet (mC (.bl false)))
 mNext)
 (mSeq (mIfS (mAnd (mB (m2 (fIsN true) (mVar 8) (mC .non))) (mOr (mB (m2 (fEqA true) (m2 fIxA (mVar 16) (mC (.int 0))) (mC (.str "refused")))) (mOr (mTr (mCB fIsi (mCons (m2 fIxA (mVar 16) (mC (.int 1))) (mCons (mC (.ty "bool")) mNil)))) (mB (m2 (fEqA true) (m2 fIxA (mVar 16) (mC (.int 1))) (mVar 8))))))
 (mRet (mC (.bl false)))
 mNext)
 (mSeq (mIfS (mOr (mB (m2 (fEqA true) (mVar 13) (mVar 3))) (mB (m2 (fEqA true) (mCB fRepr (mCons (mVar 6) mNil)) (mVar 14))))
 (mRet (mC (.bl false)))
 mNext)
 (mKl (mIfS (mB (m2 (fIsN false) (mVar 8) (mC .non)))
 (mKl (mDrop (mBL fAppend (m2 fIxA (mVar 16) (mC (.int 1))) (mCons (mC (.str "x")) mNil))) [16])
 mNext) [16])))))))) [3, 6, 7, 8, 12, 13, 14, 15, 16, 17])
 (mRet (mC (.bl true))))))))))))
noncomputable def mLaw : Fn := noX (fnM false 18 mbLaw)
theorem okLaw (T : TX P K mg) : FnG P w K mg base CX0 5 T.fLaw T.dLaw ["_law_script"] (spM K (cmT T) 1 mLaw) := ok_defG T.FLaw scLaw fun av cdv A outer s H E gd hr => by
  unfold mbLaw
  exact (qs_app 1 (qs_one (q_kl (q_set (i := 1) scLaw.nd rfl (.inl rfl) (q_lst (qa_cons (q_callTy (r := qListOf K) c_list v_list (by rfl) T.n_list boot_list (qa_cons (qv 0) qa_nil)) (qa_cons qint (qa_cons qint (qa_cons qint qa_nil))))))))
 (qs_app 3 (qs_blk (qs_cons (q_set (i := 2) scLaw.nd rfl (.inl rfl) (q_callP nxLRows rfl (okLRows T) (hr.mono (by decide)) (by rfl) T.gLRows T.FLRows.kp T.bLRows (qa_cons (qv 1) qa_nil)))
 (qs_cons (q_kl (q_set (i := 3) scLaw.nd rfl (.inl rfl) (q_ixA rfl (qv 2) qint (hu_of hr) (fun _ _ => rfl) (fun _ _ => rfl))))
 (qs_one (q_if (PW.pt (qw_and (qt_cmp (o_eqA hr.units) v_eqA (q_call nxLTake rfl (okLTake T) (hr.mono (by decide)) (by rfl) T.gLTake T.FLTake.kp T.bLTake (qa_cons (qv 1) (qa_cons qint qa_nil))) qint) (qw_and1 (qt_cmp o_lt v_ord (q_call nxLPlace rfl (okLPlace T) (hr.mono (by decide)) (by rfl) T.gLPlace T.FLPlace.kp T.bLPlace (qa_cons (qv 3) (qa_cons qint qa_nil))) qint))))
 (qs_one (q_expr (q_bl rfl PySem.F.slot_list_append PySem.F.type_list_append mt_append v_append (qv 3) (qa_cons qint qa_nil))))
 qs_nil)))))
 (qs_app 6 (qs_blk (qs_cons (q_set (i := 4) scLaw.nd rfl (.inl rfl) (q_call nxLTake rfl (okLTake T) (hr.mono (by decide)) (by rfl) T.gLTake T.FLTake.kp T.bLTake (qa_cons (qv 1) (qa_cons qint qa_nil))))
 (qs_cons (q_set (i := 5) scLaw.nd rfl (.inl rfl) (q_call nxLTake rfl (okLTake T) (hr.mono (by decide)) (by rfl) T.gLTake T.FLTake.kp T.bLTake (qa_cons (qv 1) (qa_cons qint qa_nil))))
 (qs_cons (q_set (i := 6) scLaw.nd rfl (.inl rfl) (q_lst qa_nil))
 (qs_cons (q_set (i := 7) scLaw.nd rfl (.inl rfl) (q_callTy (r := qListOf K) c_list v_list (by rfl) T.n_list boot_list (qa_cons (qv 3) qa_nil)))
 (qs_cons (q_set (i := 8) scLaw.nd rfl (.inl rfl) qnon)
 (qs_one (q_kl (q_for PassesOwn.never rfl (q_range1 (by rfl) T.n_range (qa_cons (q_call nxLTake rfl (okLTake T) (hr.mono (by decide)) (by rfl) T.gLTake T.FLTake.kp T.bLTake (qa_cons (qv 1) (qa_cons qint qa_nil))) qa_nil)) (qg_kl (qg_name (i := 9) scLaw.nd rfl (.inl rfl)))
 (qs_cons (q_set (i := 10) scLaw.nd rfl (.inl rfl) (qv 7))
 (qs_cons (q_if (qt_cmp o_is v_is (qv 10) qnon)
 (qs_one (q_set (i := 10) scLaw.nd rfl (.inl rfl) (qv 3)))
 qs_nil)
 (qs_cons (q_kl (q_set (i := 11) scLaw.nd rfl (.inl rfl) (q_call nxLEdit rfl (okLEdit T) (hr.mono (by decide)) (by rfl) T.gLEdit T.FLEdit.kp T.bLEdit (qa_cons (qv 1) (qa_cons (qv 10) qa_nil)))))
 (qs_cons (q_expr (q_bl rfl PySem.F.slot_list_append PySem.F.type_list_append mt_append v_append (qv 6) (qa_cons (qv 11) qa_nil)))
 (qs_one (q_kl (q_if (qt_cmp o_isnot v_is (qv 7) qnon)
 (qs_cons (q_kl (q_set (i := 7) scLaw.nd rfl (.inl rfl) (q_call nxLDone rfl (okLDone T) (hr.mono (by decide)) (by rfl) T.gLDone T.FLDone.kp T.bLDone (qa_cons (qv 7) (qa_cons (qv 11) qa_nil)))))
 (qs_one (q_kl (q_if (qt_cmp o_is v_is (qv 7) qnon)
 (qs_one (q_kl (q_set (i := 8) scLaw.nd rfl (.inl rfl) (qv 9))))
 qs_nil))))
 qs_nil))))))))))))))))
 (qs_cons (q_set (i := 12) scLaw.nd rfl (.inl rfl) (qv 6))
 (qs_cons (q_kl (q_if (qt_cmp o_gt v_ord (qv 5) qint)
 (qs_one (q_set (i := 12) scLaw.nd rfl (.inl rfl) (q_callTy call_tuple_of v_tuple (by rfl) T.n_tuple boot_tuple (qa_cons (qv 6) qa_nil))))
 qs_nil))
 (qs_cons (q_kl (q_if (qt_cmp (o_eqA hr.units) v_eqA (qv 4) qint)
 (qs_cons (q_set (i := 8) scLaw.nd rfl (.inl rfl) (q_un un_neg v_neg qint))
 (qs_one (q_kl (q_set (i := 12) scLaw.nd rfl (.inl rfl) (q_ixA rfl (q_lst (qa_cons qnon (qa_cons qstr (qa_cons (q_disp (ps := [((mC (.str "drop")), (mC (.int 1)))]) (pps_cons (pe_e fun _ => qstr) (pe_e fun _ => qint) pps_nil)) (qa_cons qint (qa_cons qbl qa_nil)))))) (q_call nxLTake rfl (okLTake T) (hr.mono (by decide)) (by rfl) T.gLTake T.FLTake.kp T.bLTake (qa_cons (qv 1) (qa_cons qint qa_nil))) (hu_of hr) (fun _ _ => rfl) (fun _ _ => rfl))))))
 qs_nil))
 (qs_cons (q_set (i := 13) scLaw.nd rfl (.inl rfl) (q_callTy (r := qListOf K) c_list v_list (by rfl) T.n_list boot_list (qa_cons (qv 3) qa_nil)))
 (qs_cons (q_set (i := 14) scLaw.nd rfl (.inl rfl) (q_callB (call_reprX rfl gd hr) v_repr (by rfl) T.n_repr boot_repr (qa_cons (qv 6) qa_nil)))
 (qs_cons (q_kl (q_for PassesOwn.never rfl (q_range1 (by rfl) T.n_range (qa_cons qint qa_nil)) (qg_kl (qg_name (i := 15) scLaw.nd rfl (.inl rfl)))
 (qs_blk (qs_cons (q_kl (q_set (i := 16) scLaw.nd rfl (.inl rfl) (q_tup (qa_cons qstr (qa_cons qnon qa_nil)))))
 (qs_cons (q_kl (ps_wf (q_try (j := 17) rfl rfl rfl scLaw.nd rfl (by rfl) ⟨by rfl, by decide, .inl T.gcBadEdit⟩ L2.takes0 (sub1 (cm_BadEdit T) T.exm_BadEdit_BadEdit) (fun W pn xe tk po => (qs_one (q_set (i := 16) scLaw.nd rfl (.inl rfl) (q_tup (qa_cons qstr (qa_cons (q_callX tk rfl (okEditedo T) (hr.mono (by decide)) (by rfl) T.gEdited T.FEdited.kp T.bEdited (qa_cons (qv 13) (qa_cons (qv 12) qa_nil))) qa_nil))))))
 (fun a oe cls d pn hze hfe => (qs_cons (q_set (i := 16) scLaw.nd rfl (.inl rfl) (q_tup (qa_cons qstr (qa_cons (q_xf (j := 17) T.ecBadEdit.xf T.ecBadEdit.nf (cm_BadEdit T) hze hfe) qa_nil))))
 (qs_one (q_kl (q_if (PW.pt (qw_or (qt_not (qt_tr rfl (q_xis (j := 17) T.ecBadEdit.is T.kit_BadEdit_DrawnError (cm_BadEdit T) hze hfe (by rfl) T.n_isinstance (by rfl) T.gcDrawnError) (by intro _; rfl))) (qw_or (qt_tr rfl (q_xis (j := 17) T.ecBadEdit.is T.kit_BadEdit_BadDeeds (cm_BadEdit T) hze hfe (by rfl) T.n_isinstance (by rfl) T.gcBadDeeds) (by intro _; rfl)) (qw_or1 (qt_tr rfl (q_xis (j := 17) T.ecBadEdit.is T.kit_BadEdit_InvalidNumber (cm_BadEdit T) hze hfe (by rfl) T.n_isinstance (by rfl) T.gcInvalidNumber) (by intro _; rfl))))))
 (qs_one (q_ret qbl))
 qs_nil))))))))
 (qs_cons (q_if (PW.pt (qw_and (qt_cmp o_is v_is (qv 8) qnon) (qw_and1 (PW.pt (qw_or (qt_cmp (o_neA hr.units) v_neA (q_ixA rfl (qv 16) qint (hu_of hr) (fun _ _ => rfl) (fun _ _ => rfl)) qstr) (qw_or (qt_not (qt_tr rfl (q_callB call_isi v_isi (by rfl) T.n_isinstance boot_isinstance (qa_cons (q_ixA rfl (qv 16) qint (hu_of hr) (fun _ _ => rfl) (fun _ _ => rfl)) (qa_cons (q_ty (by rfl) T.n_list boot_list) qa_nil))) (by intro _; rfl))) (qw_or1 (qt_cmp (o_neA hr.units) v_neA (q_ixA rfl (qv 16) qint (hu_of hr) (fun _ _ => rfl) (fun _ _ => rfl)) (qv 7)))))))))
 (qs_one (q_ret qbl))
 qs_nil)
 (qs_cons (q_if (PW.pt (qw_and (qt_cmp o_isnot v_is (qv 8) qnon) (qw_and1 (PW.pt (qw_or (qt_cmp (o_neA hr.units) v_neA (q_ixA rfl (qv 16) qint (hu_of hr) (fun _ _ => rfl) (fun _ _ => rfl)) qstr) (qw_or (qt_tr rfl (q_callB call_isi v_isi (by rfl) T.n_isinstance boot_isinstance (qa_cons (q_ixA rfl (qv 16) qint (hu_of hr) (fun _ _ => rfl) (fun _ _ => rfl)) (qa_cons (q_ty (by rfl) T.n_bool boot_bool) qa_nil))) (by intro _; rfl)) (qw_or1 (qt_cmp (o_neA hr.units) v_neA (q_ixA rfl (qv 16) qint (hu_of hr) (fun _ _ => rfl) (fun _ _ => rfl)) (qv 8)))))))))
 (qs_one (q_ret qbl))
 qs_nil)
 (qs_cons (q_if (PW.pt (qw_or (qt_cmp (o_neA hr.units) v_neA (qv 13) (qv 3)) (qw_or1 (qt_cmp (o_neA hr.units) v_neA (q_callB (call_reprX rfl gd hr) v_repr (by rfl) T.n_repr boot_repr (qa_cons (qv 6) qa_nil)) (qv 14)))))
 (qs_one (q_ret qbl))
 qs_nil)
 (qs_one (q_kl (q_if (qt_cmp o_is v_is (qv 8) qnon)
 (qs_one (q_kl (q_expr (q_bl rfl PySem.F.slot_list_append PySem.F.type_list_append mt_append v_append (q_ixA rfl (qv 16) qint (hu_of hr) (fun _ _ => rfl) (fun _ _ => rfl)) (qa_cons qstr qa_nil)))))
 qs_nil)))))))))))
 (qs_one (q_ret qbl)))))))))))
end
end Ke

namespace Ke
open PySem PySem.Spec PyProof.Rows L2 Lb Nn
local macro_rules | `(tactic| wtm_at "ev") => `(tactic| simp only [Nn.seq_ap, Nn.next_ap, Nn.brk_ap, Nn.cnt_ap, Nn.var_ap, Nn.varK_ok, Nn.c_ap, Nn.m2_ap, Nn.m2K_ap, Nn.m2J_ap, Nn.m1_ap, Nn.mB_ap, Nn.mBK_ap, Nn.and_ap, Nn.or_ap, Nn.not_ap, Nn.andK_T, Nn.andK_F, Nn.orK_T, Nn.orK_F, Nn.notK_ap, Nn.andV_ap, Nn.orV_ap, Nn.notV_ap, Nn.ifE_ap, Nn.andVK_T, Nn.andVK_F, Nn.orVK_T, Nn.orVK_F, Nn.notVK_ap, Nn.ifEK_T, Nn.ifEK_F, Nn.nil_ap, Nn.cons_ap, Nn.consK_ap, Nn.consJ_ap, Nn.star_ap, Nn.starJ_ap, Nn.starK_tup, Nn.starK_tuf, Nn.starK_fl, Nn.starK_lc, Nn.starO_lst, Nn.lcL_nil, Nn.loopP_nil, List.append_nil,  Nn.tup_ap, Nn.lst_ap, Nn.newL_T, Nn.newL_F, Nn.newD_T, Nn.newD_F, Nn.dnew_ap, Nn.cb_ap, Nn.call_ap, Nn.callD_ap, Nn.callDD, Nn.dyn_nil, Nn.dyn_F, Nn.dyn_loc, Nn.dyn_fd, Nn.dyn_fl, Nn.dyn_tup, Nn.dyn_non, Nn.disp_ap, Nn.prs_nil, Nn.prs_cons, Nn.prA_ap, Nn.prB_ap, Nn.prC_str, Nn.prC_int, Nn.dispK_1, Nn.tr_ap, Nn.trK_bl, Nn.asg_ap, Nn.asgK_ap, Nn.asgJ_ok, Nn.gnm_ap, Nn.gkl_ap, Nn.ret_ap, Nn.retK_ap, Nn.retN_ap, Nn.drop_ap, Nn.dropK_ap, Nn.if_ap, Nn.ifK_T, Nn.ifK_F, Nn.kl_ap, Nn.klK_ap, Nn.wipe_nil, Nn.wipe_cons, Nn.put_mk, Nn.start_mk, Nn.for_ap, Nn.forK_ap, Nn.itP_l, Nn.it_ap, Nn.itK_tup, Nn.itK_tuf, Nn.itK_fl, Nn.itK_sc, Nn.itK_fd, Nn.itK_lc, Nn.revA_ap, Nn.revAK_tup, Nn.revAK_tuf, Nn.revAK_fl, List.reverse_cons, List.reverse_nil, Nn.itO_lst, Nn.itL_l, Nn.loopP_consG, Nn.lpC_ok, Nn.turn_nx, Nn.turn_ct, Nn.turn_rt, Nn.turn_bk, Nn.lcL_consG, Nn.lcC1_ap, Nn.lcC2_T, Nn.lcC2_F, Nn.gtp_tup, Nn.gtK_ok, Nn.gcn_ap, Nn.gcJ_ap, Nn.gnl_ap, Nn.en_nil, Nn.en_cons, Nn.sl_tup, Nn.sl_fl, Nn.cut_d1, Nn.cut_d2, Nn.cut_t1, Nn.cut_t2, List.take_succ_cons, List.take_zero, List.drop_succ_cons, List.drop_zero, List.take_nil, List.drop_nil, Nn.itK_str, Nn.range1_ap, Nn.enum_ap, Nn.enK_tup, Nn.enK_tuf, Nn.enK_fl, Nn.lc_ap, Nn.lcK_ap, Nn.newLK_ap, Nn.yes_ap, Nn.blk_ap, Nn.blkK_nx, Nn.blkK_ct, Nn.blkK_bk, Nn.blkK_rt, Nn.blkO_some, Nn.cons2_some, Nn.frzE_nil, Nn.frzE_none, Nn.frzE_cons, Nn.frzS_nil, Nn.frzS_cons, Nn.app2_some, Option.map_some, List.take_succ_cons, Nn.bind_ok, Nn.bindS_ok, Nn.bindN_nx, Nn.bindN_rt, Nn.bindN_ct, Nn.bindN_bk, Nn.bind_bind, Nn.bind_bindS, Nn.bindS_bindN, Nn.bindN_bindN, Nn.bbK_ap, Nn.bsK_ap, Nn.snK_ap, Nn.nnK_ap, Nn.aug_ap, Nn.augK_ap, Nn.augI_ap, Nn.augJ_ap, Nn.bl_ap, Nn.blK_ap, Nn.blO_ap, Nn.blJ_ap, Nn.index_ap, Nn.idxK_tuf, Nn.idxK_fl, Nn.join_ap, Nn.joinK_ap, Nn.fld_ap, Nn.sfld_ap, Nn.sfK_ap, Nn.mkF_ap, Nn.part_ap, Nn.partK_ap, Nn.noPart_ap, Nn.sl_ap, Nn.slA_ap, Nn.slB_ap, Nn.slC_ap, Nn.at0, Nn.at1, Nn.at2, Nn.at3, Nn.at4, Nn.at5, Nn.at6, Nn.at7, Nn.at8, Nn.at9, Nn.oD_some, Nn.ix_tup, Nn.ix_tuf, Nn.ix_fl, Nn.ix_sc, Nn.ix_lc, Nn.ixO_lst, Nn.ixO_dic, Nn.ixO_dicI, Nn.gsb_ap, Nn.okB_ok, Nn.gsA_ap, Nn.gsC_ap, Nn.gsE_ap, Nn.set_lc, Nn.setO_lst, Nn.setJ_some, Nn.ixN_L0, Nn.ixN_L1, Nn.ixN_L2, Nn.ixN_L3, Nn.ixN_L4, Nn.ixN_L5, Nn.add_int, Nn.sub_int, Nn.neg_int, Nn.lt_int, Nn.le_int, Nn.gt_int, Nn.ge_int, Nn.eq_int, Nn.eq_str, Nn.eq_bl, Nn.is_non, Nn.is_tup, Nn.is_str, Nn.is_int, Nn.is_bl, Nn.int_int, Nn.int_bl, Nn.abs_int, Nn.len_tup, Nn.len_tuf, Nn.len_fl, Nn.len_sc, Nn.len_lc, Nn.lenQ_lst, Nn.lenQ_dic, Nn.tuple_fl, Nn.tuple_lc, Nn.tupO_lst, Nn.sl_lc, Nn.slO_lst, Nn.min2_int, Nn.lstRg_ap, Nn.tupleF_fl, Nn.isi_ap, Nn.ty_non, Nn.ty_bl, Nn.ty_int, Nn.ty_str, Nn.ty_tup, Nn.ty_tuf, Nn.ty_fl, Nn.ty_sc, Nn.ty_fd, Nn.ty_lc, Nn.tyO_lst, Nn.tyO_dic, Nn.isO_NoneType_bool, Nn.isO_NoneType_int, Nn.isO_NoneType_str, Nn.isO_NoneType_tuple, Nn.isO_NoneType_list, Nn.isO_NoneType_dict, Nn.isO_bool_bool, Nn.isO_bool_int, Nn.isO_bool_str, Nn.isO_bool_tuple, Nn.isO_bool_list, Nn.isO_bool_dict, Nn.isO_int_bool, Nn.isO_int_int, Nn.isO_int_str, Nn.isO_int_tuple, Nn.isO_int_list, Nn.isO_int_dict, Nn.isO_str_bool, Nn.isO_str_int, Nn.isO_str_str, Nn.isO_str_tuple, Nn.isO_str_list, Nn.isO_str_dict, Nn.isO_tuple_bool, Nn.isO_tuple_int, Nn.isO_tuple_str, Nn.isO_tuple_tuple, Nn.isO_tuple_list, Nn.isO_tuple_dict, Nn.isO_list_bool, Nn.isO_list_int, Nn.isO_list_str, Nn.isO_list_tuple, Nn.isO_list_list, Nn.isO_list_dict, Nn.isO_dict_bool, Nn.isO_dict_int, Nn.isO_dict_str, Nn.isO_dict_tuple, Nn.isO_dict_list, Nn.isO_dict_dict, Nn.chain_ap, Nn.chA_ap, Nn.chB_ap, Nn.chC_T, Nn.chC_F, Nn.chD_ap, Nn.trK_gen, Nn.trO_some, Nn.tru_tup, Nn.tru_fl, Nn.tru_non, Nn.tru_bl, Nn.tru_int, Nn.emp_nil, Nn.emp_cons, Nn.emp_map, Nn.all_nil, Nn.sum_nil, Nn.ix_fdM, Nn.in_fdM, Nn.lookD_cons, Nn.fldK_foG, Nn.fldC_T, Nn.cont1, Nn.fldO_gen, Nn.fldP_some, Nn.sfJ_lc, Nn.putFD_nil, Nn.putFD_cons, Nn.kd_str, Nn.in_lc, Nn.inO_strs, Nn.in_tupS, Nn.in_tufS, Nn.in_flS, Nn.ap_lc, Nn.pop_lc, Nn.popO_snoc, Nn.rev_lc, Nn.revO_lst, Nn.rem_lc, Nn.ex_lc, Nn.ins_lc, Nn.list_tup, Nn.list_tuf, Nn.list_fl, Nn.list_sc, Nn.list_lc, Nn.lsO_lst, Nn.eq_non, Nn.eq_strI, List.map_cons, List.map_nil, List.length_cons, List.length_nil, List.replicate_succ, List.replicate_zero, List.set_cons_zero, List.set_cons_succ, List.getElem?_cons_zero, List.getElem?_cons_succ, List.cons_append, List.nil_append, Nat.reduceAdd, Nat.reduceSub, Nat.zero_add, if_true, if_false, ↓reduceIte, reduceCtorEq, Bool.false_eq_true, Nn.sat_ok, Nn.of_inj, Nn.in_sign, Int.reduceLE, Int.reduceLT, Int.reduceGT, Int.reduceGE, Int.reduceEq, Int.reduceNe, Nn.cast_0, Nn.cast_1, Nn.cast_2, Nn.cast_3, Nn.cast_4, Nn.cast_5, Nn.cast_6, Nn.cast_7, Nn.cast_8, Nn.cast_9, Nn.cast_10, Nn.cast_11, Nn.cast_12, Nn.cast_13, Nn.cast_14, Nn.cast_15, Nn.cast_16, Nn.cast_17, Nn.cast_18, Nn.cast_19, Nn.cast_20, Nn.cast_21, Nn.cast_22, Nn.cast_23, Nn.cast_24, Nn.cast_25, Nn.cast_26, Nn.cast_27, Nn.cast_28, Nn.cast_29, Nn.cast_30, Nn.cast_31, Nn.cast_32, Nn.cast_33, Nn.cast_34, Nn.cast_35, Nn.cast_36, Nn.cast_37, Nn.cast_38, Nn.cast_39, Nn.cast_40, Int.reduceAdd, Int.reduceSub, not_true_eq_false, not_false_eq_true, String.reduceEq, String.reduceNe, eq_self, decide_true, decide_false, Nn.ng, Nn.nd_dec, Nn.pow_18, Nn.pow_20, List.length_map, Bool.not_true, Bool.not_false])
local macro_rules | `(tactic| wtm_at "evo") => `(tactic| simp -implicitDefEqProofs (disch := first | assumption | omega | (refine Nn.okR_small ?_; omega) | (simp only [List.length_cons, List.length_nil, List.length_map, List.length_append]; omega) | (simp only [Nn.lows_nil, Nn.lows_cons, Nn.low_non, Nn.low_bl, Nn.low_int, Nn.low_str, Nn.low_ty, Nn.low_tup, Nn.low_tuf, Nn.low_fl, Nn.low_sc, Nn.low_fd, Nn.low_fo, Nn.lows_str, Nn.lows_int, Nn.lows_app, Nn.lowO_strs, Nn.lowO_ints, Nn.lowO_l, Nn.lowO_d, Nn.lowO_i, Bool.and_true, Bool.and_self, Bool.true_and, List.all_cons, List.all_nil, List.map_cons, List.map_nil]; done) | decide) only [Nn.mul_int, Nn.mod_int, Nn.div_int, Nn.lstK_ap, Nn.rgLK_ap, Nn.blkE_ap, Nn.frz_low, Nn.frz_lt, Nn.frzO_low, Nn.lcC3_ap, Nn.apO_lst, Nn.len_str, Nn.sfO_ins1, Nn.exO_lst, Nn.tupK_ap, Nn.rg1K_ap, Nn.okR_small, Nn.seq_ap, Nn.next_ap, Nn.brk_ap, Nn.cnt_ap, Nn.var_ap, Nn.varK_ok, Nn.c_ap, Nn.m2_ap, Nn.m2K_ap, Nn.m2J_ap, Nn.m1_ap, Nn.mB_ap, Nn.mBK_ap, Nn.and_ap, Nn.or_ap, Nn.not_ap, Nn.andK_T, Nn.andK_F, Nn.orK_T, Nn.orK_F, Nn.notK_ap, Nn.andV_ap, Nn.orV_ap, Nn.notV_ap, Nn.ifE_ap, Nn.andVK_T, Nn.andVK_F, Nn.orVK_T, Nn.orVK_F, Nn.notVK_ap, Nn.ifEK_T, Nn.ifEK_F, Nn.nil_ap, Nn.cons_ap, Nn.consK_ap, Nn.consJ_ap, Nn.star_ap, Nn.starJ_ap, Nn.starK_tup, Nn.starK_tuf, Nn.starK_fl, Nn.starK_lc, Nn.starO_lst, Nn.lcL_nil, Nn.loopP_nil, List.append_nil,  Nn.tup_ap, Nn.lst_ap, Nn.newL_T, Nn.newL_F, Nn.newD_T, Nn.newD_F, Nn.dnew_ap, Nn.cb_ap, Nn.call_ap, Nn.callD_ap, Nn.callDD, Nn.dyn_nil, Nn.dyn_F, Nn.dyn_loc, Nn.dyn_fd, Nn.dyn_fl, Nn.dyn_tup, Nn.dyn_non, Nn.disp_ap, Nn.prs_nil, Nn.prs_cons, Nn.prA_ap, Nn.prB_ap, Nn.prC_str, Nn.prC_int, Nn.dispK_1, Nn.tr_ap, Nn.trK_bl, Nn.asg_ap, Nn.asgK_ap, Nn.asgJ_ok, Nn.gnm_ap, Nn.gkl_ap, Nn.ret_ap, Nn.retK_ap, Nn.retN_ap, Nn.drop_ap, Nn.dropK_ap, Nn.if_ap, Nn.ifK_T, Nn.ifK_F, Nn.kl_ap, Nn.klK_ap, Nn.wipe_nil, Nn.wipe_cons, Nn.put_mk, Nn.start_mk, Nn.for_ap, Nn.forK_ap, Nn.itP_l, Nn.it_ap, Nn.itK_tup, Nn.itK_tuf, Nn.itK_fl, Nn.itK_sc, Nn.itK_fd, Nn.itK_lc, Nn.revA_ap, Nn.revAK_tup, Nn.revAK_tuf, Nn.revAK_fl, List.reverse_cons, List.reverse_nil, Nn.itO_lst, Nn.itL_l, Nn.loopP_consG, Nn.lpC_ok, Nn.turn_nx, Nn.turn_ct, Nn.turn_rt, Nn.turn_bk, Nn.lcL_consG, Nn.lcC1_ap, Nn.lcC2_T, Nn.lcC2_F, Nn.gtp_tup, Nn.gtK_ok, Nn.gcn_ap, Nn.gcJ_ap, Nn.gnl_ap, Nn.en_nil, Nn.en_cons, Nn.sl_tup, Nn.sl_fl, Nn.cut_d1, Nn.cut_d2, Nn.cut_t1, Nn.cut_t2, List.take_succ_cons, List.take_zero, List.drop_succ_cons, List.drop_zero, List.take_nil, List.drop_nil, Nn.itK_str, Nn.range1_ap, Nn.enum_ap, Nn.enK_tup, Nn.enK_tuf, Nn.enK_fl, Nn.lc_ap, Nn.lcK_ap, Nn.newLK_ap, Nn.yes_ap, Nn.blk_ap, Nn.blkK_nx, Nn.blkK_ct, Nn.blkK_bk, Nn.blkK_rt, Nn.blkO_some, Nn.cons2_some, Nn.frzE_nil, Nn.frzE_none, Nn.frzE_cons, Nn.frzS_nil, Nn.frzS_cons, Nn.app2_some, Option.map_some, List.take_succ_cons, Nn.bind_ok, Nn.bindS_ok, Nn.bindN_nx, Nn.bindN_rt, Nn.bindN_ct, Nn.bindN_bk, Nn.bind_bind, Nn.bind_bindS, Nn.bindS_bindN, Nn.bindN_bindN, Nn.bbK_ap, Nn.bsK_ap, Nn.snK_ap, Nn.nnK_ap, Nn.aug_ap, Nn.augK_ap, Nn.augI_ap, Nn.augJ_ap, Nn.bl_ap, Nn.blK_ap, Nn.blO_ap, Nn.blJ_ap, Nn.index_ap, Nn.idxK_tuf, Nn.idxK_fl, Nn.join_ap, Nn.joinK_ap, Nn.fld_ap, Nn.sfld_ap, Nn.sfK_ap, Nn.mkF_ap, Nn.part_ap, Nn.partK_ap, Nn.noPart_ap, Nn.sl_ap, Nn.slA_ap, Nn.slB_ap, Nn.slC_ap, Nn.at0, Nn.at1, Nn.at2, Nn.at3, Nn.at4, Nn.at5, Nn.at6, Nn.at7, Nn.at8, Nn.at9, Nn.oD_some, Nn.ix_tup, Nn.ix_tuf, Nn.ix_fl, Nn.ix_sc, Nn.ix_lc, Nn.ixO_lst, Nn.ixO_dic, Nn.ixO_dicI, Nn.gsb_ap, Nn.okB_ok, Nn.gsA_ap, Nn.gsC_ap, Nn.gsE_ap, Nn.set_lc, Nn.setO_lst, Nn.setJ_some, Nn.ixN_L0, Nn.ixN_L1, Nn.ixN_L2, Nn.ixN_L3, Nn.ixN_L4, Nn.ixN_L5, Nn.add_int, Nn.sub_int, Nn.neg_int, Nn.lt_int, Nn.le_int, Nn.gt_int, Nn.ge_int, Nn.eq_int, Nn.eq_str, Nn.eq_bl, Nn.is_non, Nn.is_tup, Nn.is_str, Nn.is_int, Nn.is_bl, Nn.int_int, Nn.int_bl, Nn.abs_int, Nn.len_tup, Nn.len_tuf, Nn.len_fl, Nn.len_sc, Nn.len_lc, Nn.lenQ_lst, Nn.lenQ_dic, Nn.tuple_fl, Nn.tuple_lc, Nn.tupO_lst, Nn.sl_lc, Nn.slO_lst, Nn.min2_int, Nn.lstRg_ap, Nn.tupleF_fl, Nn.isi_ap, Nn.ty_non, Nn.ty_bl, Nn.ty_int, Nn.ty_str, Nn.ty_tup, Nn.ty_tuf, Nn.ty_fl, Nn.ty_sc, Nn.ty_fd, Nn.ty_lc, Nn.tyO_lst, Nn.tyO_dic, Nn.isO_NoneType_bool, Nn.isO_NoneType_int, Nn.isO_NoneType_str, Nn.isO_NoneType_tuple, Nn.isO_NoneType_list, Nn.isO_NoneType_dict, Nn.isO_bool_bool, Nn.isO_bool_int, Nn.isO_bool_str, Nn.isO_bool_tuple, Nn.isO_bool_list, Nn.isO_bool_dict, Nn.isO_int_bool, Nn.isO_int_int, Nn.isO_int_str, Nn.isO_int_tuple, Nn.isO_int_list, Nn.isO_int_dict, Nn.isO_str_bool, Nn.isO_str_int, Nn.isO_str_str, Nn.isO_str_tuple, Nn.isO_str_list, Nn.isO_str_dict, Nn.isO_tuple_bool, Nn.isO_tuple_int, Nn.isO_tuple_str, Nn.isO_tuple_tuple, Nn.isO_tuple_list, Nn.isO_tuple_dict, Nn.isO_list_bool, Nn.isO_list_int, Nn.isO_list_str, Nn.isO_list_tuple, Nn.isO_list_list, Nn.isO_list_dict, Nn.isO_dict_bool, Nn.isO_dict_int, Nn.isO_dict_str, Nn.isO_dict_tuple, Nn.isO_dict_list, Nn.isO_dict_dict, Nn.chain_ap, Nn.chA_ap, Nn.chB_ap, Nn.chC_T, Nn.chC_F, Nn.chD_ap, Nn.trK_gen, Nn.trO_some, Nn.tru_tup, Nn.tru_fl, Nn.tru_non, Nn.tru_bl, Nn.tru_int, Nn.emp_nil, Nn.emp_cons, Nn.emp_map, Nn.all_nil, Nn.sum_nil, Nn.ix_fdM, Nn.in_fdM, Nn.lookD_cons, Nn.fldK_foG, Nn.fldC_T, Nn.cont1, Nn.fldO_gen, Nn.fldP_some, Nn.sfJ_lc, Nn.putFD_nil, Nn.putFD_cons, Nn.kd_str, Nn.in_lc, Nn.inO_strs, Nn.in_tupS, Nn.in_tufS, Nn.in_flS, Nn.ap_lc, Nn.pop_lc, Nn.popO_snoc, Nn.rev_lc, Nn.revO_lst, Nn.rem_lc, Nn.ex_lc, Nn.ins_lc, Nn.list_tup, Nn.list_tuf, Nn.list_fl, Nn.list_sc, Nn.list_lc, Nn.lsO_lst, Nn.eq_non, Nn.eq_strI, List.map_cons, List.map_nil, List.length_cons, List.length_nil, List.replicate_succ, List.replicate_zero, List.set_cons_zero, List.set_cons_succ, List.getElem?_cons_zero, List.getElem?_cons_succ, List.cons_append, List.nil_append, Nat.reduceAdd, Nat.reduceSub, Nat.zero_add, if_true, if_false, ↓reduceIte, reduceCtorEq, Bool.false_eq_true, Nn.sat_ok, Nn.of_inj, Nn.in_sign, Int.reduceLE, Int.reduceLT, Int.reduceGT, Int.reduceGE, Int.reduceEq, Int.reduceNe, Nn.cast_0, Nn.cast_1, Nn.cast_2, Nn.cast_3, Nn.cast_4, Nn.cast_5, Nn.cast_6, Nn.cast_7, Nn.cast_8, Nn.cast_9, Nn.cast_10, Nn.cast_11, Nn.cast_12, Nn.cast_13, Nn.cast_14, Nn.cast_15, Nn.cast_16, Nn.cast_17, Nn.cast_18, Nn.cast_19, Nn.cast_20, Nn.cast_21, Nn.cast_22, Nn.cast_23, Nn.cast_24, Nn.cast_25, Nn.cast_26, Nn.cast_27, Nn.cast_28, Nn.cast_29, Nn.cast_30, Nn.cast_31, Nn.cast_32, Nn.cast_33, Nn.cast_34, Nn.cast_35, Nn.cast_36, Nn.cast_37, Nn.cast_38, Nn.cast_39, Nn.cast_40, Int.reduceAdd, Int.reduceSub, not_true_eq_false, not_false_eq_true, String.reduceEq, String.reduceNe, eq_self, decide_true, decide_false, Nn.ng, Nn.nd_dec, Nn.pow_18, Nn.pow_20, List.length_map, Bool.not_true, Bool.not_false])
local macro_rules | `(tactic| wtm_at "br") => `(tactic| first | refine go_ifDN ?_ ?_ | refine go_ifD ?_ ?_ | refine go_bindS (sat_andD ?_ ?_) | refine go_bindS (sat_orD ?_ ?_) | refine go_bindS (sat_andVD ?_ ?_) | refine go_bindS (sat_orVD ?_ ?_) | refine go_bindS (sat_ifD ?_ ?_) | refine sat_bind (sat_andD ?_ ?_) | refine sat_bind (sat_orD ?_ ?_) | refine sat_bind (sat_andVD ?_ ?_) | refine sat_bind (sat_orVD ?_ ?_) | refine sat_bind (sat_ifD ?_ ?_) | refine go_ifN ?_ ?_ | refine go_if ?_ ?_ | refine go_bindS (sat_andB ?_ ?_) | refine go_bindS (sat_orB ?_ ?_) | refine go_bindS (sat_andVB ?_ ?_) | refine go_bindS (sat_orVB ?_ ?_) | refine go_bindS (sat_ifB ?_ ?_) | refine go_bindS (sat_chDec ?_ ?_) | refine sat_bind (sat_chDec ?_ ?_) | refine sat_chDec ?_ ?_ | refine sat_andD ?_ ?_ | refine sat_orD ?_ ?_ | refine sat_andVD ?_ ?_ | refine sat_orVD ?_ ?_ | refine sat_ifD ?_ ?_ | refine sat_andB ?_ ?_ | refine sat_orB ?_ ?_ | refine sat_andVB ?_ ?_ | refine sat_orVB ?_ ?_ | refine sat_ifB ?_ ?_ | fail)
local macro_rules | `(tactic| wtm_at "dr0") => `(tactic| ((first | refine go_bindS (draw_call (by rfl) (by assumption) (by omega) (by omega) (by omega) ?_) | refine sat_bind (draw_call (by rfl) (by assumption) (by omega) (by omega) (by omega) ?_) | refine draw_call (by rfl) (by assumption) (by omega) (by omega) (by omega) ?_ | fail); intro _ _ _ _ _ _ _; simp only [List.set_cons_zero, List.set_cons_succ]; try wtm_at "evo"))
local macro_rules | `(tactic| wtm_at "wd") => `(tactic| ((with_reducible first | refine word_bindS ?_ ?_ ?_ | refine word_bind ?_ ?_ ?_ | refine word_sat ?_ ?_ ?_ | fail); (focus omega); (focus omega); intro _ _; try wtm_at "evo"))
local macro_rules | `(tactic| wtm_at "dr") => `(tactic| first | wtm_at "dr0" | wtm_at "wd" | fail)
local macro_rules | `(tactic| wtm_at "brs") => `(tactic| (wtm_at "br" <;> (intro _; try wtm_at "evo")))
local macro_rules | `(tactic| wtm_at "all") => `(tactic| ((try wtm_at "evo"); repeat' (first | wtm_at "dr" | wtm_at "brs")))
local macro_rules | `(tactic| wtm_at "drs") => `(tactic| ((try wtm_at "evo"); repeat' wtm_at "dr"))
local macro_rules | `(tactic| wtm_at "low") => `(tactic| first | rfl | (simp only [Nn.lows_nil, Nn.lows_cons, Nn.low_non, Nn.low_bl, Nn.low_int, Nn.low_str, Nn.low_ty, Nn.low_tup, Nn.low_tuf, Nn.low_fl, Nn.low_sc, Nn.low_fd, Nn.low_fo, Nn.lows_str, Nn.lows_int, Nn.lows_app, Nn.lowO_strs, Nn.lowO_ints, Nn.lowO_l, Nn.lowO_d, Nn.lowO_i, Bool.and_true, Bool.and_self, Bool.true_and, List.all_cons, List.all_nil, List.map_cons, List.map_nil, poolO_low, List.take_succ_cons, List.take_zero]; done) | fail)

structure Bag where
  cells : List Int
  i : Int
  r : Int
  n : Int
def bagO (p : Bag) : O := .lst [.fl (p.cells.map .int), .int p.i, .int p.r, .int p.n]
theorem bagO_low (p : Bag) : lowO (bagO p) = true := by
  unfold bagO lowO
  simp only [lows, low, lows_int, Bool.and_true]
structure Bag.ok (p : Bag) : Prop where
  i0 : 0 ≤ p.i
  r0 : 0 ≤ p.r
  n0 : 0 ≤ p.n
theorem draw_sat {p : Bag} {m : Int} {Q : D → S → Prop} (hp : p.ok) (hn : p.n ≤ 10 ^ 6) (hm : 0 < m) (hm2 : m < 2 ^ 90) (h : ∀ (d : Int) p', 0 ≤ d → d < m → p'.ok → p.n ≤ p'.n → p'.n ≤ p.n + 1 → Q (.int d) [bagO p']) : (mLTake [.loc 0, .int m] [bagO p]).sat Q := by
  obtain ⟨cells, i, r, n⟩ := p
  obtain ⟨i0, r0, n0⟩ := hp
  simp only at i0 r0 n0 hn
  have mk : ∀ (d i' r' : Int), 0 ≤ d → d < m → 0 ≤ i' → 0 ≤ r' → (Rt.rt (.int d) [.lst [.fl (cells.map .int), .int i', .int r', .int (n + 1)]]).go fun r => (fin false 1 r).sat Q := by
    intro d i' r' h1 h2 h3 h4
    refine fin_low (st := [bagO ⟨cells, i', r', n + 1⟩]) rfl (by rw [List.all_cons, bagO_low]; rfl) (h d ⟨cells, i', r', n + 1⟩ h1 h2 ⟨h3, h4, by show 0 ≤ n + 1; omega⟩ (by show n ≤ n + 1; omega) (by show n + 1 ≤ n + 1; omega))
  have at_ : ∀ {j : Int}, 0 ≤ j → j < cells.length → ∃ c : Int, atI (cells.map D.int) j = some (.int c) := by
    intro j h0 h1
    obtain ⟨k, rfl⟩ : ∃ k : Nat, j = (k : Int) := ⟨j.toNat, by omega⟩
    exact ⟨cells[k]'(by omega), by rw [atD, List.getElem?_map, List.getElem?_eq_getElem (by omega)]; rfl⟩
  have nsq : ∀ {a b : Int}, 0 ≤ a → 0 ≤ b → 0 ≤ a * b := fun h1 h2 => Int.mul_nonneg h1 h2
  refine def_sat ?_
  unfold mbLTake bagO
  have fin1 : ∀ {e : Int} {i' r' : Int}, 0 ≤ i' → 0 ≤ r' → (Rt.rt (.int (e % m)) [.lst [.fl (cells.map .int), .int i', .int r', .int (n + 1)]]).go fun r => (fin false 1 r).sat Q := fun h1 h2 => mk _ _ _ (Int.emod_nonneg _ (by omega)) (Int.emod_lt_of_pos _ hm) h1 h2
  have dv : ∀ {x : Int}, 0 ≤ x → 0 ≤ x / m := fun h => Int.ediv_nonneg h (by omega)
  wtm_at "all"
  case refine_1.refine_1 =>
    rename_i hr hi
    obtain ⟨c, hc⟩ := at_ i0 hi
    simp only [hc]
    wtm_at "all"
    · simp only [hc]
      wtm_at "all"
      all_goals first
        | exact fin1 (by omega) (by first | omega | exact dv (by omega))
        | (exfalso; omega)
        | skip
    all_goals first
      | exact fin1 (by omega) (by first | omega | exact dv (by omega))
      | (exfalso; omega)
      | skip
    all_goals
      obtain ⟨c', hc'⟩ := at_ (j := i % (cells.length : Int)) (Int.emod_nonneg _ (by omega)) (Int.emod_lt_of_pos _ (by omega))
      simp only [hc']
      wtm_at "evo"
      exact fin1 (by omega) (by omega)
  all_goals first
    | exact fin1 (by omega) (by first | omega | exact dv (by omega))
    | skip
  all_goals
    obtain ⟨c', hc'⟩ := at_ (j := i % (cells.length : Int)) (Int.emod_nonneg _ (by omega)) (Int.emod_lt_of_pos _ (by omega))
    simp only [hc']
    wtm_at "evo"
    exact fin1 (by omega) (by omega)
/-- a draw, called -/
theorem draw_call {st : S} {n : Nat} {p : Bag} {m : Int} {Q : D → S → Prop} (hst : st[n]? = some (bagO p)) (hp : p.ok) (hn : p.n ≤ 10 ^ 6) (hm : 0 < m) (hm2 : m < 2 ^ 90) (h : ∀ (d : Int) p', 0 ≤ d → d < m → p'.ok → p.n ≤ p'.n → p'.n ≤ p.n + 1 → Q (.int d) (st.set n (bagO p'))) : (callF [true, false] mLTake [.loc n, .int m] st).sat Q := by
  refine call_at (ps := [n]) (mini := [bagO p]) (ds' := [.loc 0, .int m]) rfl rfl ?_ rfl ?_
  · unfold minis minis
    rw [hst]
    simp only [bagO_low, if_true]
  · refine draw_sat hp hn hm hm2 fun d p' h0 h1 h2 h3 h4 => ⟨rfl, (fun z => nomatch z), ?_, rfl, h d p' h0 h1 h2 h3 h4⟩
    rw [List.all_cons, bagO_low]
    rfl

end Ke
namespace Ke
open PySem PySem.Spec PyProof.Rows L2 Lb Nn
/-- a value of the lists -/
inductive Vl where
  | i (z : Int) | s (x : Str)
deriving DecidableEq
def Vl.d : Vl → D
  | .i z => .int z
  | .s x => .str x
def Vl.isS : Vl → Bool
  | .i _ => false
  | .s _ => true
def Vl.ty : Vl → String
  | .i _ => "int"
  | .s _ => "str"
abbrev vD (l : List Vl) : List D := l.map Vl.d
theorem Vl.low (x : Vl) : Nn.low x.d = true := by cases x <;> rfl
theorem vl_lows : ∀ l : List Vl, Nn.lows (vD l) = true
  | [] => rfl
  | x :: l => by
    rw [vD, List.map_cons, Nn.lows_cons, x.low, vl_lows l]
    rfl
theorem Vl.flat (x : Vl) : Nn.flat x.d = true := by cases x <;> rfl
theorem vl_flats (l : List Vl) : (vD l).all Nn.flat = true := by
  rw [List.all_eq_true]
  intro d h
  obtain ⟨x, _, rfl⟩ := List.mem_map.mp h
  exact x.flat
theorem vl_eqF {x y : Vl} : eqF x.d y.d = decide (x = y) := by
  cases x <;> cases y <;> simp [Vl.d, eqF]
  all_goals first
    | (rw [Bool.eq_iff_iff]; simp)
    | skip
section
variable {st : S} {x y : Vl} {l : List Vl} {neg : Bool} {n : Nat}
theorem dc_vl : dcD st x.d = none := by cases x <;> rfl
theorem eq_vl : fEqA neg x.d y.d st = .ok (.bl (ng neg (decide (x = y)))) st := by
  unfold fEqA
  rw [dc_vl]
  unfold fEq
  have : scal2 x.d y.d = true := by cases x <;> cases y <;> rfl
  simp only [this, if_true, vl_eqF]
  cases neg <;> rfl
theorem any_vl : (vD l).any (fun e => eqF e x.d) = decide (x ∈ l) := by
  rw [Bool.eq_iff_iff, List.any_eq_true, decide_eq_true_eq]
  constructor
  · rintro ⟨d, hd, h⟩
    obtain ⟨y, hy, rfl⟩ := List.mem_map.mp hd
    rw [vl_eqF, decide_eq_true_eq] at h
    exact h ▸ hy
  · intro h
    exact ⟨x.d, List.mem_map.mpr ⟨x, h, rfl⟩, by rw [vl_eqF]; exact decide_eq_true rfl⟩
theorem in_vl : fInA neg x.d (.fl (vD l)) st = .ok (.bl (ng neg (decide (x ∈ l)))) st := by
  unfold fInA fIn
  simp only [dcD, seqD, x.flat, vl_flats, Bool.and_self, if_true, any_vl]
theorem ty_vl : tyD st x.d = some x.ty := by cases x <;> rfl
theorem isO_vlS : isiO (some x.ty) "str" st = .ok (.bl x.isS) st := by cases x <;> rfl
theorem isO_vlI : isiO (some x.ty) "int" st = .ok (.bl !x.isS) st := by cases x <;> rfl
theorem isO_vlB : isiO (some x.ty) "bool" st = .ok (.bl false) st := by cases x <;> rfl
end
/-- what stands in an edit in the place of a value -/
inductive Od where
  | v (x : Vl) | t | n | t1 | l1 | ab
deriving DecidableEq
def Od.d : Od → D
  | .v x => x.d
  | .t => .bl true
  | .n => .non
  | .t1 => .tup [.int 1]
  | .l1 => .fl [.int 1]
  | .ab => .tup [.str "a", .str "b"]
def Od.isV : Od → Bool
  | .v _ => true
  | _ => false
theorem Od.low (x : Od) : Nn.low x.d = true := by cases x <;> first | exact Vl.low _ | rfl
abbrev oD' (l : List Od) : List D := l.map Od.d
theorem od_lows : ∀ l : List Od, Nn.lows (oD' l) = true
  | [] => rfl
  | x :: l => by
    rw [oD', List.map_cons, Nn.lows_cons, x.low, od_lows l]
    rfl

end Ke
namespace Ke
open PySem PySem.Spec PyProof.Rows L2 Lb Nn
local macro_rules | `(tactic| wtm_at "ev") => `(tactic| simp only [Nn.seq_ap, Nn.next_ap, Nn.brk_ap, Nn.cnt_ap, Nn.var_ap, Nn.varK_ok, Nn.c_ap, Nn.m2_ap, Nn.m2K_ap, Nn.m2J_ap, Nn.m1_ap, Nn.mB_ap, Nn.mBK_ap, Nn.and_ap, Nn.or_ap, Nn.not_ap, Nn.andK_T, Nn.andK_F, Nn.orK_T, Nn.orK_F, Nn.notK_ap, Nn.andV_ap, Nn.orV_ap, Nn.notV_ap, Nn.ifE_ap, Nn.andVK_T, Nn.andVK_F, Nn.orVK_T, Nn.orVK_F, Nn.notVK_ap, Nn.ifEK_T, Nn.ifEK_F, Nn.nil_ap, Nn.cons_ap, Nn.consK_ap, Nn.consJ_ap, Nn.star_ap, Nn.starJ_ap, Nn.starK_tup, Nn.starK_tuf, Nn.starK_fl, Nn.starK_lc, Nn.starO_lst, Nn.lcL_nil, Nn.loopP_nil, List.append_nil,  Nn.tup_ap, Nn.lst_ap, Nn.newL_T, Nn.newL_F, Nn.newD_T, Nn.newD_F, Nn.dnew_ap, Nn.cb_ap, Nn.call_ap, Nn.callD_ap, Nn.callDD, Nn.dyn_nil, Nn.dyn_F, Nn.dyn_loc, Nn.dyn_fd, Nn.dyn_fl, Nn.dyn_tup, Nn.dyn_non, Nn.disp_ap, Nn.prs_nil, Nn.prs_cons, Nn.prA_ap, Nn.prB_ap, Nn.prC_str, Nn.prC_int, Nn.dispK_1, Nn.tr_ap, Nn.trK_bl, Nn.asg_ap, Nn.asgK_ap, Nn.asgJ_ok, Nn.gnm_ap, Nn.gkl_ap, Nn.ret_ap, Nn.retK_ap, Nn.retN_ap, Nn.drop_ap, Nn.dropK_ap, Nn.if_ap, Nn.ifK_T, Nn.ifK_F, Nn.kl_ap, Nn.klK_ap, Nn.wipe_nil, Nn.wipe_cons, Nn.put_mk, Nn.start_mk, Nn.for_ap, Nn.forK_ap, Nn.itP_l, Nn.it_ap, Nn.itK_tup, Nn.itK_tuf, Nn.itK_fl, Nn.itK_sc, Nn.itK_fd, Nn.itK_lc, Nn.revA_ap, Nn.revAK_tup, Nn.revAK_tuf, Nn.revAK_fl, List.reverse_cons, List.reverse_nil, Nn.itO_lst, Nn.itL_l, Nn.loopP_consG, Nn.lpC_ok, Nn.turn_nx, Nn.turn_ct, Nn.turn_rt, Nn.turn_bk, Nn.lcL_consG, Nn.lcC1_ap, Nn.lcC2_T, Nn.lcC2_F, Nn.gtp_tup, Nn.gtK_ok, Nn.gcn_ap, Nn.gcJ_ap, Nn.gnl_ap, Nn.en_nil, Nn.en_cons, Nn.sl_tup, Nn.sl_fl, Nn.cut_d1, Nn.cut_d2, Nn.cut_t1, Nn.cut_t2, List.take_succ_cons, List.take_zero, List.drop_succ_cons, List.drop_zero, List.take_nil, List.drop_nil, Nn.itK_str, Nn.range1_ap, Nn.enum_ap, Nn.enK_tup, Nn.enK_tuf, Nn.enK_fl, Nn.lc_ap, Nn.lcK_ap, Nn.newLK_ap, Nn.yes_ap, Nn.blk_ap, Nn.blkK_nx, Nn.blkK_ct, Nn.blkK_bk, Nn.blkK_rt, Nn.blkO_some, Nn.cons2_some, Nn.frzE_nil, Nn.frzE_none, Nn.frzE_cons, Nn.frzS_nil, Nn.frzS_cons, Nn.app2_some, Option.map_some, List.take_succ_cons, Nn.bind_ok, Nn.bindS_ok, Nn.bindN_nx, Nn.bindN_rt, Nn.bindN_ct, Nn.bindN_bk, Nn.bind_bind, Nn.bind_bindS, Nn.bindS_bindN, Nn.bindN_bindN, Nn.bbK_ap, Nn.bsK_ap, Nn.snK_ap, Nn.nnK_ap, Nn.aug_ap, Nn.augK_ap, Nn.augI_ap, Nn.augJ_ap, Nn.bl_ap, Nn.blK_ap, Nn.blO_ap, Nn.blJ_ap, Nn.index_ap, Nn.idxK_tuf, Nn.idxK_fl, Nn.join_ap, Nn.joinK_ap, Nn.fld_ap, Nn.sfld_ap, Nn.sfK_ap, Nn.mkF_ap, Nn.part_ap, Nn.partK_ap, Nn.noPart_ap, Nn.sl_ap, Nn.slA_ap, Nn.slB_ap, Nn.slC_ap, Nn.at0, Nn.at1, Nn.at2, Nn.at3, Nn.at4, Nn.at5, Nn.at6, Nn.at7, Nn.at8, Nn.at9, Nn.oD_some, Nn.ix_tup, Nn.ix_tuf, Nn.ix_fl, Nn.ix_sc, Nn.ix_lc, Nn.ixO_lst, Nn.ixO_dic, Nn.ixO_dicI, Nn.gsb_ap, Nn.okB_ok, Nn.gsA_ap, Nn.gsC_ap, Nn.gsE_ap, Nn.set_lc, Nn.setO_lst, Nn.setJ_some, Nn.ixN_L0, Nn.ixN_L1, Nn.ixN_L2, Nn.ixN_L3, Nn.ixN_L4, Nn.ixN_L5, Nn.add_int, Nn.sub_int, Nn.neg_int, Nn.lt_int, Nn.le_int, Nn.gt_int, Nn.ge_int, Nn.eq_int, Nn.eq_str, Nn.eq_bl, Nn.is_non, Nn.is_tup, Nn.is_str, Nn.is_int, Nn.is_bl, Nn.int_int, Nn.int_bl, Nn.abs_int, Nn.len_tup, Nn.len_tuf, Nn.len_fl, Nn.len_sc, Nn.len_lc, Nn.lenQ_lst, Nn.lenQ_dic, Nn.tuple_fl, Nn.tuple_lc, Nn.tupO_lst, Nn.sl_lc, Nn.slO_lst, Nn.min2_int, Nn.lstRg_ap, Nn.tupleF_fl, Nn.isi_ap, Nn.ty_non, Nn.ty_bl, Nn.ty_int, Nn.ty_str, Nn.ty_tup, Nn.ty_tuf, Nn.ty_fl, Nn.ty_sc, Nn.ty_fd, Nn.ty_lc, Nn.tyO_lst, Nn.tyO_dic, Nn.isO_NoneType_bool, Nn.isO_NoneType_int, Nn.isO_NoneType_str, Nn.isO_NoneType_tuple, Nn.isO_NoneType_list, Nn.isO_NoneType_dict, Nn.isO_bool_bool, Nn.isO_bool_int, Nn.isO_bool_str, Nn.isO_bool_tuple, Nn.isO_bool_list, Nn.isO_bool_dict, Nn.isO_int_bool, Nn.isO_int_int, Nn.isO_int_str, Nn.isO_int_tuple, Nn.isO_int_list, Nn.isO_int_dict, Nn.isO_str_bool, Nn.isO_str_int, Nn.isO_str_str, Nn.isO_str_tuple, Nn.isO_str_list, Nn.isO_str_dict, Nn.isO_tuple_bool, Nn.isO_tuple_int, Nn.isO_tuple_str, Nn.isO_tuple_tuple, Nn.isO_tuple_list, Nn.isO_tuple_dict, Nn.isO_list_bool, Nn.isO_list_int, Nn.isO_list_str, Nn.isO_list_tuple, Nn.isO_list_list, Nn.isO_list_dict, Nn.isO_dict_bool, Nn.isO_dict_int, Nn.isO_dict_str, Nn.isO_dict_tuple, Nn.isO_dict_list, Nn.isO_dict_dict, Nn.chain_ap, Nn.chA_ap, Nn.chB_ap, Nn.chC_T, Nn.chC_F, Nn.chD_ap, Nn.trK_gen, Nn.trO_some, Nn.tru_tup, Nn.tru_fl, Nn.tru_non, Nn.tru_bl, Nn.tru_int, Nn.emp_nil, Nn.emp_cons, Nn.emp_map, Nn.all_nil, Nn.sum_nil, Nn.ix_fdM, Nn.in_fdM, Nn.lookD_cons, Nn.fldK_foG, Nn.fldC_T, Nn.cont1, Nn.fldO_gen, Nn.fldP_some, Nn.sfJ_lc, Nn.putFD_nil, Nn.putFD_cons, Nn.kd_str, Nn.in_lc, Nn.inO_strs, Nn.in_tupS, Nn.in_tufS, Nn.in_flS, Nn.ap_lc, Nn.pop_lc, Nn.popO_snoc, Nn.rev_lc, Nn.revO_lst, Nn.rem_lc, Nn.ex_lc, Nn.ins_lc, Nn.list_tup, Nn.list_tuf, Nn.list_fl, Nn.list_sc, Nn.list_lc, Nn.lsO_lst, Nn.eq_non, Nn.eq_strI, List.map_cons, List.map_nil, List.length_cons, List.length_nil, List.replicate_succ, List.replicate_zero, List.set_cons_zero, List.set_cons_succ, List.getElem?_cons_zero, List.getElem?_cons_succ, List.cons_append, List.nil_append, Nat.reduceAdd, Nat.reduceSub, Nat.zero_add, if_true, if_false, ↓reduceIte, reduceCtorEq, Bool.false_eq_true, Nn.sat_ok, Nn.of_inj, Nn.in_sign, Int.reduceLE, Int.reduceLT, Int.reduceGT, Int.reduceGE, Int.reduceEq, Int.reduceNe, Nn.cast_0, Nn.cast_1, Nn.cast_2, Nn.cast_3, Nn.cast_4, Nn.cast_5, Nn.cast_6, Nn.cast_7, Nn.cast_8, Nn.cast_9, Nn.cast_10, Nn.cast_11, Nn.cast_12, Nn.cast_13, Nn.cast_14, Nn.cast_15, Nn.cast_16, Nn.cast_17, Nn.cast_18, Nn.cast_19, Nn.cast_20, Nn.cast_21, Nn.cast_22, Nn.cast_23, Nn.cast_24, Nn.cast_25, Nn.cast_26, Nn.cast_27, Nn.cast_28, Nn.cast_29, Nn.cast_30, Nn.cast_31, Nn.cast_32, Nn.cast_33, Nn.cast_34, Nn.cast_35, Nn.cast_36, Nn.cast_37, Nn.cast_38, Nn.cast_39, Nn.cast_40, Int.reduceAdd, Int.reduceSub, not_true_eq_false, not_false_eq_true, String.reduceEq, String.reduceNe, eq_self, decide_true, decide_false, Nn.ng, Nn.nd_dec, Nn.pow_18, Nn.pow_20, List.length_map, Bool.not_true, Bool.not_false])
local macro_rules | `(tactic| wtm_at "evo") => `(tactic| simp -implicitDefEqProofs (disch := first | assumption | omega | (refine Nn.okR_small ?_; omega) | (simp only [List.length_cons, List.length_nil, List.length_map, List.length_append]; omega) | (simp only [vl_lows, od_lows, Vl.low, Od.low, Nn.lows_nil, Nn.lows_cons, Nn.low_non, Nn.low_bl, Nn.low_int, Nn.low_str, Nn.low_ty, Nn.low_tup, Nn.low_tuf, Nn.low_fl, Nn.low_sc, Nn.low_fd, Nn.low_fo, Nn.lows_str, Nn.lows_int, Nn.lows_app, Nn.lowO_strs, Nn.lowO_ints, Nn.lowO_l, Nn.lowO_d, Nn.lowO_i, Bool.and_true, Bool.and_self, Bool.true_and, List.all_cons, List.all_nil, List.map_cons, List.map_nil]; done) | decide) only [in_vl, eq_vl, ty_vl, isO_vlS, isO_vlI, isO_vlB, Nn.mul_int, Nn.mod_int, Nn.div_int, Nn.lstK_ap, Nn.rgLK_ap, Nn.blkE_ap, Nn.frz_low, Nn.frz_lt, Nn.frzO_low, Nn.lcC3_ap, Nn.apO_lst, Nn.len_str, Nn.sfO_ins1, Nn.exO_lst, Nn.tupK_ap, Nn.rg1K_ap, Nn.okR_small, Nn.seq_ap, Nn.next_ap, Nn.brk_ap, Nn.cnt_ap, Nn.var_ap, Nn.varK_ok, Nn.c_ap, Nn.m2_ap, Nn.m2K_ap, Nn.m2J_ap, Nn.m1_ap, Nn.mB_ap, Nn.mBK_ap, Nn.and_ap, Nn.or_ap, Nn.not_ap, Nn.andK_T, Nn.andK_F, Nn.orK_T, Nn.orK_F, Nn.notK_ap, Nn.andV_ap, Nn.orV_ap, Nn.notV_ap, Nn.ifE_ap, Nn.andVK_T, Nn.andVK_F, Nn.orVK_T, Nn.orVK_F, Nn.notVK_ap, Nn.ifEK_T, Nn.ifEK_F, Nn.nil_ap, Nn.cons_ap, Nn.consK_ap, Nn.consJ_ap, Nn.star_ap, Nn.starJ_ap, Nn.starK_tup, Nn.starK_tuf, Nn.starK_fl, Nn.starK_lc, Nn.starO_lst, Nn.lcL_nil, Nn.loopP_nil, List.append_nil,  Nn.tup_ap, Nn.lst_ap, Nn.newL_T, Nn.newL_F, Nn.newD_T, Nn.newD_F, Nn.dnew_ap, Nn.cb_ap, Nn.call_ap, Nn.callD_ap, Nn.callDD, Nn.dyn_nil, Nn.dyn_F, Nn.dyn_loc, Nn.dyn_fd, Nn.dyn_fl, Nn.dyn_tup, Nn.dyn_non, Nn.disp_ap, Nn.prs_nil, Nn.prs_cons, Nn.prA_ap, Nn.prB_ap, Nn.prC_str, Nn.prC_int, Nn.dispK_1, Nn.tr_ap, Nn.trK_bl, Nn.asg_ap, Nn.asgK_ap, Nn.asgJ_ok, Nn.gnm_ap, Nn.gkl_ap, Nn.ret_ap, Nn.retK_ap, Nn.retN_ap, Nn.drop_ap, Nn.dropK_ap, Nn.if_ap, Nn.ifK_T, Nn.ifK_F, Nn.kl_ap, Nn.klK_ap, Nn.wipe_nil, Nn.wipe_cons, Nn.put_mk, Nn.start_mk, Nn.for_ap, Nn.forK_ap, Nn.itP_l, Nn.it_ap, Nn.itK_tup, Nn.itK_tuf, Nn.itK_fl, Nn.itK_sc, Nn.itK_fd, Nn.itK_lc, Nn.revA_ap, Nn.revAK_tup, Nn.revAK_tuf, Nn.revAK_fl, List.reverse_cons, List.reverse_nil, Nn.itO_lst, Nn.itL_l, Nn.loopP_consG, Nn.lpC_ok, Nn.turn_nx, Nn.turn_ct, Nn.turn_rt, Nn.turn_bk, Nn.lcL_consG, Nn.lcC1_ap, Nn.lcC2_T, Nn.lcC2_F, Nn.gtp_tup, Nn.gtK_ok, Nn.gcn_ap, Nn.gcJ_ap, Nn.gnl_ap, Nn.en_nil, Nn.en_cons, Nn.sl_tup, Nn.sl_fl, Nn.cut_d1, Nn.cut_d2, Nn.cut_t1, Nn.cut_t2, List.take_succ_cons, List.take_zero, List.drop_succ_cons, List.drop_zero, List.take_nil, List.drop_nil, Nn.itK_str, Nn.range1_ap, Nn.enum_ap, Nn.enK_tup, Nn.enK_tuf, Nn.enK_fl, Nn.lc_ap, Nn.lcK_ap, Nn.newLK_ap, Nn.yes_ap, Nn.blk_ap, Nn.blkK_nx, Nn.blkK_ct, Nn.blkK_bk, Nn.blkK_rt, Nn.blkO_some, Nn.cons2_some, Nn.frzE_nil, Nn.frzE_none, Nn.frzE_cons, Nn.frzS_nil, Nn.frzS_cons, Nn.app2_some, Option.map_some, List.take_succ_cons, Nn.bind_ok, Nn.bindS_ok, Nn.bindN_nx, Nn.bindN_rt, Nn.bindN_ct, Nn.bindN_bk, Nn.bind_bind, Nn.bind_bindS, Nn.bindS_bindN, Nn.bindN_bindN, Nn.bbK_ap, Nn.bsK_ap, Nn.snK_ap, Nn.nnK_ap, Nn.aug_ap, Nn.augK_ap, Nn.augI_ap, Nn.augJ_ap, Nn.bl_ap, Nn.blK_ap, Nn.blO_ap, Nn.blJ_ap, Nn.index_ap, Nn.idxK_tuf, Nn.idxK_fl, Nn.join_ap, Nn.joinK_ap, Nn.fld_ap, Nn.sfld_ap, Nn.sfK_ap, Nn.mkF_ap, Nn.part_ap, Nn.partK_ap, Nn.noPart_ap, Nn.sl_ap, Nn.slA_ap, Nn.slB_ap, Nn.slC_ap, Nn.at0, Nn.at1, Nn.at2, Nn.at3, Nn.at4, Nn.at5, Nn.at6, Nn.at7, Nn.at8, Nn.at9, Nn.oD_some, Nn.ix_tup, Nn.ix_tuf, Nn.ix_fl, Nn.ix_sc, Nn.ix_lc, Nn.ixO_lst, Nn.ixO_dic, Nn.ixO_dicI, Nn.gsb_ap, Nn.okB_ok, Nn.gsA_ap, Nn.gsC_ap, Nn.gsE_ap, Nn.set_lc, Nn.setO_lst, Nn.setJ_some, Nn.ixN_L0, Nn.ixN_L1, Nn.ixN_L2, Nn.ixN_L3, Nn.ixN_L4, Nn.ixN_L5, Nn.add_int, Nn.sub_int, Nn.neg_int, Nn.lt_int, Nn.le_int, Nn.gt_int, Nn.ge_int, Nn.eq_int, Nn.eq_str, Nn.eq_bl, Nn.is_non, Nn.is_tup, Nn.is_str, Nn.is_int, Nn.is_bl, Nn.int_int, Nn.int_bl, Nn.abs_int, Nn.len_tup, Nn.len_tuf, Nn.len_fl, Nn.len_sc, Nn.len_lc, Nn.lenQ_lst, Nn.lenQ_dic, Nn.tuple_fl, Nn.tuple_lc, Nn.tupO_lst, Nn.sl_lc, Nn.slO_lst, Nn.min2_int, Nn.lstRg_ap, Nn.tupleF_fl, Nn.isi_ap, Nn.ty_non, Nn.ty_bl, Nn.ty_int, Nn.ty_str, Nn.ty_tup, Nn.ty_tuf, Nn.ty_fl, Nn.ty_sc, Nn.ty_fd, Nn.ty_lc, Nn.tyO_lst, Nn.tyO_dic, Nn.isO_NoneType_bool, Nn.isO_NoneType_int, Nn.isO_NoneType_str, Nn.isO_NoneType_tuple, Nn.isO_NoneType_list, Nn.isO_NoneType_dict, Nn.isO_bool_bool, Nn.isO_bool_int, Nn.isO_bool_str, Nn.isO_bool_tuple, Nn.isO_bool_list, Nn.isO_bool_dict, Nn.isO_int_bool, Nn.isO_int_int, Nn.isO_int_str, Nn.isO_int_tuple, Nn.isO_int_list, Nn.isO_int_dict, Nn.isO_str_bool, Nn.isO_str_int, Nn.isO_str_str, Nn.isO_str_tuple, Nn.isO_str_list, Nn.isO_str_dict, Nn.isO_tuple_bool, Nn.isO_tuple_int, Nn.isO_tuple_str, Nn.isO_tuple_tuple, Nn.isO_tuple_list, Nn.isO_tuple_dict, Nn.isO_list_bool, Nn.isO_list_int, Nn.isO_list_str, Nn.isO_list_tuple, Nn.isO_list_list, Nn.isO_list_dict, Nn.isO_dict_bool, Nn.isO_dict_int, Nn.isO_dict_str, Nn.isO_dict_tuple, Nn.isO_dict_list, Nn.isO_dict_dict, Nn.chain_ap, Nn.chA_ap, Nn.chB_ap, Nn.chC_T, Nn.chC_F, Nn.chD_ap, Nn.trK_gen, Nn.trO_some, Nn.tru_tup, Nn.tru_fl, Nn.tru_non, Nn.tru_bl, Nn.tru_int, Nn.emp_nil, Nn.emp_cons, Nn.emp_map, Nn.all_nil, Nn.sum_nil, Nn.ix_fdM, Nn.in_fdM, Nn.lookD_cons, Nn.fldK_foG, Nn.fldC_T, Nn.cont1, Nn.fldO_gen, Nn.fldP_some, Nn.sfJ_lc, Nn.putFD_nil, Nn.putFD_cons, Nn.kd_str, Nn.in_lc, Nn.inO_strs, Nn.in_tupS, Nn.in_tufS, Nn.in_flS, Nn.ap_lc, Nn.pop_lc, Nn.popO_snoc, Nn.rev_lc, Nn.revO_lst, Nn.rem_lc, Nn.ex_lc, Nn.ins_lc, Nn.list_tup, Nn.list_tuf, Nn.list_fl, Nn.list_sc, Nn.list_lc, Nn.lsO_lst, Nn.eq_non, Nn.eq_strI, List.map_cons, List.map_nil, List.length_cons, List.length_nil, List.replicate_succ, List.replicate_zero, List.set_cons_zero, List.set_cons_succ, List.getElem?_cons_zero, List.getElem?_cons_succ, List.cons_append, List.nil_append, Nat.reduceAdd, Nat.reduceSub, Nat.zero_add, if_true, if_false, ↓reduceIte, reduceCtorEq, Bool.false_eq_true, Nn.sat_ok, Nn.of_inj, Nn.in_sign, Int.reduceLE, Int.reduceLT, Int.reduceGT, Int.reduceGE, Int.reduceEq, Int.reduceNe, Nn.cast_0, Nn.cast_1, Nn.cast_2, Nn.cast_3, Nn.cast_4, Nn.cast_5, Nn.cast_6, Nn.cast_7, Nn.cast_8, Nn.cast_9, Nn.cast_10, Nn.cast_11, Nn.cast_12, Nn.cast_13, Nn.cast_14, Nn.cast_15, Nn.cast_16, Nn.cast_17, Nn.cast_18, Nn.cast_19, Nn.cast_20, Nn.cast_21, Nn.cast_22, Nn.cast_23, Nn.cast_24, Nn.cast_25, Nn.cast_26, Nn.cast_27, Nn.cast_28, Nn.cast_29, Nn.cast_30, Nn.cast_31, Nn.cast_32, Nn.cast_33, Nn.cast_34, Nn.cast_35, Nn.cast_36, Nn.cast_37, Nn.cast_38, Nn.cast_39, Nn.cast_40, Int.reduceAdd, Int.reduceSub, not_true_eq_false, not_false_eq_true, String.reduceEq, String.reduceNe, eq_self, decide_true, decide_false, Nn.ng, Nn.nd_dec, Nn.pow_18, Nn.pow_20, List.length_map, Bool.not_true, Bool.not_false])
local macro_rules | `(tactic| wtm_at "br") => `(tactic| first | refine go_ifDN ?_ ?_ | refine go_ifD ?_ ?_ | refine go_bindS (sat_andD ?_ ?_) | refine go_bindS (sat_orD ?_ ?_) | refine go_bindS (sat_andVD ?_ ?_) | refine go_bindS (sat_orVD ?_ ?_) | refine go_bindS (sat_ifD ?_ ?_) | refine sat_bind (sat_andD ?_ ?_) | refine sat_bind (sat_orD ?_ ?_) | refine sat_bind (sat_andVD ?_ ?_) | refine sat_bind (sat_orVD ?_ ?_) | refine sat_bind (sat_ifD ?_ ?_) | refine go_ifN ?_ ?_ | refine go_if ?_ ?_ | refine go_bindS (sat_andB ?_ ?_) | refine go_bindS (sat_orB ?_ ?_) | refine go_bindS (sat_andVB ?_ ?_) | refine go_bindS (sat_orVB ?_ ?_) | refine go_bindS (sat_ifB ?_ ?_) | refine go_bindS (sat_chDec ?_ ?_) | refine sat_bind (sat_chDec ?_ ?_) | refine sat_chDec ?_ ?_ | refine sat_andD ?_ ?_ | refine sat_orD ?_ ?_ | refine sat_andVD ?_ ?_ | refine sat_orVD ?_ ?_ | refine sat_ifD ?_ ?_ | refine sat_andB ?_ ?_ | refine sat_orB ?_ ?_ | refine sat_andVB ?_ ?_ | refine sat_orVB ?_ ?_ | refine sat_ifB ?_ ?_ | fail)
local macro_rules | `(tactic| wtm_at "dr0") => `(tactic| ((first | refine go_bindS (draw_call (by rfl) (by assumption) (by omega) (by omega) (by omega) ?_) | refine sat_bind (draw_call (by rfl) (by assumption) (by omega) (by omega) (by omega) ?_) | refine draw_call (by rfl) (by assumption) (by omega) (by omega) (by omega) ?_ | fail); intro _ _ _ _ _ _ _; simp only [List.set_cons_zero, List.set_cons_succ]; try wtm_at "evo"))
local macro_rules | `(tactic| wtm_at "wd") => `(tactic| ((with_reducible first | refine word_bindS ?_ ?_ ?_ | refine word_bind ?_ ?_ ?_ | refine word_sat ?_ ?_ ?_ | fail); (focus omega); (focus omega); intro _ _; try wtm_at "evo"))
local macro_rules | `(tactic| wtm_at "dr") => `(tactic| first | wtm_at "dr0" | wtm_at "wd" | fail)
local macro_rules | `(tactic| wtm_at "brs") => `(tactic| (wtm_at "br" <;> (intro _; try wtm_at "evo")))
local macro_rules | `(tactic| wtm_at "all") => `(tactic| ((try wtm_at "evo"); repeat' (first | wtm_at "dr" | wtm_at "brs")))
local macro_rules | `(tactic| wtm_at "drs") => `(tactic| ((try wtm_at "evo"); repeat' wtm_at "dr"))
local macro_rules | `(tactic| wtm_at "low") => `(tactic| first | rfl | (simp only [vl_lows, od_lows, Vl.low, Od.low, Nn.lows_nil, Nn.lows_cons, Nn.low_non, Nn.low_bl, Nn.low_int, Nn.low_str, Nn.low_ty, Nn.low_tup, Nn.low_tuf, Nn.low_fl, Nn.low_sc, Nn.low_fd, Nn.low_fo, Nn.lows_str, Nn.lows_int, Nn.lows_app, Nn.lowO_strs, Nn.lowO_ints, Nn.lowO_l, Nn.lowO_d, Nn.lowO_i, Bool.and_true, Bool.and_self, Bool.true_and, List.all_cons, List.all_nil, List.map_cons, List.map_nil, poolO_low, List.take_succ_cons, List.take_zero]; done) | fail)

theorem isValue_t {o : Od} : mIsValue [o.d] [] = .ok (.bl o.isV) [] := by
  refine eq_of_sat (def_sat ?_)
  unfold mbIsValue
  rcases o with (_ | _) | _ | _ | _ | _ | _ <;> simp only [Od.d, Vl.d, Od.isV] <;> wtm_at "evo" <;> exact go_end0 rfl ⟨rfl, rfl⟩
theorem lisValue_t {o : Od} : mLIsValue [o.d] [] = .ok (.bl o.isV) [] := by
  refine eq_of_sat (def_sat ?_)
  unfold mbLIsValue
  rcases o with (_ | _) | _ | _ | _ | _ | _ <;> simp only [Od.d, Vl.d, Od.isV] <;> wtm_at "evo" <;> exact go_end0 rfl ⟨rfl, rfl⟩
theorem call_eq {st : S} {f : Fn} {ds : List D} {md : List Bool} {d : D} (hmd : md = List.replicate ds.length false) (hl : ds.all low = true) (h : f ds [] = .ok d []) (hd : low d = true) : callF md f ds st = .ok d st := by
  subst hmd
  refine call_val ?_ h hd
  have : ∀ ds : List D, ds.all Nn.low = true → pureB (List.replicate ds.length false) ds = true := by
    intro ds
    induction ds with
    | nil => intro _; rfl
    | cons a ds ih =>
      intro h
      rw [List.all_cons, Bool.and_eq_true] at h
      show (Nn.low a && pureB (List.replicate ds.length false) ds) = true
      rw [h.1, ih h.2]
      rfl
  exact this ds hl
theorem c_isValue {st : S} {o : Od} : callF [false] mIsValue [o.d] st = .ok (.bl o.isV) st := call_eq rfl (by rw [List.all_cons, o.low]; rfl) isValue_t rfl
theorem c_lisValue {st : S} {o : Od} : callF [false] mLIsValue [o.d] st = .ok (.bl o.isV) st := call_eq rfl (by rw [List.all_cons, o.low]; rfl) lisValue_t rfl
/-- where a value stands -/
def place (l : List Vl) (x : Vl) : Option Nat := l.findIdx? fun y => decide (y = x)
def placeI (l : List Vl) (x : Vl) : Int := match place l x with
  | some j => (j : Nat)
  | none => -1
theorem place_some {l : List Vl} {x : Vl} {j : Nat} (h : place l x = some j) : l[j]? = some x ∧ ∀ m : Nat, m < j → l[m]? ≠ some x := by
  unfold place at h
  rw [List.findIdx?_eq_some_iff_getElem] at h
  obtain ⟨h1, h2, h3⟩ := h
  refine ⟨by rw [List.getElem?_eq_getElem h1, of_decide_eq_true h2], fun m hm e => ?_⟩
  have := h3 m hm
  rw [List.getElem?_eq_getElem (by omega)] at e
  simp only [Option.some.injEq] at e
  simp [e] at this
theorem place_none {l : List Vl} {x : Vl} : place l x = none ↔ x ∉ l := by
  unfold place
  rw [List.findIdx?_eq_none_iff]
  simp only [decide_eq_false_iff_not]
  exact ⟨fun h hx => h x hx rfl, fun h y hy e => h (e ▸ hy)⟩
theorem place_of {l : List Vl} {x : Vl} {j : Nat} (h : l[j]? = some x) (hn : ∀ m : Nat, m < j → l[m]? ≠ some x) : place l x = some j := by
  unfold place
  rw [List.findIdx?_eq_some_iff_getElem]
  obtain ⟨h1, h2⟩ := List.getElem?_eq_some_iff.mp h
  refine ⟨h1, by simp [h2], fun m hm => ?_⟩
  have := hn m hm
  rw [List.getElem?_eq_getElem (by omega)] at this
  simpa using this

end Ke
namespace Ke
open PySem PySem.Spec PyProof.Rows L2 Lb Nn
local macro_rules | `(tactic| wtm_at "ev") => `(tactic| simp only [Nn.seq_ap, Nn.next_ap, Nn.brk_ap, Nn.cnt_ap, Nn.var_ap, Nn.varK_ok, Nn.c_ap, Nn.m2_ap, Nn.m2K_ap, Nn.m2J_ap, Nn.m1_ap, Nn.mB_ap, Nn.mBK_ap, Nn.and_ap, Nn.or_ap, Nn.not_ap, Nn.andK_T, Nn.andK_F, Nn.orK_T, Nn.orK_F, Nn.notK_ap, Nn.andV_ap, Nn.orV_ap, Nn.notV_ap, Nn.ifE_ap, Nn.andVK_T, Nn.andVK_F, Nn.orVK_T, Nn.orVK_F, Nn.notVK_ap, Nn.ifEK_T, Nn.ifEK_F, Nn.nil_ap, Nn.cons_ap, Nn.consK_ap, Nn.consJ_ap, Nn.star_ap, Nn.starJ_ap, Nn.starK_tup, Nn.starK_tuf, Nn.starK_fl, Nn.starK_lc, Nn.starO_lst, Nn.lcL_nil, Nn.loopP_nil, List.append_nil,  Nn.tup_ap, Nn.lst_ap, Nn.newL_T, Nn.newL_F, Nn.newD_T, Nn.newD_F, Nn.dnew_ap, Nn.cb_ap, Nn.call_ap, Nn.callD_ap, Nn.callDD, Nn.dyn_nil, Nn.dyn_F, Nn.dyn_loc, Nn.dyn_fd, Nn.dyn_fl, Nn.dyn_tup, Nn.dyn_non, Nn.disp_ap, Nn.prs_nil, Nn.prs_cons, Nn.prA_ap, Nn.prB_ap, Nn.prC_str, Nn.prC_int, Nn.dispK_1, Nn.tr_ap, Nn.trK_bl, Nn.asg_ap, Nn.asgK_ap, Nn.asgJ_ok, Nn.gnm_ap, Nn.gkl_ap, Nn.ret_ap, Nn.retK_ap, Nn.retN_ap, Nn.drop_ap, Nn.dropK_ap, Nn.if_ap, Nn.ifK_T, Nn.ifK_F, Nn.kl_ap, Nn.klK_ap, Nn.wipe_nil, Nn.wipe_cons, Nn.put_mk, Nn.start_mk, Nn.for_ap, Nn.forK_ap, Nn.itP_l, Nn.it_ap, Nn.itK_tup, Nn.itK_tuf, Nn.itK_fl, Nn.itK_sc, Nn.itK_fd, Nn.itK_lc, Nn.revA_ap, Nn.revAK_tup, Nn.revAK_tuf, Nn.revAK_fl, List.reverse_cons, List.reverse_nil, Nn.itO_lst, Nn.itL_l, Nn.loopP_consG, Nn.lpC_ok, Nn.turn_nx, Nn.turn_ct, Nn.turn_rt, Nn.turn_bk, Nn.lcL_consG, Nn.lcC1_ap, Nn.lcC2_T, Nn.lcC2_F, Nn.gtp_tup, Nn.gtK_ok, Nn.gcn_ap, Nn.gcJ_ap, Nn.gnl_ap, Nn.en_nil, Nn.en_cons, Nn.sl_tup, Nn.sl_fl, Nn.cut_d1, Nn.cut_d2, Nn.cut_t1, Nn.cut_t2, List.take_succ_cons, List.take_zero, List.drop_succ_cons, List.drop_zero, List.take_nil, List.drop_nil, Nn.itK_str, Nn.range1_ap, Nn.enum_ap, Nn.enK_tup, Nn.enK_tuf, Nn.enK_fl, Nn.lc_ap, Nn.lcK_ap, Nn.newLK_ap, Nn.yes_ap, Nn.blk_ap, Nn.blkK_nx, Nn.blkK_ct, Nn.blkK_bk, Nn.blkK_rt, Nn.blkO_some, Nn.cons2_some, Nn.frzE_nil, Nn.frzE_none, Nn.frzE_cons, Nn.frzS_nil, Nn.frzS_cons, Nn.app2_some, Option.map_some, List.take_succ_cons, Nn.bind_ok, Nn.bindS_ok, Nn.bindN_nx, Nn.bindN_rt, Nn.bindN_ct, Nn.bindN_bk, Nn.bind_bind, Nn.bind_bindS, Nn.bindS_bindN, Nn.bindN_bindN, Nn.bbK_ap, Nn.bsK_ap, Nn.snK_ap, Nn.nnK_ap, Nn.aug_ap, Nn.augK_ap, Nn.augI_ap, Nn.augJ_ap, Nn.bl_ap, Nn.blK_ap, Nn.blO_ap, Nn.blJ_ap, Nn.index_ap, Nn.idxK_tuf, Nn.idxK_fl, Nn.join_ap, Nn.joinK_ap, Nn.fld_ap, Nn.sfld_ap, Nn.sfK_ap, Nn.mkF_ap, Nn.part_ap, Nn.partK_ap, Nn.noPart_ap, Nn.sl_ap, Nn.slA_ap, Nn.slB_ap, Nn.slC_ap, Nn.at0, Nn.at1, Nn.at2, Nn.at3, Nn.at4, Nn.at5, Nn.at6, Nn.at7, Nn.at8, Nn.at9, Nn.oD_some, Nn.ix_tup, Nn.ix_tuf, Nn.ix_fl, Nn.ix_sc, Nn.ix_lc, Nn.ixO_lst, Nn.ixO_dic, Nn.ixO_dicI, Nn.gsb_ap, Nn.okB_ok, Nn.gsA_ap, Nn.gsC_ap, Nn.gsE_ap, Nn.set_lc, Nn.setO_lst, Nn.setJ_some, Nn.ixN_L0, Nn.ixN_L1, Nn.ixN_L2, Nn.ixN_L3, Nn.ixN_L4, Nn.ixN_L5, Nn.add_int, Nn.sub_int, Nn.neg_int, Nn.lt_int, Nn.le_int, Nn.gt_int, Nn.ge_int, Nn.eq_int, Nn.eq_str, Nn.eq_bl, Nn.is_non, Nn.is_tup, Nn.is_str, Nn.is_int, Nn.is_bl, Nn.int_int, Nn.int_bl, Nn.abs_int, Nn.len_tup, Nn.len_tuf, Nn.len_fl, Nn.len_sc, Nn.len_lc, Nn.lenQ_lst, Nn.lenQ_dic, Nn.tuple_fl, Nn.tuple_lc, Nn.tupO_lst, Nn.sl_lc, Nn.slO_lst, Nn.min2_int, Nn.lstRg_ap, Nn.tupleF_fl, Nn.isi_ap, Nn.ty_non, Nn.ty_bl, Nn.ty_int, Nn.ty_str, Nn.ty_tup, Nn.ty_tuf, Nn.ty_fl, Nn.ty_sc, Nn.ty_fd, Nn.ty_lc, Nn.tyO_lst, Nn.tyO_dic, Nn.isO_NoneType_bool, Nn.isO_NoneType_int, Nn.isO_NoneType_str, Nn.isO_NoneType_tuple, Nn.isO_NoneType_list, Nn.isO_NoneType_dict, Nn.isO_bool_bool, Nn.isO_bool_int, Nn.isO_bool_str, Nn.isO_bool_tuple, Nn.isO_bool_list, Nn.isO_bool_dict, Nn.isO_int_bool, Nn.isO_int_int, Nn.isO_int_str, Nn.isO_int_tuple, Nn.isO_int_list, Nn.isO_int_dict, Nn.isO_str_bool, Nn.isO_str_int, Nn.isO_str_str, Nn.isO_str_tuple, Nn.isO_str_list, Nn.isO_str_dict, Nn.isO_tuple_bool, Nn.isO_tuple_int, Nn.isO_tuple_str, Nn.isO_tuple_tuple, Nn.isO_tuple_list, Nn.isO_tuple_dict, Nn.isO_list_bool, Nn.isO_list_int, Nn.isO_list_str, Nn.isO_list_tuple, Nn.isO_list_list, Nn.isO_list_dict, Nn.isO_dict_bool, Nn.isO_dict_int, Nn.isO_dict_str, Nn.isO_dict_tuple, Nn.isO_dict_list, Nn.isO_dict_dict, Nn.chain_ap, Nn.chA_ap, Nn.chB_ap, Nn.chC_T, Nn.chC_F, Nn.chD_ap, Nn.trK_gen, Nn.trO_some, Nn.tru_tup, Nn.tru_fl, Nn.tru_non, Nn.tru_bl, Nn.tru_int, Nn.emp_nil, Nn.emp_cons, Nn.emp_map, Nn.all_nil, Nn.sum_nil, Nn.ix_fdM, Nn.in_fdM, Nn.lookD_cons, Nn.fldK_foG, Nn.fldC_T, Nn.cont1, Nn.fldO_gen, Nn.fldP_some, Nn.sfJ_lc, Nn.putFD_nil, Nn.putFD_cons, Nn.kd_str, Nn.in_lc, Nn.inO_strs, Nn.in_tupS, Nn.in_tufS, Nn.in_flS, Nn.ap_lc, Nn.pop_lc, Nn.popO_snoc, Nn.rev_lc, Nn.revO_lst, Nn.rem_lc, Nn.ex_lc, Nn.ins_lc, Nn.list_tup, Nn.list_tuf, Nn.list_fl, Nn.list_sc, Nn.list_lc, Nn.lsO_lst, Nn.eq_non, Nn.eq_strI, List.map_cons, List.map_nil, List.length_cons, List.length_nil, List.replicate_succ, List.replicate_zero, List.set_cons_zero, List.set_cons_succ, List.getElem?_cons_zero, List.getElem?_cons_succ, List.cons_append, List.nil_append, Nat.reduceAdd, Nat.reduceSub, Nat.zero_add, if_true, if_false, ↓reduceIte, reduceCtorEq, Bool.false_eq_true, Nn.sat_ok, Nn.of_inj, Nn.in_sign, Int.reduceLE, Int.reduceLT, Int.reduceGT, Int.reduceGE, Int.reduceEq, Int.reduceNe, Nn.cast_0, Nn.cast_1, Nn.cast_2, Nn.cast_3, Nn.cast_4, Nn.cast_5, Nn.cast_6, Nn.cast_7, Nn.cast_8, Nn.cast_9, Nn.cast_10, Nn.cast_11, Nn.cast_12, Nn.cast_13, Nn.cast_14, Nn.cast_15, Nn.cast_16, Nn.cast_17, Nn.cast_18, Nn.cast_19, Nn.cast_20, Nn.cast_21, Nn.cast_22, Nn.cast_23, Nn.cast_24, Nn.cast_25, Nn.cast_26, Nn.cast_27, Nn.cast_28, Nn.cast_29, Nn.cast_30, Nn.cast_31, Nn.cast_32, Nn.cast_33, Nn.cast_34, Nn.cast_35, Nn.cast_36, Nn.cast_37, Nn.cast_38, Nn.cast_39, Nn.cast_40, Int.reduceAdd, Int.reduceSub, not_true_eq_false, not_false_eq_true, String.reduceEq, String.reduceNe, eq_self, decide_true, decide_false, Nn.ng, Nn.nd_dec, Nn.pow_18, Nn.pow_20, List.length_map, Bool.not_true, Bool.not_false])
local macro_rules | `(tactic| wtm_at "evo") => `(tactic| simp -implicitDefEqProofs (disch := first | assumption | omega | (refine Nn.okR_small ?_; omega) | (simp only [List.length_cons, List.length_nil, List.length_map, List.length_append]; omega) | (simp only [vl_lows, od_lows, Vl.low, Od.low, Nn.lows_nil, Nn.lows_cons, Nn.low_non, Nn.low_bl, Nn.low_int, Nn.low_str, Nn.low_ty, Nn.low_tup, Nn.low_tuf, Nn.low_fl, Nn.low_sc, Nn.low_fd, Nn.low_fo, Nn.lows_str, Nn.lows_int, Nn.lows_app, Nn.lowO_strs, Nn.lowO_ints, Nn.lowO_l, Nn.lowO_d, Nn.lowO_i, Bool.and_true, Bool.and_self, Bool.true_and, List.all_cons, List.all_nil, List.map_cons, List.map_nil]; done) | decide) only [in_vl, eq_vl, ty_vl, isO_vlS, isO_vlI, isO_vlB, c_isValue, c_lisValue, Nn.mul_int, Nn.mod_int, Nn.div_int, Nn.lstK_ap, Nn.rgLK_ap, Nn.blkE_ap, Nn.frz_low, Nn.frz_lt, Nn.frzO_low, Nn.lcC3_ap, Nn.apO_lst, Nn.len_str, Nn.sfO_ins1, Nn.exO_lst, Nn.tupK_ap, Nn.rg1K_ap, Nn.okR_small, Nn.seq_ap, Nn.next_ap, Nn.brk_ap, Nn.cnt_ap, Nn.var_ap, Nn.varK_ok, Nn.c_ap, Nn.m2_ap, Nn.m2K_ap, Nn.m2J_ap, Nn.m1_ap, Nn.mB_ap, Nn.mBK_ap, Nn.and_ap, Nn.or_ap, Nn.not_ap, Nn.andK_T, Nn.andK_F, Nn.orK_T, Nn.orK_F, Nn.notK_ap, Nn.andV_ap, Nn.orV_ap, Nn.notV_ap, Nn.ifE_ap, Nn.andVK_T, Nn.andVK_F, Nn.orVK_T, Nn.orVK_F, Nn.notVK_ap, Nn.ifEK_T, Nn.ifEK_F, Nn.nil_ap, Nn.cons_ap, Nn.consK_ap, Nn.consJ_ap, Nn.star_ap, Nn.starJ_ap, Nn.starK_tup, Nn.starK_tuf, Nn.starK_fl, Nn.starK_lc, Nn.starO_lst, Nn.lcL_nil, Nn.loopP_nil, List.append_nil,  Nn.tup_ap, Nn.lst_ap, Nn.newL_T, Nn.newL_F, Nn.newD_T, Nn.newD_F, Nn.dnew_ap, Nn.cb_ap, Nn.call_ap, Nn.callD_ap, Nn.callDD, Nn.dyn_nil, Nn.dyn_F, Nn.dyn_loc, Nn.dyn_fd, Nn.dyn_fl, Nn.dyn_tup, Nn.dyn_non, Nn.disp_ap, Nn.prs_nil, Nn.prs_cons, Nn.prA_ap, Nn.prB_ap, Nn.prC_str, Nn.prC_int, Nn.dispK_1, Nn.tr_ap, Nn.trK_bl, Nn.asg_ap, Nn.asgK_ap, Nn.asgJ_ok, Nn.gnm_ap, Nn.gkl_ap, Nn.ret_ap, Nn.retK_ap, Nn.retN_ap, Nn.drop_ap, Nn.dropK_ap, Nn.if_ap, Nn.ifK_T, Nn.ifK_F, Nn.kl_ap, Nn.klK_ap, Nn.wipe_nil, Nn.wipe_cons, Nn.put_mk, Nn.start_mk, Nn.for_ap, Nn.forK_ap, Nn.itP_l, Nn.it_ap, Nn.itK_tup, Nn.itK_tuf, Nn.itK_fl, Nn.itK_sc, Nn.itK_fd, Nn.itK_lc, Nn.revA_ap, Nn.revAK_tup, Nn.revAK_tuf, Nn.revAK_fl, List.reverse_cons, List.reverse_nil, Nn.itO_lst, Nn.itL_l, Nn.loopP_consG, Nn.lpC_ok, Nn.turn_nx, Nn.turn_ct, Nn.turn_rt, Nn.turn_bk, Nn.lcL_consG, Nn.lcC1_ap, Nn.lcC2_T, Nn.lcC2_F, Nn.gtp_tup, Nn.gtK_ok, Nn.gcn_ap, Nn.gcJ_ap, Nn.gnl_ap, Nn.en_nil, Nn.en_cons, Nn.sl_tup, Nn.sl_fl, Nn.cut_d1, Nn.cut_d2, Nn.cut_t1, Nn.cut_t2, List.take_succ_cons, List.take_zero, List.drop_succ_cons, List.drop_zero, List.take_nil, List.drop_nil, Nn.itK_str, Nn.range1_ap, Nn.enum_ap, Nn.enK_tup, Nn.enK_tuf, Nn.enK_fl, Nn.lc_ap, Nn.lcK_ap, Nn.newLK_ap, Nn.yes_ap, Nn.blk_ap, Nn.blkK_nx, Nn.blkK_ct, Nn.blkK_bk, Nn.blkK_rt, Nn.blkO_some, Nn.cons2_some, Nn.frzE_nil, Nn.frzE_none, Nn.frzE_cons, Nn.frzS_nil, Nn.frzS_cons, Nn.app2_some, Option.map_some, List.take_succ_cons, Nn.bind_ok, Nn.bindS_ok, Nn.bindN_nx, Nn.bindN_rt, Nn.bindN_ct, Nn.bindN_bk, Nn.bind_bind, Nn.bind_bindS, Nn.bindS_bindN, Nn.bindN_bindN, Nn.bbK_ap, Nn.bsK_ap, Nn.snK_ap, Nn.nnK_ap, Nn.aug_ap, Nn.augK_ap, Nn.augI_ap, Nn.augJ_ap, Nn.bl_ap, Nn.blK_ap, Nn.blO_ap, Nn.blJ_ap, Nn.index_ap, Nn.idxK_tuf, Nn.idxK_fl, Nn.join_ap, Nn.joinK_ap, Nn.fld_ap, Nn.sfld_ap, Nn.sfK_ap, Nn.mkF_ap, Nn.part_ap, Nn.partK_ap, Nn.noPart_ap, Nn.sl_ap, Nn.slA_ap, Nn.slB_ap, Nn.slC_ap, Nn.at0, Nn.at1, Nn.at2, Nn.at3, Nn.at4, Nn.at5, Nn.at6, Nn.at7, Nn.at8, Nn.at9, Nn.oD_some, Nn.ix_tup, Nn.ix_tuf, Nn.ix_fl, Nn.ix_sc, Nn.ix_lc, Nn.ixO_lst, Nn.ixO_dic, Nn.ixO_dicI, Nn.gsb_ap, Nn.okB_ok, Nn.gsA_ap, Nn.gsC_ap, Nn.gsE_ap, Nn.set_lc, Nn.setO_lst, Nn.setJ_some, Nn.ixN_L0, Nn.ixN_L1, Nn.ixN_L2, Nn.ixN_L3, Nn.ixN_L4, Nn.ixN_L5, Nn.add_int, Nn.sub_int, Nn.neg_int, Nn.lt_int, Nn.le_int, Nn.gt_int, Nn.ge_int, Nn.eq_int, Nn.eq_str, Nn.eq_bl, Nn.is_non, Nn.is_tup, Nn.is_str, Nn.is_int, Nn.is_bl, Nn.int_int, Nn.int_bl, Nn.abs_int, Nn.len_tup, Nn.len_tuf, Nn.len_fl, Nn.len_sc, Nn.len_lc, Nn.lenQ_lst, Nn.lenQ_dic, Nn.tuple_fl, Nn.tuple_lc, Nn.tupO_lst, Nn.sl_lc, Nn.slO_lst, Nn.min2_int, Nn.lstRg_ap, Nn.tupleF_fl, Nn.isi_ap, Nn.ty_non, Nn.ty_bl, Nn.ty_int, Nn.ty_str, Nn.ty_tup, Nn.ty_tuf, Nn.ty_fl, Nn.ty_sc, Nn.ty_fd, Nn.ty_lc, Nn.tyO_lst, Nn.tyO_dic, Nn.isO_NoneType_bool, Nn.isO_NoneType_int, Nn.isO_NoneType_str, Nn.isO_NoneType_tuple, Nn.isO_NoneType_list, Nn.isO_NoneType_dict, Nn.isO_bool_bool, Nn.isO_bool_int, Nn.isO_bool_str, Nn.isO_bool_tuple, Nn.isO_bool_list, Nn.isO_bool_dict, Nn.isO_int_bool, Nn.isO_int_int, Nn.isO_int_str, Nn.isO_int_tuple, Nn.isO_int_list, Nn.isO_int_dict, Nn.isO_str_bool, Nn.isO_str_int, Nn.isO_str_str, Nn.isO_str_tuple, Nn.isO_str_list, Nn.isO_str_dict, Nn.isO_tuple_bool, Nn.isO_tuple_int, Nn.isO_tuple_str, Nn.isO_tuple_tuple, Nn.isO_tuple_list, Nn.isO_tuple_dict, Nn.isO_list_bool, Nn.isO_list_int, Nn.isO_list_str, Nn.isO_list_tuple, Nn.isO_list_list, Nn.isO_list_dict, Nn.isO_dict_bool, Nn.isO_dict_int, Nn.isO_dict_str, Nn.isO_dict_tuple, Nn.isO_dict_list, Nn.isO_dict_dict, Nn.chain_ap, Nn.chA_ap, Nn.chB_ap, Nn.chC_T, Nn.chC_F, Nn.chD_ap, Nn.trK_gen, Nn.trO_some, Nn.tru_tup, Nn.tru_fl, Nn.tru_non, Nn.tru_bl, Nn.tru_int, Nn.emp_nil, Nn.emp_cons, Nn.emp_map, Nn.all_nil, Nn.sum_nil, Nn.ix_fdM, Nn.in_fdM, Nn.lookD_cons, Nn.fldK_foG, Nn.fldC_T, Nn.cont1, Nn.fldO_gen, Nn.fldP_some, Nn.sfJ_lc, Nn.putFD_nil, Nn.putFD_cons, Nn.kd_str, Nn.in_lc, Nn.inO_strs, Nn.in_tupS, Nn.in_tufS, Nn.in_flS, Nn.ap_lc, Nn.pop_lc, Nn.popO_snoc, Nn.rev_lc, Nn.revO_lst, Nn.rem_lc, Nn.ex_lc, Nn.ins_lc, Nn.list_tup, Nn.list_tuf, Nn.list_fl, Nn.list_sc, Nn.list_lc, Nn.lsO_lst, Nn.eq_non, Nn.eq_strI, List.map_cons, List.map_nil, List.length_cons, List.length_nil, List.replicate_succ, List.replicate_zero, List.set_cons_zero, List.set_cons_succ, List.getElem?_cons_zero, List.getElem?_cons_succ, List.cons_append, List.nil_append, Nat.reduceAdd, Nat.reduceSub, Nat.zero_add, if_true, if_false, ↓reduceIte, reduceCtorEq, Bool.false_eq_true, Nn.sat_ok, Nn.of_inj, Nn.in_sign, Int.reduceLE, Int.reduceLT, Int.reduceGT, Int.reduceGE, Int.reduceEq, Int.reduceNe, Nn.cast_0, Nn.cast_1, Nn.cast_2, Nn.cast_3, Nn.cast_4, Nn.cast_5, Nn.cast_6, Nn.cast_7, Nn.cast_8, Nn.cast_9, Nn.cast_10, Nn.cast_11, Nn.cast_12, Nn.cast_13, Nn.cast_14, Nn.cast_15, Nn.cast_16, Nn.cast_17, Nn.cast_18, Nn.cast_19, Nn.cast_20, Nn.cast_21, Nn.cast_22, Nn.cast_23, Nn.cast_24, Nn.cast_25, Nn.cast_26, Nn.cast_27, Nn.cast_28, Nn.cast_29, Nn.cast_30, Nn.cast_31, Nn.cast_32, Nn.cast_33, Nn.cast_34, Nn.cast_35, Nn.cast_36, Nn.cast_37, Nn.cast_38, Nn.cast_39, Nn.cast_40, Int.reduceAdd, Int.reduceSub, not_true_eq_false, not_false_eq_true, String.reduceEq, String.reduceNe, eq_self, decide_true, decide_false, Nn.ng, Nn.nd_dec, Nn.pow_18, Nn.pow_20, List.length_map, Bool.not_true, Bool.not_false])
local macro_rules | `(tactic| wtm_at "br") => `(tactic| first | refine go_ifDN ?_ ?_ | refine go_ifD ?_ ?_ | refine go_bindS (sat_andD ?_ ?_) | refine go_bindS (sat_orD ?_ ?_) | refine go_bindS (sat_andVD ?_ ?_) | refine go_bindS (sat_orVD ?_ ?_) | refine go_bindS (sat_ifD ?_ ?_) | refine sat_bind (sat_andD ?_ ?_) | refine sat_bind (sat_orD ?_ ?_) | refine sat_bind (sat_andVD ?_ ?_) | refine sat_bind (sat_orVD ?_ ?_) | refine sat_bind (sat_ifD ?_ ?_) | refine go_ifN ?_ ?_ | refine go_if ?_ ?_ | refine go_bindS (sat_andB ?_ ?_) | refine go_bindS (sat_orB ?_ ?_) | refine go_bindS (sat_andVB ?_ ?_) | refine go_bindS (sat_orVB ?_ ?_) | refine go_bindS (sat_ifB ?_ ?_) | refine go_bindS (sat_chDec ?_ ?_) | refine sat_bind (sat_chDec ?_ ?_) | refine sat_chDec ?_ ?_ | refine sat_andD ?_ ?_ | refine sat_orD ?_ ?_ | refine sat_andVD ?_ ?_ | refine sat_orVD ?_ ?_ | refine sat_ifD ?_ ?_ | refine sat_andB ?_ ?_ | refine sat_orB ?_ ?_ | refine sat_andVB ?_ ?_ | refine sat_orVB ?_ ?_ | refine sat_ifB ?_ ?_ | fail)
local macro_rules | `(tactic| wtm_at "dr0") => `(tactic| ((first | refine go_bindS (draw_call (by rfl) (by assumption) (by omega) (by omega) (by omega) ?_) | refine sat_bind (draw_call (by rfl) (by assumption) (by omega) (by omega) (by omega) ?_) | refine draw_call (by rfl) (by assumption) (by omega) (by omega) (by omega) ?_ | fail); intro _ _ _ _ _ _ _; simp only [List.set_cons_zero, List.set_cons_succ]; try wtm_at "evo"))
local macro_rules | `(tactic| wtm_at "wd") => `(tactic| ((with_reducible first | refine word_bindS ?_ ?_ ?_ | refine word_bind ?_ ?_ ?_ | refine word_sat ?_ ?_ ?_ | fail); (focus omega); (focus omega); intro _ _; try wtm_at "evo"))
local macro_rules | `(tactic| wtm_at "dr") => `(tactic| first | wtm_at "dr0" | wtm_at "wd" | fail)
local macro_rules | `(tactic| wtm_at "brs") => `(tactic| (wtm_at "br" <;> (intro _; try wtm_at "evo")))
local macro_rules | `(tactic| wtm_at "all") => `(tactic| ((try wtm_at "evo"); repeat' (first | wtm_at "dr" | wtm_at "brs")))
local macro_rules | `(tactic| wtm_at "drs") => `(tactic| ((try wtm_at "evo"); repeat' wtm_at "dr"))
local macro_rules | `(tactic| wtm_at "low") => `(tactic| first | rfl | (simp only [vl_lows, od_lows, Vl.low, Od.low, Nn.lows_nil, Nn.lows_cons, Nn.low_non, Nn.low_bl, Nn.low_int, Nn.low_str, Nn.low_ty, Nn.low_tup, Nn.low_tuf, Nn.low_fl, Nn.low_sc, Nn.low_fd, Nn.low_fo, Nn.lows_str, Nn.lows_int, Nn.lows_app, Nn.lowO_strs, Nn.lowO_ints, Nn.lowO_l, Nn.lowO_d, Nn.lowO_i, Bool.and_true, Bool.and_self, Bool.true_and, List.all_cons, List.all_nil, List.map_cons, List.map_nil, poolO_low, List.take_succ_cons, List.take_zero]; done) | fail)

theorem rg_at {n k : Nat} {d : D} {r : List D} (h : d :: r = (rgD 0 n).drop k) : d = .int (k : Nat) ∧ r = (rgD 0 n).drop (k + 1) ∧ k < n := by
  obtain ⟨h1, h2⟩ := drop_cons h.symm
  have hk : k < n := by
    have := (List.getElem?_eq_some_iff.mp h1).1
    unfold rgD at this
    simpa using this
  unfold rgD at h1
  rw [List.getElem?_map, List.getElem?_range (by simpa using hk)] at h1
  refine ⟨?_, h2.symm, hk⟩
  have := Option.some.inj h1
  rw [← this]
  exact congrArg D.int (Int.zero_add _)
theorem at_vl {l : List Vl} {k : Nat} (h : k < l.length) : atI (vD l) ((k : Nat) : Int) = some (l[k]).d := by
  rw [atD, List.getElem?_map, List.getElem?_eq_getElem h]
  rfl
theorem place_t {l : List Vl} {x : Vl} (hl : l.length ≤ 1000) : mLPlace [.fl (vD l), x.d] [] = .ok (.int (placeI l x)) [] := by
  refine eq_of_sat (def_sat ?_)
  unfold mbLPlace
  wtm_at "evo"
  rw [show ((l.length : Int)).toNat = l.length by omega]
  refine go_loop (I := fun r e s => ∃ k : Nat, k + r.length = l.length ∧ r = (rgD 0 l.length).drop k ∧ (∀ m : Nat, m < k → l[m]? ≠ some x) ∧ e = ⟨[some (.fl (vD l)), some x.d, none], none⟩ ∧ s = []) ⟨0, by simp [rgD], rfl, fun m hm => by omega, rfl, rfl⟩ ?_ ?_
  · rintro d r e s ⟨k, hk, hd, hx, rfl, rfl⟩
    obtain ⟨rfl, hr, hkl⟩ := rg_at hd
    have hc := at_vl hkl
    rw [List.length_cons] at hk
    have hn : l[k] ≠ x → ∀ m : Nat, m < k + 1 → l[m]? ≠ some x := fun n m hm e => by
      by_cases q : m < k
      · exact hx m q e
      · have : m = k := by omega
        rw [this, List.getElem?_eq_getElem hkl] at e
        exact n (Option.some.inj e)
    wtm_at "evo"
    simp only [hc]
    wtm_at "evo"
    by_cases h1 : l[k].isS = x.isS
    · rw [decide_eq_true h1]
      wtm_at "evo"
      simp only [hc]
      wtm_at "evo"
      by_cases h2 : l[k] = x
      · rw [decide_eq_true h2]
        wtm_at "evo"
        refine lp_rt (go_end0 rfl ⟨?_, rfl⟩)
        unfold placeI
        rw [place_of (l := l) (x := x) (j := k) (by rw [List.getElem?_eq_getElem hkl, h2]) hx]
      · rw [decide_eq_false h2]
        wtm_at "evo"
        exact ⟨k + 1, by omega, hr, hn h2, rfl, rfl⟩
    · rw [decide_eq_false h1]
      wtm_at "evo"
      exact ⟨k + 1, by omega, hr, hn fun e => h1 (by rw [e]), rfl, rfl⟩
  · rintro e s ⟨k, hk, hd, hx, rfl, rfl⟩
    have hk : k = l.length := by simpa using hk
    subst hk
    have hni : x ∉ l := fun h => by
      obtain ⟨m, hm, e⟩ := List.getElem_of_mem h
      exact hx m hm (by rw [List.getElem?_eq_getElem hm, e])
    wtm_at "evo"
    refine go_end0 (d := .int (-1)) rfl ⟨?_, rfl⟩
    unfold placeI
    rw [place_none.mpr hni]
theorem c_place {st : S} {l : List Vl} {x : Vl} (hl : l.length ≤ 1000) : callF [false, false] mLPlace [.fl (vD l), x.d] st = .ok (.int (placeI l x)) st := call_eq rfl (by simp only [List.all_cons, Nn.low_fl, vl_lows, x.low]; rfl) (place_t hl) rfl

end Ke
namespace Ke
open PySem PySem.Spec PyProof.Rows L2 Lb Nn
local macro_rules | `(tactic| wtm_at "ev") => `(tactic| simp only [Nn.seq_ap, Nn.next_ap, Nn.brk_ap, Nn.cnt_ap, Nn.var_ap, Nn.varK_ok, Nn.c_ap, Nn.m2_ap, Nn.m2K_ap, Nn.m2J_ap, Nn.m1_ap, Nn.mB_ap, Nn.mBK_ap, Nn.and_ap, Nn.or_ap, Nn.not_ap, Nn.andK_T, Nn.andK_F, Nn.orK_T, Nn.orK_F, Nn.notK_ap, Nn.andV_ap, Nn.orV_ap, Nn.notV_ap, Nn.ifE_ap, Nn.andVK_T, Nn.andVK_F, Nn.orVK_T, Nn.orVK_F, Nn.notVK_ap, Nn.ifEK_T, Nn.ifEK_F, Nn.nil_ap, Nn.cons_ap, Nn.consK_ap, Nn.consJ_ap, Nn.star_ap, Nn.starJ_ap, Nn.starK_tup, Nn.starK_tuf, Nn.starK_fl, Nn.starK_lc, Nn.starO_lst, Nn.lcL_nil, Nn.loopP_nil, List.append_nil,  Nn.tup_ap, Nn.lst_ap, Nn.newL_T, Nn.newL_F, Nn.newD_T, Nn.newD_F, Nn.dnew_ap, Nn.cb_ap, Nn.call_ap, Nn.callD_ap, Nn.callDD, Nn.dyn_nil, Nn.dyn_F, Nn.dyn_loc, Nn.dyn_fd, Nn.dyn_fl, Nn.dyn_tup, Nn.dyn_non, Nn.disp_ap, Nn.prs_nil, Nn.prs_cons, Nn.prA_ap, Nn.prB_ap, Nn.prC_str, Nn.prC_int, Nn.dispK_1, Nn.tr_ap, Nn.trK_bl, Nn.asg_ap, Nn.asgK_ap, Nn.asgJ_ok, Nn.gnm_ap, Nn.gkl_ap, Nn.ret_ap, Nn.retK_ap, Nn.retN_ap, Nn.drop_ap, Nn.dropK_ap, Nn.if_ap, Nn.ifK_T, Nn.ifK_F, Nn.kl_ap, Nn.klK_ap, Nn.wipe_nil, Nn.wipe_cons, Nn.put_mk, Nn.start_mk, Nn.for_ap, Nn.forK_ap, Nn.itP_l, Nn.it_ap, Nn.itK_tup, Nn.itK_tuf, Nn.itK_fl, Nn.itK_sc, Nn.itK_fd, Nn.itK_lc, Nn.revA_ap, Nn.revAK_tup, Nn.revAK_tuf, Nn.revAK_fl, List.reverse_cons, List.reverse_nil, Nn.itO_lst, Nn.itL_l, Nn.loopP_consG, Nn.lpC_ok, Nn.turn_nx, Nn.turn_ct, Nn.turn_rt, Nn.turn_bk, Nn.lcL_consG, Nn.lcC1_ap, Nn.lcC2_T, Nn.lcC2_F, Nn.gtp_tup, Nn.gtK_ok, Nn.gcn_ap, Nn.gcJ_ap, Nn.gnl_ap, Nn.en_nil, Nn.en_cons, Nn.sl_tup, Nn.sl_fl, Nn.cut_d1, Nn.cut_d2, Nn.cut_t1, Nn.cut_t2, List.take_succ_cons, List.take_zero, List.drop_succ_cons, List.drop_zero, List.take_nil, List.drop_nil, Nn.itK_str, Nn.range1_ap, Nn.enum_ap, Nn.enK_tup, Nn.enK_tuf, Nn.enK_fl, Nn.lc_ap, Nn.lcK_ap, Nn.newLK_ap, Nn.yes_ap, Nn.blk_ap, Nn.blkK_nx, Nn.blkK_ct, Nn.blkK_bk, Nn.blkK_rt, Nn.blkO_some, Nn.cons2_some, Nn.frzE_nil, Nn.frzE_none, Nn.frzE_cons, Nn.frzS_nil, Nn.frzS_cons, Nn.app2_some, Option.map_some, List.take_succ_cons, Nn.bind_ok, Nn.bindS_ok, Nn.bindN_nx, Nn.bindN_rt, Nn.bindN_ct, Nn.bindN_bk, Nn.bind_bind, Nn.bind_bindS, Nn.bindS_bindN, Nn.bindN_bindN, Nn.bbK_ap, Nn.bsK_ap, Nn.snK_ap, Nn.nnK_ap, Nn.aug_ap, Nn.augK_ap, Nn.augI_ap, Nn.augJ_ap, Nn.bl_ap, Nn.blK_ap, Nn.blO_ap, Nn.blJ_ap, Nn.index_ap, Nn.idxK_tuf, Nn.idxK_fl, Nn.join_ap, Nn.joinK_ap, Nn.fld_ap, Nn.sfld_ap, Nn.sfK_ap, Nn.mkF_ap, Nn.part_ap, Nn.partK_ap, Nn.noPart_ap, Nn.sl_ap, Nn.slA_ap, Nn.slB_ap, Nn.slC_ap, Nn.at0, Nn.at1, Nn.at2, Nn.at3, Nn.at4, Nn.at5, Nn.at6, Nn.at7, Nn.at8, Nn.at9, Nn.oD_some, Nn.ix_tup, Nn.ix_tuf, Nn.ix_fl, Nn.ix_sc, Nn.ix_lc, Nn.ixO_lst, Nn.ixO_dic, Nn.ixO_dicI, Nn.gsb_ap, Nn.okB_ok, Nn.gsA_ap, Nn.gsC_ap, Nn.gsE_ap, Nn.set_lc, Nn.setO_lst, Nn.setJ_some, Nn.ixN_L0, Nn.ixN_L1, Nn.ixN_L2, Nn.ixN_L3, Nn.ixN_L4, Nn.ixN_L5, Nn.add_int, Nn.sub_int, Nn.neg_int, Nn.lt_int, Nn.le_int, Nn.gt_int, Nn.ge_int, Nn.eq_int, Nn.eq_str, Nn.eq_bl, Nn.is_non, Nn.is_tup, Nn.is_str, Nn.is_int, Nn.is_bl, Nn.int_int, Nn.int_bl, Nn.abs_int, Nn.len_tup, Nn.len_tuf, Nn.len_fl, Nn.len_sc, Nn.len_lc, Nn.lenQ_lst, Nn.lenQ_dic, Nn.tuple_fl, Nn.tuple_lc, Nn.tupO_lst, Nn.sl_lc, Nn.slO_lst, Nn.min2_int, Nn.lstRg_ap, Nn.tupleF_fl, Nn.isi_ap, Nn.ty_non, Nn.ty_bl, Nn.ty_int, Nn.ty_str, Nn.ty_tup, Nn.ty_tuf, Nn.ty_fl, Nn.ty_sc, Nn.ty_fd, Nn.ty_lc, Nn.tyO_lst, Nn.tyO_dic, Nn.isO_NoneType_bool, Nn.isO_NoneType_int, Nn.isO_NoneType_str, Nn.isO_NoneType_tuple, Nn.isO_NoneType_list, Nn.isO_NoneType_dict, Nn.isO_bool_bool, Nn.isO_bool_int, Nn.isO_bool_str, Nn.isO_bool_tuple, Nn.isO_bool_list, Nn.isO_bool_dict, Nn.isO_int_bool, Nn.isO_int_int, Nn.isO_int_str, Nn.isO_int_tuple, Nn.isO_int_list, Nn.isO_int_dict, Nn.isO_str_bool, Nn.isO_str_int, Nn.isO_str_str, Nn.isO_str_tuple, Nn.isO_str_list, Nn.isO_str_dict, Nn.isO_tuple_bool, Nn.isO_tuple_int, Nn.isO_tuple_str, Nn.isO_tuple_tuple, Nn.isO_tuple_list, Nn.isO_tuple_dict, Nn.isO_list_bool, Nn.isO_list_int, Nn.isO_list_str, Nn.isO_list_tuple, Nn.isO_list_list, Nn.isO_list_dict, Nn.isO_dict_bool, Nn.isO_dict_int, Nn.isO_dict_str, Nn.isO_dict_tuple, Nn.isO_dict_list, Nn.isO_dict_dict, Nn.chain_ap, Nn.chA_ap, Nn.chB_ap, Nn.chC_T, Nn.chC_F, Nn.chD_ap, Nn.trK_gen, Nn.trO_some, Nn.tru_tup, Nn.tru_fl, Nn.tru_non, Nn.tru_bl, Nn.tru_int, Nn.emp_nil, Nn.emp_cons, Nn.emp_map, Nn.all_nil, Nn.sum_nil, Nn.ix_fdM, Nn.in_fdM, Nn.lookD_cons, Nn.fldK_foG, Nn.fldC_T, Nn.cont1, Nn.fldO_gen, Nn.fldP_some, Nn.sfJ_lc, Nn.putFD_nil, Nn.putFD_cons, Nn.kd_str, Nn.in_lc, Nn.inO_strs, Nn.in_tupS, Nn.in_tufS, Nn.in_flS, Nn.ap_lc, Nn.pop_lc, Nn.popO_snoc, Nn.rev_lc, Nn.revO_lst, Nn.rem_lc, Nn.ex_lc, Nn.ins_lc, Nn.list_tup, Nn.list_tuf, Nn.list_fl, Nn.list_sc, Nn.list_lc, Nn.lsO_lst, Nn.eq_non, Nn.eq_strI, List.map_cons, List.map_nil, List.length_cons, List.length_nil, List.replicate_succ, List.replicate_zero, List.set_cons_zero, List.set_cons_succ, List.getElem?_cons_zero, List.getElem?_cons_succ, List.cons_append, List.nil_append, Nat.reduceAdd, Nat.reduceSub, Nat.zero_add, if_true, if_false, ↓reduceIte, reduceCtorEq, Bool.false_eq_true, Nn.sat_ok, Nn.of_inj, Nn.in_sign, Int.reduceLE, Int.reduceLT, Int.reduceGT, Int.reduceGE, Int.reduceEq, Int.reduceNe, Nn.cast_0, Nn.cast_1, Nn.cast_2, Nn.cast_3, Nn.cast_4, Nn.cast_5, Nn.cast_6, Nn.cast_7, Nn.cast_8, Nn.cast_9, Nn.cast_10, Nn.cast_11, Nn.cast_12, Nn.cast_13, Nn.cast_14, Nn.cast_15, Nn.cast_16, Nn.cast_17, Nn.cast_18, Nn.cast_19, Nn.cast_20, Nn.cast_21, Nn.cast_22, Nn.cast_23, Nn.cast_24, Nn.cast_25, Nn.cast_26, Nn.cast_27, Nn.cast_28, Nn.cast_29, Nn.cast_30, Nn.cast_31, Nn.cast_32, Nn.cast_33, Nn.cast_34, Nn.cast_35, Nn.cast_36, Nn.cast_37, Nn.cast_38, Nn.cast_39, Nn.cast_40, Int.reduceAdd, Int.reduceSub, not_true_eq_false, not_false_eq_true, String.reduceEq, String.reduceNe, eq_self, decide_true, decide_false, Nn.ng, Nn.nd_dec, Nn.pow_18, Nn.pow_20, List.length_map, Bool.not_true, Bool.not_false])
local macro_rules | `(tactic| wtm_at "evo") => `(tactic| simp -implicitDefEqProofs (disch := first | assumption | omega | (refine Nn.okR_small ?_; omega) | (simp only [List.length_cons, List.length_nil, List.length_map, List.length_append]; omega) | (simp only [vl_lows, od_lows, Vl.low, Od.low, Nn.lows_nil, Nn.lows_cons, Nn.low_non, Nn.low_bl, Nn.low_int, Nn.low_str, Nn.low_ty, Nn.low_tup, Nn.low_tuf, Nn.low_fl, Nn.low_sc, Nn.low_fd, Nn.low_fo, Nn.lows_str, Nn.lows_int, Nn.lows_app, Nn.lowO_strs, Nn.lowO_ints, Nn.lowO_l, Nn.lowO_d, Nn.lowO_i, Bool.and_true, Bool.and_self, Bool.true_and, List.all_cons, List.all_nil, List.map_cons, List.map_nil]; done) | decide) only [in_vl, eq_vl, ty_vl, isO_vlS, isO_vlI, isO_vlB, c_isValue, c_lisValue, c_place, Nn.mul_int, Nn.mod_int, Nn.div_int, Nn.lstK_ap, Nn.rgLK_ap, Nn.blkE_ap, Nn.frz_low, Nn.frz_lt, Nn.frzO_low, Nn.lcC3_ap, Nn.apO_lst, Nn.len_str, Nn.sfO_ins1, Nn.exO_lst, Nn.tupK_ap, Nn.rg1K_ap, Nn.okR_small, Nn.seq_ap, Nn.next_ap, Nn.brk_ap, Nn.cnt_ap, Nn.var_ap, Nn.varK_ok, Nn.c_ap, Nn.m2_ap, Nn.m2K_ap, Nn.m2J_ap, Nn.m1_ap, Nn.mB_ap, Nn.mBK_ap, Nn.and_ap, Nn.or_ap, Nn.not_ap, Nn.andK_T, Nn.andK_F, Nn.orK_T, Nn.orK_F, Nn.notK_ap, Nn.andV_ap, Nn.orV_ap, Nn.notV_ap, Nn.ifE_ap, Nn.andVK_T, Nn.andVK_F, Nn.orVK_T, Nn.orVK_F, Nn.notVK_ap, Nn.ifEK_T, Nn.ifEK_F, Nn.nil_ap, Nn.cons_ap, Nn.consK_ap, Nn.consJ_ap, Nn.star_ap, Nn.starJ_ap, Nn.starK_tup, Nn.starK_tuf, Nn.starK_fl, Nn.starK_lc, Nn.starO_lst, Nn.lcL_nil, Nn.loopP_nil, List.append_nil,  Nn.tup_ap, Nn.lst_ap, Nn.newL_T, Nn.newL_F, Nn.newD_T, Nn.newD_F, Nn.dnew_ap, Nn.cb_ap, Nn.call_ap, Nn.callD_ap, Nn.callDD, Nn.dyn_nil, Nn.dyn_F, Nn.dyn_loc, Nn.dyn_fd, Nn.dyn_fl, Nn.dyn_tup, Nn.dyn_non, Nn.disp_ap, Nn.prs_nil, Nn.prs_cons, Nn.prA_ap, Nn.prB_ap, Nn.prC_str, Nn.prC_int, Nn.dispK_1, Nn.tr_ap, Nn.trK_bl, Nn.asg_ap, Nn.asgK_ap, Nn.asgJ_ok, Nn.gnm_ap, Nn.gkl_ap, Nn.ret_ap, Nn.retK_ap, Nn.retN_ap, Nn.drop_ap, Nn.dropK_ap, Nn.if_ap, Nn.ifK_T, Nn.ifK_F, Nn.kl_ap, Nn.klK_ap, Nn.wipe_nil, Nn.wipe_cons, Nn.put_mk, Nn.start_mk, Nn.for_ap, Nn.forK_ap, Nn.itP_l, Nn.it_ap, Nn.itK_tup, Nn.itK_tuf, Nn.itK_fl, Nn.itK_sc, Nn.itK_fd, Nn.itK_lc, Nn.revA_ap, Nn.revAK_tup, Nn.revAK_tuf, Nn.revAK_fl, List.reverse_cons, List.reverse_nil, Nn.itO_lst, Nn.itL_l, Nn.loopP_consG, Nn.lpC_ok, Nn.turn_nx, Nn.turn_ct, Nn.turn_rt, Nn.turn_bk, Nn.lcL_consG, Nn.lcC1_ap, Nn.lcC2_T, Nn.lcC2_F, Nn.gtp_tup, Nn.gtK_ok, Nn.gcn_ap, Nn.gcJ_ap, Nn.gnl_ap, Nn.en_nil, Nn.en_cons, Nn.sl_tup, Nn.sl_fl, Nn.cut_d1, Nn.cut_d2, Nn.cut_t1, Nn.cut_t2, List.take_succ_cons, List.take_zero, List.drop_succ_cons, List.drop_zero, List.take_nil, List.drop_nil, Nn.itK_str, Nn.range1_ap, Nn.enum_ap, Nn.enK_tup, Nn.enK_tuf, Nn.enK_fl, Nn.lc_ap, Nn.lcK_ap, Nn.newLK_ap, Nn.yes_ap, Nn.blk_ap, Nn.blkK_nx, Nn.blkK_ct, Nn.blkK_bk, Nn.blkK_rt, Nn.blkO_some, Nn.cons2_some, Nn.frzE_nil, Nn.frzE_none, Nn.frzE_cons, Nn.frzS_nil, Nn.frzS_cons, Nn.app2_some, Option.map_some, List.take_succ_cons, Nn.bind_ok, Nn.bindS_ok, Nn.bindN_nx, Nn.bindN_rt, Nn.bindN_ct, Nn.bindN_bk, Nn.bind_bind, Nn.bind_bindS, Nn.bindS_bindN, Nn.bindN_bindN, Nn.bbK_ap, Nn.bsK_ap, Nn.snK_ap, Nn.nnK_ap, Nn.aug_ap, Nn.augK_ap, Nn.augI_ap, Nn.augJ_ap, Nn.bl_ap, Nn.blK_ap, Nn.blO_ap, Nn.blJ_ap, Nn.index_ap, Nn.idxK_tuf, Nn.idxK_fl, Nn.join_ap, Nn.joinK_ap, Nn.fld_ap, Nn.sfld_ap, Nn.sfK_ap, Nn.mkF_ap, Nn.part_ap, Nn.partK_ap, Nn.noPart_ap, Nn.sl_ap, Nn.slA_ap, Nn.slB_ap, Nn.slC_ap, Nn.at0, Nn.at1, Nn.at2, Nn.at3, Nn.at4, Nn.at5, Nn.at6, Nn.at7, Nn.at8, Nn.at9, Nn.oD_some, Nn.ix_tup, Nn.ix_tuf, Nn.ix_fl, Nn.ix_sc, Nn.ix_lc, Nn.ixO_lst, Nn.ixO_dic, Nn.ixO_dicI, Nn.gsb_ap, Nn.okB_ok, Nn.gsA_ap, Nn.gsC_ap, Nn.gsE_ap, Nn.set_lc, Nn.setO_lst, Nn.setJ_some, Nn.ixN_L0, Nn.ixN_L1, Nn.ixN_L2, Nn.ixN_L3, Nn.ixN_L4, Nn.ixN_L5, Nn.add_int, Nn.sub_int, Nn.neg_int, Nn.lt_int, Nn.le_int, Nn.gt_int, Nn.ge_int, Nn.eq_int, Nn.eq_str, Nn.eq_bl, Nn.is_non, Nn.is_tup, Nn.is_str, Nn.is_int, Nn.is_bl, Nn.int_int, Nn.int_bl, Nn.abs_int, Nn.len_tup, Nn.len_tuf, Nn.len_fl, Nn.len_sc, Nn.len_lc, Nn.lenQ_lst, Nn.lenQ_dic, Nn.tuple_fl, Nn.tuple_lc, Nn.tupO_lst, Nn.sl_lc, Nn.slO_lst, Nn.min2_int, Nn.lstRg_ap, Nn.tupleF_fl, Nn.isi_ap, Nn.ty_non, Nn.ty_bl, Nn.ty_int, Nn.ty_str, Nn.ty_tup, Nn.ty_tuf, Nn.ty_fl, Nn.ty_sc, Nn.ty_fd, Nn.ty_lc, Nn.tyO_lst, Nn.tyO_dic, Nn.isO_NoneType_bool, Nn.isO_NoneType_int, Nn.isO_NoneType_str, Nn.isO_NoneType_tuple, Nn.isO_NoneType_list, Nn.isO_NoneType_dict, Nn.isO_bool_bool, Nn.isO_bool_int, Nn.isO_bool_str, Nn.isO_bool_tuple, Nn.isO_bool_list, Nn.isO_bool_dict, Nn.isO_int_bool, Nn.isO_int_int, Nn.isO_int_str, Nn.isO_int_tuple, Nn.isO_int_list, Nn.isO_int_dict, Nn.isO_str_bool, Nn.isO_str_int, Nn.isO_str_str, Nn.isO_str_tuple, Nn.isO_str_list, Nn.isO_str_dict, Nn.isO_tuple_bool, Nn.isO_tuple_int, Nn.isO_tuple_str, Nn.isO_tuple_tuple, Nn.isO_tuple_list, Nn.isO_tuple_dict, Nn.isO_list_bool, Nn.isO_list_int, Nn.isO_list_str, Nn.isO_list_tuple, Nn.isO_list_list, Nn.isO_list_dict, Nn.isO_dict_bool, Nn.isO_dict_int, Nn.isO_dict_str, Nn.isO_dict_tuple, Nn.isO_dict_list, Nn.isO_dict_dict, Nn.chain_ap, Nn.chA_ap, Nn.chB_ap, Nn.chC_T, Nn.chC_F, Nn.chD_ap, Nn.trK_gen, Nn.trO_some, Nn.tru_tup, Nn.tru_fl, Nn.tru_non, Nn.tru_bl, Nn.tru_int, Nn.emp_nil, Nn.emp_cons, Nn.emp_map, Nn.all_nil, Nn.sum_nil, Nn.ix_fdM, Nn.in_fdM, Nn.lookD_cons, Nn.fldK_foG, Nn.fldC_T, Nn.cont1, Nn.fldO_gen, Nn.fldP_some, Nn.sfJ_lc, Nn.putFD_nil, Nn.putFD_cons, Nn.kd_str, Nn.in_lc, Nn.inO_strs, Nn.in_tupS, Nn.in_tufS, Nn.in_flS, Nn.ap_lc, Nn.pop_lc, Nn.popO_snoc, Nn.rev_lc, Nn.revO_lst, Nn.rem_lc, Nn.ex_lc, Nn.ins_lc, Nn.list_tup, Nn.list_tuf, Nn.list_fl, Nn.list_sc, Nn.list_lc, Nn.lsO_lst, Nn.eq_non, Nn.eq_strI, List.map_cons, List.map_nil, List.length_cons, List.length_nil, List.replicate_succ, List.replicate_zero, List.set_cons_zero, List.set_cons_succ, List.getElem?_cons_zero, List.getElem?_cons_succ, List.cons_append, List.nil_append, Nat.reduceAdd, Nat.reduceSub, Nat.zero_add, if_true, if_false, ↓reduceIte, reduceCtorEq, Bool.false_eq_true, Nn.sat_ok, Nn.of_inj, Nn.in_sign, Int.reduceLE, Int.reduceLT, Int.reduceGT, Int.reduceGE, Int.reduceEq, Int.reduceNe, Nn.cast_0, Nn.cast_1, Nn.cast_2, Nn.cast_3, Nn.cast_4, Nn.cast_5, Nn.cast_6, Nn.cast_7, Nn.cast_8, Nn.cast_9, Nn.cast_10, Nn.cast_11, Nn.cast_12, Nn.cast_13, Nn.cast_14, Nn.cast_15, Nn.cast_16, Nn.cast_17, Nn.cast_18, Nn.cast_19, Nn.cast_20, Nn.cast_21, Nn.cast_22, Nn.cast_23, Nn.cast_24, Nn.cast_25, Nn.cast_26, Nn.cast_27, Nn.cast_28, Nn.cast_29, Nn.cast_30, Nn.cast_31, Nn.cast_32, Nn.cast_33, Nn.cast_34, Nn.cast_35, Nn.cast_36, Nn.cast_37, Nn.cast_38, Nn.cast_39, Nn.cast_40, Int.reduceAdd, Int.reduceSub, not_true_eq_false, not_false_eq_true, String.reduceEq, String.reduceNe, eq_self, decide_true, decide_false, Nn.ng, Nn.nd_dec, Nn.pow_18, Nn.pow_20, List.length_map, Bool.not_true, Bool.not_false])
local macro_rules | `(tactic| wtm_at "br") => `(tactic| first | refine go_ifDN ?_ ?_ | refine go_ifD ?_ ?_ | refine go_bindS (sat_andD ?_ ?_) | refine go_bindS (sat_orD ?_ ?_) | refine go_bindS (sat_andVD ?_ ?_) | refine go_bindS (sat_orVD ?_ ?_) | refine go_bindS (sat_ifD ?_ ?_) | refine sat_bind (sat_andD ?_ ?_) | refine sat_bind (sat_orD ?_ ?_) | refine sat_bind (sat_andVD ?_ ?_) | refine sat_bind (sat_orVD ?_ ?_) | refine sat_bind (sat_ifD ?_ ?_) | refine go_ifN ?_ ?_ | refine go_if ?_ ?_ | refine go_bindS (sat_andB ?_ ?_) | refine go_bindS (sat_orB ?_ ?_) | refine go_bindS (sat_andVB ?_ ?_) | refine go_bindS (sat_orVB ?_ ?_) | refine go_bindS (sat_ifB ?_ ?_) | refine go_bindS (sat_chDec ?_ ?_) | refine sat_bind (sat_chDec ?_ ?_) | refine sat_chDec ?_ ?_ | refine sat_andD ?_ ?_ | refine sat_orD ?_ ?_ | refine sat_andVD ?_ ?_ | refine sat_orVD ?_ ?_ | refine sat_ifD ?_ ?_ | refine sat_andB ?_ ?_ | refine sat_orB ?_ ?_ | refine sat_andVB ?_ ?_ | refine sat_orVB ?_ ?_ | refine sat_ifB ?_ ?_ | fail)
local macro_rules | `(tactic| wtm_at "dr0") => `(tactic| ((first | refine go_bindS (draw_call (by rfl) (by assumption) (by omega) (by omega) (by omega) ?_) | refine sat_bind (draw_call (by rfl) (by assumption) (by omega) (by omega) (by omega) ?_) | refine draw_call (by rfl) (by assumption) (by omega) (by omega) (by omega) ?_ | fail); intro _ _ _ _ _ _ _; simp only [List.set_cons_zero, List.set_cons_succ]; try wtm_at "evo"))
local macro_rules | `(tactic| wtm_at "wd") => `(tactic| ((with_reducible first | refine word_bindS ?_ ?_ ?_ | refine word_bind ?_ ?_ ?_ | refine word_sat ?_ ?_ ?_ | fail); (focus omega); (focus omega); intro _ _; try wtm_at "evo"))
local macro_rules | `(tactic| wtm_at "dr") => `(tactic| first | wtm_at "dr0" | wtm_at "wd" | fail)
local macro_rules | `(tactic| wtm_at "brs") => `(tactic| (wtm_at "br" <;> (intro _; try wtm_at "evo")))
local macro_rules | `(tactic| wtm_at "all") => `(tactic| ((try wtm_at "evo"); repeat' (first | wtm_at "dr" | wtm_at "brs")))
local macro_rules | `(tactic| wtm_at "drs") => `(tactic| ((try wtm_at "evo"); repeat' wtm_at "dr"))
local macro_rules | `(tactic| wtm_at "low") => `(tactic| first | rfl | (simp only [vl_lows, od_lows, Vl.low, Od.low, Nn.lows_nil, Nn.lows_cons, Nn.low_non, Nn.low_bl, Nn.low_int, Nn.low_str, Nn.low_ty, Nn.low_tup, Nn.low_tuf, Nn.low_fl, Nn.low_sc, Nn.low_fd, Nn.low_fo, Nn.lows_str, Nn.lows_int, Nn.lows_app, Nn.lowO_strs, Nn.lowO_ints, Nn.lowO_l, Nn.lowO_d, Nn.lowO_i, Bool.and_true, Bool.and_self, Bool.true_and, List.all_cons, List.all_nil, List.map_cons, List.map_nil, poolO_low, List.take_succ_cons, List.take_zero]; done) | fail)

inductive Hd where
  | w (s : Str) | n | one
def Hd.d : Hd → D
  | .w s => .str s
  | .n => .non
  | .one => .int 1
theorem Hd.low (x : Hd) : Nn.low x.d = true := by cases x <;> rfl
/-- an edit, or what stands in its place -/
inductive Ed where
  | tup (h : Hd) (r : List Od) | lst (h : Hd) (r : List Od) | non | drop
def Ed.d : Ed → D
  | .tup h r => .tup (h.d :: oD' r)
  | .lst h r => .fl (h.d :: oD' r)
  | .non => .non
  | .drop => .str "drop"
def Ed.short : Ed → Prop
  | .tup _ r => r.length ≤ 3
  | _ => True
theorem Ed.low (e : Ed) : Nn.low e.d = true := by
  cases e with
  | tup h r => simp only [Ed.d, Nn.low_tup, Nn.lows_cons, h.low, od_lows, Bool.and_self]
  | lst h r => simp only [Ed.d, Nn.low_fl, Nn.lows_cons, h.low, od_lows, Bool.and_self]
  | non => rfl
  | drop => rfl
def cutV (l : List Vl) (j : Nat) : List Vl := l.take j ++ l.drop (j + 1)
def toO (l : List Vl) (x : Vl) : Od → Option (List Vl)
  | .n => some (l ++ [x])
  | .v t => match place l t with
    | some j => some (l.take j ++ [x] ++ l.drop j)
    | none => none
  | _ => none
def stepO (l : List Vl) (w : Str) (x : Vl) (r : List Od) : Option (List Vl) :=
  if w = "drop" then match r, place l x with
    | [], some j => some (cutV l j)
    | _, _ => none
  else if w = "put" then match r, place l x with
    | [t], none => toO l x t
    | _, _ => none
  else if w = "move" then match r, place l x with
    | [t], some j => toO (cutV l j) x t
    | _, _ => none
  else none
def doneO (l : List Vl) : Ed → Option (List Vl)
  | .tup (.w w) (.v x :: r) => stepO l w x r
  | _ => none
def tgB (l : List Vl) (x : Vl) : Od → Bool
  | .n => true
  | .v t => decide (t ∈ l) && decide (t ≠ x)
  | _ => false
def edB (l : List Vl) : Ed → Bool
  | .tup (.w w) [.v x] => decide (w = "drop") && decide (x ∈ l)
  | .tup (.w w) [.v x, t] => !decide (w = "drop") && tgB l x t && (decide (w = "put") && !decide (x ∈ l) || decide (w = "move") && decide (x ∈ l))
  | _ => false
theorem isTarget_t {l : List Vl} {x : Vl} {o : Od} : mIsTarget [.fl (vD l), x.d, o.d] [] = .ok (.bl (tgB l x o)) [] := by
  refine eq_of_sat (def_sat ?_)
  unfold mbIsTarget
  have iv : ∀ st : S, callF [false] mIsValue [o.d] st = .ok (.bl o.isV) st := fun _ => c_isValue
  rcases o with t | _ | _ | _ | _ | _ <;> simp only [Od.d, Od.isV] at iv ⊢
  case v =>
    have e1 : ∀ st : S, fIsN false t.d .non st = .ok (.bl false) st := fun st => by cases t <;> rfl
    wtm_at "evo"
    simp only [e1]
    wtm_at "evo"
    simp only [iv]
    wtm_at "evo"
    by_cases h1 : t ∈ l
    · simp only [h1, decide_true]
      wtm_at "evo"
      refine go_end0 rfl ⟨?_, rfl⟩
      simp [tgB, h1, ng]
    · simp only [h1, decide_false]
      wtm_at "evo"
      refine go_end0 rfl ⟨?_, rfl⟩
      simp [tgB, h1]
  all_goals
    wtm_at "evo"
    try simp only [iv]
    try wtm_at "evo"
    exact go_end0 rfl ⟨rfl, rfl⟩
theorem c_isTarget {st : S} {l : List Vl} {x : Vl} {o : Od} : callF [false, false, false] mIsTarget [.fl (vD l), x.d, o.d] st = .ok (.bl (tgB l x o)) st := call_eq rfl (by simp only [List.all_cons, Nn.low_fl, vl_lows, x.low, o.low]; rfl) isTarget_t rfl

end Ke
namespace Ke
open PySem PySem.Spec PyProof.Rows L2 Lb Nn
theorem iv_o {st : S} {o : Od} : callF [false] mIsValue [o.d] st = .ok (.bl o.isV) st := c_isValue
theorem iv_v {st : S} {x : Vl} : callF [false] mIsValue [x.d] st = .ok (.bl true) st := c_isValue (o := .v x)
theorem liv_o {st : S} {o : Od} : callF [false] mLIsValue [o.d] st = .ok (.bl o.isV) st := c_lisValue
theorem liv_v {st : S} {x : Vl} : callF [false] mLIsValue [x.d] st = .ok (.bl true) st := c_lisValue (o := .v x)
theorem ed_tup {h : Hd} {r : List Od} : (Ed.tup h r).d = .tup (h.d :: oD' r) := rfl
theorem od_v {x : Vl} : (Od.v x).d = x.d := rfl
theorem od_t : Od.t.d = .bl true := rfl
theorem od_n : Od.n.d = .non := rfl
theorem od_t1 : Od.t1.d = .tup [.int 1] := rfl
theorem od_l1 : Od.l1.d = .fl [.int 1] := rfl
theorem od_ab : Od.ab.d = .tup [.str "a", .str "b"] := rfl
theorem in_wd {st : S} {w : Str} : fInA true (.str w) (.tup [.str "drop", .str "put", .str "move"]) st = .ok (.bl (!(decide (w = "drop") || decide (w = "put") || decide (w = "move")))) st := by
  have h : fInA true (.str w) (.tup ((["drop", "put", "move"] : List Str).map D.str)) st = _ := in_tupS
  refine h.trans ?_
  congr 2
  simp [ng, Bool.or_assoc]
theorem isV_no {a : Od} (h : a.isV = false) : ∀ x, a ≠ .v x := fun x e => by
  rw [e] at h
  cases h
theorem isV_yes {a : Od} (h : a.isV = true) : ∃ x, a = .v x := by
  cases a with
  | v x => exact ⟨x, rfl⟩
  | _ => cases h

end Ke
namespace Ke
open PySem PySem.Spec PyProof.Rows L2 Lb Nn
local macro_rules | `(tactic| wtm_at "ev") => `(tactic| simp only [Nn.seq_ap, Nn.next_ap, Nn.brk_ap, Nn.cnt_ap, Nn.var_ap, Nn.varK_ok, Nn.c_ap, Nn.m2_ap, Nn.m2K_ap, Nn.m2J_ap, Nn.m1_ap, Nn.mB_ap, Nn.mBK_ap, Nn.and_ap, Nn.or_ap, Nn.not_ap, Nn.andK_T, Nn.andK_F, Nn.orK_T, Nn.orK_F, Nn.notK_ap, Nn.andV_ap, Nn.orV_ap, Nn.notV_ap, Nn.ifE_ap, Nn.andVK_T, Nn.andVK_F, Nn.orVK_T, Nn.orVK_F, Nn.notVK_ap, Nn.ifEK_T, Nn.ifEK_F, Nn.nil_ap, Nn.cons_ap, Nn.consK_ap, Nn.consJ_ap, Nn.star_ap, Nn.starJ_ap, Nn.starK_tup, Nn.starK_tuf, Nn.starK_fl, Nn.starK_lc, Nn.starO_lst, Nn.lcL_nil, Nn.loopP_nil, List.append_nil,  Nn.tup_ap, Nn.lst_ap, Nn.newL_T, Nn.newL_F, Nn.newD_T, Nn.newD_F, Nn.dnew_ap, Nn.cb_ap, Nn.call_ap, Nn.callD_ap, Nn.callDD, Nn.dyn_nil, Nn.dyn_F, Nn.dyn_loc, Nn.dyn_fd, Nn.dyn_fl, Nn.dyn_tup, Nn.dyn_non, Nn.disp_ap, Nn.prs_nil, Nn.prs_cons, Nn.prA_ap, Nn.prB_ap, Nn.prC_str, Nn.prC_int, Nn.dispK_1, Nn.tr_ap, Nn.trK_bl, Nn.asg_ap, Nn.asgK_ap, Nn.asgJ_ok, Nn.gnm_ap, Nn.gkl_ap, Nn.ret_ap, Nn.retK_ap, Nn.retN_ap, Nn.drop_ap, Nn.dropK_ap, Nn.if_ap, Nn.ifK_T, Nn.ifK_F, Nn.kl_ap, Nn.klK_ap, Nn.wipe_nil, Nn.wipe_cons, Nn.put_mk, Nn.start_mk, Nn.for_ap, Nn.forK_ap, Nn.itP_l, Nn.it_ap, Nn.itK_tup, Nn.itK_tuf, Nn.itK_fl, Nn.itK_sc, Nn.itK_fd, Nn.itK_lc, Nn.revA_ap, Nn.revAK_tup, Nn.revAK_tuf, Nn.revAK_fl, List.reverse_cons, List.reverse_nil, Nn.itO_lst, Nn.itL_l, Nn.loopP_consG, Nn.lpC_ok, Nn.turn_nx, Nn.turn_ct, Nn.turn_rt, Nn.turn_bk, Nn.lcL_consG, Nn.lcC1_ap, Nn.lcC2_T, Nn.lcC2_F, Nn.gtp_tup, Nn.gtK_ok, Nn.gcn_ap, Nn.gcJ_ap, Nn.gnl_ap, Nn.en_nil, Nn.en_cons, Nn.sl_tup, Nn.sl_fl, Nn.cut_d1, Nn.cut_d2, Nn.cut_t1, Nn.cut_t2, List.take_succ_cons, List.take_zero, List.drop_succ_cons, List.drop_zero, List.take_nil, List.drop_nil, Nn.itK_str, Nn.range1_ap, Nn.enum_ap, Nn.enK_tup, Nn.enK_tuf, Nn.enK_fl, Nn.lc_ap, Nn.lcK_ap, Nn.newLK_ap, Nn.yes_ap, Nn.blk_ap, Nn.blkK_nx, Nn.blkK_ct, Nn.blkK_bk, Nn.blkK_rt, Nn.blkO_some, Nn.cons2_some, Nn.frzE_nil, Nn.frzE_none, Nn.frzE_cons, Nn.frzS_nil, Nn.frzS_cons, Nn.app2_some, Option.map_some, List.take_succ_cons, Nn.bind_ok, Nn.bindS_ok, Nn.bindN_nx, Nn.bindN_rt, Nn.bindN_ct, Nn.bindN_bk, Nn.bind_bind, Nn.bind_bindS, Nn.bindS_bindN, Nn.bindN_bindN, Nn.bbK_ap, Nn.bsK_ap, Nn.snK_ap, Nn.nnK_ap, Nn.aug_ap, Nn.augK_ap, Nn.augI_ap, Nn.augJ_ap, Nn.bl_ap, Nn.blK_ap, Nn.blO_ap, Nn.blJ_ap, Nn.index_ap, Nn.idxK_tuf, Nn.idxK_fl, Nn.join_ap, Nn.joinK_ap, Nn.fld_ap, Nn.sfld_ap, Nn.sfK_ap, Nn.mkF_ap, Nn.part_ap, Nn.partK_ap, Nn.noPart_ap, Nn.sl_ap, Nn.slA_ap, Nn.slB_ap, Nn.slC_ap, Nn.at0, Nn.at1, Nn.at2, Nn.at3, Nn.at4, Nn.at5, Nn.at6, Nn.at7, Nn.at8, Nn.at9, Nn.oD_some, Nn.ix_tup, Nn.ix_tuf, Nn.ix_fl, Nn.ix_sc, Nn.ix_lc, Nn.ixO_lst, Nn.ixO_dic, Nn.ixO_dicI, Nn.gsb_ap, Nn.okB_ok, Nn.gsA_ap, Nn.gsC_ap, Nn.gsE_ap, Nn.set_lc, Nn.setO_lst, Nn.setJ_some, Nn.ixN_L0, Nn.ixN_L1, Nn.ixN_L2, Nn.ixN_L3, Nn.ixN_L4, Nn.ixN_L5, Nn.add_int, Nn.sub_int, Nn.neg_int, Nn.lt_int, Nn.le_int, Nn.gt_int, Nn.ge_int, Nn.eq_int, Nn.eq_str, Nn.eq_bl, Nn.is_non, Nn.is_tup, Nn.is_str, Nn.is_int, Nn.is_bl, Nn.int_int, Nn.int_bl, Nn.abs_int, Nn.len_tup, Nn.len_tuf, Nn.len_fl, Nn.len_sc, Nn.len_lc, Nn.lenQ_lst, Nn.lenQ_dic, Nn.tuple_fl, Nn.tuple_lc, Nn.tupO_lst, Nn.sl_lc, Nn.slO_lst, Nn.min2_int, Nn.lstRg_ap, Nn.tupleF_fl, Nn.isi_ap, Nn.ty_non, Nn.ty_bl, Nn.ty_int, Nn.ty_str, Nn.ty_tup, Nn.ty_tuf, Nn.ty_fl, Nn.ty_sc, Nn.ty_fd, Nn.ty_lc, Nn.tyO_lst, Nn.tyO_dic, Nn.isO_NoneType_bool, Nn.isO_NoneType_int, Nn.isO_NoneType_str, Nn.isO_NoneType_tuple, Nn.isO_NoneType_list, Nn.isO_NoneType_dict, Nn.isO_bool_bool, Nn.isO_bool_int, Nn.isO_bool_str, Nn.isO_bool_tuple, Nn.isO_bool_list, Nn.isO_bool_dict, Nn.isO_int_bool, Nn.isO_int_int, Nn.isO_int_str, Nn.isO_int_tuple, Nn.isO_int_list, Nn.isO_int_dict, Nn.isO_str_bool, Nn.isO_str_int, Nn.isO_str_str, Nn.isO_str_tuple, Nn.isO_str_list, Nn.isO_str_dict, Nn.isO_tuple_bool, Nn.isO_tuple_int, Nn.isO_tuple_str, Nn.isO_tuple_tuple, Nn.isO_tuple_list, Nn.isO_tuple_dict, Nn.isO_list_bool, Nn.isO_list_int, Nn.isO_list_str, Nn.isO_list_tuple, Nn.isO_list_list, Nn.isO_list_dict, Nn.isO_dict_bool, Nn.isO_dict_int, Nn.isO_dict_str, Nn.isO_dict_tuple, Nn.isO_dict_list, Nn.isO_dict_dict, Nn.chain_ap, Nn.chA_ap, Nn.chB_ap, Nn.chC_T, Nn.chC_F, Nn.chD_ap, Nn.trK_gen, Nn.trO_some, Nn.tru_tup, Nn.tru_fl, Nn.tru_non, Nn.tru_bl, Nn.tru_int, Nn.emp_nil, Nn.emp_cons, Nn.emp_map, Nn.all_nil, Nn.sum_nil, Nn.ix_fdM, Nn.in_fdM, Nn.lookD_cons, Nn.fldK_foG, Nn.fldC_T, Nn.cont1, Nn.fldO_gen, Nn.fldP_some, Nn.sfJ_lc, Nn.putFD_nil, Nn.putFD_cons, Nn.kd_str, Nn.in_lc, Nn.inO_strs, Nn.in_tupS, Nn.in_tufS, Nn.in_flS, Nn.ap_lc, Nn.pop_lc, Nn.popO_snoc, Nn.rev_lc, Nn.revO_lst, Nn.rem_lc, Nn.ex_lc, Nn.ins_lc, Nn.list_tup, Nn.list_tuf, Nn.list_fl, Nn.list_sc, Nn.list_lc, Nn.lsO_lst, Nn.eq_non, Nn.eq_strI, List.map_cons, List.map_nil, List.length_cons, List.length_nil, List.replicate_succ, List.replicate_zero, List.set_cons_zero, List.set_cons_succ, List.getElem?_cons_zero, List.getElem?_cons_succ, List.cons_append, List.nil_append, Nat.reduceAdd, Nat.reduceSub, Nat.zero_add, if_true, if_false, ↓reduceIte, reduceCtorEq, Bool.false_eq_true, Nn.sat_ok, Nn.of_inj, Nn.in_sign, Int.reduceLE, Int.reduceLT, Int.reduceGT, Int.reduceGE, Int.reduceEq, Int.reduceNe, Nn.cast_0, Nn.cast_1, Nn.cast_2, Nn.cast_3, Nn.cast_4, Nn.cast_5, Nn.cast_6, Nn.cast_7, Nn.cast_8, Nn.cast_9, Nn.cast_10, Nn.cast_11, Nn.cast_12, Nn.cast_13, Nn.cast_14, Nn.cast_15, Nn.cast_16, Nn.cast_17, Nn.cast_18, Nn.cast_19, Nn.cast_20, Nn.cast_21, Nn.cast_22, Nn.cast_23, Nn.cast_24, Nn.cast_25, Nn.cast_26, Nn.cast_27, Nn.cast_28, Nn.cast_29, Nn.cast_30, Nn.cast_31, Nn.cast_32, Nn.cast_33, Nn.cast_34, Nn.cast_35, Nn.cast_36, Nn.cast_37, Nn.cast_38, Nn.cast_39, Nn.cast_40, Int.reduceAdd, Int.reduceSub, not_true_eq_false, not_false_eq_true, String.reduceEq, String.reduceNe, eq_self, decide_true, decide_false, Nn.ng, Nn.nd_dec, Nn.pow_18, Nn.pow_20, List.length_map, Bool.not_true, Bool.not_false])
local macro_rules | `(tactic| wtm_at "evo") => `(tactic| simp -implicitDefEqProofs (disch := first | assumption | omega | (refine Nn.okR_small ?_; omega) | (simp only [List.length_cons, List.length_nil, List.length_map, List.length_append]; omega) | (simp only [vl_lows, od_lows, Vl.low, Od.low, Hd.low, Nn.lows_nil, Nn.lows_cons, Nn.low_non, Nn.low_bl, Nn.low_int, Nn.low_str, Nn.low_ty, Nn.low_tup, Nn.low_tuf, Nn.low_fl, Nn.low_sc, Nn.low_fd, Nn.low_fo, Nn.lows_str, Nn.lows_int, Nn.lows_app, Nn.lowO_strs, Nn.lowO_ints, Nn.lowO_l, Nn.lowO_d, Nn.lowO_i, Bool.and_true, Bool.and_self, Bool.true_and, List.all_cons, List.all_nil, List.map_cons, List.map_nil]; done) | decide) only [in_vl, eq_vl, ty_vl, isO_vlS, isO_vlI, isO_vlB, c_place, c_isTarget, iv_o, iv_v, liv_o, liv_v, Nn.mul_int, Nn.mod_int, Nn.div_int, Nn.lstK_ap, Nn.rgLK_ap, Nn.blkE_ap, Nn.frz_low, Nn.frz_lt, Nn.frzO_low, Nn.lcC3_ap, Nn.apO_lst, Nn.len_str, Nn.sfO_ins1, Nn.exO_lst, Nn.tupK_ap, Nn.rg1K_ap, Nn.okR_small, Nn.seq_ap, Nn.next_ap, Nn.brk_ap, Nn.cnt_ap, Nn.var_ap, Nn.varK_ok, Nn.c_ap, Nn.m2_ap, Nn.m2K_ap, Nn.m2J_ap, Nn.m1_ap, Nn.mB_ap, Nn.mBK_ap, Nn.and_ap, Nn.or_ap, Nn.not_ap, Nn.andK_T, Nn.andK_F, Nn.orK_T, Nn.orK_F, Nn.notK_ap, Nn.andV_ap, Nn.orV_ap, Nn.notV_ap, Nn.ifE_ap, Nn.andVK_T, Nn.andVK_F, Nn.orVK_T, Nn.orVK_F, Nn.notVK_ap, Nn.ifEK_T, Nn.ifEK_F, Nn.nil_ap, Nn.cons_ap, Nn.consK_ap, Nn.consJ_ap, Nn.star_ap, Nn.starJ_ap, Nn.starK_tup, Nn.starK_tuf, Nn.starK_fl, Nn.starK_lc, Nn.starO_lst, Nn.lcL_nil, Nn.loopP_nil, List.append_nil,  Nn.tup_ap, Nn.lst_ap, Nn.newL_T, Nn.newL_F, Nn.newD_T, Nn.newD_F, Nn.dnew_ap, Nn.cb_ap, Nn.call_ap, Nn.callD_ap, Nn.callDD, Nn.dyn_nil, Nn.dyn_F, Nn.dyn_loc, Nn.dyn_fd, Nn.dyn_fl, Nn.dyn_tup, Nn.dyn_non, Nn.disp_ap, Nn.prs_nil, Nn.prs_cons, Nn.prA_ap, Nn.prB_ap, Nn.prC_str, Nn.prC_int, Nn.dispK_1, Nn.tr_ap, Nn.trK_bl, Nn.asg_ap, Nn.asgK_ap, Nn.asgJ_ok, Nn.gnm_ap, Nn.gkl_ap, Nn.ret_ap, Nn.retK_ap, Nn.retN_ap, Nn.drop_ap, Nn.dropK_ap, Nn.if_ap, Nn.ifK_T, Nn.ifK_F, Nn.kl_ap, Nn.klK_ap, Nn.wipe_nil, Nn.wipe_cons, Nn.put_mk, Nn.start_mk, Nn.for_ap, Nn.forK_ap, Nn.itP_l, Nn.it_ap, Nn.itK_tup, Nn.itK_tuf, Nn.itK_fl, Nn.itK_sc, Nn.itK_fd, Nn.itK_lc, Nn.revA_ap, Nn.revAK_tup, Nn.revAK_tuf, Nn.revAK_fl, List.reverse_cons, List.reverse_nil, Nn.itO_lst, Nn.itL_l, Nn.loopP_consG, Nn.lpC_ok, Nn.turn_nx, Nn.turn_ct, Nn.turn_rt, Nn.turn_bk, Nn.lcL_consG, Nn.lcC1_ap, Nn.lcC2_T, Nn.lcC2_F, Nn.gtp_tup, Nn.gtK_ok, Nn.gcn_ap, Nn.gcJ_ap, Nn.gnl_ap, Nn.en_nil, Nn.en_cons, Nn.sl_tup, Nn.sl_fl, Nn.cut_d1, Nn.cut_d2, Nn.cut_t1, Nn.cut_t2, List.take_succ_cons, List.take_zero, List.drop_succ_cons, List.drop_zero, List.take_nil, List.drop_nil, Nn.itK_str, Nn.range1_ap, Nn.enum_ap, Nn.enK_tup, Nn.enK_tuf, Nn.enK_fl, Nn.lc_ap, Nn.lcK_ap, Nn.newLK_ap, Nn.yes_ap, Nn.blk_ap, Nn.blkK_nx, Nn.blkK_ct, Nn.blkK_bk, Nn.blkK_rt, Nn.blkO_some, Nn.cons2_some, Nn.frzE_nil, Nn.frzE_none, Nn.frzE_cons, Nn.frzS_nil, Nn.frzS_cons, Nn.app2_some, Option.map_some, List.take_succ_cons, Nn.bind_ok, Nn.bindS_ok, Nn.bindN_nx, Nn.bindN_rt, Nn.bindN_ct, Nn.bindN_bk, Nn.bind_bind, Nn.bind_bindS, Nn.bindS_bindN, Nn.bindN_bindN, Nn.bbK_ap, Nn.bsK_ap, Nn.snK_ap, Nn.nnK_ap, Nn.aug_ap, Nn.augK_ap, Nn.augI_ap, Nn.augJ_ap, Nn.bl_ap, Nn.blK_ap, Nn.blO_ap, Nn.blJ_ap, Nn.index_ap, Nn.idxK_tuf, Nn.idxK_fl, Nn.join_ap, Nn.joinK_ap, Nn.fld_ap, Nn.sfld_ap, Nn.sfK_ap, Nn.mkF_ap, Nn.part_ap, Nn.partK_ap, Nn.noPart_ap, Nn.sl_ap, Nn.slA_ap, Nn.slB_ap, Nn.slC_ap, Nn.at0, Nn.at1, Nn.at2, Nn.at3, Nn.at4, Nn.at5, Nn.at6, Nn.at7, Nn.at8, Nn.at9, Nn.oD_some, Nn.ix_tup, Nn.ix_tuf, Nn.ix_fl, Nn.ix_sc, Nn.ix_lc, Nn.ixO_lst, Nn.ixO_dic, Nn.ixO_dicI, Nn.gsb_ap, Nn.okB_ok, Nn.gsA_ap, Nn.gsC_ap, Nn.gsE_ap, Nn.set_lc, Nn.setO_lst, Nn.setJ_some, Nn.ixN_L0, Nn.ixN_L1, Nn.ixN_L2, Nn.ixN_L3, Nn.ixN_L4, Nn.ixN_L5, Nn.add_int, Nn.sub_int, Nn.neg_int, Nn.lt_int, Nn.le_int, Nn.gt_int, Nn.ge_int, Nn.eq_int, Nn.eq_str, Nn.eq_bl, Nn.is_non, Nn.is_tup, Nn.is_str, Nn.is_int, Nn.is_bl, Nn.int_int, Nn.int_bl, Nn.abs_int, Nn.len_tup, Nn.len_tuf, Nn.len_fl, Nn.len_sc, Nn.len_lc, Nn.lenQ_lst, Nn.lenQ_dic, Nn.tuple_fl, Nn.tuple_lc, Nn.tupO_lst, Nn.sl_lc, Nn.slO_lst, Nn.min2_int, Nn.lstRg_ap, Nn.tupleF_fl, Nn.isi_ap, Nn.ty_non, Nn.ty_bl, Nn.ty_int, Nn.ty_str, Nn.ty_tup, Nn.ty_tuf, Nn.ty_fl, Nn.ty_sc, Nn.ty_fd, Nn.ty_lc, Nn.tyO_lst, Nn.tyO_dic, Nn.isO_NoneType_bool, Nn.isO_NoneType_int, Nn.isO_NoneType_str, Nn.isO_NoneType_tuple, Nn.isO_NoneType_list, Nn.isO_NoneType_dict, Nn.isO_bool_bool, Nn.isO_bool_int, Nn.isO_bool_str, Nn.isO_bool_tuple, Nn.isO_bool_list, Nn.isO_bool_dict, Nn.isO_int_bool, Nn.isO_int_int, Nn.isO_int_str, Nn.isO_int_tuple, Nn.isO_int_list, Nn.isO_int_dict, Nn.isO_str_bool, Nn.isO_str_int, Nn.isO_str_str, Nn.isO_str_tuple, Nn.isO_str_list, Nn.isO_str_dict, Nn.isO_tuple_bool, Nn.isO_tuple_int, Nn.isO_tuple_str, Nn.isO_tuple_tuple, Nn.isO_tuple_list, Nn.isO_tuple_dict, Nn.isO_list_bool, Nn.isO_list_int, Nn.isO_list_str, Nn.isO_list_tuple, Nn.isO_list_list, Nn.isO_list_dict, Nn.isO_dict_bool, Nn.isO_dict_int, Nn.isO_dict_str, Nn.isO_dict_tuple, Nn.isO_dict_list, Nn.isO_dict_dict, Nn.chain_ap, Nn.chA_ap, Nn.chB_ap, Nn.chC_T, Nn.chC_F, Nn.chD_ap, Nn.trK_gen, Nn.trO_some, Nn.tru_tup, Nn.tru_fl, Nn.tru_non, Nn.tru_bl, Nn.tru_int, Nn.emp_nil, Nn.emp_cons, Nn.emp_map, Nn.all_nil, Nn.sum_nil, Nn.ix_fdM, Nn.in_fdM, Nn.lookD_cons, Nn.fldK_foG, Nn.fldC_T, Nn.cont1, Nn.fldO_gen, Nn.fldP_some, Nn.sfJ_lc, Nn.putFD_nil, Nn.putFD_cons, Nn.kd_str, Nn.in_lc, Nn.inO_strs, Nn.in_tupS, Nn.in_tufS, Nn.in_flS, Nn.ap_lc, Nn.pop_lc, Nn.popO_snoc, Nn.rev_lc, Nn.revO_lst, Nn.rem_lc, Nn.ex_lc, Nn.ins_lc, Nn.list_tup, Nn.list_tuf, Nn.list_fl, Nn.list_sc, Nn.list_lc, Nn.lsO_lst, Nn.eq_non, Nn.eq_strI, List.map_cons, List.map_nil, List.length_cons, List.length_nil, List.replicate_succ, List.replicate_zero, List.set_cons_zero, List.set_cons_succ, List.getElem?_cons_zero, List.getElem?_cons_succ, List.cons_append, List.nil_append, Nat.reduceAdd, Nat.reduceSub, Nat.zero_add, if_true, if_false, ↓reduceIte, reduceCtorEq, Bool.false_eq_true, Nn.sat_ok, Nn.of_inj, Nn.in_sign, Int.reduceLE, Int.reduceLT, Int.reduceGT, Int.reduceGE, Int.reduceEq, Int.reduceNe, Nn.cast_0, Nn.cast_1, Nn.cast_2, Nn.cast_3, Nn.cast_4, Nn.cast_5, Nn.cast_6, Nn.cast_7, Nn.cast_8, Nn.cast_9, Nn.cast_10, Nn.cast_11, Nn.cast_12, Nn.cast_13, Nn.cast_14, Nn.cast_15, Nn.cast_16, Nn.cast_17, Nn.cast_18, Nn.cast_19, Nn.cast_20, Nn.cast_21, Nn.cast_22, Nn.cast_23, Nn.cast_24, Nn.cast_25, Nn.cast_26, Nn.cast_27, Nn.cast_28, Nn.cast_29, Nn.cast_30, Nn.cast_31, Nn.cast_32, Nn.cast_33, Nn.cast_34, Nn.cast_35, Nn.cast_36, Nn.cast_37, Nn.cast_38, Nn.cast_39, Nn.cast_40, Int.reduceAdd, Int.reduceSub, not_true_eq_false, not_false_eq_true, String.reduceEq, String.reduceNe, eq_self, decide_true, decide_false, Nn.ng, Nn.nd_dec, Nn.pow_18, Nn.pow_20, List.length_map, Bool.not_true, Bool.not_false])
local macro_rules | `(tactic| wtm_at "br") => `(tactic| first | refine go_ifDN ?_ ?_ | refine go_ifD ?_ ?_ | refine go_bindS (sat_andD ?_ ?_) | refine go_bindS (sat_orD ?_ ?_) | refine go_bindS (sat_andVD ?_ ?_) | refine go_bindS (sat_orVD ?_ ?_) | refine go_bindS (sat_ifD ?_ ?_) | refine sat_bind (sat_andD ?_ ?_) | refine sat_bind (sat_orD ?_ ?_) | refine sat_bind (sat_andVD ?_ ?_) | refine sat_bind (sat_orVD ?_ ?_) | refine sat_bind (sat_ifD ?_ ?_) | refine go_ifN ?_ ?_ | refine go_if ?_ ?_ | refine go_bindS (sat_andB ?_ ?_) | refine go_bindS (sat_orB ?_ ?_) | refine go_bindS (sat_andVB ?_ ?_) | refine go_bindS (sat_orVB ?_ ?_) | refine go_bindS (sat_ifB ?_ ?_) | refine go_bindS (sat_chDec ?_ ?_) | refine sat_bind (sat_chDec ?_ ?_) | refine sat_chDec ?_ ?_ | refine sat_andD ?_ ?_ | refine sat_orD ?_ ?_ | refine sat_andVD ?_ ?_ | refine sat_orVD ?_ ?_ | refine sat_ifD ?_ ?_ | refine sat_andB ?_ ?_ | refine sat_orB ?_ ?_ | refine sat_andVB ?_ ?_ | refine sat_orVB ?_ ?_ | refine sat_ifB ?_ ?_ | fail)
local macro_rules | `(tactic| wtm_at "dr0") => `(tactic| ((first | refine go_bindS (draw_call (by rfl) (by assumption) (by omega) (by omega) (by omega) ?_) | refine sat_bind (draw_call (by rfl) (by assumption) (by omega) (by omega) (by omega) ?_) | refine draw_call (by rfl) (by assumption) (by omega) (by omega) (by omega) ?_ | fail); intro _ _ _ _ _ _ _; simp only [List.set_cons_zero, List.set_cons_succ]; try wtm_at "evo"))
local macro_rules | `(tactic| wtm_at "wd") => `(tactic| ((with_reducible first | refine word_bindS ?_ ?_ ?_ | refine word_bind ?_ ?_ ?_ | refine word_sat ?_ ?_ ?_ | fail); (focus omega); (focus omega); intro _ _; try wtm_at "evo"))
local macro_rules | `(tactic| wtm_at "dr") => `(tactic| first | wtm_at "dr0" | wtm_at "wd" | fail)
local macro_rules | `(tactic| wtm_at "brs") => `(tactic| (wtm_at "br" <;> (intro _; try wtm_at "evo")))
local macro_rules | `(tactic| wtm_at "all") => `(tactic| ((try wtm_at "evo"); repeat' (first | wtm_at "dr" | wtm_at "brs")))
local macro_rules | `(tactic| wtm_at "drs") => `(tactic| ((try wtm_at "evo"); repeat' wtm_at "dr"))
local macro_rules | `(tactic| wtm_at "low") => `(tactic| first | rfl | (simp only [vl_lows, od_lows, Vl.low, Od.low, Hd.low, Nn.lows_nil, Nn.lows_cons, Nn.low_non, Nn.low_bl, Nn.low_int, Nn.low_str, Nn.low_ty, Nn.low_tup, Nn.low_tuf, Nn.low_fl, Nn.low_sc, Nn.low_fd, Nn.low_fo, Nn.lows_str, Nn.lows_int, Nn.lows_app, Nn.lowO_strs, Nn.lowO_ints, Nn.lowO_l, Nn.lowO_d, Nn.lowO_i, Bool.and_true, Bool.and_self, Bool.true_and, List.all_cons, List.all_nil, List.map_cons, List.map_nil, poolO_low, List.take_succ_cons, List.take_zero]; done) | fail)

theorem isEdit_t {l : List Vl} {e : Ed} (hs : e.short) : mIsEdit [.fl (vD l), e.d] [] = .ok (.bl (edB l e)) [] := by
  refine eq_of_sat (def_sat ?_)
  unfold mbIsEdit
  rcases e with ⟨h, r⟩ | ⟨h, r⟩ | _ | _
  case tup =>
    simp only [Ed.d]
    match r, hs with
    | [], _ =>
      simp only [List.map_nil, oD']
      wtm_at "all"
      all_goals exact go_end0 rfl ⟨by cases h <;> rfl, rfl⟩
    | [a], _ =>
      simp only [List.map_nil, List.map_cons, oD']
      rcases h with w | _ | _ <;> simp only [Hd.d] <;> rcases a with x | _ | _ | _ | _ | _ <;> simp only [od_v, od_t, od_n, od_t1, od_l1, od_ab]
      all_goals
        wtm_at "all"
        all_goals
          refine go_end0 rfl ⟨?_, rfl⟩
          simp_all [edB, Od.isV, ng]
    | [a, b], _ =>
      simp only [List.map_nil, List.map_cons, oD']
      rcases h with w | _ | _ <;> simp only [Hd.d] <;> rcases a with x | _ | _ | _ | _ | _ <;> simp only [od_v, od_t, od_n, od_t1, od_l1, od_ab]
      all_goals
        wtm_at "all"
        all_goals
          first
            | (refine go_end0 rfl ⟨?_, rfl⟩; simp_all [edB, Od.isV, ng]; done)
            | fail
    | [a, b, c], _ =>
      simp only [List.map_nil, List.map_cons, oD']
      rcases h with w | _ | _ <;> simp only [Hd.d] <;> rcases a with x | _ | _ | _ | _ | _ <;> simp only [od_v, od_t, od_n, od_t1, od_l1, od_ab]
      all_goals
        wtm_at "all"
        all_goals
          refine go_end0 rfl ⟨?_, rfl⟩
          simp_all [edB, Od.isV, ng]
  case lst =>
    simp only [Ed.d]
    wtm_at "evo"
    refine go_end0 (d := .bl false) rfl ⟨rfl, rfl⟩
  all_goals
    simp only [Ed.d]
    wtm_at "all"
    all_goals exact go_end0 rfl ⟨rfl, rfl⟩
theorem c_isEdit {st : S} {l : List Vl} {e : Ed} (hs : e.short) : callF [false, false] mIsEdit [.fl (vD l), e.d] st = .ok (.bl (edB l e)) st := call_eq rfl (by simp only [List.all_cons, Nn.low_fl, vl_lows, e.low]; rfl) (isEdit_t hs) rfl

end Ke
namespace Ke
open PySem PySem.Spec PyProof.Rows L2 Lb Nn
local macro_rules | `(tactic| wtm_at "ev") => `(tactic| simp only [Nn.seq_ap, Nn.next_ap, Nn.brk_ap, Nn.cnt_ap, Nn.var_ap, Nn.varK_ok, Nn.c_ap, Nn.m2_ap, Nn.m2K_ap, Nn.m2J_ap, Nn.m1_ap, Nn.mB_ap, Nn.mBK_ap, Nn.and_ap, Nn.or_ap, Nn.not_ap, Nn.andK_T, Nn.andK_F, Nn.orK_T, Nn.orK_F, Nn.notK_ap, Nn.andV_ap, Nn.orV_ap, Nn.notV_ap, Nn.ifE_ap, Nn.andVK_T, Nn.andVK_F, Nn.orVK_T, Nn.orVK_F, Nn.notVK_ap, Nn.ifEK_T, Nn.ifEK_F, Nn.nil_ap, Nn.cons_ap, Nn.consK_ap, Nn.consJ_ap, Nn.star_ap, Nn.starJ_ap, Nn.starK_tup, Nn.starK_tuf, Nn.starK_fl, Nn.starK_lc, Nn.starO_lst, Nn.lcL_nil, Nn.loopP_nil, List.append_nil,  Nn.tup_ap, Nn.lst_ap, Nn.newL_T, Nn.newL_F, Nn.newD_T, Nn.newD_F, Nn.dnew_ap, Nn.cb_ap, Nn.call_ap, Nn.callD_ap, Nn.callDD, Nn.dyn_nil, Nn.dyn_F, Nn.dyn_loc, Nn.dyn_fd, Nn.dyn_fl, Nn.dyn_tup, Nn.dyn_non, Nn.disp_ap, Nn.prs_nil, Nn.prs_cons, Nn.prA_ap, Nn.prB_ap, Nn.prC_str, Nn.prC_int, Nn.dispK_1, Nn.tr_ap, Nn.trK_bl, Nn.asg_ap, Nn.asgK_ap, Nn.asgJ_ok, Nn.gnm_ap, Nn.gkl_ap, Nn.ret_ap, Nn.retK_ap, Nn.retN_ap, Nn.drop_ap, Nn.dropK_ap, Nn.if_ap, Nn.ifK_T, Nn.ifK_F, Nn.kl_ap, Nn.klK_ap, Nn.wipe_nil, Nn.wipe_cons, Nn.put_mk, Nn.start_mk, Nn.for_ap, Nn.forK_ap, Nn.itP_l, Nn.it_ap, Nn.itK_tup, Nn.itK_tuf, Nn.itK_fl, Nn.itK_sc, Nn.itK_fd, Nn.itK_lc, Nn.revA_ap, Nn.revAK_tup, Nn.revAK_tuf, Nn.revAK_fl, List.reverse_cons, List.reverse_nil, Nn.itO_lst, Nn.itL_l, Nn.loopP_consG, Nn.lpC_ok, Nn.turn_nx, Nn.turn_ct, Nn.turn_rt, Nn.turn_bk, Nn.lcL_consG, Nn.lcC1_ap, Nn.lcC2_T, Nn.lcC2_F, Nn.gtp_tup, Nn.gtK_ok, Nn.gcn_ap, Nn.gcJ_ap, Nn.gnl_ap, Nn.en_nil, Nn.en_cons, Nn.sl_tup, Nn.sl_fl, Nn.cut_d1, Nn.cut_d2, Nn.cut_t1, Nn.cut_t2, List.take_succ_cons, List.take_zero, List.drop_succ_cons, List.drop_zero, List.take_nil, List.drop_nil, Nn.itK_str, Nn.range1_ap, Nn.enum_ap, Nn.enK_tup, Nn.enK_tuf, Nn.enK_fl, Nn.lc_ap, Nn.lcK_ap, Nn.newLK_ap, Nn.yes_ap, Nn.blk_ap, Nn.blkK_nx, Nn.blkK_ct, Nn.blkK_bk, Nn.blkK_rt, Nn.blkO_some, Nn.cons2_some, Nn.frzE_nil, Nn.frzE_none, Nn.frzE_cons, Nn.frzS_nil, Nn.frzS_cons, Nn.app2_some, Option.map_some, List.take_succ_cons, Nn.bind_ok, Nn.bindS_ok, Nn.bindN_nx, Nn.bindN_rt, Nn.bindN_ct, Nn.bindN_bk, Nn.bind_bind, Nn.bind_bindS, Nn.bindS_bindN, Nn.bindN_bindN, Nn.bbK_ap, Nn.bsK_ap, Nn.snK_ap, Nn.nnK_ap, Nn.aug_ap, Nn.augK_ap, Nn.augI_ap, Nn.augJ_ap, Nn.bl_ap, Nn.blK_ap, Nn.blO_ap, Nn.blJ_ap, Nn.index_ap, Nn.idxK_tuf, Nn.idxK_fl, Nn.join_ap, Nn.joinK_ap, Nn.fld_ap, Nn.sfld_ap, Nn.sfK_ap, Nn.mkF_ap, Nn.part_ap, Nn.partK_ap, Nn.noPart_ap, Nn.sl_ap, Nn.slA_ap, Nn.slB_ap, Nn.slC_ap, Nn.at0, Nn.at1, Nn.at2, Nn.at3, Nn.at4, Nn.at5, Nn.at6, Nn.at7, Nn.at8, Nn.at9, Nn.oD_some, Nn.ix_tup, Nn.ix_tuf, Nn.ix_fl, Nn.ix_sc, Nn.ix_lc, Nn.ixO_lst, Nn.ixO_dic, Nn.ixO_dicI, Nn.gsb_ap, Nn.okB_ok, Nn.gsA_ap, Nn.gsC_ap, Nn.gsE_ap, Nn.set_lc, Nn.setO_lst, Nn.setJ_some, Nn.ixN_L0, Nn.ixN_L1, Nn.ixN_L2, Nn.ixN_L3, Nn.ixN_L4, Nn.ixN_L5, Nn.add_int, Nn.sub_int, Nn.neg_int, Nn.lt_int, Nn.le_int, Nn.gt_int, Nn.ge_int, Nn.eq_int, Nn.eq_str, Nn.eq_bl, Nn.is_non, Nn.is_tup, Nn.is_str, Nn.is_int, Nn.is_bl, Nn.int_int, Nn.int_bl, Nn.abs_int, Nn.len_tup, Nn.len_tuf, Nn.len_fl, Nn.len_sc, Nn.len_lc, Nn.lenQ_lst, Nn.lenQ_dic, Nn.tuple_fl, Nn.tuple_lc, Nn.tupO_lst, Nn.sl_lc, Nn.slO_lst, Nn.min2_int, Nn.lstRg_ap, Nn.tupleF_fl, Nn.isi_ap, Nn.ty_non, Nn.ty_bl, Nn.ty_int, Nn.ty_str, Nn.ty_tup, Nn.ty_tuf, Nn.ty_fl, Nn.ty_sc, Nn.ty_fd, Nn.ty_lc, Nn.tyO_lst, Nn.tyO_dic, Nn.isO_NoneType_bool, Nn.isO_NoneType_int, Nn.isO_NoneType_str, Nn.isO_NoneType_tuple, Nn.isO_NoneType_list, Nn.isO_NoneType_dict, Nn.isO_bool_bool, Nn.isO_bool_int, Nn.isO_bool_str, Nn.isO_bool_tuple, Nn.isO_bool_list, Nn.isO_bool_dict, Nn.isO_int_bool, Nn.isO_int_int, Nn.isO_int_str, Nn.isO_int_tuple, Nn.isO_int_list, Nn.isO_int_dict, Nn.isO_str_bool, Nn.isO_str_int, Nn.isO_str_str, Nn.isO_str_tuple, Nn.isO_str_list, Nn.isO_str_dict, Nn.isO_tuple_bool, Nn.isO_tuple_int, Nn.isO_tuple_str, Nn.isO_tuple_tuple, Nn.isO_tuple_list, Nn.isO_tuple_dict, Nn.isO_list_bool, Nn.isO_list_int, Nn.isO_list_str, Nn.isO_list_tuple, Nn.isO_list_list, Nn.isO_list_dict, Nn.isO_dict_bool, Nn.isO_dict_int, Nn.isO_dict_str, Nn.isO_dict_tuple, Nn.isO_dict_list, Nn.isO_dict_dict, Nn.chain_ap, Nn.chA_ap, Nn.chB_ap, Nn.chC_T, Nn.chC_F, Nn.chD_ap, Nn.trK_gen, Nn.trO_some, Nn.tru_tup, Nn.tru_fl, Nn.tru_non, Nn.tru_bl, Nn.tru_int, Nn.emp_nil, Nn.emp_cons, Nn.emp_map, Nn.all_nil, Nn.sum_nil, Nn.ix_fdM, Nn.in_fdM, Nn.lookD_cons, Nn.fldK_foG, Nn.fldC_T, Nn.cont1, Nn.fldO_gen, Nn.fldP_some, Nn.sfJ_lc, Nn.putFD_nil, Nn.putFD_cons, Nn.kd_str, Nn.in_lc, Nn.inO_strs, Nn.in_tupS, Nn.in_tufS, Nn.in_flS, Nn.ap_lc, Nn.pop_lc, Nn.popO_snoc, Nn.rev_lc, Nn.revO_lst, Nn.rem_lc, Nn.ex_lc, Nn.ins_lc, Nn.list_tup, Nn.list_tuf, Nn.list_fl, Nn.list_sc, Nn.list_lc, Nn.lsO_lst, Nn.eq_non, Nn.eq_strI, List.map_cons, List.map_nil, List.length_cons, List.length_nil, List.replicate_succ, List.replicate_zero, List.set_cons_zero, List.set_cons_succ, List.getElem?_cons_zero, List.getElem?_cons_succ, List.cons_append, List.nil_append, Nat.reduceAdd, Nat.reduceSub, Nat.zero_add, if_true, if_false, ↓reduceIte, reduceCtorEq, Bool.false_eq_true, Nn.sat_ok, Nn.of_inj, Nn.in_sign, Int.reduceLE, Int.reduceLT, Int.reduceGT, Int.reduceGE, Int.reduceEq, Int.reduceNe, Nn.cast_0, Nn.cast_1, Nn.cast_2, Nn.cast_3, Nn.cast_4, Nn.cast_5, Nn.cast_6, Nn.cast_7, Nn.cast_8, Nn.cast_9, Nn.cast_10, Nn.cast_11, Nn.cast_12, Nn.cast_13, Nn.cast_14, Nn.cast_15, Nn.cast_16, Nn.cast_17, Nn.cast_18, Nn.cast_19, Nn.cast_20, Nn.cast_21, Nn.cast_22, Nn.cast_23, Nn.cast_24, Nn.cast_25, Nn.cast_26, Nn.cast_27, Nn.cast_28, Nn.cast_29, Nn.cast_30, Nn.cast_31, Nn.cast_32, Nn.cast_33, Nn.cast_34, Nn.cast_35, Nn.cast_36, Nn.cast_37, Nn.cast_38, Nn.cast_39, Nn.cast_40, Int.reduceAdd, Int.reduceSub, not_true_eq_false, not_false_eq_true, String.reduceEq, String.reduceNe, eq_self, decide_true, decide_false, Nn.ng, Nn.nd_dec, Nn.pow_18, Nn.pow_20, List.length_map, Bool.not_true, Bool.not_false])
local macro_rules | `(tactic| wtm_at "evo") => `(tactic| simp -implicitDefEqProofs (disch := first | assumption | omega | (refine Nn.okR_small ?_; omega) | (simp only [List.length_cons, List.length_nil, List.length_map, List.length_append]; omega) | (simp only [vl_lows, od_lows, Vl.low, Od.low, Hd.low, Nn.lows_nil, Nn.lows_cons, Nn.low_non, Nn.low_bl, Nn.low_int, Nn.low_str, Nn.low_ty, Nn.low_tup, Nn.low_tuf, Nn.low_fl, Nn.low_sc, Nn.low_fd, Nn.low_fo, Nn.lows_str, Nn.lows_int, Nn.lows_app, Nn.lowO_strs, Nn.lowO_ints, Nn.lowO_l, Nn.lowO_d, Nn.lowO_i, Bool.and_true, Bool.and_self, Bool.true_and, List.all_cons, List.all_nil, List.map_cons, List.map_nil]; done) | decide) only [in_vl, eq_vl, ty_vl, isO_vlS, isO_vlI, isO_vlB, liv_o, liv_v, in_wd, od_v, Bool.or_false, Bool.or_true, Bool.false_or, Bool.true_or, Nn.mul_int, Nn.mod_int, Nn.div_int, Nn.lstK_ap, Nn.rgLK_ap, Nn.blkE_ap, Nn.frz_low, Nn.frz_lt, Nn.frzO_low, Nn.lcC3_ap, Nn.apO_lst, Nn.len_str, Nn.sfO_ins1, Nn.exO_lst, Nn.tupK_ap, Nn.rg1K_ap, Nn.okR_small, Nn.seq_ap, Nn.next_ap, Nn.brk_ap, Nn.cnt_ap, Nn.var_ap, Nn.varK_ok, Nn.c_ap, Nn.m2_ap, Nn.m2K_ap, Nn.m2J_ap, Nn.m1_ap, Nn.mB_ap, Nn.mBK_ap, Nn.and_ap, Nn.or_ap, Nn.not_ap, Nn.andK_T, Nn.andK_F, Nn.orK_T, Nn.orK_F, Nn.notK_ap, Nn.andV_ap, Nn.orV_ap, Nn.notV_ap, Nn.ifE_ap, Nn.andVK_T, Nn.andVK_F, Nn.orVK_T, Nn.orVK_F, Nn.notVK_ap, Nn.ifEK_T, Nn.ifEK_F, Nn.nil_ap, Nn.cons_ap, Nn.consK_ap, Nn.consJ_ap, Nn.star_ap, Nn.starJ_ap, Nn.starK_tup, Nn.starK_tuf, Nn.starK_fl, Nn.starK_lc, Nn.starO_lst, Nn.lcL_nil, Nn.loopP_nil, List.append_nil,  Nn.tup_ap, Nn.lst_ap, Nn.newL_T, Nn.newL_F, Nn.newD_T, Nn.newD_F, Nn.dnew_ap, Nn.cb_ap, Nn.call_ap, Nn.callD_ap, Nn.callDD, Nn.dyn_nil, Nn.dyn_F, Nn.dyn_loc, Nn.dyn_fd, Nn.dyn_fl, Nn.dyn_tup, Nn.dyn_non, Nn.disp_ap, Nn.prs_nil, Nn.prs_cons, Nn.prA_ap, Nn.prB_ap, Nn.prC_str, Nn.prC_int, Nn.dispK_1, Nn.tr_ap, Nn.trK_bl, Nn.asg_ap, Nn.asgK_ap, Nn.asgJ_ok, Nn.gnm_ap, Nn.gkl_ap, Nn.ret_ap, Nn.retK_ap, Nn.retN_ap, Nn.drop_ap, Nn.dropK_ap, Nn.if_ap, Nn.ifK_T, Nn.ifK_F, Nn.kl_ap, Nn.klK_ap, Nn.wipe_nil, Nn.wipe_cons, Nn.put_mk, Nn.start_mk, Nn.for_ap, Nn.forK_ap, Nn.itP_l, Nn.it_ap, Nn.itK_tup, Nn.itK_tuf, Nn.itK_fl, Nn.itK_sc, Nn.itK_fd, Nn.itK_lc, Nn.revA_ap, Nn.revAK_tup, Nn.revAK_tuf, Nn.revAK_fl, List.reverse_cons, List.reverse_nil, Nn.itO_lst, Nn.itL_l, Nn.loopP_consG, Nn.lpC_ok, Nn.turn_nx, Nn.turn_ct, Nn.turn_rt, Nn.turn_bk, Nn.lcL_consG, Nn.lcC1_ap, Nn.lcC2_T, Nn.lcC2_F, Nn.gtp_tup, Nn.gtK_ok, Nn.gcn_ap, Nn.gcJ_ap, Nn.gnl_ap, Nn.en_nil, Nn.en_cons, Nn.sl_tup, Nn.sl_fl, Nn.cut_d1, Nn.cut_d2, Nn.cut_t1, Nn.cut_t2, List.take_succ_cons, List.take_zero, List.drop_succ_cons, List.drop_zero, List.take_nil, List.drop_nil, Nn.itK_str, Nn.range1_ap, Nn.enum_ap, Nn.enK_tup, Nn.enK_tuf, Nn.enK_fl, Nn.lc_ap, Nn.lcK_ap, Nn.newLK_ap, Nn.yes_ap, Nn.blk_ap, Nn.blkK_nx, Nn.blkK_ct, Nn.blkK_bk, Nn.blkK_rt, Nn.blkO_some, Nn.cons2_some, Nn.frzE_nil, Nn.frzE_none, Nn.frzE_cons, Nn.frzS_nil, Nn.frzS_cons, Nn.app2_some, Option.map_some, List.take_succ_cons, Nn.bind_ok, Nn.bindS_ok, Nn.bindN_nx, Nn.bindN_rt, Nn.bindN_ct, Nn.bindN_bk, Nn.bind_bind, Nn.bind_bindS, Nn.bindS_bindN, Nn.bindN_bindN, Nn.bbK_ap, Nn.bsK_ap, Nn.snK_ap, Nn.nnK_ap, Nn.aug_ap, Nn.augK_ap, Nn.augI_ap, Nn.augJ_ap, Nn.bl_ap, Nn.blK_ap, Nn.blO_ap, Nn.blJ_ap, Nn.index_ap, Nn.idxK_tuf, Nn.idxK_fl, Nn.join_ap, Nn.joinK_ap, Nn.fld_ap, Nn.sfld_ap, Nn.sfK_ap, Nn.mkF_ap, Nn.part_ap, Nn.partK_ap, Nn.noPart_ap, Nn.sl_ap, Nn.slA_ap, Nn.slB_ap, Nn.slC_ap, Nn.at0, Nn.at1, Nn.at2, Nn.at3, Nn.at4, Nn.at5, Nn.at6, Nn.at7, Nn.at8, Nn.at9, Nn.oD_some, Nn.ix_tup, Nn.ix_tuf, Nn.ix_fl, Nn.ix_sc, Nn.ix_lc, Nn.ixO_lst, Nn.ixO_dic, Nn.ixO_dicI, Nn.gsb_ap, Nn.okB_ok, Nn.gsA_ap, Nn.gsC_ap, Nn.gsE_ap, Nn.set_lc, Nn.setO_lst, Nn.setJ_some, Nn.ixN_L0, Nn.ixN_L1, Nn.ixN_L2, Nn.ixN_L3, Nn.ixN_L4, Nn.ixN_L5, Nn.add_int, Nn.sub_int, Nn.neg_int, Nn.lt_int, Nn.le_int, Nn.gt_int, Nn.ge_int, Nn.eq_int, Nn.eq_str, Nn.eq_bl, Nn.is_non, Nn.is_tup, Nn.is_str, Nn.is_int, Nn.is_bl, Nn.int_int, Nn.int_bl, Nn.abs_int, Nn.len_tup, Nn.len_tuf, Nn.len_fl, Nn.len_sc, Nn.len_lc, Nn.lenQ_lst, Nn.lenQ_dic, Nn.tuple_fl, Nn.tuple_lc, Nn.tupO_lst, Nn.sl_lc, Nn.slO_lst, Nn.min2_int, Nn.lstRg_ap, Nn.tupleF_fl, Nn.isi_ap, Nn.ty_non, Nn.ty_bl, Nn.ty_int, Nn.ty_str, Nn.ty_tup, Nn.ty_tuf, Nn.ty_fl, Nn.ty_sc, Nn.ty_fd, Nn.ty_lc, Nn.tyO_lst, Nn.tyO_dic, Nn.isO_NoneType_bool, Nn.isO_NoneType_int, Nn.isO_NoneType_str, Nn.isO_NoneType_tuple, Nn.isO_NoneType_list, Nn.isO_NoneType_dict, Nn.isO_bool_bool, Nn.isO_bool_int, Nn.isO_bool_str, Nn.isO_bool_tuple, Nn.isO_bool_list, Nn.isO_bool_dict, Nn.isO_int_bool, Nn.isO_int_int, Nn.isO_int_str, Nn.isO_int_tuple, Nn.isO_int_list, Nn.isO_int_dict, Nn.isO_str_bool, Nn.isO_str_int, Nn.isO_str_str, Nn.isO_str_tuple, Nn.isO_str_list, Nn.isO_str_dict, Nn.isO_tuple_bool, Nn.isO_tuple_int, Nn.isO_tuple_str, Nn.isO_tuple_tuple, Nn.isO_tuple_list, Nn.isO_tuple_dict, Nn.isO_list_bool, Nn.isO_list_int, Nn.isO_list_str, Nn.isO_list_tuple, Nn.isO_list_list, Nn.isO_list_dict, Nn.isO_dict_bool, Nn.isO_dict_int, Nn.isO_dict_str, Nn.isO_dict_tuple, Nn.isO_dict_list, Nn.isO_dict_dict, Nn.chain_ap, Nn.chA_ap, Nn.chB_ap, Nn.chC_T, Nn.chC_F, Nn.chD_ap, Nn.trK_gen, Nn.trO_some, Nn.tru_tup, Nn.tru_fl, Nn.tru_non, Nn.tru_bl, Nn.tru_int, Nn.emp_nil, Nn.emp_cons, Nn.emp_map, Nn.all_nil, Nn.sum_nil, Nn.ix_fdM, Nn.in_fdM, Nn.lookD_cons, Nn.fldK_foG, Nn.fldC_T, Nn.cont1, Nn.fldO_gen, Nn.fldP_some, Nn.sfJ_lc, Nn.putFD_nil, Nn.putFD_cons, Nn.kd_str, Nn.in_lc, Nn.inO_strs, Nn.in_tupS, Nn.in_tufS, Nn.in_flS, Nn.ap_lc, Nn.pop_lc, Nn.popO_snoc, Nn.rev_lc, Nn.revO_lst, Nn.rem_lc, Nn.ex_lc, Nn.ins_lc, Nn.list_tup, Nn.list_tuf, Nn.list_fl, Nn.list_sc, Nn.list_lc, Nn.lsO_lst, Nn.eq_non, Nn.eq_strI, List.map_cons, List.map_nil, List.length_cons, List.length_nil, List.replicate_succ, List.replicate_zero, List.set_cons_zero, List.set_cons_succ, List.getElem?_cons_zero, List.getElem?_cons_succ, List.cons_append, List.nil_append, Nat.reduceAdd, Nat.reduceSub, Nat.zero_add, if_true, if_false, ↓reduceIte, reduceCtorEq, Bool.false_eq_true, Nn.sat_ok, Nn.of_inj, Nn.in_sign, Int.reduceLE, Int.reduceLT, Int.reduceGT, Int.reduceGE, Int.reduceEq, Int.reduceNe, Nn.cast_0, Nn.cast_1, Nn.cast_2, Nn.cast_3, Nn.cast_4, Nn.cast_5, Nn.cast_6, Nn.cast_7, Nn.cast_8, Nn.cast_9, Nn.cast_10, Nn.cast_11, Nn.cast_12, Nn.cast_13, Nn.cast_14, Nn.cast_15, Nn.cast_16, Nn.cast_17, Nn.cast_18, Nn.cast_19, Nn.cast_20, Nn.cast_21, Nn.cast_22, Nn.cast_23, Nn.cast_24, Nn.cast_25, Nn.cast_26, Nn.cast_27, Nn.cast_28, Nn.cast_29, Nn.cast_30, Nn.cast_31, Nn.cast_32, Nn.cast_33, Nn.cast_34, Nn.cast_35, Nn.cast_36, Nn.cast_37, Nn.cast_38, Nn.cast_39, Nn.cast_40, Int.reduceAdd, Int.reduceSub, not_true_eq_false, not_false_eq_true, String.reduceEq, String.reduceNe, eq_self, decide_true, decide_false, Nn.ng, Nn.nd_dec, Nn.pow_18, Nn.pow_20, List.length_map, Bool.not_true, Bool.not_false])
local macro_rules | `(tactic| wtm_at "br") => `(tactic| first | refine go_ifDN ?_ ?_ | refine go_ifD ?_ ?_ | refine go_bindS (sat_andD ?_ ?_) | refine go_bindS (sat_orD ?_ ?_) | refine go_bindS (sat_andVD ?_ ?_) | refine go_bindS (sat_orVD ?_ ?_) | refine go_bindS (sat_ifD ?_ ?_) | refine sat_bind (sat_andD ?_ ?_) | refine sat_bind (sat_orD ?_ ?_) | refine sat_bind (sat_andVD ?_ ?_) | refine sat_bind (sat_orVD ?_ ?_) | refine sat_bind (sat_ifD ?_ ?_) | refine go_ifN ?_ ?_ | refine go_if ?_ ?_ | refine go_bindS (sat_andB ?_ ?_) | refine go_bindS (sat_orB ?_ ?_) | refine go_bindS (sat_andVB ?_ ?_) | refine go_bindS (sat_orVB ?_ ?_) | refine go_bindS (sat_ifB ?_ ?_) | refine go_bindS (sat_chDec ?_ ?_) | refine sat_bind (sat_chDec ?_ ?_) | refine sat_chDec ?_ ?_ | refine sat_andD ?_ ?_ | refine sat_orD ?_ ?_ | refine sat_andVD ?_ ?_ | refine sat_orVD ?_ ?_ | refine sat_ifD ?_ ?_ | refine sat_andB ?_ ?_ | refine sat_orB ?_ ?_ | refine sat_andVB ?_ ?_ | refine sat_orVB ?_ ?_ | refine sat_ifB ?_ ?_ | fail)
local macro_rules | `(tactic| wtm_at "dr0") => `(tactic| ((first | refine go_bindS (draw_call (by rfl) (by assumption) (by omega) (by omega) (by omega) ?_) | refine sat_bind (draw_call (by rfl) (by assumption) (by omega) (by omega) (by omega) ?_) | refine draw_call (by rfl) (by assumption) (by omega) (by omega) (by omega) ?_ | fail); intro _ _ _ _ _ _ _; simp only [List.set_cons_zero, List.set_cons_succ]; try wtm_at "evo"))
local macro_rules | `(tactic| wtm_at "wd") => `(tactic| ((with_reducible first | refine word_bindS ?_ ?_ ?_ | refine word_bind ?_ ?_ ?_ | refine word_sat ?_ ?_ ?_ | fail); (focus omega); (focus omega); intro _ _; try wtm_at "evo"))
local macro_rules | `(tactic| wtm_at "dr") => `(tactic| first | wtm_at "dr0" | wtm_at "wd" | fail)
local macro_rules | `(tactic| wtm_at "brs") => `(tactic| (wtm_at "br" <;> (intro _; try wtm_at "evo")))
local macro_rules | `(tactic| wtm_at "all") => `(tactic| ((try wtm_at "evo"); repeat' (first | wtm_at "dr" | wtm_at "brs")))
local macro_rules | `(tactic| wtm_at "drs") => `(tactic| ((try wtm_at "evo"); repeat' wtm_at "dr"))
local macro_rules | `(tactic| wtm_at "low") => `(tactic| first | rfl | (simp only [vl_lows, od_lows, Vl.low, Od.low, Hd.low, Nn.lows_nil, Nn.lows_cons, Nn.low_non, Nn.low_bl, Nn.low_int, Nn.low_str, Nn.low_ty, Nn.low_tup, Nn.low_tuf, Nn.low_fl, Nn.low_sc, Nn.low_fd, Nn.low_fo, Nn.lows_str, Nn.lows_int, Nn.lows_app, Nn.lowO_strs, Nn.lowO_ints, Nn.lowO_l, Nn.lowO_d, Nn.lowO_i, Bool.and_true, Bool.and_self, Bool.true_and, List.all_cons, List.all_nil, List.map_cons, List.map_nil, poolO_low, List.take_succ_cons, List.take_zero]; done) | fail)

def resD : Option (List Vl) → D
  | none => .non
  | some l => .fl (vD l)
theorem place_lt {l : List Vl} {x : Vl} {j : Nat} (h : place l x = some j) : j < l.length := (List.getElem?_eq_some_iff.mp (place_some h).1).1
theorem vl_lo {l : List Vl} {j : Nat} (h : j ≤ 100000) : Nn.cutD (vD l) none (some (j : Int)) = vD (l.take j) := by
  rw [vD, vD, cut_take (k := j) h, List.map_take]
theorem vl_hi {l : List Vl} {j : Nat} (h : j ≤ 100000) : Nn.cutD (vD l) (some (j : Int)) none = vD (l.drop j) := by
  rw [vD, vD, cut_drop (k := j) h, List.map_drop]
theorem vl_app {a b : List Vl} {st : S} (h : a.length + b.length ≤ 1000000) : fAdd false (.fl (vD a)) (.fl (vD b)) st = .ok (.fl (vD (a ++ b))) st := by
  rw [add_fl (by simpa using h), vD, vD, vD, List.map_append]
  rfl
theorem is_o {o : Od} {st : S} (h : o ≠ .n) : fIsN false o.d .non st = .ok (.bl false) st := by
  cases o with
  | n => exact absurd rfl h
  | v t => cases t <;> rfl
  | _ => rfl
theorem toO_no {l : List Vl} {x : Vl} {o : Od} (h : o ≠ .n) (hv : o.isV = false) : toO l x o = none := by
  cases o with
  | n => exact absurd rfl h
  | v t => cases hv
  | _ => rfl
theorem is_vl {t : Vl} {st : S} : fIsN false t.d .non st = .ok (.bl false) st := by cases t <;> rfl
def noD (l : List Vl) (h : Hd) : List Od → Bool
  | .v _ :: _ => false
  | _ => true
theorem done_no {l : List Vl} {h : Hd} : ∀ {r : List Od}, (∀ a r', r = a :: r' → a.isV = false) → doneO l (.tup h r) = none
  | [], _ => by cases h <;> rfl
  | a :: r, n => by
    have := n a r rfl
    cases a with
    | v x => cases this
    | _ => cases h <;> first | rfl | skip
theorem done_other {l : List Vl} {w : Str} (h : ¬ (w = "drop" ∨ w = "put" ∨ w = "move")) : ∀ {r : List Od}, doneO l (.tup (.w w) r) = none
  | [] => rfl
  | a :: r => by
    cases a with
    | v x =>
      simp only [not_or] at h
      show stepO l w x r = none
      unfold stepO
      simp only [h.1, h.2.1, h.2.2, if_false]
    | _ => rfl
theorem done_t {l : List Vl} {e : Ed} (hl : l.length ≤ 500) (hs : e.short) : mLDone [.fl (vD l), e.d] [] = .ok (resD (doneO l e)) [] := by
  refine eq_of_sat (def_sat ?_)
  unfold mbLDone
  have pl : ∀ (x : Vl) (st : S), callF [false, false] mLPlace [.fl (vD l), x.d] st = .ok (.int (placeI l x)) st := fun x st => c_place (by omega)
  rcases e with ⟨h, r⟩ | ⟨h, r⟩ | _ | _
  case tup =>
    simp only [Ed.d]
    rcases h with w | _ | _
    case n | one =>
      simp only [Hd.d]
      match r, hs with
      | [], _ | [a], _ | [a, b], _ | [a, b, c], _ =>
        simp only [List.map_nil, List.map_cons, oD']
        wtm_at "all"
        all_goals exact go_end0 rfl ⟨rfl, rfl⟩
    simp only [Hd.d]
    by_cases wd : w = "drop" ∨ w = "put" ∨ w = "move"
    case neg =>
      have e0 : (!(decide (w = "drop") || decide (w = "put") || decide (w = "move"))) = true := by
        simp only [not_or] at wd
        simp [wd.1, wd.2.1, wd.2.2]
      have no : ∀ {r : List Od}, D.non = resD (doneO l (.tup (.w w) r)) := fun {r} => (congrArg resD (done_other wd)).symm
      match r, hs with
      | [], _ | [a], _ | [a, b], _ | [a, b, c], _ =>
        simp only [List.map_nil, List.map_cons, oD']
        wtm_at "evo"
        try simp only [e0]
        try wtm_at "evo"
        exact go_end0 rfl ⟨no, rfl⟩
    match r, hs with
    | [], _ =>
      simp only [List.map_nil, oD']
      wtm_at "evo"
      exact go_end0 rfl ⟨rfl, rfl⟩
    | a :: r, hs =>
      have no : a.isV = false → D.non = resD (doneO l (.tup (.w w) (a :: r))) := fun hv => (congrArg resD (done_no (fun a' r' e => by cases e; exact hv))).symm
      cases hv : a.isV
      · have no' := no hv
        rcases wd with rfl | rfl | rfl
        all_goals
          match r, hs with
          | [], _ | [b], _ | [b, c], _ =>
            simp only [List.map_nil, List.map_cons, oD']
            wtm_at "evo"
            simp only [hv]
            wtm_at "evo"
            exact go_end0 rfl ⟨no', rfl⟩
      · obtain ⟨x, rfl⟩ := isV_yes hv
        rcases wd with rfl | rfl | rfl
        case inl =>
          match r, hs with
          | [b], _ | [b, c], _ =>
            simp only [List.map_nil, List.map_cons, oD']
            wtm_at "evo"
            exact go_end0 rfl ⟨rfl, rfl⟩
          | [], _ =>
            simp only [List.map_nil, List.map_cons, oD']
            wtm_at "evo"
            cases hp : place l x with
            | none =>
              have e1 : placeI l x = -1 := by unfold placeI; rw [hp]
              have e2 : doneO l (.tup (.w "drop") [.v x]) = none := by simp [doneO, stepO, hp, Nn.of_inj]
              rw [pl, e1]
              wtm_at "evo"
              exact go_end0 rfl ⟨by rw [e2]; rfl, rfl⟩
            | some j =>
              have e1 : placeI l x = (j : Nat) := by unfold placeI; rw [hp]
              have j0 : ¬ ((j : Int) < 0) := by omega
              have j1 : (0 : Int) ≤ j := by omega
              rw [pl, e1]
              wtm_at "evo"
              try simp only [j0, decide_false]
              try wtm_at "evo"
              try simp only [j1, decide_true]
              try wtm_at "evo"
              have jl := place_lt hp
              have lc : (Ke.cutV l j).length ≤ 500 := by unfold Ke.cutV; simp; omega
              rw [vl_lo (by omega), show ((j : Int) + 1) = ((j + 1 : Nat) : Int) by omega, vl_hi (by omega), vl_app (by simp; omega)]
              wtm_at "evo"
              exact go_end0 (by simp only [Nn.low_fl, vl_lows]) ⟨by simp [doneO, stepO, hp, resD, Nn.of_inj, Ke.cutV], rfl⟩
        case inr.inl =>
          match r, hs with
          | [], _ | [b, c], _ =>
            simp only [List.map_nil, List.map_cons, oD']
            wtm_at "evo"
            exact go_end0 rfl ⟨rfl, rfl⟩
          | [b], _ =>
            simp only [List.map_nil, List.map_cons, oD']
            wtm_at "evo"
            cases hp : place l x with
            | none =>
              have e1 : placeI l x = -1 := by unfold placeI; rw [hp]
              rw [pl, e1]
              wtm_at "evo"
              have eD : ∀ t : Od, doneO l (.tup (.w "put") [.v x, t]) = toO l x t := fun t => by simp [doneO, stepO, hp, Nn.of_inj]
              by_cases hbn : b = .n
              case pos =>
                subst hbn
                simp only [od_n]
                wtm_at "evo"
                rw [show [x.d] = vD [x] from rfl, vl_app (by simp; omega)]
                wtm_at "evo"
                exact go_end0 (by simp only [Nn.low_fl, vl_lows]) ⟨by rw [eD]; rfl, rfl⟩
              cases hvb : b.isV
              case false =>
                rw [is_o hbn]
                wtm_at "evo"
                simp only [hvb]
                wtm_at "evo"
                exact go_end0 rfl ⟨by rw [eD, toO_no hbn hvb]; rfl, rfl⟩
              obtain ⟨t, rfl⟩ := isV_yes hvb
              wtm_at "evo"
              simp only [is_vl]
              wtm_at "evo"
              rw [c_place (l := l) (by omega)]
              cases hq : place l t with
              | none =>
                have f1 : placeI l t = -1 := by unfold placeI; rw [hq]
                have f2 : toO l x (.v t) = none := by unfold toO; simp only [hq]
                rw [f1]
                wtm_at "evo"
                exact go_end0 rfl ⟨by rw [eD, f2]; rfl, rfl⟩
              | some k =>
                have f1 : placeI l t = (k : Nat) := by unfold placeI; rw [hq]
                have f2 : toO l x (.v t) = some (l.take k ++ [x] ++ l.drop k) := by unfold toO; simp only [hq]
                have k0 : ¬ ((k : Int) < 0) := by omega
                have kl := place_lt hq
                rw [f1]
                wtm_at "evo"
                try simp only [k0, decide_false]
                try wtm_at "evo"
                rw [vl_lo (by omega)]
                rw [show [x.d] = vD [x] from rfl, vl_app (by simp; omega)]
                wtm_at "evo"
                rw [vl_hi (by omega), vl_app (by simp; omega)]
                wtm_at "evo"
                exact go_end0 (by simp only [Nn.low_fl, vl_lows]) ⟨by rw [eD, f2]; rfl, rfl⟩
            | some j =>
              have e1 : placeI l x = (j : Nat) := by unfold placeI; rw [hp]
              have j0 : ¬ ((j : Int) < 0) := by omega
              have j1 : (0 : Int) ≤ j := by omega
              rw [pl, e1]
              wtm_at "evo"
              try simp only [j0, decide_false]
              try wtm_at "evo"
              try simp only [j1, decide_true]
              try wtm_at "evo"
              exact go_end0 rfl ⟨by simp [doneO, stepO, hp, resD, Nn.of_inj], rfl⟩
        case inr.inr =>
          match r, hs with
          | [], _ | [b, c], _ =>
            simp only [List.map_nil, List.map_cons, oD']
            wtm_at "evo"
            exact go_end0 rfl ⟨rfl, rfl⟩
          | [b], _ =>
            simp only [List.map_nil, List.map_cons, oD']
            wtm_at "evo"
            cases hp : place l x with
            | none =>
              have e1 : placeI l x = -1 := by unfold placeI; rw [hp]
              have e2 : doneO l (.tup (.w "move") [.v x, b]) = none := by simp [doneO, stepO, hp, Nn.of_inj]
              rw [pl, e1]
              wtm_at "evo"
              exact go_end0 rfl ⟨by rw [e2]; rfl, rfl⟩
            | some j =>
              have e1 : placeI l x = (j : Nat) := by unfold placeI; rw [hp]
              have j0 : ¬ ((j : Int) < 0) := by omega
              have j1 : (0 : Int) ≤ j := by omega
              rw [pl, e1]
              wtm_at "evo"
              try simp only [j0, decide_false]
              try wtm_at "evo"
              try simp only [j1, decide_true]
              try wtm_at "evo"
              have jl := place_lt hp
              have lc : (Ke.cutV l j).length ≤ 500 := by unfold Ke.cutV; simp; omega
              rw [vl_lo (by omega), show ((j : Int) + 1) = ((j + 1 : Nat) : Int) by omega, vl_hi (by omega), vl_app (by simp; omega)]
              rw [show l.take j ++ l.drop (j + 1) = Ke.cutV l j from rfl]
              wtm_at "evo"
              have eD : ∀ t : Od, doneO l (.tup (.w "move") [.v x, t]) = toO (Ke.cutV l j) x t := fun t => by simp [doneO, stepO, hp, Nn.of_inj]
              by_cases hbn : b = .n
              case pos =>
                subst hbn
                simp only [od_n]
                wtm_at "evo"
                rw [show [x.d] = vD [x] from rfl, vl_app (by simp; omega)]
                wtm_at "evo"
                exact go_end0 (by simp only [Nn.low_fl, vl_lows]) ⟨by rw [eD]; rfl, rfl⟩
              cases hvb : b.isV
              case false =>
                rw [is_o hbn]
                wtm_at "evo"
                simp only [hvb]
                wtm_at "evo"
                exact go_end0 rfl ⟨by rw [eD, toO_no hbn hvb]; rfl, rfl⟩
              obtain ⟨t, rfl⟩ := isV_yes hvb
              wtm_at "evo"
              simp only [is_vl]
              wtm_at "evo"
              rw [c_place (l := (Ke.cutV l j)) (by omega)]
              cases hq : place (Ke.cutV l j) t with
              | none =>
                have f1 : placeI (Ke.cutV l j) t = -1 := by unfold placeI; rw [hq]
                have f2 : toO (Ke.cutV l j) x (.v t) = none := by unfold toO; simp only [hq]
                rw [f1]
                wtm_at "evo"
                exact go_end0 rfl ⟨by rw [eD, f2]; rfl, rfl⟩
              | some k =>
                have f1 : placeI (Ke.cutV l j) t = (k : Nat) := by unfold placeI; rw [hq]
                have f2 : toO (Ke.cutV l j) x (.v t) = some ((Ke.cutV l j).take k ++ [x] ++ (Ke.cutV l j).drop k) := by unfold toO; simp only [hq]
                have k0 : ¬ ((k : Int) < 0) := by omega
                have kl := place_lt hq
                rw [f1]
                wtm_at "evo"
                try simp only [k0, decide_false]
                try wtm_at "evo"
                rw [vl_lo (by omega)]
                rw [show [x.d] = vD [x] from rfl, vl_app (by simp; omega)]
                wtm_at "evo"
                rw [vl_hi (by omega), vl_app (by simp; omega)]
                wtm_at "evo"
                exact go_end0 (by simp only [Nn.low_fl, vl_lows]) ⟨by rw [eD, f2]; rfl, rfl⟩
  case lst =>
    simp only [Ed.d]
    wtm_at "evo"
    refine go_end0 (d := .non) rfl ⟨rfl, rfl⟩
  all_goals
    simp only [Ed.d]
    wtm_at "all"
    all_goals exact go_end0 rfl ⟨rfl, rfl⟩
theorem resD_low (o : Option (List Vl)) : Nn.low (resD o) = true := by
  cases o with
  | none => rfl
  | some l => simp only [resD, Nn.low_fl, vl_lows]
theorem c_done {st : S} {l : List Vl} {e : Ed} (hl : l.length ≤ 500) (hs : e.short) : callF [false, false] mLDone [.fl (vD l), e.d] st = .ok (resD (doneO l e)) st := call_eq rfl (by simp only [List.all_cons, Nn.low_fl, vl_lows, e.low]; rfl) (done_t hl hs) (resD_low _)

end Ke
namespace Ke
open PySem PySem.Spec PyProof.Rows L2 Lb Nn
/-! the program's own edit on its list -/
section
variable {l : List Vl} {x : Vl} {st : S} {n j k : Nat}
theorem fi_vl : fiD (vD l) x.d = place l x := by
  unfold fiD place vD
  rw [List.findIdx?_map]
  congr 1
  funext y
  exact vl_eqF
theorem cut_map : (vD l).eraseIdx j = vD (cutV l j) := by
  unfold vD Ke.cutV
  rw [List.eraseIdx_eq_take_drop_succ, List.map_append, List.map_take, List.map_drop]
theorem remO_vl (h : place l x = some j) : remO (some (.lst (vD l))) n x.d st = .ok .non (st.set n (.lst (vD (cutV l j)))) := by
  unfold remO
  simp only [x.flat, vl_flats, Bool.and_self, if_true, fi_vl, h, cut_map]
theorem insO_vl (h : l.length ≤ 10000) (hk : k ≤ 10000) : insO (some (.lst (vD l))) n (k : Int) x.d st = .ok .non (st.set n (.lst (vD (l.take k ++ [x] ++ l.drop k)))) := by
  have h1 : (vD l).length < sizeLine ∧ (0 : Int) ≤ (k : Int) ∧ okR (k : Int) = true := ⟨by have := big_line; simp; omega, by omega, okR_small (by omega)⟩
  unfold insO
  dsimp only
  rw [if_pos h1, Int.toNat_natCast]
  unfold vD
  rw [List.map_append, List.map_append, List.map_take, List.map_drop]
  rfl
theorem idxK_own {mb : ME} {env : Ev} (h : st[n]? = some (.lst (vD l))) (hm : mb env st = .ok x.d st) (hp : place l x = some j) : idxK mb env (.loc n) st = .ok (.int (j : Nat)) st := by
  unfold idxK
  have e : lsD st (.loc n) = some (vD l) := by
    show rdL st n = _
    unfold rdL
    rw [h]
  simp only [e, hm, R.bind]
  unfold idxL fIndexL
  simp only [e, x.flat, vl_flats, Bool.and_self, if_true, fi_vl, hp]
theorem fz_own {m : List D} {q : Nat → Bool} {b : Bool} (hq : q n = true) (hst : st[n]? = some (.lst m)) (hm : Nn.lows m = true) : fz q b st (.loc n) = some (.fl m) := by
  unfold fz
  rw [if_neg (by unfold Nn.low; exact Bool.false_ne_true)]
  unfold fzG
  rw [if_pos hq, hst]
  dsimp only
  unfold lowM
  rw [if_pos hm]
  rfl
theorem c_isEditL {e : Ed} (hs : e.short) (h : st[n]? = some (.lst (vD l))) : callF [false, false] mIsEdit [.loc n, e.d] st = .ok (.bl (edB l e)) st := by
  refine call_lent (ds' := [.fl (vD l), e.d]) rfl ?_ (isEdit_t hs) rfl rfl
  have h1 : fz (fun k => !(([] : List Nat).contains k)) false st (.loc n) = some (.fl (vD l)) := fz_own rfl h (vl_lows l)
  have h2 : fz (fun k => !(([] : List Nat).contains k)) false st e.d = some e.d := by unfold fz; rw [if_pos e.low]
  simp only [mArgs, h1, h2]
end

end Ke
namespace Ke
open PySem PySem.Spec PyProof.Rows L2 Lb Nn
/-! rows without equal values -/
section
variable {l L L' : List Vl} {x y : Vl} {j : Nat}
theorem split_pl (h : place l x = some j) : l = l.take j ++ x :: l.drop (j + 1) := by
  obtain ⟨h1, _⟩ := place_some h
  obtain ⟨hj, e⟩ := List.getElem?_eq_some_iff.mp h1
  have := List.drop_eq_getElem_cons hj
  rw [e] at this
  rw [← this, List.take_append_drop]
theorem nd_cut (hn : l.Nodup) (h : place l x = some j) : (Ke.cutV l j).Nodup ∧ (∀ y, y ∈ Ke.cutV l j ↔ (y ∈ l ∧ y ≠ x)) ∧ (Ke.cutV l j).length + 1 = l.length := by
  have e := split_pl h
  have hj := place_lt h
  rw [e] at hn
  obtain ⟨n1, n2, n3⟩ := List.nodup_append.mp hn
  obtain ⟨n4, n5⟩ := List.nodup_cons.mp n2
  refine ⟨List.nodup_append.mpr ⟨n1, n5, fun a ha b hb => n3 a ha b (List.mem_cons_of_mem _ hb)⟩, fun y => ?_, ?_⟩
  · have m : y ∈ l ↔ (y ∈ l.take j ∨ y = x ∨ y ∈ l.drop (j + 1)) := by
      conv => lhs; rw [e]
      simp
    unfold Ke.cutV
    rw [List.mem_append, m]
    constructor
    · rintro (q | q)
      · exact ⟨.inl q, fun z => n3 y q x List.mem_cons_self z⟩
      · exact ⟨.inr (.inr q), fun z => n4 (z ▸ q)⟩
    · rintro ⟨q | q | q, z⟩
      · exact .inl q
      · exact absurd q z
      · exact .inr q
  · unfold Ke.cutV
    simp
    omega
theorem nd_ins (hn : L.Nodup) (hx : x ∉ L) (k : Nat) : (L.take k ++ [x] ++ L.drop k).Nodup ∧ (∀ y, y ∈ L.take k ++ [x] ++ L.drop k ↔ (y ∈ L ∨ y = x)) ∧ (L.take k ++ [x] ++ L.drop k).length = L.length + 1 := by
  have p : (L.take k ++ [x] ++ L.drop k).Perm (x :: L) := by
    rw [List.append_assoc]
    refine (List.perm_append_comm_assoc _ _ _).trans ?_
    rw [List.take_append_drop]
    exact List.Perm.refl _
  refine ⟨p.symm.nodup (List.nodup_cons.mpr ⟨hx, hn⟩), fun y => ?_, by rw [p.length_eq, List.length_cons]⟩
  rw [p.mem_iff, List.mem_cons]
  exact Or.comm
theorem nd_to {o : Od} (hn : L.Nodup) (hx : x ∉ L) (h : toO L x o = some L') : L'.Nodup ∧ (∀ y, y ∈ L' ↔ (y ∈ L ∨ y = x)) ∧ L'.length = L.length + 1 := by
  cases o with
  | n =>
    cases h
    have := nd_ins hn hx L.length
    rw [List.take_length, List.drop_length, List.append_nil] at this
    exact this
  | v t =>
    cases hp : place L t with
    | none => simp only [toO, hp] at h; cases h
    | some k =>
      simp only [toO, hp] at h
      cases h
      exact nd_ins hn hx k
  | _ => cases h
theorem toO_some {o : Od} : (toO L x o).isSome = (match o with | .n => true | .v t => decide (t ∈ L) | _ => false) := by
  cases o with
  | v t =>
    cases hp : place L t with
    | none => simp [toO, hp, place_none.mp hp]
    | some k => simp [toO, hp, List.mem_of_getElem? (place_some hp).1]
  | _ => rfl
theorem pl_mem : (place l x).isSome = decide (x ∈ l) := by
  cases hp : place l x with
  | none => simp [place_none.mp hp]
  | some k => simp [List.mem_of_getElem? (place_some hp).1]
/-- what fits is done -/
theorem ed_iff (hn : l.Nodup) : ∀ e : Ed, edB l e = (doneO l e).isSome
  | .tup .n r => by cases r with | nil => rfl | cons a r => cases a <;> rfl
  | .tup .one r => by cases r with | nil => rfl | cons a r => cases a <;> rfl
  | .tup (.w w) [] => rfl
  | .tup (.w w) [.v x] => by
    show (decide (w = "drop") && decide (x ∈ l)) = (stepO l w x []).isSome
    unfold stepO
    rw [← pl_mem]
    by_cases h1 : w = "drop"
    · cases hp : place l x <;> simp [h1]
    · by_cases h2 : w = "put"
      · subst h2; simp [Nn.of_inj]
      · by_cases h3 : w = "move"
        · subst h3; simp [Nn.of_inj]
        · simp [h1, h2, h3]
  | .tup (.w w) [.v x, t] => by
    show (!decide (w = "drop") && tgB l x t && (decide (w = "put") && !decide (x ∈ l) || decide (w = "move") && decide (x ∈ l))) = (stepO l w x [t]).isSome
    unfold stepO
    have d : ∀ L : List Vl, (toO L x t).isSome = _ := fun L => toO_some
    by_cases h1 : w = "drop"
    · subst h1
      simp
    · by_cases h2 : w = "put"
      · subst h2
        simp only [h1, if_false, if_true]
        cases hp : place l x with
        | none =>
          have hx := place_none.mp hp
          simp only [d, hx]
          cases t with
          | v t =>
            have : t ∈ l → t ≠ x := fun q z => hx (z ▸ q)
            by_cases q : t ∈ l
            · simp [tgB, q, this q, h1]
            · simp [tgB, q]
          | _ => simp [tgB, h1]
        | some k =>
          have hx := List.mem_of_getElem? (place_some hp).1
          simp [hx, Nn.of_inj]
      · by_cases h3 : w = "move"
        · subst h3
          simp only [h1, h2, if_false, if_true]
          cases hp : place l x with
          | none =>
            have hx := place_none.mp hp
            simp [hx]
          | some k =>
            have hx := List.mem_of_getElem? (place_some hp).1
            obtain ⟨_, m, _⟩ := nd_cut hn hp
            simp only [d, hx]
            cases t with
            | v t => simp [tgB, m, h1, Bool.decide_and]
            | _ => simp [tgB, h1]
        · simp [h1, h2, h3]
  | .tup (.w w) (.v x :: a :: b :: r) => by
    show false = (stepO l w x (a :: b :: r)).isSome
    unfold stepO
    by_cases h1 : w = "drop" <;> by_cases h2 : w = "put" <;> by_cases h3 : w = "move" <;> simp [h1, h2, h3] <;> (cases place l x <;> rfl)
  | .tup (.w w) (.t :: r) => by cases r with | nil => rfl | cons a r => cases r <;> rfl
  | .tup (.w w) (.n :: r) => by cases r with | nil => rfl | cons a r => cases r <;> rfl
  | .tup (.w w) (.t1 :: r) => by cases r with | nil => rfl | cons a r => cases r <;> rfl
  | .tup (.w w) (.l1 :: r) => by cases r with | nil => rfl | cons a r => cases r <;> rfl
  | .tup (.w w) (.ab :: r) => by cases r with | nil => rfl | cons a r => cases r <;> rfl
  | .lst _ _ => rfl
  | .non => rfl
  | .drop => rfl
end

end Ke
namespace Ke
open PySem PySem.Spec PyProof.Rows L2 Lb Nn
local macro_rules | `(tactic| wtm_at "ev") => `(tactic| simp only [Nn.seq_ap, Nn.next_ap, Nn.brk_ap, Nn.cnt_ap, Nn.var_ap, Nn.varK_ok, Nn.c_ap, Nn.m2_ap, Nn.m2K_ap, Nn.m2J_ap, Nn.m1_ap, Nn.mB_ap, Nn.mBK_ap, Nn.and_ap, Nn.or_ap, Nn.not_ap, Nn.andK_T, Nn.andK_F, Nn.orK_T, Nn.orK_F, Nn.notK_ap, Nn.andV_ap, Nn.orV_ap, Nn.notV_ap, Nn.ifE_ap, Nn.andVK_T, Nn.andVK_F, Nn.orVK_T, Nn.orVK_F, Nn.notVK_ap, Nn.ifEK_T, Nn.ifEK_F, Nn.nil_ap, Nn.cons_ap, Nn.consK_ap, Nn.consJ_ap, Nn.star_ap, Nn.starJ_ap, Nn.starK_tup, Nn.starK_tuf, Nn.starK_fl, Nn.starK_lc, Nn.starO_lst, Nn.lcL_nil, Nn.loopP_nil, List.append_nil,  Nn.tup_ap, Nn.lst_ap, Nn.newL_T, Nn.newL_F, Nn.newD_T, Nn.newD_F, Nn.dnew_ap, Nn.cb_ap, Nn.call_ap, Nn.callD_ap, Nn.callDD, Nn.dyn_nil, Nn.dyn_F, Nn.dyn_loc, Nn.dyn_fd, Nn.dyn_fl, Nn.dyn_tup, Nn.dyn_non, Nn.disp_ap, Nn.prs_nil, Nn.prs_cons, Nn.prA_ap, Nn.prB_ap, Nn.prC_str, Nn.prC_int, Nn.dispK_1, Nn.tr_ap, Nn.trK_bl, Nn.asg_ap, Nn.asgK_ap, Nn.asgJ_ok, Nn.gnm_ap, Nn.gkl_ap, Nn.ret_ap, Nn.retK_ap, Nn.retN_ap, Nn.drop_ap, Nn.dropK_ap, Nn.if_ap, Nn.ifK_T, Nn.ifK_F, Nn.kl_ap, Nn.klK_ap, Nn.wipe_nil, Nn.wipe_cons, Nn.put_mk, Nn.start_mk, Nn.for_ap, Nn.forK_ap, Nn.itP_l, Nn.it_ap, Nn.itK_tup, Nn.itK_tuf, Nn.itK_fl, Nn.itK_sc, Nn.itK_fd, Nn.itK_lc, Nn.revA_ap, Nn.revAK_tup, Nn.revAK_tuf, Nn.revAK_fl, List.reverse_cons, List.reverse_nil, Nn.itO_lst, Nn.itL_l, Nn.loopP_consG, Nn.lpC_ok, Nn.turn_nx, Nn.turn_ct, Nn.turn_rt, Nn.turn_bk, Nn.lcL_consG, Nn.lcC1_ap, Nn.lcC2_T, Nn.lcC2_F, Nn.gtp_tup, Nn.gtK_ok, Nn.gcn_ap, Nn.gcJ_ap, Nn.gnl_ap, Nn.en_nil, Nn.en_cons, Nn.sl_tup, Nn.sl_fl, Nn.cut_d1, Nn.cut_d2, Nn.cut_t1, Nn.cut_t2, List.take_succ_cons, List.take_zero, List.drop_succ_cons, List.drop_zero, List.take_nil, List.drop_nil, Nn.itK_str, Nn.range1_ap, Nn.enum_ap, Nn.enK_tup, Nn.enK_tuf, Nn.enK_fl, Nn.lc_ap, Nn.lcK_ap, Nn.newLK_ap, Nn.yes_ap, Nn.blk_ap, Nn.blkK_nx, Nn.blkK_ct, Nn.blkK_bk, Nn.blkK_rt, Nn.blkO_some, Nn.cons2_some, Nn.frzE_nil, Nn.frzE_none, Nn.frzE_cons, Nn.frzS_nil, Nn.frzS_cons, Nn.app2_some, Option.map_some, List.take_succ_cons, Nn.bind_ok, Nn.bindS_ok, Nn.bindN_nx, Nn.bindN_rt, Nn.bindN_ct, Nn.bindN_bk, Nn.bind_bind, Nn.bind_bindS, Nn.bindS_bindN, Nn.bindN_bindN, Nn.bbK_ap, Nn.bsK_ap, Nn.snK_ap, Nn.nnK_ap, Nn.aug_ap, Nn.augK_ap, Nn.augI_ap, Nn.augJ_ap, Nn.bl_ap, Nn.blK_ap, Nn.blO_ap, Nn.blJ_ap, Nn.index_ap, Nn.idxK_tuf, Nn.idxK_fl, Nn.join_ap, Nn.joinK_ap, Nn.fld_ap, Nn.sfld_ap, Nn.sfK_ap, Nn.mkF_ap, Nn.part_ap, Nn.partK_ap, Nn.noPart_ap, Nn.sl_ap, Nn.slA_ap, Nn.slB_ap, Nn.slC_ap, Nn.at0, Nn.at1, Nn.at2, Nn.at3, Nn.at4, Nn.at5, Nn.at6, Nn.at7, Nn.at8, Nn.at9, Nn.oD_some, Nn.ix_tup, Nn.ix_tuf, Nn.ix_fl, Nn.ix_sc, Nn.ix_lc, Nn.ixO_lst, Nn.ixO_dic, Nn.ixO_dicI, Nn.gsb_ap, Nn.okB_ok, Nn.gsA_ap, Nn.gsC_ap, Nn.gsE_ap, Nn.set_lc, Nn.setO_lst, Nn.setJ_some, Nn.ixN_L0, Nn.ixN_L1, Nn.ixN_L2, Nn.ixN_L3, Nn.ixN_L4, Nn.ixN_L5, Nn.add_int, Nn.sub_int, Nn.neg_int, Nn.lt_int, Nn.le_int, Nn.gt_int, Nn.ge_int, Nn.eq_int, Nn.eq_str, Nn.eq_bl, Nn.is_non, Nn.is_tup, Nn.is_str, Nn.is_int, Nn.is_bl, Nn.int_int, Nn.int_bl, Nn.abs_int, Nn.len_tup, Nn.len_tuf, Nn.len_fl, Nn.len_sc, Nn.len_lc, Nn.lenQ_lst, Nn.lenQ_dic, Nn.tuple_fl, Nn.tuple_lc, Nn.tupO_lst, Nn.sl_lc, Nn.slO_lst, Nn.min2_int, Nn.lstRg_ap, Nn.tupleF_fl, Nn.isi_ap, Nn.ty_non, Nn.ty_bl, Nn.ty_int, Nn.ty_str, Nn.ty_tup, Nn.ty_tuf, Nn.ty_fl, Nn.ty_sc, Nn.ty_fd, Nn.ty_lc, Nn.tyO_lst, Nn.tyO_dic, Nn.isO_NoneType_bool, Nn.isO_NoneType_int, Nn.isO_NoneType_str, Nn.isO_NoneType_tuple, Nn.isO_NoneType_list, Nn.isO_NoneType_dict, Nn.isO_bool_bool, Nn.isO_bool_int, Nn.isO_bool_str, Nn.isO_bool_tuple, Nn.isO_bool_list, Nn.isO_bool_dict, Nn.isO_int_bool, Nn.isO_int_int, Nn.isO_int_str, Nn.isO_int_tuple, Nn.isO_int_list, Nn.isO_int_dict, Nn.isO_str_bool, Nn.isO_str_int, Nn.isO_str_str, Nn.isO_str_tuple, Nn.isO_str_list, Nn.isO_str_dict, Nn.isO_tuple_bool, Nn.isO_tuple_int, Nn.isO_tuple_str, Nn.isO_tuple_tuple, Nn.isO_tuple_list, Nn.isO_tuple_dict, Nn.isO_list_bool, Nn.isO_list_int, Nn.isO_list_str, Nn.isO_list_tuple, Nn.isO_list_list, Nn.isO_list_dict, Nn.isO_dict_bool, Nn.isO_dict_int, Nn.isO_dict_str, Nn.isO_dict_tuple, Nn.isO_dict_list, Nn.isO_dict_dict, Nn.chain_ap, Nn.chA_ap, Nn.chB_ap, Nn.chC_T, Nn.chC_F, Nn.chD_ap, Nn.trK_gen, Nn.trO_some, Nn.tru_tup, Nn.tru_fl, Nn.tru_non, Nn.tru_bl, Nn.tru_int, Nn.emp_nil, Nn.emp_cons, Nn.emp_map, Nn.all_nil, Nn.sum_nil, Nn.ix_fdM, Nn.in_fdM, Nn.lookD_cons, Nn.fldK_foG, Nn.fldC_T, Nn.cont1, Nn.fldO_gen, Nn.fldP_some, Nn.sfJ_lc, Nn.putFD_nil, Nn.putFD_cons, Nn.kd_str, Nn.in_lc, Nn.inO_strs, Nn.in_tupS, Nn.in_tufS, Nn.in_flS, Nn.ap_lc, Nn.pop_lc, Nn.popO_snoc, Nn.rev_lc, Nn.revO_lst, Nn.rem_lc, Nn.ex_lc, Nn.ins_lc, Nn.list_tup, Nn.list_tuf, Nn.list_fl, Nn.list_sc, Nn.list_lc, Nn.lsO_lst, Nn.eq_non, Nn.eq_strI, List.map_cons, List.map_nil, List.length_cons, List.length_nil, List.replicate_succ, List.replicate_zero, List.set_cons_zero, List.set_cons_succ, List.getElem?_cons_zero, List.getElem?_cons_succ, List.cons_append, List.nil_append, Nat.reduceAdd, Nat.reduceSub, Nat.zero_add, if_true, if_false, ↓reduceIte, reduceCtorEq, Bool.false_eq_true, Nn.sat_ok, Nn.of_inj, Nn.in_sign, Int.reduceLE, Int.reduceLT, Int.reduceGT, Int.reduceGE, Int.reduceEq, Int.reduceNe, Nn.cast_0, Nn.cast_1, Nn.cast_2, Nn.cast_3, Nn.cast_4, Nn.cast_5, Nn.cast_6, Nn.cast_7, Nn.cast_8, Nn.cast_9, Nn.cast_10, Nn.cast_11, Nn.cast_12, Nn.cast_13, Nn.cast_14, Nn.cast_15, Nn.cast_16, Nn.cast_17, Nn.cast_18, Nn.cast_19, Nn.cast_20, Nn.cast_21, Nn.cast_22, Nn.cast_23, Nn.cast_24, Nn.cast_25, Nn.cast_26, Nn.cast_27, Nn.cast_28, Nn.cast_29, Nn.cast_30, Nn.cast_31, Nn.cast_32, Nn.cast_33, Nn.cast_34, Nn.cast_35, Nn.cast_36, Nn.cast_37, Nn.cast_38, Nn.cast_39, Nn.cast_40, Int.reduceAdd, Int.reduceSub, not_true_eq_false, not_false_eq_true, String.reduceEq, String.reduceNe, eq_self, decide_true, decide_false, Nn.ng, Nn.nd_dec, Nn.pow_18, Nn.pow_20, List.length_map, Bool.not_true, Bool.not_false])
local macro_rules | `(tactic| wtm_at "evo") => `(tactic| simp -implicitDefEqProofs (disch := first | assumption | omega | (refine Nn.okR_small ?_; omega) | (simp only [List.length_cons, List.length_nil, List.length_map, List.length_append]; omega) | (simp only [vl_lows, od_lows, Vl.low, Od.low, Hd.low, Ed.low, Nn.lows_nil, Nn.lows_cons, Nn.low_non, Nn.low_bl, Nn.low_int, Nn.low_str, Nn.low_ty, Nn.low_tup, Nn.low_tuf, Nn.low_fl, Nn.low_sc, Nn.low_fd, Nn.low_fo, Nn.lows_str, Nn.lows_int, Nn.lows_app, Nn.lowO_strs, Nn.lowO_ints, Nn.lowO_l, Nn.lowO_d, Nn.lowO_i, Bool.and_true, Bool.and_self, Bool.true_and, List.all_cons, List.all_nil, List.map_cons, List.map_nil]; done) | decide) only [in_vl, eq_vl, ty_vl, isO_vlS, isO_vlI, isO_vlB, od_v, Nn.bind_ex, Nn.bindS_ex, Nn.bindN_ex, Nn.raise_ap, Nn.rsK_1, Nn.isiT_ap, Nn.isiTK_ap, Nn.isiLT_list, Nn.isiLT_tuple, Nn.isiLT_str, Nn.isiLT_int, Nn.isiLT_bool, Nn.isiLT_dict, Nn.isiLT_none, Nn.mul_int, Nn.mod_int, Nn.div_int, Nn.lstK_ap, Nn.rgLK_ap, Nn.blkE_ap, Nn.frz_low, Nn.frz_lt, Nn.frzO_low, Nn.lcC3_ap, Nn.apO_lst, Nn.len_str, Nn.sfO_ins1, Nn.exO_lst, Nn.tupK_ap, Nn.rg1K_ap, Nn.okR_small, Nn.seq_ap, Nn.next_ap, Nn.brk_ap, Nn.cnt_ap, Nn.var_ap, Nn.varK_ok, Nn.c_ap, Nn.m2_ap, Nn.m2K_ap, Nn.m2J_ap, Nn.m1_ap, Nn.mB_ap, Nn.mBK_ap, Nn.and_ap, Nn.or_ap, Nn.not_ap, Nn.andK_T, Nn.andK_F, Nn.orK_T, Nn.orK_F, Nn.notK_ap, Nn.andV_ap, Nn.orV_ap, Nn.notV_ap, Nn.ifE_ap, Nn.andVK_T, Nn.andVK_F, Nn.orVK_T, Nn.orVK_F, Nn.notVK_ap, Nn.ifEK_T, Nn.ifEK_F, Nn.nil_ap, Nn.cons_ap, Nn.consK_ap, Nn.consJ_ap, Nn.star_ap, Nn.starJ_ap, Nn.starK_tup, Nn.starK_tuf, Nn.starK_fl, Nn.starK_lc, Nn.starO_lst, Nn.lcL_nil, Nn.loopP_nil, List.append_nil,  Nn.tup_ap, Nn.lst_ap, Nn.newL_T, Nn.newL_F, Nn.newD_T, Nn.newD_F, Nn.dnew_ap, Nn.cb_ap, Nn.call_ap, Nn.callD_ap, Nn.callDD, Nn.dyn_nil, Nn.dyn_F, Nn.dyn_loc, Nn.dyn_fd, Nn.dyn_fl, Nn.dyn_tup, Nn.dyn_non, Nn.disp_ap, Nn.prs_nil, Nn.prs_cons, Nn.prA_ap, Nn.prB_ap, Nn.prC_str, Nn.prC_int, Nn.dispK_1, Nn.tr_ap, Nn.trK_bl, Nn.asg_ap, Nn.asgK_ap, Nn.asgJ_ok, Nn.gnm_ap, Nn.gkl_ap, Nn.ret_ap, Nn.retK_ap, Nn.retN_ap, Nn.drop_ap, Nn.dropK_ap, Nn.if_ap, Nn.ifK_T, Nn.ifK_F, Nn.kl_ap, Nn.klK_ap, Nn.wipe_nil, Nn.wipe_cons, Nn.put_mk, Nn.start_mk, Nn.for_ap, Nn.forK_ap, Nn.itP_l, Nn.it_ap, Nn.itK_tup, Nn.itK_tuf, Nn.itK_fl, Nn.itK_sc, Nn.itK_fd, Nn.itK_lc, Nn.revA_ap, Nn.revAK_tup, Nn.revAK_tuf, Nn.revAK_fl, List.reverse_cons, List.reverse_nil, Nn.itO_lst, Nn.itL_l, Nn.loopP_consG, Nn.lpC_ok, Nn.turn_nx, Nn.turn_ct, Nn.turn_rt, Nn.turn_bk, Nn.lcL_consG, Nn.lcC1_ap, Nn.lcC2_T, Nn.lcC2_F, Nn.gtp_tup, Nn.gtK_ok, Nn.gcn_ap, Nn.gcJ_ap, Nn.gnl_ap, Nn.en_nil, Nn.en_cons, Nn.sl_tup, Nn.sl_fl, Nn.cut_d1, Nn.cut_d2, Nn.cut_t1, Nn.cut_t2, List.take_succ_cons, List.take_zero, List.drop_succ_cons, List.drop_zero, List.take_nil, List.drop_nil, Nn.itK_str, Nn.range1_ap, Nn.enum_ap, Nn.enK_tup, Nn.enK_tuf, Nn.enK_fl, Nn.lc_ap, Nn.lcK_ap, Nn.newLK_ap, Nn.yes_ap, Nn.blk_ap, Nn.blkK_nx, Nn.blkK_ct, Nn.blkK_bk, Nn.blkK_rt, Nn.blkO_some, Nn.cons2_some, Nn.frzE_nil, Nn.frzE_none, Nn.frzE_cons, Nn.frzS_nil, Nn.frzS_cons, Nn.app2_some, Option.map_some, List.take_succ_cons, Nn.bind_ok, Nn.bindS_ok, Nn.bindN_nx, Nn.bindN_rt, Nn.bindN_ct, Nn.bindN_bk, Nn.bind_bind, Nn.bind_bindS, Nn.bindS_bindN, Nn.bindN_bindN, Nn.bbK_ap, Nn.bsK_ap, Nn.snK_ap, Nn.nnK_ap, Nn.aug_ap, Nn.augK_ap, Nn.augI_ap, Nn.augJ_ap, Nn.bl_ap, Nn.blK_ap, Nn.blO_ap, Nn.blJ_ap, Nn.index_ap, Nn.idxK_tuf, Nn.idxK_fl, Nn.join_ap, Nn.joinK_ap, Nn.fld_ap, Nn.sfld_ap, Nn.sfK_ap, Nn.mkF_ap, Nn.part_ap, Nn.partK_ap, Nn.noPart_ap, Nn.sl_ap, Nn.slA_ap, Nn.slB_ap, Nn.slC_ap, Nn.at0, Nn.at1, Nn.at2, Nn.at3, Nn.at4, Nn.at5, Nn.at6, Nn.at7, Nn.at8, Nn.at9, Nn.oD_some, Nn.ix_tup, Nn.ix_tuf, Nn.ix_fl, Nn.ix_sc, Nn.ix_lc, Nn.ixO_lst, Nn.ixO_dic, Nn.ixO_dicI, Nn.gsb_ap, Nn.okB_ok, Nn.gsA_ap, Nn.gsC_ap, Nn.gsE_ap, Nn.set_lc, Nn.setO_lst, Nn.setJ_some, Nn.ixN_L0, Nn.ixN_L1, Nn.ixN_L2, Nn.ixN_L3, Nn.ixN_L4, Nn.ixN_L5, Nn.add_int, Nn.sub_int, Nn.neg_int, Nn.lt_int, Nn.le_int, Nn.gt_int, Nn.ge_int, Nn.eq_int, Nn.eq_str, Nn.eq_bl, Nn.is_non, Nn.is_tup, Nn.is_str, Nn.is_int, Nn.is_bl, Nn.int_int, Nn.int_bl, Nn.abs_int, Nn.len_tup, Nn.len_tuf, Nn.len_fl, Nn.len_sc, Nn.len_lc, Nn.lenQ_lst, Nn.lenQ_dic, Nn.tuple_fl, Nn.tuple_lc, Nn.tupO_lst, Nn.sl_lc, Nn.slO_lst, Nn.min2_int, Nn.lstRg_ap, Nn.tupleF_fl, Nn.isi_ap, Nn.ty_non, Nn.ty_bl, Nn.ty_int, Nn.ty_str, Nn.ty_tup, Nn.ty_tuf, Nn.ty_fl, Nn.ty_sc, Nn.ty_fd, Nn.ty_lc, Nn.tyO_lst, Nn.tyO_dic, Nn.isO_NoneType_bool, Nn.isO_NoneType_int, Nn.isO_NoneType_str, Nn.isO_NoneType_tuple, Nn.isO_NoneType_list, Nn.isO_NoneType_dict, Nn.isO_bool_bool, Nn.isO_bool_int, Nn.isO_bool_str, Nn.isO_bool_tuple, Nn.isO_bool_list, Nn.isO_bool_dict, Nn.isO_int_bool, Nn.isO_int_int, Nn.isO_int_str, Nn.isO_int_tuple, Nn.isO_int_list, Nn.isO_int_dict, Nn.isO_str_bool, Nn.isO_str_int, Nn.isO_str_str, Nn.isO_str_tuple, Nn.isO_str_list, Nn.isO_str_dict, Nn.isO_tuple_bool, Nn.isO_tuple_int, Nn.isO_tuple_str, Nn.isO_tuple_tuple, Nn.isO_tuple_list, Nn.isO_tuple_dict, Nn.isO_list_bool, Nn.isO_list_int, Nn.isO_list_str, Nn.isO_list_tuple, Nn.isO_list_list, Nn.isO_list_dict, Nn.isO_dict_bool, Nn.isO_dict_int, Nn.isO_dict_str, Nn.isO_dict_tuple, Nn.isO_dict_list, Nn.isO_dict_dict, Nn.chain_ap, Nn.chA_ap, Nn.chB_ap, Nn.chC_T, Nn.chC_F, Nn.chD_ap, Nn.trK_gen, Nn.trO_some, Nn.tru_tup, Nn.tru_fl, Nn.tru_non, Nn.tru_bl, Nn.tru_int, Nn.emp_nil, Nn.emp_cons, Nn.emp_map, Nn.all_nil, Nn.sum_nil, Nn.ix_fdM, Nn.in_fdM, Nn.lookD_cons, Nn.fldK_foG, Nn.fldC_T, Nn.cont1, Nn.fldO_gen, Nn.fldP_some, Nn.sfJ_lc, Nn.putFD_nil, Nn.putFD_cons, Nn.kd_str, Nn.in_lc, Nn.inO_strs, Nn.in_tupS, Nn.in_tufS, Nn.in_flS, Nn.ap_lc, Nn.pop_lc, Nn.popO_snoc, Nn.rev_lc, Nn.revO_lst, Nn.rem_lc, Nn.ex_lc, Nn.ins_lc, Nn.list_tup, Nn.list_tuf, Nn.list_fl, Nn.list_sc, Nn.list_lc, Nn.lsO_lst, Nn.eq_non, Nn.eq_strI, List.map_cons, List.map_nil, List.length_cons, List.length_nil, List.replicate_succ, List.replicate_zero, List.set_cons_zero, List.set_cons_succ, List.getElem?_cons_zero, List.getElem?_cons_succ, List.cons_append, List.nil_append, Nat.reduceAdd, Nat.reduceSub, Nat.zero_add, if_true, if_false, ↓reduceIte, reduceCtorEq, Bool.false_eq_true, Nn.sat_ok, Nn.of_inj, Nn.in_sign, Int.reduceLE, Int.reduceLT, Int.reduceGT, Int.reduceGE, Int.reduceEq, Int.reduceNe, Nn.cast_0, Nn.cast_1, Nn.cast_2, Nn.cast_3, Nn.cast_4, Nn.cast_5, Nn.cast_6, Nn.cast_7, Nn.cast_8, Nn.cast_9, Nn.cast_10, Nn.cast_11, Nn.cast_12, Nn.cast_13, Nn.cast_14, Nn.cast_15, Nn.cast_16, Nn.cast_17, Nn.cast_18, Nn.cast_19, Nn.cast_20, Nn.cast_21, Nn.cast_22, Nn.cast_23, Nn.cast_24, Nn.cast_25, Nn.cast_26, Nn.cast_27, Nn.cast_28, Nn.cast_29, Nn.cast_30, Nn.cast_31, Nn.cast_32, Nn.cast_33, Nn.cast_34, Nn.cast_35, Nn.cast_36, Nn.cast_37, Nn.cast_38, Nn.cast_39, Nn.cast_40, Int.reduceAdd, Int.reduceSub, not_true_eq_false, not_false_eq_true, String.reduceEq, String.reduceNe, eq_self, decide_true, decide_false, Nn.ng, Nn.nd_dec, Nn.pow_18, Nn.pow_20, List.length_map, Bool.not_true, Bool.not_false])
local macro_rules | `(tactic| wtm_at "br") => `(tactic| first | refine go_ifDN ?_ ?_ | refine go_ifD ?_ ?_ | refine go_bindS (sat_andD ?_ ?_) | refine go_bindS (sat_orD ?_ ?_) | refine go_bindS (sat_andVD ?_ ?_) | refine go_bindS (sat_orVD ?_ ?_) | refine go_bindS (sat_ifD ?_ ?_) | refine sat_bind (sat_andD ?_ ?_) | refine sat_bind (sat_orD ?_ ?_) | refine sat_bind (sat_andVD ?_ ?_) | refine sat_bind (sat_orVD ?_ ?_) | refine sat_bind (sat_ifD ?_ ?_) | refine go_ifN ?_ ?_ | refine go_if ?_ ?_ | refine go_bindS (sat_andB ?_ ?_) | refine go_bindS (sat_orB ?_ ?_) | refine go_bindS (sat_andVB ?_ ?_) | refine go_bindS (sat_orVB ?_ ?_) | refine go_bindS (sat_ifB ?_ ?_) | refine go_bindS (sat_chDec ?_ ?_) | refine sat_bind (sat_chDec ?_ ?_) | refine sat_chDec ?_ ?_ | refine sat_andD ?_ ?_ | refine sat_orD ?_ ?_ | refine sat_andVD ?_ ?_ | refine sat_orVD ?_ ?_ | refine sat_ifD ?_ ?_ | refine sat_andB ?_ ?_ | refine sat_orB ?_ ?_ | refine sat_andVB ?_ ?_ | refine sat_orVB ?_ ?_ | refine sat_ifB ?_ ?_ | fail)
local macro_rules | `(tactic| wtm_at "dr0") => `(tactic| ((first | refine go_bindS (draw_call (by rfl) (by assumption) (by omega) (by omega) (by omega) ?_) | refine sat_bind (draw_call (by rfl) (by assumption) (by omega) (by omega) (by omega) ?_) | refine draw_call (by rfl) (by assumption) (by omega) (by omega) (by omega) ?_ | fail); intro _ _ _ _ _ _ _; simp only [List.set_cons_zero, List.set_cons_succ]; try wtm_at "evo"))
local macro_rules | `(tactic| wtm_at "wd") => `(tactic| ((with_reducible first | refine word_bindS ?_ ?_ ?_ | refine word_bind ?_ ?_ ?_ | refine word_sat ?_ ?_ ?_ | fail); (focus omega); (focus omega); intro _ _; try wtm_at "evo"))
local macro_rules | `(tactic| wtm_at "dr") => `(tactic| first | wtm_at "dr0" | wtm_at "wd" | fail)
local macro_rules | `(tactic| wtm_at "brs") => `(tactic| (wtm_at "br" <;> (intro _; try wtm_at "evo")))
local macro_rules | `(tactic| wtm_at "all") => `(tactic| ((try wtm_at "evo"); repeat' (first | wtm_at "dr" | wtm_at "brs")))
local macro_rules | `(tactic| wtm_at "drs") => `(tactic| ((try wtm_at "evo"); repeat' wtm_at "dr"))
local macro_rules | `(tactic| wtm_at "low") => `(tactic| first | rfl | (simp only [vl_lows, od_lows, Vl.low, Od.low, Hd.low, Ed.low, Nn.lows_nil, Nn.lows_cons, Nn.low_non, Nn.low_bl, Nn.low_int, Nn.low_str, Nn.low_ty, Nn.low_tup, Nn.low_tuf, Nn.low_fl, Nn.low_sc, Nn.low_fd, Nn.low_fo, Nn.lows_str, Nn.lows_int, Nn.lows_app, Nn.lowO_strs, Nn.lowO_ints, Nn.lowO_l, Nn.lowO_d, Nn.lowO_i, Bool.and_true, Bool.and_self, Bool.true_and, List.all_cons, List.all_nil, List.map_cons, List.map_nil, poolO_low, List.take_succ_cons, List.take_zero]; done) | fail)

/-- the edits, one by one: the list, or the first one that does not fit -/
def runE (l : List Vl) : List Ed → Nat → List Vl ⊕ Nat
  | [], _ => .inl l
  | e :: r, k => match edB l e, doneO l e with
    | true, some l' => runE l' r (k + 1)
    | true, none => .inl l
    | false, _ => .inr k
def resE : List Vl ⊕ Nat → R D
  | .inl l => .ok (.loc 0) [.lst (vD l)]
  | .inr k => .ex "BadEdit" [("index", .int (k : Nat))] []
theorem ed_shape {l : List Vl} : ∀ {e : Ed}, edB l e = true → (∃ x, e = .tup (.w "drop") [.v x] ∧ x ∈ l) ∨ (∃ x t, e = .tup (.w "put") [.v x, t] ∧ x ∉ l ∧ tgB l x t = true) ∨ (∃ x t, e = .tup (.w "move") [.v x, t] ∧ x ∈ l ∧ tgB l x t = true)
  | .tup (.w w) [.v x], h => by
    have h : (decide (w = "drop") && decide (x ∈ l)) = true := h
    simp only [Bool.and_eq_true, decide_eq_true_eq] at h
    obtain ⟨rfl, h2⟩ := h
    exact .inl ⟨x, rfl, h2⟩
  | .tup (.w w) [.v x, t], h => by
    have h : (!decide (w = "drop") && tgB l x t && (decide (w = "put") && !decide (x ∈ l) || decide (w = "move") && decide (x ∈ l))) = true := h
    simp only [Bool.and_eq_true, Bool.or_eq_true, decide_eq_true_eq, Bool.not_eq_true', decide_eq_false_iff_not] at h
    obtain ⟨⟨_, h1⟩, ⟨rfl, h2⟩ | ⟨rfl, h2⟩⟩ := h
    · exact .inr (.inl ⟨x, t, rfl, h2, h1⟩)
    · exact .inr (.inr ⟨x, t, rfl, h2, h1⟩)
  | .tup (.w w) [], h => by cases h
  | .tup (.w w) (.v x :: a :: b :: r), h => by cases h
  | .tup .n r, h => by cases r with | nil => cases h | cons a r => cases a <;> cases h
  | .tup .one r, h => by cases r with | nil => cases h | cons a r => cases a <;> cases h
  | .tup (.w w) (.t :: r), h => by cases r with | nil => cases h | cons a r => cases r <;> cases h
  | .tup (.w w) (.n :: r), h => by cases r with | nil => cases h | cons a r => cases r <;> cases h
  | .tup (.w w) (.t1 :: r), h => by cases r with | nil => cases h | cons a r => cases r <;> cases h
  | .tup (.w w) (.l1 :: r), h => by cases r with | nil => cases h | cons a r => cases r <;> cases h
  | .tup (.w w) (.ab :: r), h => by cases r with | nil => cases h | cons a r => cases r <;> cases h
  | .lst _ _, h => by cases h
  | .non, h => by cases h
  | .drop, h => by cases h
theorem done_nd {l l' : List Vl} (hn : l.Nodup) : ∀ {e : Ed}, doneO l e = some l' → l'.Nodup ∧ l'.length ≤ l.length + 1
  | .tup (.w w) (.v x :: r), h => by
    have h : stepO l w x r = some l' := h
    unfold stepO at h
    by_cases h1 : w = "drop"
    · rw [if_pos h1] at h
      match r, h with
      | [], h =>
        cases hp : place l x with
        | none => simp only [hp] at h; cases h
        | some j =>
          simp only [hp] at h
          cases h
          obtain ⟨a, _, b⟩ := nd_cut hn hp
          exact ⟨a, by omega⟩
      | t :: r, h => simp at h
    rw [if_neg h1] at h
    by_cases h2 : w = "put"
    · rw [if_pos h2] at h
      match r, h with
      | [t], h =>
        cases hp : place l x with
        | some j => simp only [hp] at h; cases h
        | none =>
          simp only [hp] at h
          obtain ⟨a, _, b⟩ := nd_to hn (place_none.mp hp) h
          exact ⟨a, by omega⟩
      | [], h => simp at h
      | a :: b :: r, h => simp at h
    rw [if_neg h2] at h
    by_cases h3 : w = "move"
    · rw [if_pos h3] at h
      match r, h with
      | [t], h =>
        cases hp : place l x with
        | none => simp only [hp] at h; cases h
        | some j =>
          simp only [hp] at h
          obtain ⟨a, m, b⟩ := nd_cut hn hp
          obtain ⟨c, _, d⟩ := nd_to a (fun q => ((m x).mp q).2 rfl) h
          exact ⟨c, by omega⟩
      | [], h => simp at h
      | a :: b :: r, h => simp at h
    rw [if_neg h3] at h
    cases h
  | .tup (.w w) [], h => by cases h
  | .tup .n r, h => by cases r with | nil => cases h | cons a r => cases a <;> cases h
  | .tup .one r, h => by cases r with | nil => cases h | cons a r => cases a <;> cases h
  | .tup (.w w) (.t :: r), h => by cases h
  | .tup (.w w) (.n :: r), h => by cases h
  | .tup (.w w) (.t1 :: r), h => by cases h
  | .tup (.w w) (.l1 :: r), h => by cases h
  | .tup (.w w) (.ab :: r), h => by cases h
  | .lst _ _, h => by cases h
  | .non, h => by cases h
  | .drop, h => by cases h
theorem edited_go {l : List Vl} {es : List Ed} {pd : D} (hl : l.length ≤ 100) (hnd : l.Nodup) (hs : ∀ e ∈ es, e.short) (hn : es.length ≤ 100) :
    ((loopL (itP (enD 0 (es.map Ed.d))).ok (gKl [1, 3, 4, 5] (gTp 2 (gCn (gNm 3) (gCn (gNm 4) gNl))))
          (mSeq
            (mKl
              (mIfS (mNot (mTr (mCall [false, false] mIsEdit (mCons (mVar 2) (mCons (mVar 4) mNil)))))
                (mRaise "BadEdit" "index" (mCons (mVar 3) mNil)) mNext)
              [3])
            (mSeq
              (mIfS (mB (m2 (fEqA true) (m2 fIxA (mVar 4) (mC (D.int 0))) (mC (D.str "put"))))
                (mDrop (mBL fRemove (mVar 2) (mCons (m2 fIxA (mVar 4) (mC (D.int 1))) mNil))) mNext)
              (mKl
                (mIfS (mB (m2 (fEqA true) (m2 fIxA (mVar 4) (mC (D.int 0))) (mC (D.str "drop"))))
                  (mSeq
                    (mAsg
                      (mIf (mB (m2 (fIsN false) (m2 fIxA (mVar 4) (mC (D.int 2))) (mC D.non)))
                        (mCB fLen (mCons (mVar 2) mNil)) (mIndex (mVar 2) (m2 fIxA (mVar 4) (mC (D.int 2)))))
                      (gNm 5))
                    (mKl (mDrop (mBL fInsert (mVar 2) (mCons (mVar 5) (mCons (m2 fIxA (mVar 4) (mC (D.int 1))) mNil))))
                      [4, 5]))
                  mNext)
                [4, 5])))
          (enD 0 (es.map Ed.d))
          ⟨[none, some pd, some (D.loc 0), none, none, none], none⟩
          [O.lst (vD l)]).bindN
      (nnK (klK [1, 3, 4, 5]) (mRet (mVar 2)))).go fun r => fin true 0 r = resE (runE l es 0) := by
  refine go_loop (I := fun r e s => ∃ (L : List Vl) (k : Nat) (es' : List Ed), r = enD k (es'.map Ed.d) ∧ runE l es 0 = runE L es' k ∧ L.length + es'.length ≤ 200 ∧ L.Nodup ∧ (∀ e ∈ es', e.short) ∧ (∃ a, e = ⟨[none, a, some (.loc 0), none, none, none], none⟩) ∧ s = [.lst (vD L)]) ⟨l, 0, es, rfl, rfl, by omega, hnd, hs, ⟨_, rfl⟩, rfl⟩ ?_ ?_
  · rintro d r e s ⟨L, k, es', hr, hrun, hlen, hnd, hsh, ⟨a, rfl⟩, rfl⟩
    cases es' with
    | nil => cases hr
    | cons ed es' =>
      rw [List.map_cons, en_cons] at hr
      cases hr
      have hs1 := hsh ed List.mem_cons_self
      have hi := ed_iff hnd ed
      rw [List.length_cons] at hlen
      wtm_at "evo"
      rw [c_isEditL (l := L) hs1 rfl]
      wtm_at "evo"
      cases hb : edB L ed with
      | false =>
        wtm_at "evo"
        have e1 : runE L (ed :: es') k = .inr k := by simp only [runE, hb]
        show fin true 0 (.ex "BadEdit" [("index", .int (k : Nat))] _ [.lst (vD L)]) = _
        rw [finX_at rfl (Nat.zero_le _) rfl, hrun, e1]
        rfl
      | true =>
        have hsome : (doneO L ed).isSome = true := by rw [← hi, hb]
        obtain ⟨L', hL⟩ := Option.isSome_iff_exists.mp hsome
        have e1 : runE L (ed :: es') k = runE L' es' (k + 1) := by simp only [runE, hb, hL]
        obtain ⟨hnd', hlen'⟩ := done_nd hnd hL
        have hfin : ∃ (L₁ : List Vl) (k₁ : Nat) (es₁ : List Ed), enD (k + 1) (es'.map Ed.d) = enD k₁ (es₁.map Ed.d) ∧ runE l es 0 = runE L₁ es₁ k₁ ∧ L₁.length + es₁.length ≤ 200 ∧ L₁.Nodup ∧ (∀ e ∈ es₁, e.short) ∧ (∃ a, (⟨[none, none, some (.loc 0), none, none, none], none⟩ : Ev) = ⟨[none, a, some (.loc 0), none, none, none], none⟩) ∧ [O.lst (vD L')] = [O.lst (vD L₁)] :=
          ⟨L', k + 1, es', rfl, by rw [hrun, e1], by omega, hnd', fun e he => hsh e (List.mem_cons_of_mem _ he), ⟨_, rfl⟩, rfl⟩
        rcases ed_shape hb with ⟨x, rfl, hx⟩ | ⟨x, t, rfl, hx, ht⟩ | ⟨x, t, rfl, hx, ht⟩
        · simp only [Ed.d, Hd.d, oD', List.map_cons, List.map_nil]
          wtm_at "evo"
          obtain ⟨j, hp⟩ : ∃ j, place L x = some j := Option.isSome_iff_exists.mp (by rw [pl_mem]; exact decide_eq_true hx)
          rw [remO_vl hp]
          wtm_at "evo"
          have : L' = Ke.cutV L j := by
            have h : stepO L "drop" x [] = some L' := hL
            simp only [stepO, hp, if_true] at h
            exact (Option.some.inj h).symm
          rw [← this]
          exact hfin
        · simp only [Ed.d, Hd.d, oD', List.map_cons, List.map_nil]
          wtm_at "evo"
          have hp := place_none.mpr hx
          have hto : toO L x t = some L' := by
            have h : stepO L "put" x [t] = some L' := hL
            simpa [stepO, hp, Nn.of_inj] using h
          cases t with
          | n =>
            simp only [od_n]
            wtm_at "evo"
            rw [insO_vl (k := L.length) (by omega) (by omega)]
            wtm_at "evo"
            have : L' = L.take L.length ++ [x] ++ L.drop L.length := by
              rw [List.take_length, List.drop_length, List.append_nil]
              exact (Option.some.inj hto).symm
            rw [← this]
            exact hfin
          | v y =>
            have hy : y ∈ L := by
              simp only [tgB, Bool.and_eq_true, decide_eq_true_eq] at ht
              exact ht.1
            obtain ⟨q, hq⟩ : ∃ q, place L y = some q := Option.isSome_iff_exists.mp (by rw [pl_mem]; exact decide_eq_true hy)
            have ql := place_lt hq
            have : L' = L.take q ++ [x] ++ L.drop q := by
              simp only [toO, hq] at hto
              exact (Option.some.inj hto).symm
            simp only [od_v, is_vl]
            wtm_at "evo"
            rw [idxK_own (l := L) (x := y) (j := q) rfl ?hm hq]
            case hm => wtm_at "evo"
            wtm_at "evo"
            rw [insO_vl (k := q) (by omega) (by omega)]
            wtm_at "evo"
            rw [← this]
            exact hfin
          | _ => cases ht
        · simp only [Ed.d, Hd.d, oD', List.map_cons, List.map_nil]
          wtm_at "evo"
          obtain ⟨j, hp⟩ : ∃ j, place L x = some j := Option.isSome_iff_exists.mp (by rw [pl_mem]; exact decide_eq_true hx)
          rw [remO_vl hp]
          wtm_at "evo"
          obtain ⟨_, mem, cl⟩ := nd_cut hnd hp
          have hto : toO (Ke.cutV L j) x t = some L' := by
            have h : stepO L "move" x [t] = some L' := hL
            simpa [stepO, hp, Nn.of_inj] using h
          cases t with
          | n =>
            simp only [od_n]
            wtm_at "evo"
            rw [insO_vl (k := (Ke.cutV L j).length) (by omega) (by omega)]
            wtm_at "evo"
            have : L' = (Ke.cutV L j).take (Ke.cutV L j).length ++ [x] ++ (Ke.cutV L j).drop (Ke.cutV L j).length := by
              rw [List.take_length, List.drop_length, List.append_nil]
              exact (Option.some.inj hto).symm
            rw [← this]
            exact hfin
          | v y =>
            have hy : y ∈ (Ke.cutV L j) := by
              simp only [tgB, Bool.and_eq_true, decide_eq_true_eq] at ht
              exact (mem y).mpr ht
            obtain ⟨q, hq⟩ : ∃ q, place (Ke.cutV L j) y = some q := Option.isSome_iff_exists.mp (by rw [pl_mem]; exact decide_eq_true hy)
            have ql := place_lt hq
            have : L' = (Ke.cutV L j).take q ++ [x] ++ (Ke.cutV L j).drop q := by
              simp only [toO, hq] at hto
              exact (Option.some.inj hto).symm
            simp only [od_v, is_vl]
            wtm_at "evo"
            rw [idxK_own (l := (Ke.cutV L j)) (x := y) (j := q) rfl ?hm hq]
            case hm => wtm_at "evo"
            wtm_at "evo"
            rw [insO_vl (k := q) (by omega) (by omega)]
            wtm_at "evo"
            rw [← this]
            exact hfin
          | _ => cases ht
  · rintro e s ⟨L, k, es', hr, hrun, hlen, hnd, hsh, ⟨a, rfl⟩, rfl⟩
    have : es' = [] := by
      cases es' with
      | nil => rfl
      | cons a b => rw [List.map_cons, en_cons] at hr; cases hr
    subst this
    wtm_at "evo"
    show fin true 0 (.rt (.loc 0) [.lst (vD L)]) = _
    rw [hrun]
    show _ = R.ok (D.loc 0) [.lst (vD L)]
    rw [fin_own (k := 0) (o := .lst (vD L)) rfl (vl_lows L) (Nat.le_refl _) rfl]
    rfl
theorem edited_l {l : List Vl} {es : List Ed} (hl : l.length ≤ 100) (hnd : l.Nodup) (hs : ∀ e ∈ es, e.short) (hn : es.length ≤ 100) : mEditedo [.fl (vD l), .fl (es.map Ed.d)] [] = resE (runE l es 0) := by
  have main : (mbEdited (startM 6 [.fl (vD l), .fl (es.map Ed.d)]) []).go fun r => fin true 0 r = resE (runE l es 0) := by
    unfold mbEdited
    wtm_at "evo"
    exact edited_go hl hnd hs hn
  exact main
theorem edited_t {l : List Vl} {es : List Ed} (hl : l.length ≤ 100) (hnd : l.Nodup) (hs : ∀ e ∈ es, e.short) (hn : es.length ≤ 100) : mEditedo [.fl (vD l), .tup (es.map Ed.d)] [] = resE (runE l es 0) := by
  have main : (mbEdited (startM 6 [.fl (vD l), .tup (es.map Ed.d)]) []).go fun r => fin true 0 r = resE (runE l es 0) := by
    unfold mbEdited
    wtm_at "evo"
    exact edited_go hl hnd hs hn
  exact main
/-- what is no list and no tuple -/
inductive Ot where
  | n | s | d | i | b
def Ot.d' : Ot → D
  | .n => .non
  | .s => .str "drop"
  | .d => .fd [.inr "drop"] [.int 1]
  | .i => .int 3
  | .b => .bl true
theorem Ot.low (o : Ot) : Nn.low o.d' = true := by cases o <;> rfl
theorem edited_o {l : List Vl} {o : Ot} : mEditedo [.fl (vD l), o.d'] [] = .ex "BadEdit" [("index", .int (-1))] [] := by
  have main : (mbEdited (startM 6 [.fl (vD l), o.d']) []).go fun r => fin true 0 r = .ex "BadEdit" [("index", .int (-1))] [] := by
    unfold mbEdited
    cases o <;> simp only [Ot.d'] <;> wtm_at "evo" <;> exact finX_at rfl (Nat.zero_le _) rfl
  exact main
theorem eds_low : ∀ es : List Ed, Nn.lows (es.map Ed.d) = true
  | [] => rfl
  | e :: es => by rw [List.map_cons, Nn.lows_cons, e.low, eds_low es]; rfl
/-- the call, as it ends -/
theorem c_edited {st : S} {l : List Vl} {r : List Vl ⊕ Nat} {pd : D} (hp : Nn.low pd = true) (h : mEditedo [.fl (vD l), pd] [] = resE r) : callF [false, false] mEditedo [.fl (vD l), pd] st = (match r with
    | .inl l' => .ok (.loc st.length) (st ++ [.lst (vD l')])
    | .inr k => .ex "BadEdit" [("index", .int (k : Nat))] st) := by
  have pb : pureB [false, false] [.fl (vD l), pd] = true := by
    show (Nn.low (.fl (vD l)) && (Nn.low pd && true)) = true
    rw [hp, Nn.low_fl, vl_lows]
    rfl
  cases r with
  | inl l' => exact call_own pb h (vl_lows l')
  | inr k => exact call_raise pb h rfl
theorem c_editedO {st : S} {l : List Vl} {o : Ot} : callF [false, false] mEditedo [.fl (vD l), o.d'] st = .ex "BadEdit" [("index", .int (-1))] st := by
  have pb : pureB [false, false] [.fl (vD l), o.d'] = true := by
    show (Nn.low (.fl (vD l)) && (Nn.low o.d' && true)) = true
    rw [o.low, Nn.low_fl, vl_lows]
    rfl
  exact call_raise pb edited_o rfl

end Ke
namespace Ke
open PySem PySem.Spec PyProof.Rows L2 Lb Nn
theorem ofS_inj {s t : String} (h : Str.ofString s = Str.ofString t) : s = t := Nn.of_inj.mp h
def sI (z : Int) : Str := Str.ofString (toString z)
theorem sI_inj {i j : Int} (h : sI i = sI j) : i = j := Int.repr_inj.mp (ofS_inj h)
theorem str_int {z : Int} {st : S} (h : z.natAbs < 2 ^ 100) : fStr [.int z] st = .ok (.str (sI z)) st := by
  have hh : z.natAbs.log2 < 1920 := by
    have : z.natAbs.log2 < 100 ∨ z.natAbs = 0 := by
      by_cases h0 : z.natAbs = 0
      · exact .inr h0
      · exact .inl ((Nat.log2_lt h0).mpr h)
    rcases this with h | h
    · omega
    · rw [h]; decide
  unfold fStr
  dsimp only
  rw [if_pos hh]
  rfl
theorem pow_24 {st : S} : fPow (.int 10) (.int 24) st = .ok (.int 1000000000000000000000000) st := rfl
/-- a value as the law makes it -/
def Vl.ok : Vl → Prop
  | .i z => z.natAbs < 2 ^ 99
  | .s x => ∃ z : Int, z.natAbs < 2 ^ 99 ∧ x = sI z
/-- .. of the k-th turn -/
def Vl.of (x : Vl) (k : Nat) : Prop := ∃ z : Int, z.natAbs % 100 = k ∧ z.natAbs < 2 ^ 95 ∧ (x = .i z ∨ x = .s (sI z))
theorem Vl.of.ok {x : Vl} {k : Nat} (h : x.of k) : x.ok := by
  obtain ⟨z, _, h2, rfl | rfl⟩ := h
  · show z.natAbs < 2 ^ 99
    omega
  · exact ⟨z, by omega, rfl⟩
theorem Vl.of_ne {x y : Vl} {k j : Nat} (h : x.of k) (h' : y.of j) (n : k ≠ j) : x ≠ y := by
  rintro rfl
  obtain ⟨z, z1, _, z2⟩ := h
  obtain ⟨w, w1, _, w2⟩ := h'
  have : z = w := by
    rcases z2 with rfl | rfl <;> rcases w2 with q | q
    · exact Vl.i.inj q
    · cases q
    · cases q
    · exact sI_inj (Vl.s.inj q)
  rw [this] at z1
  omega

end Ke
namespace Ke
open PySem PySem.Spec PyProof.Rows L2 Lb Nn
local macro_rules | `(tactic| wtm_at "ev") => `(tactic| simp only [Nn.seq_ap, Nn.next_ap, Nn.brk_ap, Nn.cnt_ap, Nn.var_ap, Nn.varK_ok, Nn.c_ap, Nn.m2_ap, Nn.m2K_ap, Nn.m2J_ap, Nn.m1_ap, Nn.mB_ap, Nn.mBK_ap, Nn.and_ap, Nn.or_ap, Nn.not_ap, Nn.andK_T, Nn.andK_F, Nn.orK_T, Nn.orK_F, Nn.notK_ap, Nn.andV_ap, Nn.orV_ap, Nn.notV_ap, Nn.ifE_ap, Nn.andVK_T, Nn.andVK_F, Nn.orVK_T, Nn.orVK_F, Nn.notVK_ap, Nn.ifEK_T, Nn.ifEK_F, Nn.nil_ap, Nn.cons_ap, Nn.consK_ap, Nn.consJ_ap, Nn.star_ap, Nn.starJ_ap, Nn.starK_tup, Nn.starK_tuf, Nn.starK_fl, Nn.starK_lc, Nn.starO_lst, Nn.lcL_nil, Nn.loopP_nil, List.append_nil,  Nn.tup_ap, Nn.lst_ap, Nn.newL_T, Nn.newL_F, Nn.newD_T, Nn.newD_F, Nn.dnew_ap, Nn.cb_ap, Nn.call_ap, Nn.callD_ap, Nn.callDD, Nn.dyn_nil, Nn.dyn_F, Nn.dyn_loc, Nn.dyn_fd, Nn.dyn_fl, Nn.dyn_tup, Nn.dyn_non, Nn.disp_ap, Nn.prs_nil, Nn.prs_cons, Nn.prA_ap, Nn.prB_ap, Nn.prC_str, Nn.prC_int, Nn.dispK_1, Nn.tr_ap, Nn.trK_bl, Nn.asg_ap, Nn.asgK_ap, Nn.asgJ_ok, Nn.gnm_ap, Nn.gkl_ap, Nn.ret_ap, Nn.retK_ap, Nn.retN_ap, Nn.drop_ap, Nn.dropK_ap, Nn.if_ap, Nn.ifK_T, Nn.ifK_F, Nn.kl_ap, Nn.klK_ap, Nn.wipe_nil, Nn.wipe_cons, Nn.put_mk, Nn.start_mk, Nn.for_ap, Nn.forK_ap, Nn.itP_l, Nn.it_ap, Nn.itK_tup, Nn.itK_tuf, Nn.itK_fl, Nn.itK_sc, Nn.itK_fd, Nn.itK_lc, Nn.revA_ap, Nn.revAK_tup, Nn.revAK_tuf, Nn.revAK_fl, List.reverse_cons, List.reverse_nil, Nn.itO_lst, Nn.itL_l, Nn.loopP_consG, Nn.lpC_ok, Nn.turn_nx, Nn.turn_ct, Nn.turn_rt, Nn.turn_bk, Nn.lcL_consG, Nn.lcC1_ap, Nn.lcC2_T, Nn.lcC2_F, Nn.gtp_tup, Nn.gtK_ok, Nn.gcn_ap, Nn.gcJ_ap, Nn.gnl_ap, Nn.en_nil, Nn.en_cons, Nn.sl_tup, Nn.sl_fl, Nn.cut_d1, Nn.cut_d2, Nn.cut_t1, Nn.cut_t2, List.take_succ_cons, List.take_zero, List.drop_succ_cons, List.drop_zero, List.take_nil, List.drop_nil, Nn.itK_str, Nn.range1_ap, Nn.enum_ap, Nn.enK_tup, Nn.enK_tuf, Nn.enK_fl, Nn.lc_ap, Nn.lcK_ap, Nn.newLK_ap, Nn.yes_ap, Nn.blk_ap, Nn.blkK_nx, Nn.blkK_ct, Nn.blkK_bk, Nn.blkK_rt, Nn.blkO_some, Nn.cons2_some, Nn.frzE_nil, Nn.frzE_none, Nn.frzE_cons, Nn.frzS_nil, Nn.frzS_cons, Nn.app2_some, Option.map_some, List.take_succ_cons, Nn.bind_ok, Nn.bindS_ok, Nn.bindN_nx, Nn.bindN_rt, Nn.bindN_ct, Nn.bindN_bk, Nn.bind_bind, Nn.bind_bindS, Nn.bindS_bindN, Nn.bindN_bindN, Nn.bbK_ap, Nn.bsK_ap, Nn.snK_ap, Nn.nnK_ap, Nn.aug_ap, Nn.augK_ap, Nn.augI_ap, Nn.augJ_ap, Nn.bl_ap, Nn.blK_ap, Nn.blO_ap, Nn.blJ_ap, Nn.index_ap, Nn.idxK_tuf, Nn.idxK_fl, Nn.join_ap, Nn.joinK_ap, Nn.fld_ap, Nn.sfld_ap, Nn.sfK_ap, Nn.mkF_ap, Nn.part_ap, Nn.partK_ap, Nn.noPart_ap, Nn.sl_ap, Nn.slA_ap, Nn.slB_ap, Nn.slC_ap, Nn.at0, Nn.at1, Nn.at2, Nn.at3, Nn.at4, Nn.at5, Nn.at6, Nn.at7, Nn.at8, Nn.at9, Nn.oD_some, Nn.ix_tup, Nn.ix_tuf, Nn.ix_fl, Nn.ix_sc, Nn.ix_lc, Nn.ixO_lst, Nn.ixO_dic, Nn.ixO_dicI, Nn.gsb_ap, Nn.okB_ok, Nn.gsA_ap, Nn.gsC_ap, Nn.gsE_ap, Nn.set_lc, Nn.setO_lst, Nn.setJ_some, Nn.ixN_L0, Nn.ixN_L1, Nn.ixN_L2, Nn.ixN_L3, Nn.ixN_L4, Nn.ixN_L5, Nn.add_int, Nn.sub_int, Nn.neg_int, Nn.lt_int, Nn.le_int, Nn.gt_int, Nn.ge_int, Nn.eq_int, Nn.eq_str, Nn.eq_bl, Nn.is_non, Nn.is_tup, Nn.is_str, Nn.is_int, Nn.is_bl, Nn.int_int, Nn.int_bl, Nn.abs_int, Nn.len_tup, Nn.len_tuf, Nn.len_fl, Nn.len_sc, Nn.len_lc, Nn.lenQ_lst, Nn.lenQ_dic, Nn.tuple_fl, Nn.tuple_lc, Nn.tupO_lst, Nn.sl_lc, Nn.slO_lst, Nn.min2_int, Nn.lstRg_ap, Nn.tupleF_fl, Nn.isi_ap, Nn.ty_non, Nn.ty_bl, Nn.ty_int, Nn.ty_str, Nn.ty_tup, Nn.ty_tuf, Nn.ty_fl, Nn.ty_sc, Nn.ty_fd, Nn.ty_lc, Nn.tyO_lst, Nn.tyO_dic, Nn.isO_NoneType_bool, Nn.isO_NoneType_int, Nn.isO_NoneType_str, Nn.isO_NoneType_tuple, Nn.isO_NoneType_list, Nn.isO_NoneType_dict, Nn.isO_bool_bool, Nn.isO_bool_int, Nn.isO_bool_str, Nn.isO_bool_tuple, Nn.isO_bool_list, Nn.isO_bool_dict, Nn.isO_int_bool, Nn.isO_int_int, Nn.isO_int_str, Nn.isO_int_tuple, Nn.isO_int_list, Nn.isO_int_dict, Nn.isO_str_bool, Nn.isO_str_int, Nn.isO_str_str, Nn.isO_str_tuple, Nn.isO_str_list, Nn.isO_str_dict, Nn.isO_tuple_bool, Nn.isO_tuple_int, Nn.isO_tuple_str, Nn.isO_tuple_tuple, Nn.isO_tuple_list, Nn.isO_tuple_dict, Nn.isO_list_bool, Nn.isO_list_int, Nn.isO_list_str, Nn.isO_list_tuple, Nn.isO_list_list, Nn.isO_list_dict, Nn.isO_dict_bool, Nn.isO_dict_int, Nn.isO_dict_str, Nn.isO_dict_tuple, Nn.isO_dict_list, Nn.isO_dict_dict, Nn.chain_ap, Nn.chA_ap, Nn.chB_ap, Nn.chC_T, Nn.chC_F, Nn.chD_ap, Nn.trK_gen, Nn.trO_some, Nn.tru_tup, Nn.tru_fl, Nn.tru_non, Nn.tru_bl, Nn.tru_int, Nn.emp_nil, Nn.emp_cons, Nn.emp_map, Nn.all_nil, Nn.sum_nil, Nn.ix_fdM, Nn.in_fdM, Nn.lookD_cons, Nn.fldK_foG, Nn.fldC_T, Nn.cont1, Nn.fldO_gen, Nn.fldP_some, Nn.sfJ_lc, Nn.putFD_nil, Nn.putFD_cons, Nn.kd_str, Nn.in_lc, Nn.inO_strs, Nn.in_tupS, Nn.in_tufS, Nn.in_flS, Nn.ap_lc, Nn.pop_lc, Nn.popO_snoc, Nn.rev_lc, Nn.revO_lst, Nn.rem_lc, Nn.ex_lc, Nn.ins_lc, Nn.list_tup, Nn.list_tuf, Nn.list_fl, Nn.list_sc, Nn.list_lc, Nn.lsO_lst, Nn.eq_non, Nn.eq_strI, List.map_cons, List.map_nil, List.length_cons, List.length_nil, List.replicate_succ, List.replicate_zero, List.set_cons_zero, List.set_cons_succ, List.getElem?_cons_zero, List.getElem?_cons_succ, List.cons_append, List.nil_append, Nat.reduceAdd, Nat.reduceSub, Nat.zero_add, if_true, if_false, ↓reduceIte, reduceCtorEq, Bool.false_eq_true, Nn.sat_ok, Nn.of_inj, Nn.in_sign, Int.reduceLE, Int.reduceLT, Int.reduceGT, Int.reduceGE, Int.reduceEq, Int.reduceNe, Nn.cast_0, Nn.cast_1, Nn.cast_2, Nn.cast_3, Nn.cast_4, Nn.cast_5, Nn.cast_6, Nn.cast_7, Nn.cast_8, Nn.cast_9, Nn.cast_10, Nn.cast_11, Nn.cast_12, Nn.cast_13, Nn.cast_14, Nn.cast_15, Nn.cast_16, Nn.cast_17, Nn.cast_18, Nn.cast_19, Nn.cast_20, Nn.cast_21, Nn.cast_22, Nn.cast_23, Nn.cast_24, Nn.cast_25, Nn.cast_26, Nn.cast_27, Nn.cast_28, Nn.cast_29, Nn.cast_30, Nn.cast_31, Nn.cast_32, Nn.cast_33, Nn.cast_34, Nn.cast_35, Nn.cast_36, Nn.cast_37, Nn.cast_38, Nn.cast_39, Nn.cast_40, Int.reduceAdd, Int.reduceSub, not_true_eq_false, not_false_eq_true, String.reduceEq, String.reduceNe, eq_self, decide_true, decide_false, Nn.ng, Nn.nd_dec, Nn.pow_18, Nn.pow_20, List.length_map, Bool.not_true, Bool.not_false])
local macro_rules | `(tactic| wtm_at "evo") => `(tactic| simp -implicitDefEqProofs (disch := first | assumption | omega | (refine Nn.okR_small ?_; omega) | (simp only [List.length_cons, List.length_nil, List.length_map, List.length_append]; omega) | (simp only [vl_lows, od_lows, Vl.low, Od.low, Hd.low, Ed.low, bagO_low, Nn.lows_nil, Nn.lows_cons, Nn.low_non, Nn.low_bl, Nn.low_int, Nn.low_str, Nn.low_ty, Nn.low_tup, Nn.low_tuf, Nn.low_fl, Nn.low_sc, Nn.low_fd, Nn.low_fo, Nn.lows_str, Nn.lows_int, Nn.lows_app, Nn.lowO_strs, Nn.lowO_ints, Nn.lowO_l, Nn.lowO_d, Nn.lowO_i, Bool.and_true, Bool.and_self, Bool.true_and, List.all_cons, List.all_nil, List.map_cons, List.map_nil]; done) | decide) only [in_vl, eq_vl, ty_vl, isO_vlS, isO_vlI, isO_vlB, od_v, pow_24, Nn.mul_int, Nn.mod_int, Nn.div_int, Nn.lstK_ap, Nn.rgLK_ap, Nn.blkE_ap, Nn.frz_low, Nn.frz_lt, Nn.frzO_low, Nn.lcC3_ap, Nn.apO_lst, Nn.len_str, Nn.sfO_ins1, Nn.exO_lst, Nn.tupK_ap, Nn.rg1K_ap, Nn.okR_small, Nn.seq_ap, Nn.next_ap, Nn.brk_ap, Nn.cnt_ap, Nn.var_ap, Nn.varK_ok, Nn.c_ap, Nn.m2_ap, Nn.m2K_ap, Nn.m2J_ap, Nn.m1_ap, Nn.mB_ap, Nn.mBK_ap, Nn.and_ap, Nn.or_ap, Nn.not_ap, Nn.andK_T, Nn.andK_F, Nn.orK_T, Nn.orK_F, Nn.notK_ap, Nn.andV_ap, Nn.orV_ap, Nn.notV_ap, Nn.ifE_ap, Nn.andVK_T, Nn.andVK_F, Nn.orVK_T, Nn.orVK_F, Nn.notVK_ap, Nn.ifEK_T, Nn.ifEK_F, Nn.nil_ap, Nn.cons_ap, Nn.consK_ap, Nn.consJ_ap, Nn.star_ap, Nn.starJ_ap, Nn.starK_tup, Nn.starK_tuf, Nn.starK_fl, Nn.starK_lc, Nn.starO_lst, Nn.lcL_nil, Nn.loopP_nil, List.append_nil,  Nn.tup_ap, Nn.lst_ap, Nn.newL_T, Nn.newL_F, Nn.newD_T, Nn.newD_F, Nn.dnew_ap, Nn.cb_ap, Nn.call_ap, Nn.callD_ap, Nn.callDD, Nn.dyn_nil, Nn.dyn_F, Nn.dyn_loc, Nn.dyn_fd, Nn.dyn_fl, Nn.dyn_tup, Nn.dyn_non, Nn.disp_ap, Nn.prs_nil, Nn.prs_cons, Nn.prA_ap, Nn.prB_ap, Nn.prC_str, Nn.prC_int, Nn.dispK_1, Nn.tr_ap, Nn.trK_bl, Nn.asg_ap, Nn.asgK_ap, Nn.asgJ_ok, Nn.gnm_ap, Nn.gkl_ap, Nn.ret_ap, Nn.retK_ap, Nn.retN_ap, Nn.drop_ap, Nn.dropK_ap, Nn.if_ap, Nn.ifK_T, Nn.ifK_F, Nn.kl_ap, Nn.klK_ap, Nn.wipe_nil, Nn.wipe_cons, Nn.put_mk, Nn.start_mk, Nn.for_ap, Nn.forK_ap, Nn.itP_l, Nn.it_ap, Nn.itK_tup, Nn.itK_tuf, Nn.itK_fl, Nn.itK_sc, Nn.itK_fd, Nn.itK_lc, Nn.revA_ap, Nn.revAK_tup, Nn.revAK_tuf, Nn.revAK_fl, List.reverse_cons, List.reverse_nil, Nn.itO_lst, Nn.itL_l, Nn.loopP_consG, Nn.lpC_ok, Nn.turn_nx, Nn.turn_ct, Nn.turn_rt, Nn.turn_bk, Nn.lcL_consG, Nn.lcC1_ap, Nn.lcC2_T, Nn.lcC2_F, Nn.gtp_tup, Nn.gtK_ok, Nn.gcn_ap, Nn.gcJ_ap, Nn.gnl_ap, Nn.en_nil, Nn.en_cons, Nn.sl_tup, Nn.sl_fl, Nn.cut_d1, Nn.cut_d2, Nn.cut_t1, Nn.cut_t2, List.take_succ_cons, List.take_zero, List.drop_succ_cons, List.drop_zero, List.take_nil, List.drop_nil, Nn.itK_str, Nn.range1_ap, Nn.enum_ap, Nn.enK_tup, Nn.enK_tuf, Nn.enK_fl, Nn.lc_ap, Nn.lcK_ap, Nn.newLK_ap, Nn.yes_ap, Nn.blk_ap, Nn.blkK_nx, Nn.blkK_ct, Nn.blkK_bk, Nn.blkK_rt, Nn.blkO_some, Nn.cons2_some, Nn.frzE_nil, Nn.frzE_none, Nn.frzE_cons, Nn.frzS_nil, Nn.frzS_cons, Nn.app2_some, Option.map_some, List.take_succ_cons, Nn.bind_ok, Nn.bindS_ok, Nn.bindN_nx, Nn.bindN_rt, Nn.bindN_ct, Nn.bindN_bk, Nn.bind_bind, Nn.bind_bindS, Nn.bindS_bindN, Nn.bindN_bindN, Nn.bbK_ap, Nn.bsK_ap, Nn.snK_ap, Nn.nnK_ap, Nn.aug_ap, Nn.augK_ap, Nn.augI_ap, Nn.augJ_ap, Nn.bl_ap, Nn.blK_ap, Nn.blO_ap, Nn.blJ_ap, Nn.index_ap, Nn.idxK_tuf, Nn.idxK_fl, Nn.join_ap, Nn.joinK_ap, Nn.fld_ap, Nn.sfld_ap, Nn.sfK_ap, Nn.mkF_ap, Nn.part_ap, Nn.partK_ap, Nn.noPart_ap, Nn.sl_ap, Nn.slA_ap, Nn.slB_ap, Nn.slC_ap, Nn.at0, Nn.at1, Nn.at2, Nn.at3, Nn.at4, Nn.at5, Nn.at6, Nn.at7, Nn.at8, Nn.at9, Nn.oD_some, Nn.ix_tup, Nn.ix_tuf, Nn.ix_fl, Nn.ix_sc, Nn.ix_lc, Nn.ixO_lst, Nn.ixO_dic, Nn.ixO_dicI, Nn.gsb_ap, Nn.okB_ok, Nn.gsA_ap, Nn.gsC_ap, Nn.gsE_ap, Nn.set_lc, Nn.setO_lst, Nn.setJ_some, Nn.ixN_L0, Nn.ixN_L1, Nn.ixN_L2, Nn.ixN_L3, Nn.ixN_L4, Nn.ixN_L5, Nn.add_int, Nn.sub_int, Nn.neg_int, Nn.lt_int, Nn.le_int, Nn.gt_int, Nn.ge_int, Nn.eq_int, Nn.eq_str, Nn.eq_bl, Nn.is_non, Nn.is_tup, Nn.is_str, Nn.is_int, Nn.is_bl, Nn.int_int, Nn.int_bl, Nn.abs_int, Nn.len_tup, Nn.len_tuf, Nn.len_fl, Nn.len_sc, Nn.len_lc, Nn.lenQ_lst, Nn.lenQ_dic, Nn.tuple_fl, Nn.tuple_lc, Nn.tupO_lst, Nn.sl_lc, Nn.slO_lst, Nn.min2_int, Nn.lstRg_ap, Nn.tupleF_fl, Nn.isi_ap, Nn.ty_non, Nn.ty_bl, Nn.ty_int, Nn.ty_str, Nn.ty_tup, Nn.ty_tuf, Nn.ty_fl, Nn.ty_sc, Nn.ty_fd, Nn.ty_lc, Nn.tyO_lst, Nn.tyO_dic, Nn.isO_NoneType_bool, Nn.isO_NoneType_int, Nn.isO_NoneType_str, Nn.isO_NoneType_tuple, Nn.isO_NoneType_list, Nn.isO_NoneType_dict, Nn.isO_bool_bool, Nn.isO_bool_int, Nn.isO_bool_str, Nn.isO_bool_tuple, Nn.isO_bool_list, Nn.isO_bool_dict, Nn.isO_int_bool, Nn.isO_int_int, Nn.isO_int_str, Nn.isO_int_tuple, Nn.isO_int_list, Nn.isO_int_dict, Nn.isO_str_bool, Nn.isO_str_int, Nn.isO_str_str, Nn.isO_str_tuple, Nn.isO_str_list, Nn.isO_str_dict, Nn.isO_tuple_bool, Nn.isO_tuple_int, Nn.isO_tuple_str, Nn.isO_tuple_tuple, Nn.isO_tuple_list, Nn.isO_tuple_dict, Nn.isO_list_bool, Nn.isO_list_int, Nn.isO_list_str, Nn.isO_list_tuple, Nn.isO_list_list, Nn.isO_list_dict, Nn.isO_dict_bool, Nn.isO_dict_int, Nn.isO_dict_str, Nn.isO_dict_tuple, Nn.isO_dict_list, Nn.isO_dict_dict, Nn.chain_ap, Nn.chA_ap, Nn.chB_ap, Nn.chC_T, Nn.chC_F, Nn.chD_ap, Nn.trK_gen, Nn.trO_some, Nn.tru_tup, Nn.tru_fl, Nn.tru_non, Nn.tru_bl, Nn.tru_int, Nn.emp_nil, Nn.emp_cons, Nn.emp_map, Nn.all_nil, Nn.sum_nil, Nn.ix_fdM, Nn.in_fdM, Nn.lookD_cons, Nn.fldK_foG, Nn.fldC_T, Nn.cont1, Nn.fldO_gen, Nn.fldP_some, Nn.sfJ_lc, Nn.putFD_nil, Nn.putFD_cons, Nn.kd_str, Nn.in_lc, Nn.inO_strs, Nn.in_tupS, Nn.in_tufS, Nn.in_flS, Nn.ap_lc, Nn.pop_lc, Nn.popO_snoc, Nn.rev_lc, Nn.revO_lst, Nn.rem_lc, Nn.ex_lc, Nn.ins_lc, Nn.list_tup, Nn.list_tuf, Nn.list_fl, Nn.list_sc, Nn.list_lc, Nn.lsO_lst, Nn.eq_non, Nn.eq_strI, List.map_cons, List.map_nil, List.length_cons, List.length_nil, List.replicate_succ, List.replicate_zero, List.set_cons_zero, List.set_cons_succ, List.getElem?_cons_zero, List.getElem?_cons_succ, List.cons_append, List.nil_append, Nat.reduceAdd, Nat.reduceSub, Nat.zero_add, if_true, if_false, ↓reduceIte, reduceCtorEq, Bool.false_eq_true, Nn.sat_ok, Nn.of_inj, Nn.in_sign, Int.reduceLE, Int.reduceLT, Int.reduceGT, Int.reduceGE, Int.reduceEq, Int.reduceNe, Nn.cast_0, Nn.cast_1, Nn.cast_2, Nn.cast_3, Nn.cast_4, Nn.cast_5, Nn.cast_6, Nn.cast_7, Nn.cast_8, Nn.cast_9, Nn.cast_10, Nn.cast_11, Nn.cast_12, Nn.cast_13, Nn.cast_14, Nn.cast_15, Nn.cast_16, Nn.cast_17, Nn.cast_18, Nn.cast_19, Nn.cast_20, Nn.cast_21, Nn.cast_22, Nn.cast_23, Nn.cast_24, Nn.cast_25, Nn.cast_26, Nn.cast_27, Nn.cast_28, Nn.cast_29, Nn.cast_30, Nn.cast_31, Nn.cast_32, Nn.cast_33, Nn.cast_34, Nn.cast_35, Nn.cast_36, Nn.cast_37, Nn.cast_38, Nn.cast_39, Nn.cast_40, Int.reduceAdd, Int.reduceSub, not_true_eq_false, not_false_eq_true, String.reduceEq, String.reduceNe, eq_self, decide_true, decide_false, Nn.ng, Nn.nd_dec, Nn.pow_18, Nn.pow_20, List.length_map, Bool.not_true, Bool.not_false])
local macro_rules | `(tactic| wtm_at "br") => `(tactic| first | refine go_ifDN ?_ ?_ | refine go_ifD ?_ ?_ | refine go_bindS (sat_andD ?_ ?_) | refine go_bindS (sat_orD ?_ ?_) | refine go_bindS (sat_andVD ?_ ?_) | refine go_bindS (sat_orVD ?_ ?_) | refine go_bindS (sat_ifD ?_ ?_) | refine sat_bind (sat_andD ?_ ?_) | refine sat_bind (sat_orD ?_ ?_) | refine sat_bind (sat_andVD ?_ ?_) | refine sat_bind (sat_orVD ?_ ?_) | refine sat_bind (sat_ifD ?_ ?_) | refine go_ifN ?_ ?_ | refine go_if ?_ ?_ | refine go_bindS (sat_andB ?_ ?_) | refine go_bindS (sat_orB ?_ ?_) | refine go_bindS (sat_andVB ?_ ?_) | refine go_bindS (sat_orVB ?_ ?_) | refine go_bindS (sat_ifB ?_ ?_) | refine go_bindS (sat_chDec ?_ ?_) | refine sat_bind (sat_chDec ?_ ?_) | refine sat_chDec ?_ ?_ | refine sat_andD ?_ ?_ | refine sat_orD ?_ ?_ | refine sat_andVD ?_ ?_ | refine sat_orVD ?_ ?_ | refine sat_ifD ?_ ?_ | refine sat_andB ?_ ?_ | refine sat_orB ?_ ?_ | refine sat_andVB ?_ ?_ | refine sat_orVB ?_ ?_ | refine sat_ifB ?_ ?_ | fail)
local macro_rules | `(tactic| wtm_at "dr0") => `(tactic| ((first | refine go_bindS (draw_call (by rfl) (by assumption) (by omega) (by omega) (by omega) ?_) | refine sat_bind (draw_call (by rfl) (by assumption) (by omega) (by omega) (by omega) ?_) | refine draw_call (by rfl) (by assumption) (by omega) (by omega) (by omega) ?_ | fail); intro _ _ _ _ _ _ _; simp only [List.set_cons_zero, List.set_cons_succ]; try wtm_at "evo"))
local macro_rules | `(tactic| wtm_at "wd") => `(tactic| ((with_reducible first | refine word_bindS ?_ ?_ ?_ | refine word_bind ?_ ?_ ?_ | refine word_sat ?_ ?_ ?_ | fail); (focus omega); (focus omega); intro _ _; try wtm_at "evo"))
local macro_rules | `(tactic| wtm_at "dr") => `(tactic| first | wtm_at "dr0" | wtm_at "wd" | fail)
local macro_rules | `(tactic| wtm_at "brs") => `(tactic| (wtm_at "br" <;> (intro _; try wtm_at "evo")))
local macro_rules | `(tactic| wtm_at "all") => `(tactic| ((try wtm_at "evo"); repeat' (first | wtm_at "dr" | wtm_at "brs")))
local macro_rules | `(tactic| wtm_at "drs") => `(tactic| ((try wtm_at "evo"); repeat' wtm_at "dr"))
local macro_rules | `(tactic| wtm_at "low") => `(tactic| first | rfl | (simp only [vl_lows, od_lows, Vl.low, Od.low, Hd.low, Ed.low, bagO_low, Nn.lows_nil, Nn.lows_cons, Nn.low_non, Nn.low_bl, Nn.low_int, Nn.low_str, Nn.low_ty, Nn.low_tup, Nn.low_tuf, Nn.low_fl, Nn.low_sc, Nn.low_fd, Nn.low_fo, Nn.lows_str, Nn.lows_int, Nn.lows_app, Nn.lowO_strs, Nn.lowO_ints, Nn.lowO_l, Nn.lowO_d, Nn.lowO_i, Bool.and_true, Bool.and_self, Bool.true_and, List.all_cons, List.all_nil, List.map_cons, List.map_nil, poolO_low, List.take_succ_cons, List.take_zero]; done) | fail)

theorem value_sat {p : Bag} {k : Nat} {Q : D → S → Prop} (hp : p.ok) (hn : p.n ≤ 100000) (hk : k < 100) (h : ∀ x p', Vl.of x k → p'.ok → p.n ≤ p'.n → p'.n ≤ p.n + 3 → Q x.d [bagO p']) : (mLValue [.loc 0, .int (k : Nat)] [bagO p]).sat Q := by
  refine def_sat ?_
  unfold mbLValue
  wtm_at "all"
  all_goals
    try rw [str_int (by omega)]
    try wtm_at "evo"
    first
      | exact go_end1 rfl (bagO_low _) (h (.s (sI _)) _ ⟨_, by omega, by omega, .inr rfl⟩ (by assumption) (by omega) (by omega))
      | exact go_end1 rfl (bagO_low _) (h (.i _) _ ⟨_, by omega, by omega, .inl rfl⟩ (by assumption) (by omega) (by omega))
theorem value_call {st : S} {n k : Nat} {p : Bag} {Q : D → S → Prop} (hst : st[n]? = some (bagO p)) (hp : p.ok) (hn : p.n ≤ 100000) (hk : k < 100) (h : ∀ x p', Vl.of x k → p'.ok → p.n ≤ p'.n → p'.n ≤ p.n + 3 → Q x.d (st.set n (bagO p'))) : (callF [true, false] mLValue [.loc n, .int (k : Nat)] st).sat Q :=
  call_1 hst (bagO_low p) rfl (value_sat hp hn hk fun x p' h1 h2 h3 h4 => ⟨_, rfl, x.low, bagO_low p', h x p' h1 h2 h3 h4⟩)
theorem lo2 {p : Bag} {l : List Vl} : [bagO p, O.lst (vD l)].all lowO = true := by
  show (lowO (bagO p) && (Nn.lows (vD l) && true)) = true
  rw [bagO_low, vl_lows]
  rfl
theorem put_sat {p : Bag} {row : List Vl} {x : Vl} {sh : Int} {Q : D → S → Prop} (hp : p.ok) (hn : p.n ≤ 100000) (hr : row.length ≤ 1000) (h : ∀ (j : Nat) p', j ≤ row.length → p'.ok → p.n ≤ p'.n → p'.n ≤ p.n + 1 → Q .non [bagO p', .lst (vD (row.take j ++ [x] ++ row.drop j))]) : (mLPutIn [.loc 0, .loc 1, x.d, .int sh] [bagO p, .lst (vD row)]).sat Q := by
  refine def_sat ?_
  unfold mbLPutIn
  have fin2 : ∀ (j : Nat) p', j ≤ row.length → p'.ok → p.n ≤ p'.n → p'.n ≤ p.n + 1 → (Rt.nx ⟨[none, none, none, none, none], none⟩ [bagO p', .lst (vD (row.take j ++ [x] ++ row.drop j))]).go fun r => (fin false 2 r).sat Q := fun j p' h1 h2 h3 h4 =>
    go_endX (m := 2) (Nat.le_refl _) lo2 (h j p' h1 h2 h3 h4)
  wtm_at "drs"
  rename_i d p1 d0 d1 ok1 lo1 hi1
  wtm_at "all"
  all_goals
    first
      | rw [insO_vl (k := row.length) (by omega) (by omega)]
      | rw [show (0 : Int) = ((0 : Nat) : Int) from rfl, insO_vl (k := 0) (by omega) (by omega)]
      | (obtain ⟨j, rfl⟩ : ∃ j : Nat, d = (j : Int) := ⟨d.toNat, by omega⟩
         rw [insO_vl (k := j) (by omega) (by omega)])
    generalize hG : vD (List.take _ row ++ [x] ++ List.drop _ row) = G
    wtm_at "evo"
    rw [← hG]
    exact fin2 _ _ (by omega) ok1 (by omega) (by omega)
theorem put_call {st : S} {n k : Nat} {p : Bag} {row : List Vl} {x : Vl} {sh : Int} {Q : D → S → Prop} (hst : st[n]? = some (bagO p)) (hsk : st[k]? = some (.lst (vD row))) (hne : n ≠ k) (hp : p.ok) (hn : p.n ≤ 100000) (hr : row.length ≤ 1000) (h : ∀ (j : Nat) p', j ≤ row.length → p'.ok → p.n ≤ p'.n → p'.n ≤ p.n + 1 → Q .non ((st.set n (bagO p')).set k (.lst (vD (row.take j ++ [x] ++ row.drop j))))) : (callF [true, true, false, false] mLPutIn [.loc n, .loc k, x.d, .int sh] st).sat Q := by
  have lb : lowO (.lst (vD row)) = true := vl_lows row
  have hx : fz (fun q => !([n, k].contains q)) false st x.d = some x.d := by unfold fz; rw [if_pos x.low]
  refine call_at (ps := [n, k]) (mini := [bagO p, .lst (vD row)]) (ds' := [.loc 0, .loc 1, x.d, .int sh]) rfl ?_ ?_ ?_ ?_
  · simp [nodupB, hne]
  · unfold minis minis minis
    rw [hst, hsk]
    simp only [bagO_low, lb, if_true]
  · simp only [mArgs, hx]
    rfl
  · refine put_sat hp hn hr fun j p' h1 h2 h3 h4 => ⟨rfl, (fun q => ?_), lo2, rfl, ?_⟩
    · have : lentB [true, true, false, false] [.loc n, .loc k, x.d, .int sh] = false := by
        unfold lentB lentB lentB lentB lentB
        rw [x.low]
        rfl
      rw [this] at q
      cases q
    · exact h j p' h1 h2 h3 h4

end Ke
namespace Ke
open PySem PySem.Spec PyProof.Rows L2 Lb Nn
local macro_rules | `(tactic| wtm_at "ev") => `(tactic| simp only [Nn.seq_ap, Nn.next_ap, Nn.brk_ap, Nn.cnt_ap, Nn.var_ap, Nn.varK_ok, Nn.c_ap, Nn.m2_ap, Nn.m2K_ap, Nn.m2J_ap, Nn.m1_ap, Nn.mB_ap, Nn.mBK_ap, Nn.and_ap, Nn.or_ap, Nn.not_ap, Nn.andK_T, Nn.andK_F, Nn.orK_T, Nn.orK_F, Nn.notK_ap, Nn.andV_ap, Nn.orV_ap, Nn.notV_ap, Nn.ifE_ap, Nn.andVK_T, Nn.andVK_F, Nn.orVK_T, Nn.orVK_F, Nn.notVK_ap, Nn.ifEK_T, Nn.ifEK_F, Nn.nil_ap, Nn.cons_ap, Nn.consK_ap, Nn.consJ_ap, Nn.star_ap, Nn.starJ_ap, Nn.starK_tup, Nn.starK_tuf, Nn.starK_fl, Nn.starK_lc, Nn.starO_lst, Nn.lcL_nil, Nn.loopP_nil, List.append_nil,  Nn.tup_ap, Nn.lst_ap, Nn.newL_T, Nn.newL_F, Nn.newD_T, Nn.newD_F, Nn.dnew_ap, Nn.cb_ap, Nn.call_ap, Nn.callD_ap, Nn.callDD, Nn.dyn_nil, Nn.dyn_F, Nn.dyn_loc, Nn.dyn_fd, Nn.dyn_fl, Nn.dyn_tup, Nn.dyn_non, Nn.disp_ap, Nn.prs_nil, Nn.prs_cons, Nn.prA_ap, Nn.prB_ap, Nn.prC_str, Nn.prC_int, Nn.dispK_1, Nn.tr_ap, Nn.trK_bl, Nn.asg_ap, Nn.asgK_ap, Nn.asgJ_ok, Nn.gnm_ap, Nn.gkl_ap, Nn.ret_ap, Nn.retK_ap, Nn.retN_ap, Nn.drop_ap, Nn.dropK_ap, Nn.if_ap, Nn.ifK_T, Nn.ifK_F, Nn.kl_ap, Nn.klK_ap, Nn.wipe_nil, Nn.wipe_cons, Nn.put_mk, Nn.start_mk, Nn.for_ap, Nn.forK_ap, Nn.itP_l, Nn.it_ap, Nn.itK_tup, Nn.itK_tuf, Nn.itK_fl, Nn.itK_sc, Nn.itK_fd, Nn.itK_lc, Nn.revA_ap, Nn.revAK_tup, Nn.revAK_tuf, Nn.revAK_fl, List.reverse_cons, List.reverse_nil, Nn.itO_lst, Nn.itL_l, Nn.loopP_consG, Nn.lpC_ok, Nn.turn_nx, Nn.turn_ct, Nn.turn_rt, Nn.turn_bk, Nn.lcL_consG, Nn.lcC1_ap, Nn.lcC2_T, Nn.lcC2_F, Nn.gtp_tup, Nn.gtK_ok, Nn.gcn_ap, Nn.gcJ_ap, Nn.gnl_ap, Nn.en_nil, Nn.en_cons, Nn.sl_tup, Nn.sl_fl, Nn.cut_d1, Nn.cut_d2, Nn.cut_t1, Nn.cut_t2, List.take_succ_cons, List.take_zero, List.drop_succ_cons, List.drop_zero, List.take_nil, List.drop_nil, Nn.itK_str, Nn.range1_ap, Nn.enum_ap, Nn.enK_tup, Nn.enK_tuf, Nn.enK_fl, Nn.lc_ap, Nn.lcK_ap, Nn.newLK_ap, Nn.yes_ap, Nn.blk_ap, Nn.blkK_nx, Nn.blkK_ct, Nn.blkK_bk, Nn.blkK_rt, Nn.blkO_some, Nn.cons2_some, Nn.frzE_nil, Nn.frzE_none, Nn.frzE_cons, Nn.frzS_nil, Nn.frzS_cons, Nn.app2_some, Option.map_some, List.take_succ_cons, Nn.bind_ok, Nn.bindS_ok, Nn.bindN_nx, Nn.bindN_rt, Nn.bindN_ct, Nn.bindN_bk, Nn.bind_bind, Nn.bind_bindS, Nn.bindS_bindN, Nn.bindN_bindN, Nn.bbK_ap, Nn.bsK_ap, Nn.snK_ap, Nn.nnK_ap, Nn.aug_ap, Nn.augK_ap, Nn.augI_ap, Nn.augJ_ap, Nn.bl_ap, Nn.blK_ap, Nn.blO_ap, Nn.blJ_ap, Nn.index_ap, Nn.idxK_tuf, Nn.idxK_fl, Nn.join_ap, Nn.joinK_ap, Nn.fld_ap, Nn.sfld_ap, Nn.sfK_ap, Nn.mkF_ap, Nn.part_ap, Nn.partK_ap, Nn.noPart_ap, Nn.sl_ap, Nn.slA_ap, Nn.slB_ap, Nn.slC_ap, Nn.at0, Nn.at1, Nn.at2, Nn.at3, Nn.at4, Nn.at5, Nn.at6, Nn.at7, Nn.at8, Nn.at9, Nn.oD_some, Nn.ix_tup, Nn.ix_tuf, Nn.ix_fl, Nn.ix_sc, Nn.ix_lc, Nn.ixO_lst, Nn.ixO_dic, Nn.ixO_dicI, Nn.gsb_ap, Nn.okB_ok, Nn.gsA_ap, Nn.gsC_ap, Nn.gsE_ap, Nn.set_lc, Nn.setO_lst, Nn.setJ_some, Nn.ixN_L0, Nn.ixN_L1, Nn.ixN_L2, Nn.ixN_L3, Nn.ixN_L4, Nn.ixN_L5, Nn.add_int, Nn.sub_int, Nn.neg_int, Nn.lt_int, Nn.le_int, Nn.gt_int, Nn.ge_int, Nn.eq_int, Nn.eq_str, Nn.eq_bl, Nn.is_non, Nn.is_tup, Nn.is_str, Nn.is_int, Nn.is_bl, Nn.int_int, Nn.int_bl, Nn.abs_int, Nn.len_tup, Nn.len_tuf, Nn.len_fl, Nn.len_sc, Nn.len_lc, Nn.lenQ_lst, Nn.lenQ_dic, Nn.tuple_fl, Nn.tuple_lc, Nn.tupO_lst, Nn.sl_lc, Nn.slO_lst, Nn.min2_int, Nn.lstRg_ap, Nn.tupleF_fl, Nn.isi_ap, Nn.ty_non, Nn.ty_bl, Nn.ty_int, Nn.ty_str, Nn.ty_tup, Nn.ty_tuf, Nn.ty_fl, Nn.ty_sc, Nn.ty_fd, Nn.ty_lc, Nn.tyO_lst, Nn.tyO_dic, Nn.isO_NoneType_bool, Nn.isO_NoneType_int, Nn.isO_NoneType_str, Nn.isO_NoneType_tuple, Nn.isO_NoneType_list, Nn.isO_NoneType_dict, Nn.isO_bool_bool, Nn.isO_bool_int, Nn.isO_bool_str, Nn.isO_bool_tuple, Nn.isO_bool_list, Nn.isO_bool_dict, Nn.isO_int_bool, Nn.isO_int_int, Nn.isO_int_str, Nn.isO_int_tuple, Nn.isO_int_list, Nn.isO_int_dict, Nn.isO_str_bool, Nn.isO_str_int, Nn.isO_str_str, Nn.isO_str_tuple, Nn.isO_str_list, Nn.isO_str_dict, Nn.isO_tuple_bool, Nn.isO_tuple_int, Nn.isO_tuple_str, Nn.isO_tuple_tuple, Nn.isO_tuple_list, Nn.isO_tuple_dict, Nn.isO_list_bool, Nn.isO_list_int, Nn.isO_list_str, Nn.isO_list_tuple, Nn.isO_list_list, Nn.isO_list_dict, Nn.isO_dict_bool, Nn.isO_dict_int, Nn.isO_dict_str, Nn.isO_dict_tuple, Nn.isO_dict_list, Nn.isO_dict_dict, Nn.chain_ap, Nn.chA_ap, Nn.chB_ap, Nn.chC_T, Nn.chC_F, Nn.chD_ap, Nn.trK_gen, Nn.trO_some, Nn.tru_tup, Nn.tru_fl, Nn.tru_non, Nn.tru_bl, Nn.tru_int, Nn.emp_nil, Nn.emp_cons, Nn.emp_map, Nn.all_nil, Nn.sum_nil, Nn.ix_fdM, Nn.in_fdM, Nn.lookD_cons, Nn.fldK_foG, Nn.fldC_T, Nn.cont1, Nn.fldO_gen, Nn.fldP_some, Nn.sfJ_lc, Nn.putFD_nil, Nn.putFD_cons, Nn.kd_str, Nn.in_lc, Nn.inO_strs, Nn.in_tupS, Nn.in_tufS, Nn.in_flS, Nn.ap_lc, Nn.pop_lc, Nn.popO_snoc, Nn.rev_lc, Nn.revO_lst, Nn.rem_lc, Nn.ex_lc, Nn.ins_lc, Nn.list_tup, Nn.list_tuf, Nn.list_fl, Nn.list_sc, Nn.list_lc, Nn.lsO_lst, Nn.eq_non, Nn.eq_strI, List.map_cons, List.map_nil, List.length_cons, List.length_nil, List.replicate_succ, List.replicate_zero, List.set_cons_zero, List.set_cons_succ, List.getElem?_cons_zero, List.getElem?_cons_succ, List.cons_append, List.nil_append, Nat.reduceAdd, Nat.reduceSub, Nat.zero_add, if_true, if_false, ↓reduceIte, reduceCtorEq, Bool.false_eq_true, Nn.sat_ok, Nn.of_inj, Nn.in_sign, Int.reduceLE, Int.reduceLT, Int.reduceGT, Int.reduceGE, Int.reduceEq, Int.reduceNe, Nn.cast_0, Nn.cast_1, Nn.cast_2, Nn.cast_3, Nn.cast_4, Nn.cast_5, Nn.cast_6, Nn.cast_7, Nn.cast_8, Nn.cast_9, Nn.cast_10, Nn.cast_11, Nn.cast_12, Nn.cast_13, Nn.cast_14, Nn.cast_15, Nn.cast_16, Nn.cast_17, Nn.cast_18, Nn.cast_19, Nn.cast_20, Nn.cast_21, Nn.cast_22, Nn.cast_23, Nn.cast_24, Nn.cast_25, Nn.cast_26, Nn.cast_27, Nn.cast_28, Nn.cast_29, Nn.cast_30, Nn.cast_31, Nn.cast_32, Nn.cast_33, Nn.cast_34, Nn.cast_35, Nn.cast_36, Nn.cast_37, Nn.cast_38, Nn.cast_39, Nn.cast_40, Int.reduceAdd, Int.reduceSub, not_true_eq_false, not_false_eq_true, String.reduceEq, String.reduceNe, eq_self, decide_true, decide_false, Nn.ng, Nn.nd_dec, Nn.pow_18, Nn.pow_20, List.length_map, Bool.not_true, Bool.not_false])
local macro_rules | `(tactic| wtm_at "evo") => `(tactic| simp -implicitDefEqProofs (disch := first | assumption | omega | (refine Nn.okR_small ?_; omega) | (simp only [List.length_cons, List.length_nil, List.length_map, List.length_append]; omega) | (simp only [vl_lows, od_lows, Vl.low, Od.low, Hd.low, Ed.low, bagO_low, Nn.lows_nil, Nn.lows_cons, Nn.low_non, Nn.low_bl, Nn.low_int, Nn.low_str, Nn.low_ty, Nn.low_tup, Nn.low_tuf, Nn.low_fl, Nn.low_sc, Nn.low_fd, Nn.low_fo, Nn.lows_str, Nn.lows_int, Nn.lows_app, Nn.lowO_strs, Nn.lowO_ints, Nn.lowO_l, Nn.lowO_d, Nn.lowO_i, Bool.and_true, Bool.and_self, Bool.true_and, List.all_cons, List.all_nil, List.map_cons, List.map_nil]; done) | decide) only [in_vl, eq_vl, ty_vl, isO_vlS, isO_vlI, isO_vlB, od_v, pow_24, Nn.mul_int, Nn.mod_int, Nn.div_int, Nn.lstK_ap, Nn.rgLK_ap, Nn.blkE_ap, Nn.frz_low, Nn.frz_lt, Nn.frzO_low, Nn.lcC3_ap, Nn.apO_lst, Nn.len_str, Nn.sfO_ins1, Nn.exO_lst, Nn.tupK_ap, Nn.rg1K_ap, Nn.okR_small, Nn.seq_ap, Nn.next_ap, Nn.brk_ap, Nn.cnt_ap, Nn.var_ap, Nn.varK_ok, Nn.c_ap, Nn.m2_ap, Nn.m2K_ap, Nn.m2J_ap, Nn.m1_ap, Nn.mB_ap, Nn.mBK_ap, Nn.and_ap, Nn.or_ap, Nn.not_ap, Nn.andK_T, Nn.andK_F, Nn.orK_T, Nn.orK_F, Nn.notK_ap, Nn.andV_ap, Nn.orV_ap, Nn.notV_ap, Nn.ifE_ap, Nn.andVK_T, Nn.andVK_F, Nn.orVK_T, Nn.orVK_F, Nn.notVK_ap, Nn.ifEK_T, Nn.ifEK_F, Nn.nil_ap, Nn.cons_ap, Nn.consK_ap, Nn.consJ_ap, Nn.star_ap, Nn.starJ_ap, Nn.starK_tup, Nn.starK_tuf, Nn.starK_fl, Nn.starK_lc, Nn.starO_lst, Nn.lcL_nil, Nn.loopP_nil, List.append_nil,  Nn.tup_ap, Nn.lst_ap, Nn.newL_T, Nn.newL_F, Nn.newD_T, Nn.newD_F, Nn.dnew_ap, Nn.cb_ap, Nn.call_ap, Nn.callD_ap, Nn.callDD, Nn.dyn_nil, Nn.dyn_F, Nn.dyn_loc, Nn.dyn_fd, Nn.dyn_fl, Nn.dyn_tup, Nn.dyn_non, Nn.disp_ap, Nn.prs_nil, Nn.prs_cons, Nn.prA_ap, Nn.prB_ap, Nn.prC_str, Nn.prC_int, Nn.dispK_1, Nn.tr_ap, Nn.trK_bl, Nn.asg_ap, Nn.asgK_ap, Nn.asgJ_ok, Nn.gnm_ap, Nn.gkl_ap, Nn.ret_ap, Nn.retK_ap, Nn.retN_ap, Nn.drop_ap, Nn.dropK_ap, Nn.if_ap, Nn.ifK_T, Nn.ifK_F, Nn.kl_ap, Nn.klK_ap, Nn.wipe_nil, Nn.wipe_cons, Nn.put_mk, Nn.start_mk, Nn.for_ap, Nn.forK_ap, Nn.itP_l, Nn.it_ap, Nn.itK_tup, Nn.itK_tuf, Nn.itK_fl, Nn.itK_sc, Nn.itK_fd, Nn.itK_lc, Nn.revA_ap, Nn.revAK_tup, Nn.revAK_tuf, Nn.revAK_fl, List.reverse_cons, List.reverse_nil, Nn.itO_lst, Nn.itL_l, Nn.loopP_consG, Nn.lpC_ok, Nn.turn_nx, Nn.turn_ct, Nn.turn_rt, Nn.turn_bk, Nn.lcL_consG, Nn.lcC1_ap, Nn.lcC2_T, Nn.lcC2_F, Nn.gtp_tup, Nn.gtK_ok, Nn.gcn_ap, Nn.gcJ_ap, Nn.gnl_ap, Nn.en_nil, Nn.en_cons, Nn.sl_tup, Nn.sl_fl, Nn.cut_d1, Nn.cut_d2, Nn.cut_t1, Nn.cut_t2, List.take_succ_cons, List.take_zero, List.drop_succ_cons, List.drop_zero, List.take_nil, List.drop_nil, Nn.itK_str, Nn.range1_ap, Nn.enum_ap, Nn.enK_tup, Nn.enK_tuf, Nn.enK_fl, Nn.lc_ap, Nn.lcK_ap, Nn.newLK_ap, Nn.yes_ap, Nn.blk_ap, Nn.blkK_nx, Nn.blkK_ct, Nn.blkK_bk, Nn.blkK_rt, Nn.blkO_some, Nn.cons2_some, Nn.frzE_nil, Nn.frzE_none, Nn.frzE_cons, Nn.frzS_nil, Nn.frzS_cons, Nn.app2_some, Option.map_some, List.take_succ_cons, Nn.bind_ok, Nn.bindS_ok, Nn.bindN_nx, Nn.bindN_rt, Nn.bindN_ct, Nn.bindN_bk, Nn.bind_bind, Nn.bind_bindS, Nn.bindS_bindN, Nn.bindN_bindN, Nn.bbK_ap, Nn.bsK_ap, Nn.snK_ap, Nn.nnK_ap, Nn.aug_ap, Nn.augK_ap, Nn.augI_ap, Nn.augJ_ap, Nn.bl_ap, Nn.blK_ap, Nn.blO_ap, Nn.blJ_ap, Nn.index_ap, Nn.idxK_tuf, Nn.idxK_fl, Nn.join_ap, Nn.joinK_ap, Nn.fld_ap, Nn.sfld_ap, Nn.sfK_ap, Nn.mkF_ap, Nn.part_ap, Nn.partK_ap, Nn.noPart_ap, Nn.sl_ap, Nn.slA_ap, Nn.slB_ap, Nn.slC_ap, Nn.at0, Nn.at1, Nn.at2, Nn.at3, Nn.at4, Nn.at5, Nn.at6, Nn.at7, Nn.at8, Nn.at9, Nn.oD_some, Nn.ix_tup, Nn.ix_tuf, Nn.ix_fl, Nn.ix_sc, Nn.ix_lc, Nn.ixO_lst, Nn.ixO_dic, Nn.ixO_dicI, Nn.gsb_ap, Nn.okB_ok, Nn.gsA_ap, Nn.gsC_ap, Nn.gsE_ap, Nn.set_lc, Nn.setO_lst, Nn.setJ_some, Nn.ixN_L0, Nn.ixN_L1, Nn.ixN_L2, Nn.ixN_L3, Nn.ixN_L4, Nn.ixN_L5, Nn.add_int, Nn.sub_int, Nn.neg_int, Nn.lt_int, Nn.le_int, Nn.gt_int, Nn.ge_int, Nn.eq_int, Nn.eq_str, Nn.eq_bl, Nn.is_non, Nn.is_tup, Nn.is_str, Nn.is_int, Nn.is_bl, Nn.int_int, Nn.int_bl, Nn.abs_int, Nn.len_tup, Nn.len_tuf, Nn.len_fl, Nn.len_sc, Nn.len_lc, Nn.lenQ_lst, Nn.lenQ_dic, Nn.tuple_fl, Nn.tuple_lc, Nn.tupO_lst, Nn.sl_lc, Nn.slO_lst, Nn.min2_int, Nn.lstRg_ap, Nn.tupleF_fl, Nn.isi_ap, Nn.ty_non, Nn.ty_bl, Nn.ty_int, Nn.ty_str, Nn.ty_tup, Nn.ty_tuf, Nn.ty_fl, Nn.ty_sc, Nn.ty_fd, Nn.ty_lc, Nn.tyO_lst, Nn.tyO_dic, Nn.isO_NoneType_bool, Nn.isO_NoneType_int, Nn.isO_NoneType_str, Nn.isO_NoneType_tuple, Nn.isO_NoneType_list, Nn.isO_NoneType_dict, Nn.isO_bool_bool, Nn.isO_bool_int, Nn.isO_bool_str, Nn.isO_bool_tuple, Nn.isO_bool_list, Nn.isO_bool_dict, Nn.isO_int_bool, Nn.isO_int_int, Nn.isO_int_str, Nn.isO_int_tuple, Nn.isO_int_list, Nn.isO_int_dict, Nn.isO_str_bool, Nn.isO_str_int, Nn.isO_str_str, Nn.isO_str_tuple, Nn.isO_str_list, Nn.isO_str_dict, Nn.isO_tuple_bool, Nn.isO_tuple_int, Nn.isO_tuple_str, Nn.isO_tuple_tuple, Nn.isO_tuple_list, Nn.isO_tuple_dict, Nn.isO_list_bool, Nn.isO_list_int, Nn.isO_list_str, Nn.isO_list_tuple, Nn.isO_list_list, Nn.isO_list_dict, Nn.isO_dict_bool, Nn.isO_dict_int, Nn.isO_dict_str, Nn.isO_dict_tuple, Nn.isO_dict_list, Nn.isO_dict_dict, Nn.chain_ap, Nn.chA_ap, Nn.chB_ap, Nn.chC_T, Nn.chC_F, Nn.chD_ap, Nn.trK_gen, Nn.trO_some, Nn.tru_tup, Nn.tru_fl, Nn.tru_non, Nn.tru_bl, Nn.tru_int, Nn.emp_nil, Nn.emp_cons, Nn.emp_map, Nn.all_nil, Nn.sum_nil, Nn.ix_fdM, Nn.in_fdM, Nn.lookD_cons, Nn.fldK_foG, Nn.fldC_T, Nn.cont1, Nn.fldO_gen, Nn.fldP_some, Nn.sfJ_lc, Nn.putFD_nil, Nn.putFD_cons, Nn.kd_str, Nn.in_lc, Nn.inO_strs, Nn.in_tupS, Nn.in_tufS, Nn.in_flS, Nn.ap_lc, Nn.pop_lc, Nn.popO_snoc, Nn.rev_lc, Nn.revO_lst, Nn.rem_lc, Nn.ex_lc, Nn.ins_lc, Nn.list_tup, Nn.list_tuf, Nn.list_fl, Nn.list_sc, Nn.list_lc, Nn.lsO_lst, Nn.eq_non, Nn.eq_strI, List.map_cons, List.map_nil, List.length_cons, List.length_nil, List.replicate_succ, List.replicate_zero, List.set_cons_zero, List.set_cons_succ, List.getElem?_cons_zero, List.getElem?_cons_succ, List.cons_append, List.nil_append, Nat.reduceAdd, Nat.reduceSub, Nat.zero_add, if_true, if_false, ↓reduceIte, reduceCtorEq, Bool.false_eq_true, Nn.sat_ok, Nn.of_inj, Nn.in_sign, Int.reduceLE, Int.reduceLT, Int.reduceGT, Int.reduceGE, Int.reduceEq, Int.reduceNe, Nn.cast_0, Nn.cast_1, Nn.cast_2, Nn.cast_3, Nn.cast_4, Nn.cast_5, Nn.cast_6, Nn.cast_7, Nn.cast_8, Nn.cast_9, Nn.cast_10, Nn.cast_11, Nn.cast_12, Nn.cast_13, Nn.cast_14, Nn.cast_15, Nn.cast_16, Nn.cast_17, Nn.cast_18, Nn.cast_19, Nn.cast_20, Nn.cast_21, Nn.cast_22, Nn.cast_23, Nn.cast_24, Nn.cast_25, Nn.cast_26, Nn.cast_27, Nn.cast_28, Nn.cast_29, Nn.cast_30, Nn.cast_31, Nn.cast_32, Nn.cast_33, Nn.cast_34, Nn.cast_35, Nn.cast_36, Nn.cast_37, Nn.cast_38, Nn.cast_39, Nn.cast_40, Int.reduceAdd, Int.reduceSub, not_true_eq_false, not_false_eq_true, String.reduceEq, String.reduceNe, eq_self, decide_true, decide_false, Nn.ng, Nn.nd_dec, Nn.pow_18, Nn.pow_20, List.length_map, Bool.not_true, Bool.not_false])
local macro_rules | `(tactic| wtm_at "br") => `(tactic| first | refine go_ifDN ?_ ?_ | refine go_ifD ?_ ?_ | refine go_bindS (sat_andD ?_ ?_) | refine go_bindS (sat_orD ?_ ?_) | refine go_bindS (sat_andVD ?_ ?_) | refine go_bindS (sat_orVD ?_ ?_) | refine go_bindS (sat_ifD ?_ ?_) | refine sat_bind (sat_andD ?_ ?_) | refine sat_bind (sat_orD ?_ ?_) | refine sat_bind (sat_andVD ?_ ?_) | refine sat_bind (sat_orVD ?_ ?_) | refine sat_bind (sat_ifD ?_ ?_) | refine go_ifN ?_ ?_ | refine go_if ?_ ?_ | refine go_bindS (sat_andB ?_ ?_) | refine go_bindS (sat_orB ?_ ?_) | refine go_bindS (sat_andVB ?_ ?_) | refine go_bindS (sat_orVB ?_ ?_) | refine go_bindS (sat_ifB ?_ ?_) | refine go_bindS (sat_chDec ?_ ?_) | refine sat_bind (sat_chDec ?_ ?_) | refine sat_chDec ?_ ?_ | refine sat_andD ?_ ?_ | refine sat_orD ?_ ?_ | refine sat_andVD ?_ ?_ | refine sat_orVD ?_ ?_ | refine sat_ifD ?_ ?_ | refine sat_andB ?_ ?_ | refine sat_orB ?_ ?_ | refine sat_andVB ?_ ?_ | refine sat_orVB ?_ ?_ | refine sat_ifB ?_ ?_ | fail)
local macro_rules | `(tactic| wtm_at "dr0") => `(tactic| ((first | refine go_bindS (draw_call (by rfl) (by assumption) (by omega) (by omega) (by omega) ?_) | refine sat_bind (draw_call (by rfl) (by assumption) (by omega) (by omega) (by omega) ?_) | refine draw_call (by rfl) (by assumption) (by omega) (by omega) (by omega) ?_ | fail); intro _ _ _ _ _ _ _; simp only [List.set_cons_zero, List.set_cons_succ]; try wtm_at "evo"))
local macro_rules | `(tactic| wtm_at "wd") => `(tactic| ((with_reducible first | refine word_bindS ?_ ?_ ?_ | refine word_bind ?_ ?_ ?_ | refine word_sat ?_ ?_ ?_ | fail); (focus omega); (focus omega); intro _ _; try wtm_at "evo"))
local macro_rules | `(tactic| wtm_at "dr") => `(tactic| first | wtm_at "dr0" | wtm_at "wd" | fail)
local macro_rules | `(tactic| wtm_at "brs") => `(tactic| (wtm_at "br" <;> (intro _; try wtm_at "evo")))
local macro_rules | `(tactic| wtm_at "all") => `(tactic| ((try wtm_at "evo"); repeat' (first | wtm_at "dr" | wtm_at "brs")))
local macro_rules | `(tactic| wtm_at "drs") => `(tactic| ((try wtm_at "evo"); repeat' wtm_at "dr"))
local macro_rules | `(tactic| wtm_at "low") => `(tactic| first | rfl | (simp only [vl_lows, od_lows, Vl.low, Od.low, Hd.low, Ed.low, bagO_low, Nn.lows_nil, Nn.lows_cons, Nn.low_non, Nn.low_bl, Nn.low_int, Nn.low_str, Nn.low_ty, Nn.low_tup, Nn.low_tuf, Nn.low_fl, Nn.low_sc, Nn.low_fd, Nn.low_fo, Nn.lows_str, Nn.lows_int, Nn.lows_app, Nn.lowO_strs, Nn.lowO_ints, Nn.lowO_l, Nn.lowO_d, Nn.lowO_i, Bool.and_true, Bool.and_self, Bool.true_and, List.all_cons, List.all_nil, List.map_cons, List.map_nil, poolO_low, List.take_succ_cons, List.take_zero]; done) | fail)

structure RowK (a : List Vl) (k : Nat) : Prop where
  nd : a.Nodup
  of : ∀ x ∈ a, ∃ i : Nat, i < k ∧ x.of i
theorem RowK.nil : RowK [] 0 := ⟨List.nodup_nil, fun x h => absurd h List.not_mem_nil⟩
theorem RowK.up {a : List Vl} {k : Nat} (h : RowK a k) : RowK a (k + 1) := ⟨h.nd, fun x hx => by obtain ⟨i, h1, h2⟩ := h.of x hx; exact ⟨i, by omega, h2⟩⟩
theorem RowK.no {a : List Vl} {k : Nat} {x : Vl} (h : RowK a k) (hx : x.of k) : x ∉ a := fun m => by
  obtain ⟨i, h1, h2⟩ := h.of x m
  exact Vl.of_ne h2 hx (by omega) rfl
theorem RowK.ins {a : List Vl} {k : Nat} {x : Vl} (h : RowK a (k + 1)) (hx : x.of k) (hn : x ∉ a) (j : Nat) : RowK (a.take j ++ [x] ++ a.drop j) (k + 1) := by
  obtain ⟨n, m, _⟩ := nd_ins h.nd hn j
  refine ⟨n, fun y hy => ?_⟩
  rcases (m y).mp hy with q | rfl
  · exact h.of y q
  · exact ⟨k, by omega, hx⟩
theorem ins_len {a : List Vl} {x : Vl} {j : Nat} : (a.take j ++ [x] ++ a.drop j).length = a.length + 1 := by simp; omega
theorem ins_mem {a : List Vl} {x y : Vl} {j : Nat} (h : y ∈ a.take j ++ [x] ++ a.drop j) : y ∈ a ∨ y = x := by
  rcases List.mem_append.mp h with h | h
  · rcases List.mem_append.mp h with h | h
    · exact .inl (List.mem_of_mem_take h)
    · exact .inr (List.mem_singleton.mp h)
  · exact .inl (List.mem_of_mem_drop h)
theorem RowK.mono {a : List Vl} {k j : Nat} (h : RowK a k) (hj : k ≤ j) : RowK a j := ⟨h.nd, fun x hx => by obtain ⟨i, h1, h2⟩ := h.of x hx; exact ⟨i, by omega, h2⟩⟩
theorem finP_at {b : Bag} {u v : List Vl} : finP 1 (.rt (.loc 3) [bagO b, .lst (vD u), .lst (vD v), .lst [.loc 1, .loc 2]]) = .ok (.fl [.loc 1, .loc 2]) [bagO b, .lst (vD u), .lst (vD v)] := by
  unfold finP
  simp only [List.getElem?_cons_succ, List.getElem?_cons_zero]
  rw [if_pos]
  · rfl
  · refine ⟨⟨?_, by simp⟩, ⟨by omega, by omega, by omega⟩, ⟨by omega, by omega, by omega⟩, vl_lows u, vl_lows v⟩
    show (lowO (bagO b) && true) = true
    rw [bagO_low]
    rfl
theorem rows_sat {p : Bag} {Q : D → S → Prop} (hp : p.ok) (hn : p.n ≤ 1000) (h : ∀ a b p', RowK a 100 → a.length ≤ 60 → p'.ok → p.n ≤ p'.n → p'.n ≤ p.n + 1000 → Q (.fl [.loc 1, .loc 2]) [bagO p', .lst (vD a), .lst (vD b)]) : (mLRows [.loc 0] [bagO p]).sat Q := by
  have main : (mbLRows (startM 8 [.loc 0]) [bagO p]).go fun r => (finP 1 r).sat Q := by
    unfold mbLRows
    wtm_at "drs"
    rename_i d1 p1 a1 b1 ok1 lo1 hi1 d2 p2 a2 b2 ok2 lo2 hi2
    refine go_join (fun e s => ∃ m : Nat, m ≤ 28 ∧ e = ⟨[some (.loc 0), some (.int m), none, none, none, none, none, none], none⟩ ∧ s = [bagO p2]) ?_ ?_
    · wtm_at "all"
      · exact ⟨(d1 + 20).toNat, by omega, by rw [Int.toNat_of_nonneg (by omega)], rfl⟩
      · exact ⟨d1.toNat, by omega, by rw [Int.toNat_of_nonneg (by omega)], rfl⟩
    · rintro e s ⟨m, hm, rfl, rfl⟩
      wtm_at "drs"
      rename_i d3 p3 a3 b3 ok3 lo3 hi3 d4 p4 a4 b4 ok4 lo4 hi4
      rw [show ((m : Int)).toNat = m by omega]
      refine go_loop (I := fun r e s => ∃ (k : Nat) (a b : List Vl) (p' : Bag) (x1 : Option D), k + r.length = m ∧ r = (rgD 0 m).drop k ∧ RowK a k ∧ a.length ≤ 2 * k ∧ b.length ≤ 2 * k ∧ p'.ok ∧ p.n ≤ p'.n ∧ p'.n ≤ p.n + 4 + 10 * k ∧ e = ⟨[some (.loc 0), x1, some (.int d3), some (.int d4), some (.loc 3), none, none, none], none⟩ ∧ s = [bagO p', .lst (vD a), .lst (vD b), .lst [.loc 1, .loc 2]]) ⟨0, [], [], p4, _, by simp [rgD], rfl, .nil, Nat.le_refl _, Nat.le_refl _, ok4, by omega, by omega, rfl, rfl⟩ ?_ ?_
      · rintro d r e s ⟨k, a, b, p5, x1, hk, hd, ra, la, lb, ok5, lo5, hi5, rfl, rfl⟩
        obtain ⟨rfl, hr, hkm⟩ := rg_at hd
        rw [List.length_cons] at hk
        wtm_at "evo"
        refine go_bindS (value_call rfl ok5 (by omega) (by omega) fun x p6 hx ok6 lo6 hi6 => ?_)
        wtm_at "drs"
        rename_i w p7 w0 w1 ok7 lo7 hi7
        refine go_join (fun e s => ∃ (a' : List Vl) (p' : Bag), (∀ y ∈ a', y ∈ a ∨ y = x) ∧ RowK a' (k + 1) ∧ a'.length ≤ a.length + 1 ∧ p'.ok ∧ p7.n ≤ p'.n ∧ p'.n ≤ p7.n + 1 ∧ e = ⟨[some (.loc 0), none, some (.int d3), some (.int d4), some (.loc 3), some (.int k), some x.d, some (.int w)], none⟩ ∧ s = [bagO p', .lst (vD a'), .lst (vD b), .lst [.loc 1, .loc 2]]) ?_ ?_
        · wtm_at "all"
          · refine go_bindS (put_call (row := a) rfl rfl (by decide) ok7 (by omega) (by omega) fun j p8 hj ok8 lo8 hi8 => ?_)
            generalize hG : vD (List.take j a ++ [x] ++ List.drop j a) = G
            wtm_at "evo"
            exact ⟨a.take j ++ [x] ++ a.drop j, p8, fun y hy => ins_mem hy, ra.up.ins hx (ra.no hx) j, by rw [ins_len]; exact Nat.le_refl _, ok8, by omega, by omega, rfl, by rw [← hG]⟩
          · exact ⟨a, p7, fun y hy => .inl hy, ra.up, by omega, ok7, by omega, by omega, rfl, rfl⟩
        rintro e s ⟨a', p8, ha', ra', la', ok8, lo8, hi8, rfl, rfl⟩
        wtm_at "evo"
        refine go_join (fun e s => ∃ (b' : List Vl) (p' : Bag), b'.length ≤ b.length + 1 ∧ p'.ok ∧ p8.n ≤ p'.n ∧ p'.n ≤ p8.n + 1 ∧ e = ⟨[some (.loc 0), none, some (.int d3), some (.int d4), some (.loc 3), some (.int k), some x.d, some (.int w)], none⟩ ∧ s = [bagO p', .lst (vD a'), .lst (vD b'), .lst [.loc 1, .loc 2]]) ?_ ?_
        · wtm_at "all"
          · refine go_bindS (put_call (row := b) rfl rfl (by decide) ok8 (by omega) (by omega) fun j p9 hj ok9 lo9 hi9 => ?_)
            generalize hG : vD (List.take j b ++ [x] ++ List.drop j b) = G
            wtm_at "evo"
            exact ⟨b.take j ++ [x] ++ b.drop j, p9, by rw [ins_len]; exact Nat.le_refl _, ok9, by omega, by omega, rfl, by rw [← hG]⟩
          · exact ⟨b, p8, by omega, ok8, by omega, by omega, rfl, rfl⟩
        rintro e s ⟨b', p9, lb', ok9, lo9, hi9, rfl, rfl⟩
        have fin : ∀ (a₂ b₂ : List Vl) (p₂ : Bag), RowK a₂ (k + 1) → a₂.length ≤ a'.length + 1 → b₂.length ≤ b'.length + 1 → p₂.ok → p9.n ≤ p₂.n → p₂.n ≤ p9.n + 1 → ∃ (k₁ : Nat) (a b : List Vl) (p' : Bag) (x1 : Option D), k₁ + r.length = m ∧ r = (rgD 0 m).drop k₁ ∧ RowK a k₁ ∧ a.length ≤ 2 * k₁ ∧ b.length ≤ 2 * k₁ ∧ p'.ok ∧ p.n ≤ p'.n ∧ p'.n ≤ p.n + 4 + 10 * (k₁ : Int) ∧ (⟨[some (.loc 0), none, some (.int d3), some (.int d4), some (.loc 3), none, none, none], none⟩ : Ev) = ⟨[some (.loc 0), x1, some (.int d3), some (.int d4), some (.loc 3), none, none, none], none⟩ ∧ [bagO p₂, O.lst (vD a₂), .lst (vD b₂), .lst [.loc 1, .loc 2]] = [bagO p', .lst (vD a), .lst (vD b), .lst [.loc 1, .loc 2]] :=
          fun a₂ b₂ p₂ h1 h2 h3 h4 h5 h6 => ⟨k + 1, a₂, b₂, p₂, none, by omega, hr, h1, by omega, by omega, h4, by omega, by omega, rfl, rfl⟩
        have fin0 := fin a' b' p9 ra' (by omega) (by omega) ok9 (by omega) (by omega)
        cases x with
        | s y =>
          wtm_at "all"
          all_goals first
            | exact fin0
            | (rename_i q; simp [Vl.isS] at q; done)
        | i z =>
          obtain ⟨z', z1, z2, z3⟩ := hx
          have hz : z' = z := by
            rcases z3 with q | q
            · exact (Vl.i.inj q).symm
            · cases q
          subst hz
          have ox : Vl.of (.s (sI z')) k := ⟨z', z1, z2, .inr rfl⟩
          have nx : Vl.s (sI z') ∉ a' := fun q => by
            rcases ha' _ q with q | q
            · exact ra.no ox q
            · cases q
          have ww : w % 2 = 0 ∨ w % 2 = 1 := by omega
          have zi : (Vl.i z').d = .int z' := rfl
          wtm_at "all"
          case refine_1.refine_1.refine_1 =>
            rcases ww with ww | ww
            · rw [ww]
              wtm_at "evo"
              rw [zi, str_int (by omega)]
              wtm_at "evo"
              refine go_bindS (put_call (x := .s (sI z')) (row := a') rfl rfl (by decide) ok9 (by omega) (by omega) fun j p10 hj ok10 lo10 hi10 => ?_)
              generalize hG : vD (List.take j a' ++ [Vl.s (sI z')] ++ List.drop j a') = G
              wtm_at "evo"
              rw [← hG]
              exact fin _ b' p10 (ra'.ins ox nx j) (by rw [ins_len]; exact Nat.le_refl _) (by omega) ok10 (by omega) (by omega)
            · rw [ww]
              wtm_at "evo"
              rw [zi, str_int (by omega)]
              wtm_at "evo"
              refine go_bindS (put_call (x := .s (sI z')) (row := b') rfl rfl (by decide) ok9 (by omega) (by omega) fun j p10 hj ok10 lo10 hi10 => ?_)
              generalize hG : vD (List.take j b' ++ [Vl.s (sI z')] ++ List.drop j b') = G
              wtm_at "evo"
              rw [← hG]
              exact fin a' _ p10 ra' (by omega) (by rw [ins_len]; exact Nat.le_refl _) ok10 (by omega) (by omega)
          all_goals exact fin0
      · rintro e s ⟨k, a, b, p5, x1, hk, hd, ra, la, lb, ok5, lo5, hi5, rfl, rfl⟩
        wtm_at "evo"
        show (finP 1 (.rt (.loc 3) [bagO p5, .lst (vD a), .lst (vD b), .lst [.loc 1, .loc 2]])).sat Q
        rw [finP_at]
        have : k ≤ m := by rw [← hk]; omega
        exact h a b p5 (ra.mono (by omega)) (by omega) ok5 (by omega) (by omega)
  exact main

end Ke
namespace Ke
open PySem PySem.Spec PyProof.Rows L2 Lb Nn
local macro_rules | `(tactic| wtm_at "ev") => `(tactic| simp only [Nn.seq_ap, Nn.next_ap, Nn.brk_ap, Nn.cnt_ap, Nn.var_ap, Nn.varK_ok, Nn.c_ap, Nn.m2_ap, Nn.m2K_ap, Nn.m2J_ap, Nn.m1_ap, Nn.mB_ap, Nn.mBK_ap, Nn.and_ap, Nn.or_ap, Nn.not_ap, Nn.andK_T, Nn.andK_F, Nn.orK_T, Nn.orK_F, Nn.notK_ap, Nn.andV_ap, Nn.orV_ap, Nn.notV_ap, Nn.ifE_ap, Nn.andVK_T, Nn.andVK_F, Nn.orVK_T, Nn.orVK_F, Nn.notVK_ap, Nn.ifEK_T, Nn.ifEK_F, Nn.nil_ap, Nn.cons_ap, Nn.consK_ap, Nn.consJ_ap, Nn.star_ap, Nn.starJ_ap, Nn.starK_tup, Nn.starK_tuf, Nn.starK_fl, Nn.starK_lc, Nn.starO_lst, Nn.lcL_nil, Nn.loopP_nil, List.append_nil,  Nn.tup_ap, Nn.lst_ap, Nn.newL_T, Nn.newL_F, Nn.newD_T, Nn.newD_F, Nn.dnew_ap, Nn.cb_ap, Nn.call_ap, Nn.callD_ap, Nn.callDD, Nn.dyn_nil, Nn.dyn_F, Nn.dyn_loc, Nn.dyn_fd, Nn.dyn_fl, Nn.dyn_tup, Nn.dyn_non, Nn.disp_ap, Nn.prs_nil, Nn.prs_cons, Nn.prA_ap, Nn.prB_ap, Nn.prC_str, Nn.prC_int, Nn.dispK_1, Nn.tr_ap, Nn.trK_bl, Nn.asg_ap, Nn.asgK_ap, Nn.asgJ_ok, Nn.gnm_ap, Nn.gkl_ap, Nn.ret_ap, Nn.retK_ap, Nn.retN_ap, Nn.drop_ap, Nn.dropK_ap, Nn.if_ap, Nn.ifK_T, Nn.ifK_F, Nn.kl_ap, Nn.klK_ap, Nn.wipe_nil, Nn.wipe_cons, Nn.put_mk, Nn.start_mk, Nn.for_ap, Nn.forK_ap, Nn.itP_l, Nn.it_ap, Nn.itK_tup, Nn.itK_tuf, Nn.itK_fl, Nn.itK_sc, Nn.itK_fd, Nn.itK_lc, Nn.revA_ap, Nn.revAK_tup, Nn.revAK_tuf, Nn.revAK_fl, List.reverse_cons, List.reverse_nil, Nn.itO_lst, Nn.itL_l, Nn.loopP_consG, Nn.lpC_ok, Nn.turn_nx, Nn.turn_ct, Nn.turn_rt, Nn.turn_bk, Nn.lcL_consG, Nn.lcC1_ap, Nn.lcC2_T, Nn.lcC2_F, Nn.gtp_tup, Nn.gtK_ok, Nn.gcn_ap, Nn.gcJ_ap, Nn.gnl_ap, Nn.en_nil, Nn.en_cons, Nn.sl_tup, Nn.sl_fl, Nn.cut_d1, Nn.cut_d2, Nn.cut_t1, Nn.cut_t2, List.take_succ_cons, List.take_zero, List.drop_succ_cons, List.drop_zero, List.take_nil, List.drop_nil, Nn.itK_str, Nn.range1_ap, Nn.enum_ap, Nn.enK_tup, Nn.enK_tuf, Nn.enK_fl, Nn.lc_ap, Nn.lcK_ap, Nn.newLK_ap, Nn.yes_ap, Nn.blk_ap, Nn.blkK_nx, Nn.blkK_ct, Nn.blkK_bk, Nn.blkK_rt, Nn.blkO_some, Nn.cons2_some, Nn.frzE_nil, Nn.frzE_none, Nn.frzE_cons, Nn.frzS_nil, Nn.frzS_cons, Nn.app2_some, Option.map_some, List.take_succ_cons, Nn.bind_ok, Nn.bindS_ok, Nn.bindN_nx, Nn.bindN_rt, Nn.bindN_ct, Nn.bindN_bk, Nn.bind_bind, Nn.bind_bindS, Nn.bindS_bindN, Nn.bindN_bindN, Nn.bbK_ap, Nn.bsK_ap, Nn.snK_ap, Nn.nnK_ap, Nn.aug_ap, Nn.augK_ap, Nn.augI_ap, Nn.augJ_ap, Nn.bl_ap, Nn.blK_ap, Nn.blO_ap, Nn.blJ_ap, Nn.index_ap, Nn.idxK_tuf, Nn.idxK_fl, Nn.join_ap, Nn.joinK_ap, Nn.fld_ap, Nn.sfld_ap, Nn.sfK_ap, Nn.mkF_ap, Nn.part_ap, Nn.partK_ap, Nn.noPart_ap, Nn.sl_ap, Nn.slA_ap, Nn.slB_ap, Nn.slC_ap, Nn.at0, Nn.at1, Nn.at2, Nn.at3, Nn.at4, Nn.at5, Nn.at6, Nn.at7, Nn.at8, Nn.at9, Nn.oD_some, Nn.ix_tup, Nn.ix_tuf, Nn.ix_fl, Nn.ix_sc, Nn.ix_lc, Nn.ixO_lst, Nn.ixO_dic, Nn.ixO_dicI, Nn.gsb_ap, Nn.okB_ok, Nn.gsA_ap, Nn.gsC_ap, Nn.gsE_ap, Nn.set_lc, Nn.setO_lst, Nn.setJ_some, Nn.ixN_L0, Nn.ixN_L1, Nn.ixN_L2, Nn.ixN_L3, Nn.ixN_L4, Nn.ixN_L5, Nn.add_int, Nn.sub_int, Nn.neg_int, Nn.lt_int, Nn.le_int, Nn.gt_int, Nn.ge_int, Nn.eq_int, Nn.eq_str, Nn.eq_bl, Nn.is_non, Nn.is_tup, Nn.is_str, Nn.is_int, Nn.is_bl, Nn.int_int, Nn.int_bl, Nn.abs_int, Nn.len_tup, Nn.len_tuf, Nn.len_fl, Nn.len_sc, Nn.len_lc, Nn.lenQ_lst, Nn.lenQ_dic, Nn.tuple_fl, Nn.tuple_lc, Nn.tupO_lst, Nn.sl_lc, Nn.slO_lst, Nn.min2_int, Nn.lstRg_ap, Nn.tupleF_fl, Nn.isi_ap, Nn.ty_non, Nn.ty_bl, Nn.ty_int, Nn.ty_str, Nn.ty_tup, Nn.ty_tuf, Nn.ty_fl, Nn.ty_sc, Nn.ty_fd, Nn.ty_lc, Nn.tyO_lst, Nn.tyO_dic, Nn.isO_NoneType_bool, Nn.isO_NoneType_int, Nn.isO_NoneType_str, Nn.isO_NoneType_tuple, Nn.isO_NoneType_list, Nn.isO_NoneType_dict, Nn.isO_bool_bool, Nn.isO_bool_int, Nn.isO_bool_str, Nn.isO_bool_tuple, Nn.isO_bool_list, Nn.isO_bool_dict, Nn.isO_int_bool, Nn.isO_int_int, Nn.isO_int_str, Nn.isO_int_tuple, Nn.isO_int_list, Nn.isO_int_dict, Nn.isO_str_bool, Nn.isO_str_int, Nn.isO_str_str, Nn.isO_str_tuple, Nn.isO_str_list, Nn.isO_str_dict, Nn.isO_tuple_bool, Nn.isO_tuple_int, Nn.isO_tuple_str, Nn.isO_tuple_tuple, Nn.isO_tuple_list, Nn.isO_tuple_dict, Nn.isO_list_bool, Nn.isO_list_int, Nn.isO_list_str, Nn.isO_list_tuple, Nn.isO_list_list, Nn.isO_list_dict, Nn.isO_dict_bool, Nn.isO_dict_int, Nn.isO_dict_str, Nn.isO_dict_tuple, Nn.isO_dict_list, Nn.isO_dict_dict, Nn.chain_ap, Nn.chA_ap, Nn.chB_ap, Nn.chC_T, Nn.chC_F, Nn.chD_ap, Nn.trK_gen, Nn.trO_some, Nn.tru_tup, Nn.tru_fl, Nn.tru_non, Nn.tru_bl, Nn.tru_int, Nn.emp_nil, Nn.emp_cons, Nn.emp_map, Nn.all_nil, Nn.sum_nil, Nn.ix_fdM, Nn.in_fdM, Nn.lookD_cons, Nn.fldK_foG, Nn.fldC_T, Nn.cont1, Nn.fldO_gen, Nn.fldP_some, Nn.sfJ_lc, Nn.putFD_nil, Nn.putFD_cons, Nn.kd_str, Nn.in_lc, Nn.inO_strs, Nn.in_tupS, Nn.in_tufS, Nn.in_flS, Nn.ap_lc, Nn.pop_lc, Nn.popO_snoc, Nn.rev_lc, Nn.revO_lst, Nn.rem_lc, Nn.ex_lc, Nn.ins_lc, Nn.list_tup, Nn.list_tuf, Nn.list_fl, Nn.list_sc, Nn.list_lc, Nn.lsO_lst, Nn.eq_non, Nn.eq_strI, List.map_cons, List.map_nil, List.length_cons, List.length_nil, List.replicate_succ, List.replicate_zero, List.set_cons_zero, List.set_cons_succ, List.getElem?_cons_zero, List.getElem?_cons_succ, List.cons_append, List.nil_append, Nat.reduceAdd, Nat.reduceSub, Nat.zero_add, if_true, if_false, ↓reduceIte, reduceCtorEq, Bool.false_eq_true, Nn.sat_ok, Nn.of_inj, Nn.in_sign, Int.reduceLE, Int.reduceLT, Int.reduceGT, Int.reduceGE, Int.reduceEq, Int.reduceNe, Nn.cast_0, Nn.cast_1, Nn.cast_2, Nn.cast_3, Nn.cast_4, Nn.cast_5, Nn.cast_6, Nn.cast_7, Nn.cast_8, Nn.cast_9, Nn.cast_10, Nn.cast_11, Nn.cast_12, Nn.cast_13, Nn.cast_14, Nn.cast_15, Nn.cast_16, Nn.cast_17, Nn.cast_18, Nn.cast_19, Nn.cast_20, Nn.cast_21, Nn.cast_22, Nn.cast_23, Nn.cast_24, Nn.cast_25, Nn.cast_26, Nn.cast_27, Nn.cast_28, Nn.cast_29, Nn.cast_30, Nn.cast_31, Nn.cast_32, Nn.cast_33, Nn.cast_34, Nn.cast_35, Nn.cast_36, Nn.cast_37, Nn.cast_38, Nn.cast_39, Nn.cast_40, Int.reduceAdd, Int.reduceSub, not_true_eq_false, not_false_eq_true, String.reduceEq, String.reduceNe, eq_self, decide_true, decide_false, Nn.ng, Nn.nd_dec, Nn.pow_18, Nn.pow_20, List.length_map, Bool.not_true, Bool.not_false])
local macro_rules | `(tactic| wtm_at "evo") => `(tactic| simp -implicitDefEqProofs (disch := first | assumption | omega | (refine Nn.okR_small ?_; omega) | (simp only [List.length_cons, List.length_nil, List.length_map, List.length_append]; omega) | (simp only [vl_lows, od_lows, Vl.low, Od.low, Hd.low, Ed.low, bagO_low, Nn.lows_nil, Nn.lows_cons, Nn.low_non, Nn.low_bl, Nn.low_int, Nn.low_str, Nn.low_ty, Nn.low_tup, Nn.low_tuf, Nn.low_fl, Nn.low_sc, Nn.low_fd, Nn.low_fo, Nn.lows_str, Nn.lows_int, Nn.lows_app, Nn.lowO_strs, Nn.lowO_ints, Nn.lowO_l, Nn.lowO_d, Nn.lowO_i, Bool.and_true, Bool.and_self, Bool.true_and, List.all_cons, List.all_nil, List.map_cons, List.map_nil]; done) | decide) only [in_vl, eq_vl, ty_vl, isO_vlS, isO_vlI, isO_vlB, od_v, pow_24, Nn.mul_int, Nn.mod_int, Nn.div_int, Nn.lstK_ap, Nn.rgLK_ap, Nn.blkE_ap, Nn.frz_low, Nn.frz_lt, Nn.frzO_low, Nn.lcC3_ap, Nn.apO_lst, Nn.len_str, Nn.sfO_ins1, Nn.exO_lst, Nn.tupK_ap, Nn.rg1K_ap, Nn.okR_small, Nn.seq_ap, Nn.next_ap, Nn.brk_ap, Nn.cnt_ap, Nn.var_ap, Nn.varK_ok, Nn.c_ap, Nn.m2_ap, Nn.m2K_ap, Nn.m2J_ap, Nn.m1_ap, Nn.mB_ap, Nn.mBK_ap, Nn.and_ap, Nn.or_ap, Nn.not_ap, Nn.andK_T, Nn.andK_F, Nn.orK_T, Nn.orK_F, Nn.notK_ap, Nn.andV_ap, Nn.orV_ap, Nn.notV_ap, Nn.ifE_ap, Nn.andVK_T, Nn.andVK_F, Nn.orVK_T, Nn.orVK_F, Nn.notVK_ap, Nn.ifEK_T, Nn.ifEK_F, Nn.nil_ap, Nn.cons_ap, Nn.consK_ap, Nn.consJ_ap, Nn.star_ap, Nn.starJ_ap, Nn.starK_tup, Nn.starK_tuf, Nn.starK_fl, Nn.starK_lc, Nn.starO_lst, Nn.lcL_nil, Nn.loopP_nil, List.append_nil,  Nn.tup_ap, Nn.lst_ap, Nn.newL_T, Nn.newL_F, Nn.newD_T, Nn.newD_F, Nn.dnew_ap, Nn.cb_ap, Nn.call_ap, Nn.callD_ap, Nn.callDD, Nn.dyn_nil, Nn.dyn_F, Nn.dyn_loc, Nn.dyn_fd, Nn.dyn_fl, Nn.dyn_tup, Nn.dyn_non, Nn.disp_ap, Nn.prs_nil, Nn.prs_cons, Nn.prA_ap, Nn.prB_ap, Nn.prC_str, Nn.prC_int, Nn.dispK_1, Nn.tr_ap, Nn.trK_bl, Nn.asg_ap, Nn.asgK_ap, Nn.asgJ_ok, Nn.gnm_ap, Nn.gkl_ap, Nn.ret_ap, Nn.retK_ap, Nn.retN_ap, Nn.drop_ap, Nn.dropK_ap, Nn.if_ap, Nn.ifK_T, Nn.ifK_F, Nn.kl_ap, Nn.klK_ap, Nn.wipe_nil, Nn.wipe_cons, Nn.put_mk, Nn.start_mk, Nn.for_ap, Nn.forK_ap, Nn.itP_l, Nn.it_ap, Nn.itK_tup, Nn.itK_tuf, Nn.itK_fl, Nn.itK_sc, Nn.itK_fd, Nn.itK_lc, Nn.revA_ap, Nn.revAK_tup, Nn.revAK_tuf, Nn.revAK_fl, List.reverse_cons, List.reverse_nil, Nn.itO_lst, Nn.itL_l, Nn.loopP_consG, Nn.lpC_ok, Nn.turn_nx, Nn.turn_ct, Nn.turn_rt, Nn.turn_bk, Nn.lcL_consG, Nn.lcC1_ap, Nn.lcC2_T, Nn.lcC2_F, Nn.gtp_tup, Nn.gtK_ok, Nn.gcn_ap, Nn.gcJ_ap, Nn.gnl_ap, Nn.en_nil, Nn.en_cons, Nn.sl_tup, Nn.sl_fl, Nn.cut_d1, Nn.cut_d2, Nn.cut_t1, Nn.cut_t2, List.take_succ_cons, List.take_zero, List.drop_succ_cons, List.drop_zero, List.take_nil, List.drop_nil, Nn.itK_str, Nn.range1_ap, Nn.enum_ap, Nn.enK_tup, Nn.enK_tuf, Nn.enK_fl, Nn.lc_ap, Nn.lcK_ap, Nn.newLK_ap, Nn.yes_ap, Nn.blk_ap, Nn.blkK_nx, Nn.blkK_ct, Nn.blkK_bk, Nn.blkK_rt, Nn.blkO_some, Nn.cons2_some, Nn.frzE_nil, Nn.frzE_none, Nn.frzE_cons, Nn.frzS_nil, Nn.frzS_cons, Nn.app2_some, Option.map_some, List.take_succ_cons, Nn.bind_ok, Nn.bindS_ok, Nn.bindN_nx, Nn.bindN_rt, Nn.bindN_ct, Nn.bindN_bk, Nn.bind_bind, Nn.bind_bindS, Nn.bindS_bindN, Nn.bindN_bindN, Nn.bbK_ap, Nn.bsK_ap, Nn.snK_ap, Nn.nnK_ap, Nn.aug_ap, Nn.augK_ap, Nn.augI_ap, Nn.augJ_ap, Nn.bl_ap, Nn.blK_ap, Nn.blO_ap, Nn.blJ_ap, Nn.index_ap, Nn.idxK_tuf, Nn.idxK_fl, Nn.join_ap, Nn.joinK_ap, Nn.fld_ap, Nn.sfld_ap, Nn.sfK_ap, Nn.mkF_ap, Nn.part_ap, Nn.partK_ap, Nn.noPart_ap, Nn.sl_ap, Nn.slA_ap, Nn.slB_ap, Nn.slC_ap, Nn.at0, Nn.at1, Nn.at2, Nn.at3, Nn.at4, Nn.at5, Nn.at6, Nn.at7, Nn.at8, Nn.at9, Nn.oD_some, Nn.ix_tup, Nn.ix_tuf, Nn.ix_fl, Nn.ix_sc, Nn.ix_lc, Nn.ixO_lst, Nn.ixO_dic, Nn.ixO_dicI, Nn.gsb_ap, Nn.okB_ok, Nn.gsA_ap, Nn.gsC_ap, Nn.gsE_ap, Nn.set_lc, Nn.setO_lst, Nn.setJ_some, Nn.ixN_L0, Nn.ixN_L1, Nn.ixN_L2, Nn.ixN_L3, Nn.ixN_L4, Nn.ixN_L5, Nn.add_int, Nn.sub_int, Nn.neg_int, Nn.lt_int, Nn.le_int, Nn.gt_int, Nn.ge_int, Nn.eq_int, Nn.eq_str, Nn.eq_bl, Nn.is_non, Nn.is_tup, Nn.is_str, Nn.is_int, Nn.is_bl, Nn.int_int, Nn.int_bl, Nn.abs_int, Nn.len_tup, Nn.len_tuf, Nn.len_fl, Nn.len_sc, Nn.len_lc, Nn.lenQ_lst, Nn.lenQ_dic, Nn.tuple_fl, Nn.tuple_lc, Nn.tupO_lst, Nn.sl_lc, Nn.slO_lst, Nn.min2_int, Nn.lstRg_ap, Nn.tupleF_fl, Nn.isi_ap, Nn.ty_non, Nn.ty_bl, Nn.ty_int, Nn.ty_str, Nn.ty_tup, Nn.ty_tuf, Nn.ty_fl, Nn.ty_sc, Nn.ty_fd, Nn.ty_lc, Nn.tyO_lst, Nn.tyO_dic, Nn.isO_NoneType_bool, Nn.isO_NoneType_int, Nn.isO_NoneType_str, Nn.isO_NoneType_tuple, Nn.isO_NoneType_list, Nn.isO_NoneType_dict, Nn.isO_bool_bool, Nn.isO_bool_int, Nn.isO_bool_str, Nn.isO_bool_tuple, Nn.isO_bool_list, Nn.isO_bool_dict, Nn.isO_int_bool, Nn.isO_int_int, Nn.isO_int_str, Nn.isO_int_tuple, Nn.isO_int_list, Nn.isO_int_dict, Nn.isO_str_bool, Nn.isO_str_int, Nn.isO_str_str, Nn.isO_str_tuple, Nn.isO_str_list, Nn.isO_str_dict, Nn.isO_tuple_bool, Nn.isO_tuple_int, Nn.isO_tuple_str, Nn.isO_tuple_tuple, Nn.isO_tuple_list, Nn.isO_tuple_dict, Nn.isO_list_bool, Nn.isO_list_int, Nn.isO_list_str, Nn.isO_list_tuple, Nn.isO_list_list, Nn.isO_list_dict, Nn.isO_dict_bool, Nn.isO_dict_int, Nn.isO_dict_str, Nn.isO_dict_tuple, Nn.isO_dict_list, Nn.isO_dict_dict, Nn.chain_ap, Nn.chA_ap, Nn.chB_ap, Nn.chC_T, Nn.chC_F, Nn.chD_ap, Nn.trK_gen, Nn.trO_some, Nn.tru_tup, Nn.tru_fl, Nn.tru_non, Nn.tru_bl, Nn.tru_int, Nn.emp_nil, Nn.emp_cons, Nn.emp_map, Nn.all_nil, Nn.sum_nil, Nn.ix_fdM, Nn.in_fdM, Nn.lookD_cons, Nn.fldK_foG, Nn.fldC_T, Nn.cont1, Nn.fldO_gen, Nn.fldP_some, Nn.sfJ_lc, Nn.putFD_nil, Nn.putFD_cons, Nn.kd_str, Nn.in_lc, Nn.inO_strs, Nn.in_tupS, Nn.in_tufS, Nn.in_flS, Nn.ap_lc, Nn.pop_lc, Nn.popO_snoc, Nn.rev_lc, Nn.revO_lst, Nn.rem_lc, Nn.ex_lc, Nn.ins_lc, Nn.list_tup, Nn.list_tuf, Nn.list_fl, Nn.list_sc, Nn.list_lc, Nn.lsO_lst, Nn.eq_non, Nn.eq_strI, List.map_cons, List.map_nil, List.length_cons, List.length_nil, List.replicate_succ, List.replicate_zero, List.set_cons_zero, List.set_cons_succ, List.getElem?_cons_zero, List.getElem?_cons_succ, List.cons_append, List.nil_append, Nat.reduceAdd, Nat.reduceSub, Nat.zero_add, if_true, if_false, ↓reduceIte, reduceCtorEq, Bool.false_eq_true, Nn.sat_ok, Nn.of_inj, Nn.in_sign, Int.reduceLE, Int.reduceLT, Int.reduceGT, Int.reduceGE, Int.reduceEq, Int.reduceNe, Nn.cast_0, Nn.cast_1, Nn.cast_2, Nn.cast_3, Nn.cast_4, Nn.cast_5, Nn.cast_6, Nn.cast_7, Nn.cast_8, Nn.cast_9, Nn.cast_10, Nn.cast_11, Nn.cast_12, Nn.cast_13, Nn.cast_14, Nn.cast_15, Nn.cast_16, Nn.cast_17, Nn.cast_18, Nn.cast_19, Nn.cast_20, Nn.cast_21, Nn.cast_22, Nn.cast_23, Nn.cast_24, Nn.cast_25, Nn.cast_26, Nn.cast_27, Nn.cast_28, Nn.cast_29, Nn.cast_30, Nn.cast_31, Nn.cast_32, Nn.cast_33, Nn.cast_34, Nn.cast_35, Nn.cast_36, Nn.cast_37, Nn.cast_38, Nn.cast_39, Nn.cast_40, Int.reduceAdd, Int.reduceSub, not_true_eq_false, not_false_eq_true, String.reduceEq, String.reduceNe, eq_self, decide_true, decide_false, Nn.ng, Nn.nd_dec, Nn.pow_18, Nn.pow_20, List.length_map, Bool.not_true, Bool.not_false])
local macro_rules | `(tactic| wtm_at "br") => `(tactic| first | refine go_ifDN ?_ ?_ | refine go_ifD ?_ ?_ | refine go_bindS (sat_andD ?_ ?_) | refine go_bindS (sat_orD ?_ ?_) | refine go_bindS (sat_andVD ?_ ?_) | refine go_bindS (sat_orVD ?_ ?_) | refine go_bindS (sat_ifD ?_ ?_) | refine sat_bind (sat_andD ?_ ?_) | refine sat_bind (sat_orD ?_ ?_) | refine sat_bind (sat_andVD ?_ ?_) | refine sat_bind (sat_orVD ?_ ?_) | refine sat_bind (sat_ifD ?_ ?_) | refine go_ifN ?_ ?_ | refine go_if ?_ ?_ | refine go_bindS (sat_andB ?_ ?_) | refine go_bindS (sat_orB ?_ ?_) | refine go_bindS (sat_andVB ?_ ?_) | refine go_bindS (sat_orVB ?_ ?_) | refine go_bindS (sat_ifB ?_ ?_) | refine go_bindS (sat_chDec ?_ ?_) | refine sat_bind (sat_chDec ?_ ?_) | refine sat_chDec ?_ ?_ | refine sat_andD ?_ ?_ | refine sat_orD ?_ ?_ | refine sat_andVD ?_ ?_ | refine sat_orVD ?_ ?_ | refine sat_ifD ?_ ?_ | refine sat_andB ?_ ?_ | refine sat_orB ?_ ?_ | refine sat_andVB ?_ ?_ | refine sat_orVB ?_ ?_ | refine sat_ifB ?_ ?_ | fail)
local macro_rules | `(tactic| wtm_at "dr0") => `(tactic| ((first | refine go_bindS (draw_call (by rfl) (by assumption) (by omega) (by omega) (by omega) ?_) | refine sat_bind (draw_call (by rfl) (by assumption) (by omega) (by omega) (by omega) ?_) | refine draw_call (by rfl) (by assumption) (by omega) (by omega) (by omega) ?_ | fail); intro _ _ _ _ _ _ _; simp only [List.set_cons_zero, List.set_cons_succ]; try wtm_at "evo"))
local macro_rules | `(tactic| wtm_at "wd") => `(tactic| ((with_reducible first | refine word_bindS ?_ ?_ ?_ | refine word_bind ?_ ?_ ?_ | refine word_sat ?_ ?_ ?_ | fail); (focus omega); (focus omega); intro _ _; try wtm_at "evo"))
local macro_rules | `(tactic| wtm_at "dr") => `(tactic| first | wtm_at "dr0" | wtm_at "wd" | fail)
local macro_rules | `(tactic| wtm_at "brs") => `(tactic| (wtm_at "br" <;> (intro _; try wtm_at "evo")))
local macro_rules | `(tactic| wtm_at "all") => `(tactic| ((try wtm_at "evo"); repeat' (first | wtm_at "dr" | wtm_at "brs")))
local macro_rules | `(tactic| wtm_at "drs") => `(tactic| ((try wtm_at "evo"); repeat' wtm_at "dr"))
local macro_rules | `(tactic| wtm_at "low") => `(tactic| first | rfl | (simp only [vl_lows, od_lows, Vl.low, Od.low, Hd.low, Ed.low, bagO_low, Nn.lows_nil, Nn.lows_cons, Nn.low_non, Nn.low_bl, Nn.low_int, Nn.low_str, Nn.low_ty, Nn.low_tup, Nn.low_tuf, Nn.low_fl, Nn.low_sc, Nn.low_fd, Nn.low_fo, Nn.lows_str, Nn.lows_int, Nn.lows_app, Nn.lowO_strs, Nn.lowO_ints, Nn.lowO_l, Nn.lowO_d, Nn.lowO_i, Bool.and_true, Bool.and_self, Bool.true_and, List.all_cons, List.all_nil, List.map_cons, List.map_nil, poolO_low, List.take_succ_cons, List.take_zero]; done) | fail)

theorem sOk_of (s : String) : sOk (Str.ofString s) = true := by
  show PyData.strOk (Str.ofString s) = true
  unfold PyData.strOk
  rw [← Array.all_toList, List.all_eq_true]
  have e : (Str.ofString s).cps.toList = s.toList.map Char.toNat := by rw [Str.ofString_eq_toList]
  rw [e]
  intro x hx
  obtain ⟨c, _, rfl⟩ := List.mem_map.mp hx
  refine decide_eq_true ?_
  have := c.valid
  unfold UInt32.isValidChar Nat.isValidChar at this
  show c.toNat < _
  have e : c.toNat = c.val.toNat := rfl
  omega
def Od.ok : Od → Prop
  | .v x => x.ok
  | _ => True
theorem Vl.ok.okP {x : Vl} (h : x.ok) (n : Nat) : Nn.okP n x.d = true := by
  cases x with
  | i z => cases n <;> rfl
  | s y =>
    obtain ⟨z, _, rfl⟩ := h
    have : sOk (sI z) = true := sOk_of _
    cases n <;> (show Nn.okP _ (.str (sI z)) = true; unfold Nn.okP; exact this)
theorem Od.ok.okP {o : Od} (h : o.ok) : Nn.okP 2 o.d = true := by
  cases o with
  | v x => exact Vl.ok.okP h 2
  | ab => decide +kernel
  | _ => rfl
/-- two things are the same or not -/
theorem eq_oo {a b : Od} {st : S} (ha : a.ok) (hb : b.ok) {neg : Bool} : ∃ c, fEqA neg a.d b.d st = .ok (.bl c) st := ⟨_, eq_deep ha.okP hb.okP (by omega)⟩
theorem vD_o (l : List Vl) : vD l = oD' (l.map Od.v) := by
  unfold vD oD'
  rw [List.map_map]
  rfl
theorem at_od {L : List Od} {k : Nat} (h : k < L.length) : atI (oD' L) ((k : Nat) : Int) = some (L[k]).d := by
  rw [atD, List.getElem?_map, List.getElem?_eq_getElem h]
  rfl
theorem ty_od {o : Od} {st : S} : ∃ b, isiO (tyD st o.d) "str" st = .ok (.bl b) st := by
  rcases o with (_ | _) | _ | _ | _ | _ | _
  · exact ⟨false, Nn.isO_int_str⟩
  · exact ⟨true, Nn.isO_str_str⟩
  · exact ⟨false, Nn.isO_bool_str⟩
  · exact ⟨false, Nn.isO_NoneType_str⟩
  · exact ⟨false, Nn.isO_tuple_str⟩
  · exact ⟨false, Nn.isO_list_str⟩
  · exact ⟨false, Nn.isO_tuple_str⟩
theorem place_o {L : List Od} {x : Vl} (hL : ∀ o ∈ L, o.ok) (hx : x.ok) (hl : L.length ≤ 1000) : ∃ p : Int, mLPlace [.fl (oD' L), x.d] [] = .ok (.int p) [] := by
  have main : (mLPlace [.fl (oD' L), x.d] []).sat fun d s => ∃ p : Int, d = .int p ∧ s = [] := by
    refine def_sat ?_
    unfold mbLPlace
    wtm_at "evo"
    rw [show ((L.length : Int)).toNat = L.length by omega]
    refine go_loop (I := fun r e s => ∃ k : Nat, k + r.length = L.length ∧ r = (rgD 0 L.length).drop k ∧ e = ⟨[some (.fl (oD' L)), some x.d, none], none⟩ ∧ s = []) ⟨0, by simp [rgD], rfl, rfl, rfl⟩ ?_ ?_
    · rintro d r e s ⟨k, hk, hd, rfl, rfl⟩
      obtain ⟨rfl, hr, hkl⟩ := rg_at hd
      have hc := at_od hkl
      rw [List.length_cons] at hk
      obtain ⟨b1, e1⟩ := ty_od (o := L[k]) (st := [])
      obtain ⟨b2, e2⟩ := eq_oo (a := L[k]) (b := .v x) (st := []) (hL _ (List.getElem_mem hkl)) hx (neg := false)
      simp only [od_v] at e2
      have nx : ∃ k₁ : Nat, k₁ + r.length = L.length ∧ r = (rgD 0 L.length).drop k₁ ∧ (⟨[some (.fl (oD' L)), some x.d, none], none⟩ : Ev) = ⟨[some (.fl (oD' L)), some x.d, none], none⟩ ∧ ([] : S) = [] := ⟨k + 1, by omega, hr, rfl, rfl⟩
      wtm_at "evo"
      simp only [hc]
      wtm_at "evo"
      rw [e1]
      wtm_at "evo"
      by_cases h1 : b1 = x.isS
      · rw [decide_eq_true h1]
        wtm_at "evo"
        simp only [hc]
        wtm_at "evo"
        rw [e2]
        wtm_at "evo"
        cases b2
        · wtm_at "evo"
          exact nx
        · wtm_at "evo"
          exact lp_rt (go_end0 rfl ⟨_, rfl, rfl⟩)
      · rw [decide_eq_false h1]
        wtm_at "evo"
        exact nx
    · rintro e s ⟨k, hk, hd, rfl, rfl⟩
      wtm_at "evo"
      exact go_end0 (d := .int (-1)) rfl ⟨_, rfl, rfl⟩
  obtain ⟨d, s, e, p, rfl, rfl⟩ := sat_eq main
  exact ⟨p, e⟩
theorem c_placeO {st : S} {L : List Od} {x : Vl} (hL : ∀ o ∈ L, o.ok) (hx : x.ok) (hl : L.length ≤ 1000) : ∃ p : Int, callF [false, false] mLPlace [.fl (oD' L), x.d] st = .ok (.int p) st := by
  obtain ⟨p, e⟩ := place_o hL hx hl
  exact ⟨p, call_eq rfl (by simp only [List.all_cons, Nn.low_fl, od_lows, x.low]; rfl) e rfl⟩

end Ke
namespace Ke
open PySem PySem.Spec PyProof.Rows L2 Lb Nn
local macro_rules | `(tactic| wtm_at "ev") => `(tactic| simp only [Nn.seq_ap, Nn.next_ap, Nn.brk_ap, Nn.cnt_ap, Nn.var_ap, Nn.varK_ok, Nn.c_ap, Nn.m2_ap, Nn.m2K_ap, Nn.m2J_ap, Nn.m1_ap, Nn.mB_ap, Nn.mBK_ap, Nn.and_ap, Nn.or_ap, Nn.not_ap, Nn.andK_T, Nn.andK_F, Nn.orK_T, Nn.orK_F, Nn.notK_ap, Nn.andV_ap, Nn.orV_ap, Nn.notV_ap, Nn.ifE_ap, Nn.andVK_T, Nn.andVK_F, Nn.orVK_T, Nn.orVK_F, Nn.notVK_ap, Nn.ifEK_T, Nn.ifEK_F, Nn.nil_ap, Nn.cons_ap, Nn.consK_ap, Nn.consJ_ap, Nn.star_ap, Nn.starJ_ap, Nn.starK_tup, Nn.starK_tuf, Nn.starK_fl, Nn.starK_lc, Nn.starO_lst, Nn.lcL_nil, Nn.loopP_nil, List.append_nil,  Nn.tup_ap, Nn.lst_ap, Nn.newL_T, Nn.newL_F, Nn.newD_T, Nn.newD_F, Nn.dnew_ap, Nn.cb_ap, Nn.call_ap, Nn.callD_ap, Nn.callDD, Nn.dyn_nil, Nn.dyn_F, Nn.dyn_loc, Nn.dyn_fd, Nn.dyn_fl, Nn.dyn_tup, Nn.dyn_non, Nn.disp_ap, Nn.prs_nil, Nn.prs_cons, Nn.prA_ap, Nn.prB_ap, Nn.prC_str, Nn.prC_int, Nn.dispK_1, Nn.tr_ap, Nn.trK_bl, Nn.asg_ap, Nn.asgK_ap, Nn.asgJ_ok, Nn.gnm_ap, Nn.gkl_ap, Nn.ret_ap, Nn.retK_ap, Nn.retN_ap, Nn.drop_ap, Nn.dropK_ap, Nn.if_ap, Nn.ifK_T, Nn.ifK_F, Nn.kl_ap, Nn.klK_ap, Nn.wipe_nil, Nn.wipe_cons, Nn.put_mk, Nn.start_mk, Nn.for_ap, Nn.forK_ap, Nn.itP_l, Nn.it_ap, Nn.itK_tup, Nn.itK_tuf, Nn.itK_fl, Nn.itK_sc, Nn.itK_fd, Nn.itK_lc, Nn.revA_ap, Nn.revAK_tup, Nn.revAK_tuf, Nn.revAK_fl, List.reverse_cons, List.reverse_nil, Nn.itO_lst, Nn.itL_l, Nn.loopP_consG, Nn.lpC_ok, Nn.turn_nx, Nn.turn_ct, Nn.turn_rt, Nn.turn_bk, Nn.lcL_consG, Nn.lcC1_ap, Nn.lcC2_T, Nn.lcC2_F, Nn.gtp_tup, Nn.gtK_ok, Nn.gcn_ap, Nn.gcJ_ap, Nn.gnl_ap, Nn.en_nil, Nn.en_cons, Nn.sl_tup, Nn.sl_fl, Nn.cut_d1, Nn.cut_d2, Nn.cut_t1, Nn.cut_t2, List.take_succ_cons, List.take_zero, List.drop_succ_cons, List.drop_zero, List.take_nil, List.drop_nil, Nn.itK_str, Nn.range1_ap, Nn.enum_ap, Nn.enK_tup, Nn.enK_tuf, Nn.enK_fl, Nn.lc_ap, Nn.lcK_ap, Nn.newLK_ap, Nn.yes_ap, Nn.blk_ap, Nn.blkK_nx, Nn.blkK_ct, Nn.blkK_bk, Nn.blkK_rt, Nn.blkO_some, Nn.cons2_some, Nn.frzE_nil, Nn.frzE_none, Nn.frzE_cons, Nn.frzS_nil, Nn.frzS_cons, Nn.app2_some, Option.map_some, List.take_succ_cons, Nn.bind_ok, Nn.bindS_ok, Nn.bindN_nx, Nn.bindN_rt, Nn.bindN_ct, Nn.bindN_bk, Nn.bind_bind, Nn.bind_bindS, Nn.bindS_bindN, Nn.bindN_bindN, Nn.bbK_ap, Nn.bsK_ap, Nn.snK_ap, Nn.nnK_ap, Nn.aug_ap, Nn.augK_ap, Nn.augI_ap, Nn.augJ_ap, Nn.bl_ap, Nn.blK_ap, Nn.blO_ap, Nn.blJ_ap, Nn.index_ap, Nn.idxK_tuf, Nn.idxK_fl, Nn.join_ap, Nn.joinK_ap, Nn.fld_ap, Nn.sfld_ap, Nn.sfK_ap, Nn.mkF_ap, Nn.part_ap, Nn.partK_ap, Nn.noPart_ap, Nn.sl_ap, Nn.slA_ap, Nn.slB_ap, Nn.slC_ap, Nn.at0, Nn.at1, Nn.at2, Nn.at3, Nn.at4, Nn.at5, Nn.at6, Nn.at7, Nn.at8, Nn.at9, Nn.oD_some, Nn.ix_tup, Nn.ix_tuf, Nn.ix_fl, Nn.ix_sc, Nn.ix_lc, Nn.ixO_lst, Nn.ixO_dic, Nn.ixO_dicI, Nn.gsb_ap, Nn.okB_ok, Nn.gsA_ap, Nn.gsC_ap, Nn.gsE_ap, Nn.set_lc, Nn.setO_lst, Nn.setJ_some, Nn.ixN_L0, Nn.ixN_L1, Nn.ixN_L2, Nn.ixN_L3, Nn.ixN_L4, Nn.ixN_L5, Nn.add_int, Nn.sub_int, Nn.neg_int, Nn.lt_int, Nn.le_int, Nn.gt_int, Nn.ge_int, Nn.eq_int, Nn.eq_str, Nn.eq_bl, Nn.is_non, Nn.is_tup, Nn.is_str, Nn.is_int, Nn.is_bl, Nn.int_int, Nn.int_bl, Nn.abs_int, Nn.len_tup, Nn.len_tuf, Nn.len_fl, Nn.len_sc, Nn.len_lc, Nn.lenQ_lst, Nn.lenQ_dic, Nn.tuple_fl, Nn.tuple_lc, Nn.tupO_lst, Nn.sl_lc, Nn.slO_lst, Nn.min2_int, Nn.lstRg_ap, Nn.tupleF_fl, Nn.isi_ap, Nn.ty_non, Nn.ty_bl, Nn.ty_int, Nn.ty_str, Nn.ty_tup, Nn.ty_tuf, Nn.ty_fl, Nn.ty_sc, Nn.ty_fd, Nn.ty_lc, Nn.tyO_lst, Nn.tyO_dic, Nn.isO_NoneType_bool, Nn.isO_NoneType_int, Nn.isO_NoneType_str, Nn.isO_NoneType_tuple, Nn.isO_NoneType_list, Nn.isO_NoneType_dict, Nn.isO_bool_bool, Nn.isO_bool_int, Nn.isO_bool_str, Nn.isO_bool_tuple, Nn.isO_bool_list, Nn.isO_bool_dict, Nn.isO_int_bool, Nn.isO_int_int, Nn.isO_int_str, Nn.isO_int_tuple, Nn.isO_int_list, Nn.isO_int_dict, Nn.isO_str_bool, Nn.isO_str_int, Nn.isO_str_str, Nn.isO_str_tuple, Nn.isO_str_list, Nn.isO_str_dict, Nn.isO_tuple_bool, Nn.isO_tuple_int, Nn.isO_tuple_str, Nn.isO_tuple_tuple, Nn.isO_tuple_list, Nn.isO_tuple_dict, Nn.isO_list_bool, Nn.isO_list_int, Nn.isO_list_str, Nn.isO_list_tuple, Nn.isO_list_list, Nn.isO_list_dict, Nn.isO_dict_bool, Nn.isO_dict_int, Nn.isO_dict_str, Nn.isO_dict_tuple, Nn.isO_dict_list, Nn.isO_dict_dict, Nn.chain_ap, Nn.chA_ap, Nn.chB_ap, Nn.chC_T, Nn.chC_F, Nn.chD_ap, Nn.trK_gen, Nn.trO_some, Nn.tru_tup, Nn.tru_fl, Nn.tru_non, Nn.tru_bl, Nn.tru_int, Nn.emp_nil, Nn.emp_cons, Nn.emp_map, Nn.all_nil, Nn.sum_nil, Nn.ix_fdM, Nn.in_fdM, Nn.lookD_cons, Nn.fldK_foG, Nn.fldC_T, Nn.cont1, Nn.fldO_gen, Nn.fldP_some, Nn.sfJ_lc, Nn.putFD_nil, Nn.putFD_cons, Nn.kd_str, Nn.in_lc, Nn.inO_strs, Nn.in_tupS, Nn.in_tufS, Nn.in_flS, Nn.ap_lc, Nn.pop_lc, Nn.popO_snoc, Nn.rev_lc, Nn.revO_lst, Nn.rem_lc, Nn.ex_lc, Nn.ins_lc, Nn.list_tup, Nn.list_tuf, Nn.list_fl, Nn.list_sc, Nn.list_lc, Nn.lsO_lst, Nn.eq_non, Nn.eq_strI, List.map_cons, List.map_nil, List.length_cons, List.length_nil, List.replicate_succ, List.replicate_zero, List.set_cons_zero, List.set_cons_succ, List.getElem?_cons_zero, List.getElem?_cons_succ, List.cons_append, List.nil_append, Nat.reduceAdd, Nat.reduceSub, Nat.zero_add, if_true, if_false, ↓reduceIte, reduceCtorEq, Bool.false_eq_true, Nn.sat_ok, Nn.of_inj, Nn.in_sign, Int.reduceLE, Int.reduceLT, Int.reduceGT, Int.reduceGE, Int.reduceEq, Int.reduceNe, Nn.cast_0, Nn.cast_1, Nn.cast_2, Nn.cast_3, Nn.cast_4, Nn.cast_5, Nn.cast_6, Nn.cast_7, Nn.cast_8, Nn.cast_9, Nn.cast_10, Nn.cast_11, Nn.cast_12, Nn.cast_13, Nn.cast_14, Nn.cast_15, Nn.cast_16, Nn.cast_17, Nn.cast_18, Nn.cast_19, Nn.cast_20, Nn.cast_21, Nn.cast_22, Nn.cast_23, Nn.cast_24, Nn.cast_25, Nn.cast_26, Nn.cast_27, Nn.cast_28, Nn.cast_29, Nn.cast_30, Nn.cast_31, Nn.cast_32, Nn.cast_33, Nn.cast_34, Nn.cast_35, Nn.cast_36, Nn.cast_37, Nn.cast_38, Nn.cast_39, Nn.cast_40, Int.reduceAdd, Int.reduceSub, not_true_eq_false, not_false_eq_true, String.reduceEq, String.reduceNe, eq_self, decide_true, decide_false, Nn.ng, Nn.nd_dec, Nn.pow_18, Nn.pow_20, List.length_map, Bool.not_true, Bool.not_false])
local macro_rules | `(tactic| wtm_at "evo") => `(tactic| simp -implicitDefEqProofs (disch := first | assumption | omega | (refine Nn.okR_small ?_; omega) | (simp only [List.length_cons, List.length_nil, List.length_map, List.length_append]; omega) | (simp only [vl_lows, od_lows, Vl.low, Od.low, Hd.low, Ed.low, bagO_low, Nn.lows_nil, Nn.lows_cons, Nn.low_non, Nn.low_bl, Nn.low_int, Nn.low_str, Nn.low_ty, Nn.low_tup, Nn.low_tuf, Nn.low_fl, Nn.low_sc, Nn.low_fd, Nn.low_fo, Nn.lows_str, Nn.lows_int, Nn.lows_app, Nn.lowO_strs, Nn.lowO_ints, Nn.lowO_l, Nn.lowO_d, Nn.lowO_i, Bool.and_true, Bool.and_self, Bool.true_and, List.all_cons, List.all_nil, List.map_cons, List.map_nil]; done) | decide) only [in_vl, eq_vl, ty_vl, isO_vlS, isO_vlI, isO_vlB, od_v, pow_24, Nn.mul_int, Nn.mod_int, Nn.div_int, Nn.lstK_ap, Nn.rgLK_ap, Nn.blkE_ap, Nn.frz_low, Nn.frz_lt, Nn.frzO_low, Nn.lcC3_ap, Nn.apO_lst, Nn.len_str, Nn.sfO_ins1, Nn.exO_lst, Nn.tupK_ap, Nn.rg1K_ap, Nn.okR_small, Nn.seq_ap, Nn.next_ap, Nn.brk_ap, Nn.cnt_ap, Nn.var_ap, Nn.varK_ok, Nn.c_ap, Nn.m2_ap, Nn.m2K_ap, Nn.m2J_ap, Nn.m1_ap, Nn.mB_ap, Nn.mBK_ap, Nn.and_ap, Nn.or_ap, Nn.not_ap, Nn.andK_T, Nn.andK_F, Nn.orK_T, Nn.orK_F, Nn.notK_ap, Nn.andV_ap, Nn.orV_ap, Nn.notV_ap, Nn.ifE_ap, Nn.andVK_T, Nn.andVK_F, Nn.orVK_T, Nn.orVK_F, Nn.notVK_ap, Nn.ifEK_T, Nn.ifEK_F, Nn.nil_ap, Nn.cons_ap, Nn.consK_ap, Nn.consJ_ap, Nn.star_ap, Nn.starJ_ap, Nn.starK_tup, Nn.starK_tuf, Nn.starK_fl, Nn.starK_lc, Nn.starO_lst, Nn.lcL_nil, Nn.loopP_nil, List.append_nil,  Nn.tup_ap, Nn.lst_ap, Nn.newL_T, Nn.newL_F, Nn.newD_T, Nn.newD_F, Nn.dnew_ap, Nn.cb_ap, Nn.call_ap, Nn.callD_ap, Nn.callDD, Nn.dyn_nil, Nn.dyn_F, Nn.dyn_loc, Nn.dyn_fd, Nn.dyn_fl, Nn.dyn_tup, Nn.dyn_non, Nn.disp_ap, Nn.prs_nil, Nn.prs_cons, Nn.prA_ap, Nn.prB_ap, Nn.prC_str, Nn.prC_int, Nn.dispK_1, Nn.tr_ap, Nn.trK_bl, Nn.asg_ap, Nn.asgK_ap, Nn.asgJ_ok, Nn.gnm_ap, Nn.gkl_ap, Nn.ret_ap, Nn.retK_ap, Nn.retN_ap, Nn.drop_ap, Nn.dropK_ap, Nn.if_ap, Nn.ifK_T, Nn.ifK_F, Nn.kl_ap, Nn.klK_ap, Nn.wipe_nil, Nn.wipe_cons, Nn.put_mk, Nn.start_mk, Nn.for_ap, Nn.forK_ap, Nn.itP_l, Nn.it_ap, Nn.itK_tup, Nn.itK_tuf, Nn.itK_fl, Nn.itK_sc, Nn.itK_fd, Nn.itK_lc, Nn.revA_ap, Nn.revAK_tup, Nn.revAK_tuf, Nn.revAK_fl, List.reverse_cons, List.reverse_nil, Nn.itO_lst, Nn.itL_l, Nn.loopP_consG, Nn.lpC_ok, Nn.turn_nx, Nn.turn_ct, Nn.turn_rt, Nn.turn_bk, Nn.lcL_consG, Nn.lcC1_ap, Nn.lcC2_T, Nn.lcC2_F, Nn.gtp_tup, Nn.gtK_ok, Nn.gcn_ap, Nn.gcJ_ap, Nn.gnl_ap, Nn.en_nil, Nn.en_cons, Nn.sl_tup, Nn.sl_fl, Nn.cut_d1, Nn.cut_d2, Nn.cut_t1, Nn.cut_t2, List.take_succ_cons, List.take_zero, List.drop_succ_cons, List.drop_zero, List.take_nil, List.drop_nil, Nn.itK_str, Nn.range1_ap, Nn.enum_ap, Nn.enK_tup, Nn.enK_tuf, Nn.enK_fl, Nn.lc_ap, Nn.lcK_ap, Nn.newLK_ap, Nn.yes_ap, Nn.blk_ap, Nn.blkK_nx, Nn.blkK_ct, Nn.blkK_bk, Nn.blkK_rt, Nn.blkO_some, Nn.cons2_some, Nn.frzE_nil, Nn.frzE_none, Nn.frzE_cons, Nn.frzS_nil, Nn.frzS_cons, Nn.app2_some, Option.map_some, List.take_succ_cons, Nn.bind_ok, Nn.bindS_ok, Nn.bindN_nx, Nn.bindN_rt, Nn.bindN_ct, Nn.bindN_bk, Nn.bind_bind, Nn.bind_bindS, Nn.bindS_bindN, Nn.bindN_bindN, Nn.bbK_ap, Nn.bsK_ap, Nn.snK_ap, Nn.nnK_ap, Nn.aug_ap, Nn.augK_ap, Nn.augI_ap, Nn.augJ_ap, Nn.bl_ap, Nn.blK_ap, Nn.blO_ap, Nn.blJ_ap, Nn.index_ap, Nn.idxK_tuf, Nn.idxK_fl, Nn.join_ap, Nn.joinK_ap, Nn.fld_ap, Nn.sfld_ap, Nn.sfK_ap, Nn.mkF_ap, Nn.part_ap, Nn.partK_ap, Nn.noPart_ap, Nn.sl_ap, Nn.slA_ap, Nn.slB_ap, Nn.slC_ap, Nn.at0, Nn.at1, Nn.at2, Nn.at3, Nn.at4, Nn.at5, Nn.at6, Nn.at7, Nn.at8, Nn.at9, Nn.oD_some, Nn.ix_tup, Nn.ix_tuf, Nn.ix_fl, Nn.ix_sc, Nn.ix_lc, Nn.ixO_lst, Nn.ixO_dic, Nn.ixO_dicI, Nn.gsb_ap, Nn.okB_ok, Nn.gsA_ap, Nn.gsC_ap, Nn.gsE_ap, Nn.set_lc, Nn.setO_lst, Nn.setJ_some, Nn.ixN_L0, Nn.ixN_L1, Nn.ixN_L2, Nn.ixN_L3, Nn.ixN_L4, Nn.ixN_L5, Nn.add_int, Nn.sub_int, Nn.neg_int, Nn.lt_int, Nn.le_int, Nn.gt_int, Nn.ge_int, Nn.eq_int, Nn.eq_str, Nn.eq_bl, Nn.is_non, Nn.is_tup, Nn.is_str, Nn.is_int, Nn.is_bl, Nn.int_int, Nn.int_bl, Nn.abs_int, Nn.len_tup, Nn.len_tuf, Nn.len_fl, Nn.len_sc, Nn.len_lc, Nn.lenQ_lst, Nn.lenQ_dic, Nn.tuple_fl, Nn.tuple_lc, Nn.tupO_lst, Nn.sl_lc, Nn.slO_lst, Nn.min2_int, Nn.lstRg_ap, Nn.tupleF_fl, Nn.isi_ap, Nn.ty_non, Nn.ty_bl, Nn.ty_int, Nn.ty_str, Nn.ty_tup, Nn.ty_tuf, Nn.ty_fl, Nn.ty_sc, Nn.ty_fd, Nn.ty_lc, Nn.tyO_lst, Nn.tyO_dic, Nn.isO_NoneType_bool, Nn.isO_NoneType_int, Nn.isO_NoneType_str, Nn.isO_NoneType_tuple, Nn.isO_NoneType_list, Nn.isO_NoneType_dict, Nn.isO_bool_bool, Nn.isO_bool_int, Nn.isO_bool_str, Nn.isO_bool_tuple, Nn.isO_bool_list, Nn.isO_bool_dict, Nn.isO_int_bool, Nn.isO_int_int, Nn.isO_int_str, Nn.isO_int_tuple, Nn.isO_int_list, Nn.isO_int_dict, Nn.isO_str_bool, Nn.isO_str_int, Nn.isO_str_str, Nn.isO_str_tuple, Nn.isO_str_list, Nn.isO_str_dict, Nn.isO_tuple_bool, Nn.isO_tuple_int, Nn.isO_tuple_str, Nn.isO_tuple_tuple, Nn.isO_tuple_list, Nn.isO_tuple_dict, Nn.isO_list_bool, Nn.isO_list_int, Nn.isO_list_str, Nn.isO_list_tuple, Nn.isO_list_list, Nn.isO_list_dict, Nn.isO_dict_bool, Nn.isO_dict_int, Nn.isO_dict_str, Nn.isO_dict_tuple, Nn.isO_dict_list, Nn.isO_dict_dict, Nn.chain_ap, Nn.chA_ap, Nn.chB_ap, Nn.chC_T, Nn.chC_F, Nn.chD_ap, Nn.trK_gen, Nn.trO_some, Nn.tru_tup, Nn.tru_fl, Nn.tru_non, Nn.tru_bl, Nn.tru_int, Nn.emp_nil, Nn.emp_cons, Nn.emp_map, Nn.all_nil, Nn.sum_nil, Nn.ix_fdM, Nn.in_fdM, Nn.lookD_cons, Nn.fldK_foG, Nn.fldC_T, Nn.cont1, Nn.fldO_gen, Nn.fldP_some, Nn.sfJ_lc, Nn.putFD_nil, Nn.putFD_cons, Nn.kd_str, Nn.in_lc, Nn.inO_strs, Nn.in_tupS, Nn.in_tufS, Nn.in_flS, Nn.ap_lc, Nn.pop_lc, Nn.popO_snoc, Nn.rev_lc, Nn.revO_lst, Nn.rem_lc, Nn.ex_lc, Nn.ins_lc, Nn.list_tup, Nn.list_tuf, Nn.list_fl, Nn.list_sc, Nn.list_lc, Nn.lsO_lst, Nn.eq_non, Nn.eq_strI, List.map_cons, List.map_nil, List.length_cons, List.length_nil, List.replicate_succ, List.replicate_zero, List.set_cons_zero, List.set_cons_succ, List.getElem?_cons_zero, List.getElem?_cons_succ, List.cons_append, List.nil_append, Nat.reduceAdd, Nat.reduceSub, Nat.zero_add, if_true, if_false, ↓reduceIte, reduceCtorEq, Bool.false_eq_true, Nn.sat_ok, Nn.of_inj, Nn.in_sign, Int.reduceLE, Int.reduceLT, Int.reduceGT, Int.reduceGE, Int.reduceEq, Int.reduceNe, Nn.cast_0, Nn.cast_1, Nn.cast_2, Nn.cast_3, Nn.cast_4, Nn.cast_5, Nn.cast_6, Nn.cast_7, Nn.cast_8, Nn.cast_9, Nn.cast_10, Nn.cast_11, Nn.cast_12, Nn.cast_13, Nn.cast_14, Nn.cast_15, Nn.cast_16, Nn.cast_17, Nn.cast_18, Nn.cast_19, Nn.cast_20, Nn.cast_21, Nn.cast_22, Nn.cast_23, Nn.cast_24, Nn.cast_25, Nn.cast_26, Nn.cast_27, Nn.cast_28, Nn.cast_29, Nn.cast_30, Nn.cast_31, Nn.cast_32, Nn.cast_33, Nn.cast_34, Nn.cast_35, Nn.cast_36, Nn.cast_37, Nn.cast_38, Nn.cast_39, Nn.cast_40, Int.reduceAdd, Int.reduceSub, not_true_eq_false, not_false_eq_true, String.reduceEq, String.reduceNe, eq_self, decide_true, decide_false, Nn.ng, Nn.nd_dec, Nn.pow_18, Nn.pow_20, List.length_map, Bool.not_true, Bool.not_false])
local macro_rules | `(tactic| wtm_at "br") => `(tactic| first | refine go_ifDN ?_ ?_ | refine go_ifD ?_ ?_ | refine go_bindS (sat_andD ?_ ?_) | refine go_bindS (sat_orD ?_ ?_) | refine go_bindS (sat_andVD ?_ ?_) | refine go_bindS (sat_orVD ?_ ?_) | refine go_bindS (sat_ifD ?_ ?_) | refine sat_bind (sat_andD ?_ ?_) | refine sat_bind (sat_orD ?_ ?_) | refine sat_bind (sat_andVD ?_ ?_) | refine sat_bind (sat_orVD ?_ ?_) | refine sat_bind (sat_ifD ?_ ?_) | refine go_ifN ?_ ?_ | refine go_if ?_ ?_ | refine go_bindS (sat_andB ?_ ?_) | refine go_bindS (sat_orB ?_ ?_) | refine go_bindS (sat_andVB ?_ ?_) | refine go_bindS (sat_orVB ?_ ?_) | refine go_bindS (sat_ifB ?_ ?_) | refine go_bindS (sat_chDec ?_ ?_) | refine sat_bind (sat_chDec ?_ ?_) | refine sat_chDec ?_ ?_ | refine sat_andD ?_ ?_ | refine sat_orD ?_ ?_ | refine sat_andVD ?_ ?_ | refine sat_orVD ?_ ?_ | refine sat_ifD ?_ ?_ | refine sat_andB ?_ ?_ | refine sat_orB ?_ ?_ | refine sat_andVB ?_ ?_ | refine sat_orVB ?_ ?_ | refine sat_ifB ?_ ?_ | fail)
local macro_rules | `(tactic| wtm_at "dr0") => `(tactic| ((first | refine go_bindS (draw_call (by rfl) (by assumption) (by omega) (by omega) (by omega) ?_) | refine sat_bind (draw_call (by rfl) (by assumption) (by omega) (by omega) (by omega) ?_) | refine draw_call (by rfl) (by assumption) (by omega) (by omega) (by omega) ?_ | fail); intro _ _ _ _ _ _ _; simp only [List.set_cons_zero, List.set_cons_succ]; try wtm_at "evo"))
local macro_rules | `(tactic| wtm_at "wd") => `(tactic| ((with_reducible first | refine word_bindS ?_ ?_ ?_ | refine word_bind ?_ ?_ ?_ | refine word_sat ?_ ?_ ?_ | fail); (focus omega); (focus omega); intro _ _; try wtm_at "evo"))
local macro_rules | `(tactic| wtm_at "dr") => `(tactic| first | wtm_at "dr0" | wtm_at "wd" | fail)
local macro_rules | `(tactic| wtm_at "brs") => `(tactic| (wtm_at "br" <;> (intro _; try wtm_at "evo")))
local macro_rules | `(tactic| wtm_at "all") => `(tactic| ((try wtm_at "evo"); repeat' (first | wtm_at "dr" | wtm_at "brs")))
local macro_rules | `(tactic| wtm_at "drs") => `(tactic| ((try wtm_at "evo"); repeat' wtm_at "dr"))
local macro_rules | `(tactic| wtm_at "low") => `(tactic| first | rfl | (simp only [vl_lows, od_lows, Vl.low, Od.low, Hd.low, Ed.low, bagO_low, Nn.lows_nil, Nn.lows_cons, Nn.low_non, Nn.low_bl, Nn.low_int, Nn.low_str, Nn.low_ty, Nn.low_tup, Nn.low_tuf, Nn.low_fl, Nn.low_sc, Nn.low_fd, Nn.low_fo, Nn.lows_str, Nn.lows_int, Nn.lows_app, Nn.lowO_strs, Nn.lowO_ints, Nn.lowO_l, Nn.lowO_d, Nn.lowO_i, Bool.and_true, Bool.and_self, Bool.true_and, List.all_cons, List.all_nil, List.map_cons, List.map_nil, poolO_low, List.take_succ_cons, List.take_zero]; done) | fail)

theorem bag_call {f : Fn} {as : List D} {md : List Bool} {st : S} {n : Nat} {p : Bag} {Q : D → S → Prop} (hst : st[n]? = some (bagO p)) (hlow : as.all Nn.low = true) (h : (f (.loc 0 :: as) [bagO p]).sat fun d s' => ∃ p', s' = [bagO p'] ∧ Nn.low d = true ∧ Q d (st.set n (bagO p'))) (hmd : md = true :: List.replicate as.length false := by rfl) : (callF md f (.loc n :: as) st).sat Q :=
  call_1 hst (bagO_low p) hlow (sat_imp h fun d s' ⟨p', e, hl, q⟩ => ⟨_, e, hl, bagO_low p', q⟩) hmd
theorem fresh_sat {p : Bag} {L : List Od} {Q : D → S → Prop} (hp : p.ok) (hn : p.n ≤ 100000) (hL : ∀ o ∈ L, o.ok) (hl : L.length ≤ 900) (h : ∀ x p', Vl.ok x → p'.ok → p.n ≤ p'.n → p'.n ≤ p.n + 2 → Q x.d [bagO p']) : (mLFresh [.loc 0, .fl (oD' L)] [bagO p]).sat Q := by
  refine def_sat ?_
  unfold mbLFresh
  wtm_at "drs"
  rename_i d p1 d0 d1 ok1 lo1 hi1
  refine go_loop (I := fun r e s => ∃ (z : Int) (x3 : Option D), 0 ≤ z ∧ z + r.length ≤ 100000000000000000000 * 100 + 100 ∧ e = ⟨[some (.loc 0), some (.fl (oD' L)), some (.int z), x3], none⟩ ∧ s = [bagO p1]) ⟨d * 100 + 60, none, by omega, by simp [rgD]; omega, rfl, rfl⟩ ?_ ?_
  · rintro d' r e s ⟨z, x3, z0, z1, rfl, rfl⟩
    rw [List.length_cons] at z1
    wtm_at "evo"
    obtain ⟨q, e1⟩ := c_placeO (st := [bagO p1]) (x := .i z) hL (by show z.natAbs < 2 ^ 99; omega) (by omega)
    have e1 : callF [false, false] mLPlace [.fl (oD' L), .int z] [bagO p1] = .ok (.int q) [bagO p1] := e1
    rw [e1]
    wtm_at "all"
    · exact ⟨z + 1, _, by omega, by omega, rfl, rfl⟩
    · exact ⟨z, _, by omega, by omega, rfl, rfl⟩
  · rintro e s ⟨z, x3, z0, z1, rfl, rfl⟩
    rw [List.length_nil] at z1
    wtm_at "drs"
    rename_i w p2 w0 w1 ok2 lo2 hi2
    have okz : Vl.ok (.i z) := by show z.natAbs < 2 ^ 99; omega
    have oks : Vl.ok (.s (sI z)) := ⟨z, by omega, rfl⟩
    have fi : (Rt.rt (.int z) [bagO p2]).go fun r => (fin false 1 r).sat Q := go_end1 rfl (bagO_low _) (h (.i z) p2 okz ok2 (by omega) (by omega))
    wtm_at "all"
    all_goals first
      | exact fi
      | skip
    all_goals
      rw [str_int (by omega)]
      wtm_at "evo"
      obtain ⟨q, e1⟩ := c_placeO (st := [bagO p2]) (x := .s (sI z)) hL oks (by omega)
      have e1 : callF [false, false] mLPlace [.fl (oD' L), .str (sI z)] [bagO p2] = .ok (.int q) [bagO p2] := e1
      rw [e1]
      wtm_at "all"
      all_goals first
        | exact fi
        | skip
      all_goals
        rw [str_int (by omega)]
        wtm_at "evo"
        exact go_end1 rfl (bagO_low _) (h (.s (sI z)) p2 oks ok2 (by omega) (by omega))
theorem fresh_call {st : S} {n : Nat} {p : Bag} {L : List Od} {Q : D → S → Prop} (hst : st[n]? = some (bagO p)) (hp : p.ok) (hn : p.n ≤ 100000) (hL : ∀ o ∈ L, o.ok) (hl : L.length ≤ 900) (h : ∀ x p', Vl.ok x → p'.ok → p.n ≤ p'.n → p'.n ≤ p.n + 2 → Q x.d (st.set n (bagO p'))) : (callF [true, false] mLFresh [.loc n, .fl (oD' L)] st).sat Q :=
  bag_call hst (by simp only [List.all_cons, Nn.low_fl, od_lows]; rfl) (fresh_sat hp hn hL hl fun x p' h1 h2 h3 h4 => ⟨p', rfl, x.low, h x p' h1 h2 h3 h4⟩)
theorem odd_sat {p : Bag} {Q : D → S → Prop} (hp : p.ok) (hn : p.n ≤ 100000) (h : ∀ (o : Od) p', o.ok → p'.ok → p.n ≤ p'.n → p'.n ≤ p.n + 1 → Q o.d [bagO p']) : (mLOdd [.loc 0] [bagO p]).sat Q := by
  refine def_sat ?_
  unfold mbLOdd
  wtm_at "drs"
  rename_i d p1 d0 d1 ok1 lo1 hi1
  have dd : d = 0 ∨ d = 1 ∨ d = 2 ∨ d = 3 ∨ d = 4 := by omega
  rcases dd with rfl | rfl | rfl | rfl | rfl <;> wtm_at "evo"
  · exact go_end1 rfl (bagO_low _) (h .t p1 trivial ok1 lo1 hi1)
  · exact go_end1 rfl (bagO_low _) (h .n p1 trivial ok1 lo1 hi1)
  · exact go_end1 rfl (bagO_low _) (h .t1 p1 trivial ok1 lo1 hi1)
  · exact go_end1 rfl (bagO_low _) (h .l1 p1 trivial ok1 lo1 hi1)
  · exact go_end1 rfl (bagO_low _) (h .ab p1 trivial ok1 lo1 hi1)
theorem odd_call {st : S} {n : Nat} {p : Bag} {Q : D → S → Prop} (hst : st[n]? = some (bagO p)) (hp : p.ok) (hn : p.n ≤ 100000) (h : ∀ (o : Od) p', o.ok → p'.ok → p.n ≤ p'.n → p'.n ≤ p.n + 1 → Q o.d (st.set n (bagO p'))) : (callF [true] mLOdd [.loc n] st).sat Q :=
  bag_call (as := []) hst rfl (odd_sat hp hn fun o p' h1 h2 h3 h4 => ⟨p', rfl, o.low, h o p' h1 h2 h3 h4⟩)

end Ke
namespace Ke
open PySem PySem.Spec PyProof.Rows L2 Lb Nn
local macro_rules | `(tactic| wtm_at "ev") => `(tactic| simp only [Nn.seq_ap, Nn.next_ap, Nn.brk_ap, Nn.cnt_ap, Nn.var_ap, Nn.varK_ok, Nn.c_ap, Nn.m2_ap, Nn.m2K_ap, Nn.m2J_ap, Nn.m1_ap, Nn.mB_ap, Nn.mBK_ap, Nn.and_ap, Nn.or_ap, Nn.not_ap, Nn.andK_T, Nn.andK_F, Nn.orK_T, Nn.orK_F, Nn.notK_ap, Nn.andV_ap, Nn.orV_ap, Nn.notV_ap, Nn.ifE_ap, Nn.andVK_T, Nn.andVK_F, Nn.orVK_T, Nn.orVK_F, Nn.notVK_ap, Nn.ifEK_T, Nn.ifEK_F, Nn.nil_ap, Nn.cons_ap, Nn.consK_ap, Nn.consJ_ap, Nn.star_ap, Nn.starJ_ap, Nn.starK_tup, Nn.starK_tuf, Nn.starK_fl, Nn.starK_lc, Nn.starO_lst, Nn.lcL_nil, Nn.loopP_nil, List.append_nil,  Nn.tup_ap, Nn.lst_ap, Nn.newL_T, Nn.newL_F, Nn.newD_T, Nn.newD_F, Nn.dnew_ap, Nn.cb_ap, Nn.call_ap, Nn.callD_ap, Nn.callDD, Nn.dyn_nil, Nn.dyn_F, Nn.dyn_loc, Nn.dyn_fd, Nn.dyn_fl, Nn.dyn_tup, Nn.dyn_non, Nn.disp_ap, Nn.prs_nil, Nn.prs_cons, Nn.prA_ap, Nn.prB_ap, Nn.prC_str, Nn.prC_int, Nn.dispK_1, Nn.tr_ap, Nn.trK_bl, Nn.asg_ap, Nn.asgK_ap, Nn.asgJ_ok, Nn.gnm_ap, Nn.gkl_ap, Nn.ret_ap, Nn.retK_ap, Nn.retN_ap, Nn.drop_ap, Nn.dropK_ap, Nn.if_ap, Nn.ifK_T, Nn.ifK_F, Nn.kl_ap, Nn.klK_ap, Nn.wipe_nil, Nn.wipe_cons, Nn.put_mk, Nn.start_mk, Nn.for_ap, Nn.forK_ap, Nn.itP_l, Nn.it_ap, Nn.itK_tup, Nn.itK_tuf, Nn.itK_fl, Nn.itK_sc, Nn.itK_fd, Nn.itK_lc, Nn.revA_ap, Nn.revAK_tup, Nn.revAK_tuf, Nn.revAK_fl, List.reverse_cons, List.reverse_nil, Nn.itO_lst, Nn.itL_l, Nn.loopP_consG, Nn.lpC_ok, Nn.turn_nx, Nn.turn_ct, Nn.turn_rt, Nn.turn_bk, Nn.lcL_consG, Nn.lcC1_ap, Nn.lcC2_T, Nn.lcC2_F, Nn.gtp_tup, Nn.gtK_ok, Nn.gcn_ap, Nn.gcJ_ap, Nn.gnl_ap, Nn.en_nil, Nn.en_cons, Nn.sl_tup, Nn.sl_fl, Nn.cut_d1, Nn.cut_d2, Nn.cut_t1, Nn.cut_t2, List.take_succ_cons, List.take_zero, List.drop_succ_cons, List.drop_zero, List.take_nil, List.drop_nil, Nn.itK_str, Nn.range1_ap, Nn.enum_ap, Nn.enK_tup, Nn.enK_tuf, Nn.enK_fl, Nn.lc_ap, Nn.lcK_ap, Nn.newLK_ap, Nn.yes_ap, Nn.blk_ap, Nn.blkK_nx, Nn.blkK_ct, Nn.blkK_bk, Nn.blkK_rt, Nn.blkO_some, Nn.cons2_some, Nn.frzE_nil, Nn.frzE_none, Nn.frzE_cons, Nn.frzS_nil, Nn.frzS_cons, Nn.app2_some, Option.map_some, List.take_succ_cons, Nn.bind_ok, Nn.bindS_ok, Nn.bindN_nx, Nn.bindN_rt, Nn.bindN_ct, Nn.bindN_bk, Nn.bind_bind, Nn.bind_bindS, Nn.bindS_bindN, Nn.bindN_bindN, Nn.bbK_ap, Nn.bsK_ap, Nn.snK_ap, Nn.nnK_ap, Nn.aug_ap, Nn.augK_ap, Nn.augI_ap, Nn.augJ_ap, Nn.bl_ap, Nn.blK_ap, Nn.blO_ap, Nn.blJ_ap, Nn.index_ap, Nn.idxK_tuf, Nn.idxK_fl, Nn.join_ap, Nn.joinK_ap, Nn.fld_ap, Nn.sfld_ap, Nn.sfK_ap, Nn.mkF_ap, Nn.part_ap, Nn.partK_ap, Nn.noPart_ap, Nn.sl_ap, Nn.slA_ap, Nn.slB_ap, Nn.slC_ap, Nn.at0, Nn.at1, Nn.at2, Nn.at3, Nn.at4, Nn.at5, Nn.at6, Nn.at7, Nn.at8, Nn.at9, Nn.oD_some, Nn.ix_tup, Nn.ix_tuf, Nn.ix_fl, Nn.ix_sc, Nn.ix_lc, Nn.ixO_lst, Nn.ixO_dic, Nn.ixO_dicI, Nn.gsb_ap, Nn.okB_ok, Nn.gsA_ap, Nn.gsC_ap, Nn.gsE_ap, Nn.set_lc, Nn.setO_lst, Nn.setJ_some, Nn.ixN_L0, Nn.ixN_L1, Nn.ixN_L2, Nn.ixN_L3, Nn.ixN_L4, Nn.ixN_L5, Nn.add_int, Nn.sub_int, Nn.neg_int, Nn.lt_int, Nn.le_int, Nn.gt_int, Nn.ge_int, Nn.eq_int, Nn.eq_str, Nn.eq_bl, Nn.is_non, Nn.is_tup, Nn.is_str, Nn.is_int, Nn.is_bl, Nn.int_int, Nn.int_bl, Nn.abs_int, Nn.len_tup, Nn.len_tuf, Nn.len_fl, Nn.len_sc, Nn.len_lc, Nn.lenQ_lst, Nn.lenQ_dic, Nn.tuple_fl, Nn.tuple_lc, Nn.tupO_lst, Nn.sl_lc, Nn.slO_lst, Nn.min2_int, Nn.lstRg_ap, Nn.tupleF_fl, Nn.isi_ap, Nn.ty_non, Nn.ty_bl, Nn.ty_int, Nn.ty_str, Nn.ty_tup, Nn.ty_tuf, Nn.ty_fl, Nn.ty_sc, Nn.ty_fd, Nn.ty_lc, Nn.tyO_lst, Nn.tyO_dic, Nn.isO_NoneType_bool, Nn.isO_NoneType_int, Nn.isO_NoneType_str, Nn.isO_NoneType_tuple, Nn.isO_NoneType_list, Nn.isO_NoneType_dict, Nn.isO_bool_bool, Nn.isO_bool_int, Nn.isO_bool_str, Nn.isO_bool_tuple, Nn.isO_bool_list, Nn.isO_bool_dict, Nn.isO_int_bool, Nn.isO_int_int, Nn.isO_int_str, Nn.isO_int_tuple, Nn.isO_int_list, Nn.isO_int_dict, Nn.isO_str_bool, Nn.isO_str_int, Nn.isO_str_str, Nn.isO_str_tuple, Nn.isO_str_list, Nn.isO_str_dict, Nn.isO_tuple_bool, Nn.isO_tuple_int, Nn.isO_tuple_str, Nn.isO_tuple_tuple, Nn.isO_tuple_list, Nn.isO_tuple_dict, Nn.isO_list_bool, Nn.isO_list_int, Nn.isO_list_str, Nn.isO_list_tuple, Nn.isO_list_list, Nn.isO_list_dict, Nn.isO_dict_bool, Nn.isO_dict_int, Nn.isO_dict_str, Nn.isO_dict_tuple, Nn.isO_dict_list, Nn.isO_dict_dict, Nn.chain_ap, Nn.chA_ap, Nn.chB_ap, Nn.chC_T, Nn.chC_F, Nn.chD_ap, Nn.trK_gen, Nn.trO_some, Nn.tru_tup, Nn.tru_fl, Nn.tru_non, Nn.tru_bl, Nn.tru_int, Nn.emp_nil, Nn.emp_cons, Nn.emp_map, Nn.all_nil, Nn.sum_nil, Nn.ix_fdM, Nn.in_fdM, Nn.lookD_cons, Nn.fldK_foG, Nn.fldC_T, Nn.cont1, Nn.fldO_gen, Nn.fldP_some, Nn.sfJ_lc, Nn.putFD_nil, Nn.putFD_cons, Nn.kd_str, Nn.in_lc, Nn.inO_strs, Nn.in_tupS, Nn.in_tufS, Nn.in_flS, Nn.ap_lc, Nn.pop_lc, Nn.popO_snoc, Nn.rev_lc, Nn.revO_lst, Nn.rem_lc, Nn.ex_lc, Nn.ins_lc, Nn.list_tup, Nn.list_tuf, Nn.list_fl, Nn.list_sc, Nn.list_lc, Nn.lsO_lst, Nn.eq_non, Nn.eq_strI, List.map_cons, List.map_nil, List.length_cons, List.length_nil, List.replicate_succ, List.replicate_zero, List.set_cons_zero, List.set_cons_succ, List.getElem?_cons_zero, List.getElem?_cons_succ, List.cons_append, List.nil_append, Nat.reduceAdd, Nat.reduceSub, Nat.zero_add, if_true, if_false, ↓reduceIte, reduceCtorEq, Bool.false_eq_true, Nn.sat_ok, Nn.of_inj, Nn.in_sign, Int.reduceLE, Int.reduceLT, Int.reduceGT, Int.reduceGE, Int.reduceEq, Int.reduceNe, Nn.cast_0, Nn.cast_1, Nn.cast_2, Nn.cast_3, Nn.cast_4, Nn.cast_5, Nn.cast_6, Nn.cast_7, Nn.cast_8, Nn.cast_9, Nn.cast_10, Nn.cast_11, Nn.cast_12, Nn.cast_13, Nn.cast_14, Nn.cast_15, Nn.cast_16, Nn.cast_17, Nn.cast_18, Nn.cast_19, Nn.cast_20, Nn.cast_21, Nn.cast_22, Nn.cast_23, Nn.cast_24, Nn.cast_25, Nn.cast_26, Nn.cast_27, Nn.cast_28, Nn.cast_29, Nn.cast_30, Nn.cast_31, Nn.cast_32, Nn.cast_33, Nn.cast_34, Nn.cast_35, Nn.cast_36, Nn.cast_37, Nn.cast_38, Nn.cast_39, Nn.cast_40, Int.reduceAdd, Int.reduceSub, not_true_eq_false, not_false_eq_true, String.reduceEq, String.reduceNe, eq_self, decide_true, decide_false, Nn.ng, Nn.nd_dec, Nn.pow_18, Nn.pow_20, List.length_map, Bool.not_true, Bool.not_false])
local macro_rules | `(tactic| wtm_at "evo") => `(tactic| simp -implicitDefEqProofs (disch := first | assumption | omega | (refine Nn.okR_small ?_; omega) | (simp only [List.length_cons, List.length_nil, List.length_map, List.length_append]; omega) | (simp only [vl_lows, od_lows, Vl.low, Od.low, Hd.low, Ed.low, bagO_low, Nn.lows_nil, Nn.lows_cons, Nn.low_non, Nn.low_bl, Nn.low_int, Nn.low_str, Nn.low_ty, Nn.low_tup, Nn.low_tuf, Nn.low_fl, Nn.low_sc, Nn.low_fd, Nn.low_fo, Nn.lows_str, Nn.lows_int, Nn.lows_app, Nn.lowO_strs, Nn.lowO_ints, Nn.lowO_l, Nn.lowO_d, Nn.lowO_i, Bool.and_true, Bool.and_self, Bool.true_and, List.all_cons, List.all_nil, List.map_cons, List.map_nil]; done) | decide) only [in_vl, eq_vl, ty_vl, isO_vlS, isO_vlI, isO_vlB, od_v, pow_24, Nn.mul_int, Nn.mod_int, Nn.div_int, Nn.lstK_ap, Nn.rgLK_ap, Nn.blkE_ap, Nn.frz_low, Nn.frz_lt, Nn.frzO_low, Nn.lcC3_ap, Nn.apO_lst, Nn.len_str, Nn.sfO_ins1, Nn.exO_lst, Nn.tupK_ap, Nn.rg1K_ap, Nn.okR_small, Nn.seq_ap, Nn.next_ap, Nn.brk_ap, Nn.cnt_ap, Nn.var_ap, Nn.varK_ok, Nn.c_ap, Nn.m2_ap, Nn.m2K_ap, Nn.m2J_ap, Nn.m1_ap, Nn.mB_ap, Nn.mBK_ap, Nn.and_ap, Nn.or_ap, Nn.not_ap, Nn.andK_T, Nn.andK_F, Nn.orK_T, Nn.orK_F, Nn.notK_ap, Nn.andV_ap, Nn.orV_ap, Nn.notV_ap, Nn.ifE_ap, Nn.andVK_T, Nn.andVK_F, Nn.orVK_T, Nn.orVK_F, Nn.notVK_ap, Nn.ifEK_T, Nn.ifEK_F, Nn.nil_ap, Nn.cons_ap, Nn.consK_ap, Nn.consJ_ap, Nn.star_ap, Nn.starJ_ap, Nn.starK_tup, Nn.starK_tuf, Nn.starK_fl, Nn.starK_lc, Nn.starO_lst, Nn.lcL_nil, Nn.loopP_nil, List.append_nil,  Nn.tup_ap, Nn.lst_ap, Nn.newL_T, Nn.newL_F, Nn.newD_T, Nn.newD_F, Nn.dnew_ap, Nn.cb_ap, Nn.call_ap, Nn.callD_ap, Nn.callDD, Nn.dyn_nil, Nn.dyn_F, Nn.dyn_loc, Nn.dyn_fd, Nn.dyn_fl, Nn.dyn_tup, Nn.dyn_non, Nn.disp_ap, Nn.prs_nil, Nn.prs_cons, Nn.prA_ap, Nn.prB_ap, Nn.prC_str, Nn.prC_int, Nn.dispK_1, Nn.tr_ap, Nn.trK_bl, Nn.asg_ap, Nn.asgK_ap, Nn.asgJ_ok, Nn.gnm_ap, Nn.gkl_ap, Nn.ret_ap, Nn.retK_ap, Nn.retN_ap, Nn.drop_ap, Nn.dropK_ap, Nn.if_ap, Nn.ifK_T, Nn.ifK_F, Nn.kl_ap, Nn.klK_ap, Nn.wipe_nil, Nn.wipe_cons, Nn.put_mk, Nn.start_mk, Nn.for_ap, Nn.forK_ap, Nn.itP_l, Nn.it_ap, Nn.itK_tup, Nn.itK_tuf, Nn.itK_fl, Nn.itK_sc, Nn.itK_fd, Nn.itK_lc, Nn.revA_ap, Nn.revAK_tup, Nn.revAK_tuf, Nn.revAK_fl, List.reverse_cons, List.reverse_nil, Nn.itO_lst, Nn.itL_l, Nn.loopP_consG, Nn.lpC_ok, Nn.turn_nx, Nn.turn_ct, Nn.turn_rt, Nn.turn_bk, Nn.lcL_consG, Nn.lcC1_ap, Nn.lcC2_T, Nn.lcC2_F, Nn.gtp_tup, Nn.gtK_ok, Nn.gcn_ap, Nn.gcJ_ap, Nn.gnl_ap, Nn.en_nil, Nn.en_cons, Nn.sl_tup, Nn.sl_fl, Nn.cut_d1, Nn.cut_d2, Nn.cut_t1, Nn.cut_t2, List.take_succ_cons, List.take_zero, List.drop_succ_cons, List.drop_zero, List.take_nil, List.drop_nil, Nn.itK_str, Nn.range1_ap, Nn.enum_ap, Nn.enK_tup, Nn.enK_tuf, Nn.enK_fl, Nn.lc_ap, Nn.lcK_ap, Nn.newLK_ap, Nn.yes_ap, Nn.blk_ap, Nn.blkK_nx, Nn.blkK_ct, Nn.blkK_bk, Nn.blkK_rt, Nn.blkO_some, Nn.cons2_some, Nn.frzE_nil, Nn.frzE_none, Nn.frzE_cons, Nn.frzS_nil, Nn.frzS_cons, Nn.app2_some, Option.map_some, List.take_succ_cons, Nn.bind_ok, Nn.bindS_ok, Nn.bindN_nx, Nn.bindN_rt, Nn.bindN_ct, Nn.bindN_bk, Nn.bind_bind, Nn.bind_bindS, Nn.bindS_bindN, Nn.bindN_bindN, Nn.bbK_ap, Nn.bsK_ap, Nn.snK_ap, Nn.nnK_ap, Nn.aug_ap, Nn.augK_ap, Nn.augI_ap, Nn.augJ_ap, Nn.bl_ap, Nn.blK_ap, Nn.blO_ap, Nn.blJ_ap, Nn.index_ap, Nn.idxK_tuf, Nn.idxK_fl, Nn.join_ap, Nn.joinK_ap, Nn.fld_ap, Nn.sfld_ap, Nn.sfK_ap, Nn.mkF_ap, Nn.part_ap, Nn.partK_ap, Nn.noPart_ap, Nn.sl_ap, Nn.slA_ap, Nn.slB_ap, Nn.slC_ap, Nn.at0, Nn.at1, Nn.at2, Nn.at3, Nn.at4, Nn.at5, Nn.at6, Nn.at7, Nn.at8, Nn.at9, Nn.oD_some, Nn.ix_tup, Nn.ix_tuf, Nn.ix_fl, Nn.ix_sc, Nn.ix_lc, Nn.ixO_lst, Nn.ixO_dic, Nn.ixO_dicI, Nn.gsb_ap, Nn.okB_ok, Nn.gsA_ap, Nn.gsC_ap, Nn.gsE_ap, Nn.set_lc, Nn.setO_lst, Nn.setJ_some, Nn.ixN_L0, Nn.ixN_L1, Nn.ixN_L2, Nn.ixN_L3, Nn.ixN_L4, Nn.ixN_L5, Nn.add_int, Nn.sub_int, Nn.neg_int, Nn.lt_int, Nn.le_int, Nn.gt_int, Nn.ge_int, Nn.eq_int, Nn.eq_str, Nn.eq_bl, Nn.is_non, Nn.is_tup, Nn.is_str, Nn.is_int, Nn.is_bl, Nn.int_int, Nn.int_bl, Nn.abs_int, Nn.len_tup, Nn.len_tuf, Nn.len_fl, Nn.len_sc, Nn.len_lc, Nn.lenQ_lst, Nn.lenQ_dic, Nn.tuple_fl, Nn.tuple_lc, Nn.tupO_lst, Nn.sl_lc, Nn.slO_lst, Nn.min2_int, Nn.lstRg_ap, Nn.tupleF_fl, Nn.isi_ap, Nn.ty_non, Nn.ty_bl, Nn.ty_int, Nn.ty_str, Nn.ty_tup, Nn.ty_tuf, Nn.ty_fl, Nn.ty_sc, Nn.ty_fd, Nn.ty_lc, Nn.tyO_lst, Nn.tyO_dic, Nn.isO_NoneType_bool, Nn.isO_NoneType_int, Nn.isO_NoneType_str, Nn.isO_NoneType_tuple, Nn.isO_NoneType_list, Nn.isO_NoneType_dict, Nn.isO_bool_bool, Nn.isO_bool_int, Nn.isO_bool_str, Nn.isO_bool_tuple, Nn.isO_bool_list, Nn.isO_bool_dict, Nn.isO_int_bool, Nn.isO_int_int, Nn.isO_int_str, Nn.isO_int_tuple, Nn.isO_int_list, Nn.isO_int_dict, Nn.isO_str_bool, Nn.isO_str_int, Nn.isO_str_str, Nn.isO_str_tuple, Nn.isO_str_list, Nn.isO_str_dict, Nn.isO_tuple_bool, Nn.isO_tuple_int, Nn.isO_tuple_str, Nn.isO_tuple_tuple, Nn.isO_tuple_list, Nn.isO_tuple_dict, Nn.isO_list_bool, Nn.isO_list_int, Nn.isO_list_str, Nn.isO_list_tuple, Nn.isO_list_list, Nn.isO_list_dict, Nn.isO_dict_bool, Nn.isO_dict_int, Nn.isO_dict_str, Nn.isO_dict_tuple, Nn.isO_dict_list, Nn.isO_dict_dict, Nn.chain_ap, Nn.chA_ap, Nn.chB_ap, Nn.chC_T, Nn.chC_F, Nn.chD_ap, Nn.trK_gen, Nn.trO_some, Nn.tru_tup, Nn.tru_fl, Nn.tru_non, Nn.tru_bl, Nn.tru_int, Nn.emp_nil, Nn.emp_cons, Nn.emp_map, Nn.all_nil, Nn.sum_nil, Nn.ix_fdM, Nn.in_fdM, Nn.lookD_cons, Nn.fldK_foG, Nn.fldC_T, Nn.cont1, Nn.fldO_gen, Nn.fldP_some, Nn.sfJ_lc, Nn.putFD_nil, Nn.putFD_cons, Nn.kd_str, Nn.in_lc, Nn.inO_strs, Nn.in_tupS, Nn.in_tufS, Nn.in_flS, Nn.ap_lc, Nn.pop_lc, Nn.popO_snoc, Nn.rev_lc, Nn.revO_lst, Nn.rem_lc, Nn.ex_lc, Nn.ins_lc, Nn.list_tup, Nn.list_tuf, Nn.list_fl, Nn.list_sc, Nn.list_lc, Nn.lsO_lst, Nn.eq_non, Nn.eq_strI, List.map_cons, List.map_nil, List.length_cons, List.length_nil, List.replicate_succ, List.replicate_zero, List.set_cons_zero, List.set_cons_succ, List.getElem?_cons_zero, List.getElem?_cons_succ, List.cons_append, List.nil_append, Nat.reduceAdd, Nat.reduceSub, Nat.zero_add, if_true, if_false, ↓reduceIte, reduceCtorEq, Bool.false_eq_true, Nn.sat_ok, Nn.of_inj, Nn.in_sign, Int.reduceLE, Int.reduceLT, Int.reduceGT, Int.reduceGE, Int.reduceEq, Int.reduceNe, Nn.cast_0, Nn.cast_1, Nn.cast_2, Nn.cast_3, Nn.cast_4, Nn.cast_5, Nn.cast_6, Nn.cast_7, Nn.cast_8, Nn.cast_9, Nn.cast_10, Nn.cast_11, Nn.cast_12, Nn.cast_13, Nn.cast_14, Nn.cast_15, Nn.cast_16, Nn.cast_17, Nn.cast_18, Nn.cast_19, Nn.cast_20, Nn.cast_21, Nn.cast_22, Nn.cast_23, Nn.cast_24, Nn.cast_25, Nn.cast_26, Nn.cast_27, Nn.cast_28, Nn.cast_29, Nn.cast_30, Nn.cast_31, Nn.cast_32, Nn.cast_33, Nn.cast_34, Nn.cast_35, Nn.cast_36, Nn.cast_37, Nn.cast_38, Nn.cast_39, Nn.cast_40, Int.reduceAdd, Int.reduceSub, not_true_eq_false, not_false_eq_true, String.reduceEq, String.reduceNe, eq_self, decide_true, decide_false, Nn.ng, Nn.nd_dec, Nn.pow_18, Nn.pow_20, List.length_map, Bool.not_true, Bool.not_false])
local macro_rules | `(tactic| wtm_at "br") => `(tactic| first | refine go_ifDN ?_ ?_ | refine go_ifD ?_ ?_ | refine go_bindS (sat_andD ?_ ?_) | refine go_bindS (sat_orD ?_ ?_) | refine go_bindS (sat_andVD ?_ ?_) | refine go_bindS (sat_orVD ?_ ?_) | refine go_bindS (sat_ifD ?_ ?_) | refine sat_bind (sat_andD ?_ ?_) | refine sat_bind (sat_orD ?_ ?_) | refine sat_bind (sat_andVD ?_ ?_) | refine sat_bind (sat_orVD ?_ ?_) | refine sat_bind (sat_ifD ?_ ?_) | refine go_ifN ?_ ?_ | refine go_if ?_ ?_ | refine go_bindS (sat_andB ?_ ?_) | refine go_bindS (sat_orB ?_ ?_) | refine go_bindS (sat_andVB ?_ ?_) | refine go_bindS (sat_orVB ?_ ?_) | refine go_bindS (sat_ifB ?_ ?_) | refine go_bindS (sat_chDec ?_ ?_) | refine sat_bind (sat_chDec ?_ ?_) | refine sat_chDec ?_ ?_ | refine sat_andD ?_ ?_ | refine sat_orD ?_ ?_ | refine sat_andVD ?_ ?_ | refine sat_orVD ?_ ?_ | refine sat_ifD ?_ ?_ | refine sat_andB ?_ ?_ | refine sat_orB ?_ ?_ | refine sat_andVB ?_ ?_ | refine sat_orVB ?_ ?_ | refine sat_ifB ?_ ?_ | fail)
local macro_rules | `(tactic| wtm_at "dr0") => `(tactic| ((first | refine go_bindS (draw_call (by rfl) (by assumption) (by omega) (by omega) (by omega) ?_) | refine sat_bind (draw_call (by rfl) (by assumption) (by omega) (by omega) (by omega) ?_) | refine draw_call (by rfl) (by assumption) (by omega) (by omega) (by omega) ?_ | fail); intro _ _ _ _ _ _ _; simp only [List.set_cons_zero, List.set_cons_succ]; try wtm_at "evo"))
local macro_rules | `(tactic| wtm_at "wd") => `(tactic| ((with_reducible first | refine word_bindS ?_ ?_ ?_ | refine word_bind ?_ ?_ ?_ | refine word_sat ?_ ?_ ?_ | fail); (focus omega); (focus omega); intro _ _; try wtm_at "evo"))
local macro_rules | `(tactic| wtm_at "dr") => `(tactic| first | wtm_at "dr0" | wtm_at "wd" | fail)
local macro_rules | `(tactic| wtm_at "brs") => `(tactic| (wtm_at "br" <;> (intro _; try wtm_at "evo")))
local macro_rules | `(tactic| wtm_at "all") => `(tactic| ((try wtm_at "evo"); repeat' (first | wtm_at "dr" | wtm_at "brs")))
local macro_rules | `(tactic| wtm_at "drs") => `(tactic| ((try wtm_at "evo"); repeat' wtm_at "dr"))
local macro_rules | `(tactic| wtm_at "low") => `(tactic| first | rfl | (simp only [vl_lows, od_lows, Vl.low, Od.low, Hd.low, Ed.low, bagO_low, Nn.lows_nil, Nn.lows_cons, Nn.low_non, Nn.low_bl, Nn.low_int, Nn.low_str, Nn.low_ty, Nn.low_tup, Nn.low_tuf, Nn.low_fl, Nn.low_sc, Nn.low_fd, Nn.low_fo, Nn.lows_str, Nn.lows_int, Nn.lows_app, Nn.lowO_strs, Nn.lowO_ints, Nn.lowO_l, Nn.lowO_d, Nn.lowO_i, Bool.and_true, Bool.and_self, Bool.true_and, List.all_cons, List.all_nil, List.map_cons, List.map_nil, poolO_low, List.take_succ_cons, List.take_zero]; done) | fail)

theorem add_od {row : List Vl} {o : Od} {st : S} (h : row.length ≤ 1000) : fAdd false (.fl (vD row)) (.fl [o.d]) st = .ok (.fl (oD' (row.map Od.v ++ [o]))) st := by
  rw [add_fl (by simp; omega), vD_o, oD', oD', List.map_append]
  rfl
theorem map_ok {row : List Vl} (h : ∀ x ∈ row, x.ok) : ∀ o ∈ row.map Od.v, o.ok := fun o ho => by
  obtain ⟨x, hx, rfl⟩ := List.mem_map.mp ho
  exact h x hx
theorem target_sat {p : Bag} {row : List Vl} {o : Od} {Q : D → S → Prop} (hp : p.ok) (hn : p.n ≤ 90000) (hr : ∀ x ∈ row, x.ok) (hl : row.length ≤ 200) (ho : o.ok) (h : ∀ (t : Od) p', t.ok → p'.ok → p.n ≤ p'.n → p'.n ≤ p.n + 5 → Q t.d [bagO p']) : (mLTarget [.loc 0, .fl (vD row), o.d] [bagO p]).sat Q := by
  refine def_sat ?_
  unfold mbLTarget
  have fi : ∀ (t : Od) p', t.ok → p'.ok → p.n ≤ p'.n → p'.n ≤ p.n + 5 → (Rt.rt t.d [bagO p']).go fun r => (fin false 1 r).sat Q := fun t p' h1 h2 h3 h4 => go_end1 t.low (bagO_low _) (h t p' h1 h2 h3 h4)
  wtm_at "drs"
  rename_i d p1 d0 d1 ok1 lo1 hi1
  by_cases k0 : d = 0
  · subst k0
    wtm_at "evo"
    rw [add_od (by omega)]
    wtm_at "evo"
    refine go_bindS (fresh_call rfl ok1 (by omega) (fun q hq => ?_) (by simp; omega) fun x p2 h1 h2 h3 h4 => ?_)
    · rcases List.mem_append.mp hq with hq | hq
      · exact map_ok hr q hq
      · rw [List.mem_singleton.mp hq]
        exact ho
    · wtm_at "evo"
      exact fi (.v x) p2 h1 h2 (by omega) (by omega)
  by_cases k1 : d = 1
  · subst k1
    wtm_at "evo"
    exact fi o p1 ho ok1 (by omega) (by omega)
  by_cases k2 : d = 2
  · subst k2
    wtm_at "evo"
    refine go_bindS (odd_call rfl ok1 (by omega) fun t p2 h1 h2 h3 h4 => ?_)
    wtm_at "evo"
    exact fi t p2 h1 h2 (by omega) (by omega)
  simp only [k0, k1, k2, decide_false]
  wtm_at "all"
  all_goals first
    | (exfalso; omega)
    | exact fi .n p1 trivial ok1 (by omega) (by omega)
    | skip
  rename_i hne d2 p2 e0 e1 ok2 lo2 hi2
  obtain ⟨j, rfl⟩ : ∃ j : Nat, d2 = (j : Int) := ⟨d2.toNat, by omega⟩
  have hj : j < row.length := by omega
  have okx : (Od.v row[j]).ok := hr _ (List.getElem_mem hj)
  simp only [at_vl hj]
  wtm_at "evo"
  obtain ⟨c, hc⟩ := eq_oo (a := .v row[j]) (b := o) (st := [bagO p2]) okx ho (neg := false)
  simp only [od_v] at hc
  rw [hc]
  wtm_at "all"
  all_goals first
    | exact fi (.v row[j]) p2 okx ok2 (by omega) (by omega)
    | exact fi .n p2 trivial ok2 (by omega) (by omega)
theorem target_call {st : S} {n : Nat} {p : Bag} {row : List Vl} {o : Od} {Q : D → S → Prop} (hst : st[n]? = some (bagO p)) (hp : p.ok) (hn : p.n ≤ 90000) (hr : ∀ x ∈ row, x.ok) (hl : row.length ≤ 200) (ho : o.ok) (h : ∀ (t : Od) p', t.ok → p'.ok → p.n ≤ p'.n → p'.n ≤ p.n + 5 → Q t.d (st.set n (bagO p'))) : (callF [true, false, false] mLTarget [.loc n, .fl (vD row), o.d] st).sat Q :=
  bag_call hst (by simp only [List.all_cons, Nn.low_fl, vl_lows, o.low]; rfl) (target_sat hp hn hr hl ho fun t p' h1 h2 h3 h4 => ⟨p', rfl, t.low, h t p' h1 h2 h3 h4⟩)
/-- an edit as the law makes it -/
def Hd.ok : Hd → Prop
  | .w s => s ∈ (["drop", "put", "move", "Drop", "swap"] : List Str)
  | _ => True
def Ed.ok : Ed → Prop
  | .tup h r => r.length ≤ 3 ∧ (∀ o ∈ r, o.ok) ∧ h.ok
  | .lst h r => r.length ≤ 3 ∧ (∀ o ∈ r, o.ok) ∧ h.ok
  | _ => True
theorem Ed.ok.short {e : Ed} (h : e.ok) : e.short := by
  cases e with
  | tup a r => exact h.1
  | _ => trivial
theorem add_tp {a b : List D} {st : S} (h : a.length + b.length ≤ 1000000) : fAdd false (.tup a) (.tup b) st = .ok (.tup (a ++ b)) st := by
  have hh : a.length + b.length ≤ sizeLine := by have := big_line; omega
  unfold fAdd
  dsimp only
  rw [if_pos hh]

end Ke
namespace Ke
open PySem PySem.Spec PyProof.Rows L2 Lb Nn
local macro_rules | `(tactic| wtm_at "ev") => `(tactic| simp only [Nn.seq_ap, Nn.next_ap, Nn.brk_ap, Nn.cnt_ap, Nn.var_ap, Nn.varK_ok, Nn.c_ap, Nn.m2_ap, Nn.m2K_ap, Nn.m2J_ap, Nn.m1_ap, Nn.mB_ap, Nn.mBK_ap, Nn.and_ap, Nn.or_ap, Nn.not_ap, Nn.andK_T, Nn.andK_F, Nn.orK_T, Nn.orK_F, Nn.notK_ap, Nn.andV_ap, Nn.orV_ap, Nn.notV_ap, Nn.ifE_ap, Nn.andVK_T, Nn.andVK_F, Nn.orVK_T, Nn.orVK_F, Nn.notVK_ap, Nn.ifEK_T, Nn.ifEK_F, Nn.nil_ap, Nn.cons_ap, Nn.consK_ap, Nn.consJ_ap, Nn.star_ap, Nn.starJ_ap, Nn.starK_tup, Nn.starK_tuf, Nn.starK_fl, Nn.starK_lc, Nn.starO_lst, Nn.lcL_nil, Nn.loopP_nil, List.append_nil,  Nn.tup_ap, Nn.lst_ap, Nn.newL_T, Nn.newL_F, Nn.newD_T, Nn.newD_F, Nn.dnew_ap, Nn.cb_ap, Nn.call_ap, Nn.callD_ap, Nn.callDD, Nn.dyn_nil, Nn.dyn_F, Nn.dyn_loc, Nn.dyn_fd, Nn.dyn_fl, Nn.dyn_tup, Nn.dyn_non, Nn.disp_ap, Nn.prs_nil, Nn.prs_cons, Nn.prA_ap, Nn.prB_ap, Nn.prC_str, Nn.prC_int, Nn.dispK_1, Nn.tr_ap, Nn.trK_bl, Nn.asg_ap, Nn.asgK_ap, Nn.asgJ_ok, Nn.gnm_ap, Nn.gkl_ap, Nn.ret_ap, Nn.retK_ap, Nn.retN_ap, Nn.drop_ap, Nn.dropK_ap, Nn.if_ap, Nn.ifK_T, Nn.ifK_F, Nn.kl_ap, Nn.klK_ap, Nn.wipe_nil, Nn.wipe_cons, Nn.put_mk, Nn.start_mk, Nn.for_ap, Nn.forK_ap, Nn.itP_l, Nn.it_ap, Nn.itK_tup, Nn.itK_tuf, Nn.itK_fl, Nn.itK_sc, Nn.itK_fd, Nn.itK_lc, Nn.revA_ap, Nn.revAK_tup, Nn.revAK_tuf, Nn.revAK_fl, List.reverse_cons, List.reverse_nil, Nn.itO_lst, Nn.itL_l, Nn.loopP_consG, Nn.lpC_ok, Nn.turn_nx, Nn.turn_ct, Nn.turn_rt, Nn.turn_bk, Nn.lcL_consG, Nn.lcC1_ap, Nn.lcC2_T, Nn.lcC2_F, Nn.gtp_tup, Nn.gtK_ok, Nn.gcn_ap, Nn.gcJ_ap, Nn.gnl_ap, Nn.en_nil, Nn.en_cons, Nn.sl_tup, Nn.sl_fl, Nn.cut_d1, Nn.cut_d2, Nn.cut_t1, Nn.cut_t2, List.take_succ_cons, List.take_zero, List.drop_succ_cons, List.drop_zero, List.take_nil, List.drop_nil, Nn.itK_str, Nn.range1_ap, Nn.enum_ap, Nn.enK_tup, Nn.enK_tuf, Nn.enK_fl, Nn.lc_ap, Nn.lcK_ap, Nn.newLK_ap, Nn.yes_ap, Nn.blk_ap, Nn.blkK_nx, Nn.blkK_ct, Nn.blkK_bk, Nn.blkK_rt, Nn.blkO_some, Nn.cons2_some, Nn.frzE_nil, Nn.frzE_none, Nn.frzE_cons, Nn.frzS_nil, Nn.frzS_cons, Nn.app2_some, Option.map_some, List.take_succ_cons, Nn.bind_ok, Nn.bindS_ok, Nn.bindN_nx, Nn.bindN_rt, Nn.bindN_ct, Nn.bindN_bk, Nn.bind_bind, Nn.bind_bindS, Nn.bindS_bindN, Nn.bindN_bindN, Nn.bbK_ap, Nn.bsK_ap, Nn.snK_ap, Nn.nnK_ap, Nn.aug_ap, Nn.augK_ap, Nn.augI_ap, Nn.augJ_ap, Nn.bl_ap, Nn.blK_ap, Nn.blO_ap, Nn.blJ_ap, Nn.index_ap, Nn.idxK_tuf, Nn.idxK_fl, Nn.join_ap, Nn.joinK_ap, Nn.fld_ap, Nn.sfld_ap, Nn.sfK_ap, Nn.mkF_ap, Nn.part_ap, Nn.partK_ap, Nn.noPart_ap, Nn.sl_ap, Nn.slA_ap, Nn.slB_ap, Nn.slC_ap, Nn.at0, Nn.at1, Nn.at2, Nn.at3, Nn.at4, Nn.at5, Nn.at6, Nn.at7, Nn.at8, Nn.at9, Nn.oD_some, Nn.ix_tup, Nn.ix_tuf, Nn.ix_fl, Nn.ix_sc, Nn.ix_lc, Nn.ixO_lst, Nn.ixO_dic, Nn.ixO_dicI, Nn.gsb_ap, Nn.okB_ok, Nn.gsA_ap, Nn.gsC_ap, Nn.gsE_ap, Nn.set_lc, Nn.setO_lst, Nn.setJ_some, Nn.ixN_L0, Nn.ixN_L1, Nn.ixN_L2, Nn.ixN_L3, Nn.ixN_L4, Nn.ixN_L5, Nn.add_int, Nn.sub_int, Nn.neg_int, Nn.lt_int, Nn.le_int, Nn.gt_int, Nn.ge_int, Nn.eq_int, Nn.eq_str, Nn.eq_bl, Nn.is_non, Nn.is_tup, Nn.is_str, Nn.is_int, Nn.is_bl, Nn.int_int, Nn.int_bl, Nn.abs_int, Nn.len_tup, Nn.len_tuf, Nn.len_fl, Nn.len_sc, Nn.len_lc, Nn.lenQ_lst, Nn.lenQ_dic, Nn.tuple_fl, Nn.tuple_lc, Nn.tupO_lst, Nn.sl_lc, Nn.slO_lst, Nn.min2_int, Nn.lstRg_ap, Nn.tupleF_fl, Nn.isi_ap, Nn.ty_non, Nn.ty_bl, Nn.ty_int, Nn.ty_str, Nn.ty_tup, Nn.ty_tuf, Nn.ty_fl, Nn.ty_sc, Nn.ty_fd, Nn.ty_lc, Nn.tyO_lst, Nn.tyO_dic, Nn.isO_NoneType_bool, Nn.isO_NoneType_int, Nn.isO_NoneType_str, Nn.isO_NoneType_tuple, Nn.isO_NoneType_list, Nn.isO_NoneType_dict, Nn.isO_bool_bool, Nn.isO_bool_int, Nn.isO_bool_str, Nn.isO_bool_tuple, Nn.isO_bool_list, Nn.isO_bool_dict, Nn.isO_int_bool, Nn.isO_int_int, Nn.isO_int_str, Nn.isO_int_tuple, Nn.isO_int_list, Nn.isO_int_dict, Nn.isO_str_bool, Nn.isO_str_int, Nn.isO_str_str, Nn.isO_str_tuple, Nn.isO_str_list, Nn.isO_str_dict, Nn.isO_tuple_bool, Nn.isO_tuple_int, Nn.isO_tuple_str, Nn.isO_tuple_tuple, Nn.isO_tuple_list, Nn.isO_tuple_dict, Nn.isO_list_bool, Nn.isO_list_int, Nn.isO_list_str, Nn.isO_list_tuple, Nn.isO_list_list, Nn.isO_list_dict, Nn.isO_dict_bool, Nn.isO_dict_int, Nn.isO_dict_str, Nn.isO_dict_tuple, Nn.isO_dict_list, Nn.isO_dict_dict, Nn.chain_ap, Nn.chA_ap, Nn.chB_ap, Nn.chC_T, Nn.chC_F, Nn.chD_ap, Nn.trK_gen, Nn.trO_some, Nn.tru_tup, Nn.tru_fl, Nn.tru_non, Nn.tru_bl, Nn.tru_int, Nn.emp_nil, Nn.emp_cons, Nn.emp_map, Nn.all_nil, Nn.sum_nil, Nn.ix_fdM, Nn.in_fdM, Nn.lookD_cons, Nn.fldK_foG, Nn.fldC_T, Nn.cont1, Nn.fldO_gen, Nn.fldP_some, Nn.sfJ_lc, Nn.putFD_nil, Nn.putFD_cons, Nn.kd_str, Nn.in_lc, Nn.inO_strs, Nn.in_tupS, Nn.in_tufS, Nn.in_flS, Nn.ap_lc, Nn.pop_lc, Nn.popO_snoc, Nn.rev_lc, Nn.revO_lst, Nn.rem_lc, Nn.ex_lc, Nn.ins_lc, Nn.list_tup, Nn.list_tuf, Nn.list_fl, Nn.list_sc, Nn.list_lc, Nn.lsO_lst, Nn.eq_non, Nn.eq_strI, List.map_cons, List.map_nil, List.length_cons, List.length_nil, List.replicate_succ, List.replicate_zero, List.set_cons_zero, List.set_cons_succ, List.getElem?_cons_zero, List.getElem?_cons_succ, List.cons_append, List.nil_append, Nat.reduceAdd, Nat.reduceSub, Nat.zero_add, if_true, if_false, ↓reduceIte, reduceCtorEq, Bool.false_eq_true, Nn.sat_ok, Nn.of_inj, Nn.in_sign, Int.reduceLE, Int.reduceLT, Int.reduceGT, Int.reduceGE, Int.reduceEq, Int.reduceNe, Nn.cast_0, Nn.cast_1, Nn.cast_2, Nn.cast_3, Nn.cast_4, Nn.cast_5, Nn.cast_6, Nn.cast_7, Nn.cast_8, Nn.cast_9, Nn.cast_10, Nn.cast_11, Nn.cast_12, Nn.cast_13, Nn.cast_14, Nn.cast_15, Nn.cast_16, Nn.cast_17, Nn.cast_18, Nn.cast_19, Nn.cast_20, Nn.cast_21, Nn.cast_22, Nn.cast_23, Nn.cast_24, Nn.cast_25, Nn.cast_26, Nn.cast_27, Nn.cast_28, Nn.cast_29, Nn.cast_30, Nn.cast_31, Nn.cast_32, Nn.cast_33, Nn.cast_34, Nn.cast_35, Nn.cast_36, Nn.cast_37, Nn.cast_38, Nn.cast_39, Nn.cast_40, Int.reduceAdd, Int.reduceSub, not_true_eq_false, not_false_eq_true, String.reduceEq, String.reduceNe, eq_self, decide_true, decide_false, Nn.ng, Nn.nd_dec, Nn.pow_18, Nn.pow_20, List.length_map, Bool.not_true, Bool.not_false])
local macro_rules | `(tactic| wtm_at "evo") => `(tactic| simp -implicitDefEqProofs (disch := first | assumption | omega | (refine Nn.okR_small ?_; omega) | (simp only [List.length_cons, List.length_nil, List.length_map, List.length_append]; omega) | (simp only [vl_lows, od_lows, Vl.low, Od.low, Hd.low, Ed.low, bagO_low, Nn.lows_nil, Nn.lows_cons, Nn.low_non, Nn.low_bl, Nn.low_int, Nn.low_str, Nn.low_ty, Nn.low_tup, Nn.low_tuf, Nn.low_fl, Nn.low_sc, Nn.low_fd, Nn.low_fo, Nn.lows_str, Nn.lows_int, Nn.lows_app, Nn.lowO_strs, Nn.lowO_ints, Nn.lowO_l, Nn.lowO_d, Nn.lowO_i, Bool.and_true, Bool.and_self, Bool.true_and, List.all_cons, List.all_nil, List.map_cons, List.map_nil]; done) | decide) only [in_vl, eq_vl, ty_vl, isO_vlS, isO_vlI, isO_vlB, od_v, pow_24, add_tp, Nn.mul_int, Nn.mod_int, Nn.div_int, Nn.lstK_ap, Nn.rgLK_ap, Nn.blkE_ap, Nn.frz_low, Nn.frz_lt, Nn.frzO_low, Nn.lcC3_ap, Nn.apO_lst, Nn.len_str, Nn.sfO_ins1, Nn.exO_lst, Nn.tupK_ap, Nn.rg1K_ap, Nn.okR_small, Nn.seq_ap, Nn.next_ap, Nn.brk_ap, Nn.cnt_ap, Nn.var_ap, Nn.varK_ok, Nn.c_ap, Nn.m2_ap, Nn.m2K_ap, Nn.m2J_ap, Nn.m1_ap, Nn.mB_ap, Nn.mBK_ap, Nn.and_ap, Nn.or_ap, Nn.not_ap, Nn.andK_T, Nn.andK_F, Nn.orK_T, Nn.orK_F, Nn.notK_ap, Nn.andV_ap, Nn.orV_ap, Nn.notV_ap, Nn.ifE_ap, Nn.andVK_T, Nn.andVK_F, Nn.orVK_T, Nn.orVK_F, Nn.notVK_ap, Nn.ifEK_T, Nn.ifEK_F, Nn.nil_ap, Nn.cons_ap, Nn.consK_ap, Nn.consJ_ap, Nn.star_ap, Nn.starJ_ap, Nn.starK_tup, Nn.starK_tuf, Nn.starK_fl, Nn.starK_lc, Nn.starO_lst, Nn.lcL_nil, Nn.loopP_nil, List.append_nil,  Nn.tup_ap, Nn.lst_ap, Nn.newL_T, Nn.newL_F, Nn.newD_T, Nn.newD_F, Nn.dnew_ap, Nn.cb_ap, Nn.call_ap, Nn.callD_ap, Nn.callDD, Nn.dyn_nil, Nn.dyn_F, Nn.dyn_loc, Nn.dyn_fd, Nn.dyn_fl, Nn.dyn_tup, Nn.dyn_non, Nn.disp_ap, Nn.prs_nil, Nn.prs_cons, Nn.prA_ap, Nn.prB_ap, Nn.prC_str, Nn.prC_int, Nn.dispK_1, Nn.tr_ap, Nn.trK_bl, Nn.asg_ap, Nn.asgK_ap, Nn.asgJ_ok, Nn.gnm_ap, Nn.gkl_ap, Nn.ret_ap, Nn.retK_ap, Nn.retN_ap, Nn.drop_ap, Nn.dropK_ap, Nn.if_ap, Nn.ifK_T, Nn.ifK_F, Nn.kl_ap, Nn.klK_ap, Nn.wipe_nil, Nn.wipe_cons, Nn.put_mk, Nn.start_mk, Nn.for_ap, Nn.forK_ap, Nn.itP_l, Nn.it_ap, Nn.itK_tup, Nn.itK_tuf, Nn.itK_fl, Nn.itK_sc, Nn.itK_fd, Nn.itK_lc, Nn.revA_ap, Nn.revAK_tup, Nn.revAK_tuf, Nn.revAK_fl, List.reverse_cons, List.reverse_nil, Nn.itO_lst, Nn.itL_l, Nn.loopP_consG, Nn.lpC_ok, Nn.turn_nx, Nn.turn_ct, Nn.turn_rt, Nn.turn_bk, Nn.lcL_consG, Nn.lcC1_ap, Nn.lcC2_T, Nn.lcC2_F, Nn.gtp_tup, Nn.gtK_ok, Nn.gcn_ap, Nn.gcJ_ap, Nn.gnl_ap, Nn.en_nil, Nn.en_cons, Nn.sl_tup, Nn.sl_fl, Nn.cut_d1, Nn.cut_d2, Nn.cut_t1, Nn.cut_t2, List.take_succ_cons, List.take_zero, List.drop_succ_cons, List.drop_zero, List.take_nil, List.drop_nil, Nn.itK_str, Nn.range1_ap, Nn.enum_ap, Nn.enK_tup, Nn.enK_tuf, Nn.enK_fl, Nn.lc_ap, Nn.lcK_ap, Nn.newLK_ap, Nn.yes_ap, Nn.blk_ap, Nn.blkK_nx, Nn.blkK_ct, Nn.blkK_bk, Nn.blkK_rt, Nn.blkO_some, Nn.cons2_some, Nn.frzE_nil, Nn.frzE_none, Nn.frzE_cons, Nn.frzS_nil, Nn.frzS_cons, Nn.app2_some, Option.map_some, List.take_succ_cons, Nn.bind_ok, Nn.bindS_ok, Nn.bindN_nx, Nn.bindN_rt, Nn.bindN_ct, Nn.bindN_bk, Nn.bind_bind, Nn.bind_bindS, Nn.bindS_bindN, Nn.bindN_bindN, Nn.bbK_ap, Nn.bsK_ap, Nn.snK_ap, Nn.nnK_ap, Nn.aug_ap, Nn.augK_ap, Nn.augI_ap, Nn.augJ_ap, Nn.bl_ap, Nn.blK_ap, Nn.blO_ap, Nn.blJ_ap, Nn.index_ap, Nn.idxK_tuf, Nn.idxK_fl, Nn.join_ap, Nn.joinK_ap, Nn.fld_ap, Nn.sfld_ap, Nn.sfK_ap, Nn.mkF_ap, Nn.part_ap, Nn.partK_ap, Nn.noPart_ap, Nn.sl_ap, Nn.slA_ap, Nn.slB_ap, Nn.slC_ap, Nn.at0, Nn.at1, Nn.at2, Nn.at3, Nn.at4, Nn.at5, Nn.at6, Nn.at7, Nn.at8, Nn.at9, Nn.oD_some, Nn.ix_tup, Nn.ix_tuf, Nn.ix_fl, Nn.ix_sc, Nn.ix_lc, Nn.ixO_lst, Nn.ixO_dic, Nn.ixO_dicI, Nn.gsb_ap, Nn.okB_ok, Nn.gsA_ap, Nn.gsC_ap, Nn.gsE_ap, Nn.set_lc, Nn.setO_lst, Nn.setJ_some, Nn.ixN_L0, Nn.ixN_L1, Nn.ixN_L2, Nn.ixN_L3, Nn.ixN_L4, Nn.ixN_L5, Nn.add_int, Nn.sub_int, Nn.neg_int, Nn.lt_int, Nn.le_int, Nn.gt_int, Nn.ge_int, Nn.eq_int, Nn.eq_str, Nn.eq_bl, Nn.is_non, Nn.is_tup, Nn.is_str, Nn.is_int, Nn.is_bl, Nn.int_int, Nn.int_bl, Nn.abs_int, Nn.len_tup, Nn.len_tuf, Nn.len_fl, Nn.len_sc, Nn.len_lc, Nn.lenQ_lst, Nn.lenQ_dic, Nn.tuple_fl, Nn.tuple_lc, Nn.tupO_lst, Nn.sl_lc, Nn.slO_lst, Nn.min2_int, Nn.lstRg_ap, Nn.tupleF_fl, Nn.isi_ap, Nn.ty_non, Nn.ty_bl, Nn.ty_int, Nn.ty_str, Nn.ty_tup, Nn.ty_tuf, Nn.ty_fl, Nn.ty_sc, Nn.ty_fd, Nn.ty_lc, Nn.tyO_lst, Nn.tyO_dic, Nn.isO_NoneType_bool, Nn.isO_NoneType_int, Nn.isO_NoneType_str, Nn.isO_NoneType_tuple, Nn.isO_NoneType_list, Nn.isO_NoneType_dict, Nn.isO_bool_bool, Nn.isO_bool_int, Nn.isO_bool_str, Nn.isO_bool_tuple, Nn.isO_bool_list, Nn.isO_bool_dict, Nn.isO_int_bool, Nn.isO_int_int, Nn.isO_int_str, Nn.isO_int_tuple, Nn.isO_int_list, Nn.isO_int_dict, Nn.isO_str_bool, Nn.isO_str_int, Nn.isO_str_str, Nn.isO_str_tuple, Nn.isO_str_list, Nn.isO_str_dict, Nn.isO_tuple_bool, Nn.isO_tuple_int, Nn.isO_tuple_str, Nn.isO_tuple_tuple, Nn.isO_tuple_list, Nn.isO_tuple_dict, Nn.isO_list_bool, Nn.isO_list_int, Nn.isO_list_str, Nn.isO_list_tuple, Nn.isO_list_list, Nn.isO_list_dict, Nn.isO_dict_bool, Nn.isO_dict_int, Nn.isO_dict_str, Nn.isO_dict_tuple, Nn.isO_dict_list, Nn.isO_dict_dict, Nn.chain_ap, Nn.chA_ap, Nn.chB_ap, Nn.chC_T, Nn.chC_F, Nn.chD_ap, Nn.trK_gen, Nn.trO_some, Nn.tru_tup, Nn.tru_fl, Nn.tru_non, Nn.tru_bl, Nn.tru_int, Nn.emp_nil, Nn.emp_cons, Nn.emp_map, Nn.all_nil, Nn.sum_nil, Nn.ix_fdM, Nn.in_fdM, Nn.lookD_cons, Nn.fldK_foG, Nn.fldC_T, Nn.cont1, Nn.fldO_gen, Nn.fldP_some, Nn.sfJ_lc, Nn.putFD_nil, Nn.putFD_cons, Nn.kd_str, Nn.in_lc, Nn.inO_strs, Nn.in_tupS, Nn.in_tufS, Nn.in_flS, Nn.ap_lc, Nn.pop_lc, Nn.popO_snoc, Nn.rev_lc, Nn.revO_lst, Nn.rem_lc, Nn.ex_lc, Nn.ins_lc, Nn.list_tup, Nn.list_tuf, Nn.list_fl, Nn.list_sc, Nn.list_lc, Nn.lsO_lst, Nn.eq_non, Nn.eq_strI, List.map_cons, List.map_nil, List.length_cons, List.length_nil, List.replicate_succ, List.replicate_zero, List.set_cons_zero, List.set_cons_succ, List.getElem?_cons_zero, List.getElem?_cons_succ, List.cons_append, List.nil_append, Nat.reduceAdd, Nat.reduceSub, Nat.zero_add, if_true, if_false, ↓reduceIte, reduceCtorEq, Bool.false_eq_true, Nn.sat_ok, Nn.of_inj, Nn.in_sign, Int.reduceLE, Int.reduceLT, Int.reduceGT, Int.reduceGE, Int.reduceEq, Int.reduceNe, Nn.cast_0, Nn.cast_1, Nn.cast_2, Nn.cast_3, Nn.cast_4, Nn.cast_5, Nn.cast_6, Nn.cast_7, Nn.cast_8, Nn.cast_9, Nn.cast_10, Nn.cast_11, Nn.cast_12, Nn.cast_13, Nn.cast_14, Nn.cast_15, Nn.cast_16, Nn.cast_17, Nn.cast_18, Nn.cast_19, Nn.cast_20, Nn.cast_21, Nn.cast_22, Nn.cast_23, Nn.cast_24, Nn.cast_25, Nn.cast_26, Nn.cast_27, Nn.cast_28, Nn.cast_29, Nn.cast_30, Nn.cast_31, Nn.cast_32, Nn.cast_33, Nn.cast_34, Nn.cast_35, Nn.cast_36, Nn.cast_37, Nn.cast_38, Nn.cast_39, Nn.cast_40, Int.reduceAdd, Int.reduceSub, not_true_eq_false, not_false_eq_true, String.reduceEq, String.reduceNe, eq_self, decide_true, decide_false, Nn.ng, Nn.nd_dec, Nn.pow_18, Nn.pow_20, List.length_map, Bool.not_true, Bool.not_false])
local macro_rules | `(tactic| wtm_at "br") => `(tactic| first | refine go_ifDN ?_ ?_ | refine go_ifD ?_ ?_ | refine go_bindS (sat_andD ?_ ?_) | refine go_bindS (sat_orD ?_ ?_) | refine go_bindS (sat_andVD ?_ ?_) | refine go_bindS (sat_orVD ?_ ?_) | refine go_bindS (sat_ifD ?_ ?_) | refine sat_bind (sat_andD ?_ ?_) | refine sat_bind (sat_orD ?_ ?_) | refine sat_bind (sat_andVD ?_ ?_) | refine sat_bind (sat_orVD ?_ ?_) | refine sat_bind (sat_ifD ?_ ?_) | refine go_ifN ?_ ?_ | refine go_if ?_ ?_ | refine go_bindS (sat_andB ?_ ?_) | refine go_bindS (sat_orB ?_ ?_) | refine go_bindS (sat_andVB ?_ ?_) | refine go_bindS (sat_orVB ?_ ?_) | refine go_bindS (sat_ifB ?_ ?_) | refine go_bindS (sat_chDec ?_ ?_) | refine sat_bind (sat_chDec ?_ ?_) | refine sat_chDec ?_ ?_ | refine sat_andD ?_ ?_ | refine sat_orD ?_ ?_ | refine sat_andVD ?_ ?_ | refine sat_orVD ?_ ?_ | refine sat_ifD ?_ ?_ | refine sat_andB ?_ ?_ | refine sat_orB ?_ ?_ | refine sat_andVB ?_ ?_ | refine sat_orVB ?_ ?_ | refine sat_ifB ?_ ?_ | fail)
local macro_rules | `(tactic| wtm_at "dr0") => `(tactic| ((first | refine go_bindS (draw_call (by rfl) (by assumption) (by omega) (by omega) (by omega) ?_) | refine sat_bind (draw_call (by rfl) (by assumption) (by omega) (by omega) (by omega) ?_) | refine draw_call (by rfl) (by assumption) (by omega) (by omega) (by omega) ?_ | fail); intro _ _ _ _ _ _ _; simp only [List.set_cons_zero, List.set_cons_succ]; try wtm_at "evo"))
local macro_rules | `(tactic| wtm_at "wd") => `(tactic| ((with_reducible first | refine word_bindS ?_ ?_ ?_ | refine word_bind ?_ ?_ ?_ | refine word_sat ?_ ?_ ?_ | fail); (focus omega); (focus omega); intro _ _; try wtm_at "evo"))
local macro_rules | `(tactic| wtm_at "dr") => `(tactic| first | wtm_at "dr0" | wtm_at "wd" | fail)
local macro_rules | `(tactic| wtm_at "brs") => `(tactic| (wtm_at "br" <;> (intro _; try wtm_at "evo")))
local macro_rules | `(tactic| wtm_at "all") => `(tactic| ((try wtm_at "evo"); repeat' (first | wtm_at "dr" | wtm_at "brs")))
local macro_rules | `(tactic| wtm_at "drs") => `(tactic| ((try wtm_at "evo"); repeat' wtm_at "dr"))
local macro_rules | `(tactic| wtm_at "low") => `(tactic| first | rfl | (simp only [vl_lows, od_lows, Vl.low, Od.low, Hd.low, Ed.low, bagO_low, Nn.lows_nil, Nn.lows_cons, Nn.low_non, Nn.low_bl, Nn.low_int, Nn.low_str, Nn.low_ty, Nn.low_tup, Nn.low_tuf, Nn.low_fl, Nn.low_sc, Nn.low_fd, Nn.low_fo, Nn.lows_str, Nn.lows_int, Nn.lows_app, Nn.lowO_strs, Nn.lowO_ints, Nn.lowO_l, Nn.lowO_d, Nn.lowO_i, Bool.and_true, Bool.and_self, Bool.true_and, List.all_cons, List.all_nil, List.map_cons, List.map_nil, poolO_low, List.take_succ_cons, List.take_zero]; done) | fail)

theorem edit_sat {p : Bag} {row : List Vl} {Q : D → S → Prop} (hp : p.ok) (hn : p.n ≤ 80000) (hr : ∀ x ∈ row, x.ok) (hl : row.length ≤ 200) (h : ∀ (e : Ed) p', e.ok → p'.ok → p.n ≤ p'.n → p'.n ≤ p.n + 30 → Q e.d [bagO p']) : (mLEdit [.loc 0, .fl (vD row)] [bagO p]).sat Q := by
  refine def_sat ?_
  unfold mbLEdit
  wtm_at "drs"
  rename_i kd p1 d0 d1 ok1 lo1 hi1 wi p2 w0 w1 ok2 lo2 hi2
  obtain ⟨w, hw, ew⟩ : ∃ w : Str, w ∈ (["drop", "put", "move"] : List Str) ∧ atI [D.str "drop", .str "put", .str "move"] wi = some (.str w) := by
    have : wi = 0 ∨ wi = 1 ∨ wi = 2 := by omega
    rcases this with rfl | rfl | rfl
    · exact ⟨_, List.mem_cons_self, rfl⟩
    · exact ⟨_, List.mem_cons_of_mem _ List.mem_cons_self, rfl⟩
    · exact ⟨_, List.mem_cons_of_mem _ (List.mem_cons_of_mem _ List.mem_cons_self), rfl⟩
  simp only [ew]
  wtm_at "evo"
  rw [vD_o]
  refine go_bindS (fresh_call rfl ok2 (by omega) (map_ok hr) (by simp; omega) fun x p3 hx ok3 lo3 hi3 => ?_)
  rw [← vD_o]
  wtm_at "evo"
  have okr : ∀ {j : Nat} (hj : j < row.length), row[j].ok := fun hj => hr _ (List.getElem_mem hj)
  refine go_joinS (fun e s => ∃ (w' : Str) (y : Vl) (p' : Bag), w' ∈ (["drop", "put", "move"] : List Str) ∧ y.ok ∧ p'.ok ∧ p3.n ≤ p'.n ∧ p'.n ≤ p3.n + 1 ∧ e = ⟨[some (.loc 0), some (.fl (vD row)), some (.int kd), some (.str w'), some y.d, none], none⟩ ∧ s = [bagO p']) ?_ ?_
  · wtm_at "all"
    all_goals first
      | exact ⟨w, x, p3, hw, hx, ok3, by omega, by omega, rfl, rfl⟩
      | exact ⟨"put", x, p3, List.mem_cons_of_mem _ List.mem_cons_self, hx, ok3, by omega, by omega, rfl, rfl⟩
      | skip
    all_goals
      rename_i d2 p4 e0 e1 ok4 lo4 hi4
      obtain ⟨j, rfl⟩ : ∃ j : Nat, d2 = (j : Int) := ⟨d2.toNat, by omega⟩
      have hj : j < row.length := by omega
      simp only [at_vl hj]
      wtm_at "evo"
      exact ⟨w, row[j], p4, hw, okr hj, ok4, by omega, by omega, rfl, rfl⟩
  rintro e s ⟨w', y, p4, hw', hy, ok4, lo4, hi4, rfl, rfl⟩
  wtm_at "evo"
  refine go_join (fun e s => ∃ (o : Od) (p' : Bag), o.ok ∧ p'.ok ∧ p4.n ≤ p'.n ∧ p'.n ≤ p4.n + 1 ∧ e = ⟨[some (.loc 0), some (.fl (vD row)), some (.int kd), some (.str w'), some o.d, none], none⟩ ∧ s = [bagO p']) ?_ ?_
  · wtm_at "all"
    · refine go_bindS (odd_call rfl ok4 (by omega) fun t p5 h1 h2 h3 h4 => ?_)
      wtm_at "evo"
      exact ⟨t, p5, h1, h2, by omega, by omega, rfl, rfl⟩
    · exact ⟨.v y, p4, hy, ok4, by omega, by omega, rfl, rfl⟩
  rintro e s ⟨o, p5, ho, ok5, lo5, hi5, rfl, rfl⟩
  wtm_at "evo"
  refine go_joinS (fun e s => ∃ (o : Od) (p' : Bag), o.ok ∧ p'.ok ∧ p5.n ≤ p'.n ∧ p'.n ≤ p5.n + 1 ∧ e = ⟨[some (.loc 0), some (.fl (vD row)), some (.int kd), some (.str w'), some o.d, none], none⟩ ∧ s = [bagO p']) ?_ ?_
  · wtm_at "all"
    all_goals first
      | exact ⟨o, p5, ho, ok5, by omega, by omega, rfl, rfl⟩
      | skip
    all_goals
      rename_i d2 p6 e0 e1 ok6 lo6 hi6
      obtain ⟨j, rfl⟩ : ∃ j : Nat, d2 = (j : Int) := ⟨d2.toNat, by omega⟩
      have hj : j < row.length := by omega
      simp only [at_vl hj]
      wtm_at "evo"
      exact ⟨.v row[j], p6, okr hj, ok6, by omega, by omega, rfl, rfl⟩
  rintro e s ⟨o, p6, ho, ok6, lo6, hi6, rfl, rfl⟩
  wtm_at "evo"
  refine go_bindS (target_call rfl ok6 (by omega) hr hl ho fun t p7 ht ok7 lo7 hi7 => ?_)
  wtm_at "evo"
  refine go_join (fun e s => ∃ r : List Od, (r = [o] ∨ r = [o, t]) ∧ e = ⟨[some (.loc 0), none, some (.int kd), some (.str w'), some o.d, some (.tup (.str w' :: oD' r))], none⟩ ∧ s = [bagO p7]) ?_ ?_
  · wtm_at "all"
    · exact ⟨[o], .inl rfl, rfl, rfl⟩
    · exact ⟨[o, t], .inr rfl, rfl, rfl⟩
  rintro e s ⟨r, hr', rfl, rfl⟩
  have hwk : Hd.ok (.w w') := by
    simp only [List.mem_cons, List.not_mem_nil, or_false] at hw'
    rcases hw' with rfl | rfl | rfl <;> simp [Hd.ok]
  have hw2 : Hd.ok (.w "put") := by simp [Hd.ok]
  have ok1' : ∀ q ∈ [o], Od.ok q := fun q hq => by rw [List.mem_singleton.mp hq]; exact ho
  have ok2' : ∀ q ∈ [o, t], Od.ok q := fun q hq => by
    rcases List.mem_cons.mp hq with rfl | hq
    · exact ho
    · rw [List.mem_singleton.mp hq]
      exact ht
  have okn : ∀ {l : List Od}, (∀ q ∈ l, Od.ok q) → ∀ q ∈ l ++ [.n], Od.ok q := fun hl q hq => by
    rcases List.mem_append.mp hq with hq | hq
    · exact hl q hq
    · rw [List.mem_singleton.mp hq]
      trivial
  wtm_at "evo"
  refine go_join (fun e s => ∃ (ed : Ed) (p' : Bag), ed.ok ∧ p'.ok ∧ p7.n ≤ p'.n ∧ p'.n ≤ p7.n + 1 ∧ e = ⟨[some (.loc 0), none, some (.int kd), none, some o.d, some ed.d], none⟩ ∧ s = [bagO p']) ?_ ?_
  · rcases hr' with rfl | rfl
    · wtm_at "all"
      · rename_i d8 p8 e0 e1 ok8 lo8 hi8
        have dd : d8 = 0 ∨ d8 = 1 ∨ d8 = 2 ∨ d8 = 3 ∨ d8 = 4 ∨ d8 = 5 ∨ d8 = 6 := by omega
        have m1 : p7.n ≤ p8.n := by omega
        have m2 : p8.n ≤ p7.n + 1 := by omega
        rcases dd with rfl | rfl | rfl | rfl | rfl | rfl | rfl <;> wtm_at "evo"
        · exact ⟨.tup (.w w') [], p8, ⟨by simp, fun q hq => absurd hq List.not_mem_nil, hwk⟩, ok8, m1, m2, rfl, rfl⟩
        · exact ⟨.tup (.w w') [o], p8, ⟨by simp, ok1', hwk⟩, ok8, m1, m2, rfl, rfl⟩
        · exact ⟨.tup (.w w') ([o] ++ [.n]), p8, ⟨by simp, okn ok1', hwk⟩, ok8, m1, m2, rfl, rfl⟩
        · exact ⟨.lst (.w w') [o], p8, ⟨by simp, ok1', hwk⟩, ok8, m1, m2, rfl, rfl⟩
        · exact ⟨.tup (.w "put") [], p8, ⟨by simp, fun q hq => absurd hq List.not_mem_nil, hw2⟩, ok8, m1, m2, rfl, rfl⟩
        · exact ⟨.non, p8, trivial, ok8, m1, m2, rfl, rfl⟩
        · exact ⟨.drop, p8, trivial, ok8, m1, m2, rfl, rfl⟩
      · exact ⟨.tup (.w w') [o], p7, ⟨by simp, ok1', hwk⟩, ok7, by omega, by omega, rfl, rfl⟩
    · wtm_at "all"
      · rename_i d8 p8 e0 e1 ok8 lo8 hi8
        have dd : d8 = 0 ∨ d8 = 1 ∨ d8 = 2 ∨ d8 = 3 ∨ d8 = 4 ∨ d8 = 5 ∨ d8 = 6 := by omega
        have m1 : p7.n ≤ p8.n := by omega
        have m2 : p8.n ≤ p7.n + 1 := by omega
        rcases dd with rfl | rfl | rfl | rfl | rfl | rfl | rfl <;> wtm_at "evo"
        · exact ⟨.tup (.w w') [], p8, ⟨by simp, fun q hq => absurd hq List.not_mem_nil, hwk⟩, ok8, m1, m2, rfl, rfl⟩
        · exact ⟨.tup (.w w') [o], p8, ⟨by simp, ok1', hwk⟩, ok8, m1, m2, rfl, rfl⟩
        · exact ⟨.tup (.w w') ([o, t] ++ [.n]), p8, ⟨by simp, okn ok2', hwk⟩, ok8, m1, m2, rfl, rfl⟩
        · exact ⟨.lst (.w w') [o, t], p8, ⟨by simp, ok2', hwk⟩, ok8, m1, m2, rfl, rfl⟩
        · exact ⟨.tup (.w "put") [], p8, ⟨by simp, fun q hq => absurd hq List.not_mem_nil, hw2⟩, ok8, m1, m2, rfl, rfl⟩
        · exact ⟨.non, p8, trivial, ok8, m1, m2, rfl, rfl⟩
        · exact ⟨.drop, p8, trivial, ok8, m1, m2, rfl, rfl⟩
      · exact ⟨.tup (.w w') [o, t], p7, ⟨by simp, ok2', hwk⟩, ok7, by omega, by omega, rfl, rfl⟩
  rintro e s ⟨ed, p8, hed, ok8, lo8, hi8, rfl, rfl⟩
  wtm_at "evo"
  refine go_join (fun e s => ∃ (ed : Ed) (p' : Bag) (x0 x2 x4 : Option D), ed.ok ∧ p'.ok ∧ p8.n ≤ p'.n ∧ p'.n ≤ p8.n + 1 ∧ e = ⟨[x0, none, x2, none, x4, some ed.d], none⟩ ∧ s = [bagO p']) ?_ ?_
  · wtm_at "all"
    · rename_i d9 p9 e0 e1 ok9 lo9 hi9
      have dd : d9 = 0 ∨ d9 = 1 ∨ d9 = 2 ∨ d9 = 3 := by omega
      have m1 : p8.n ≤ p9.n := by omega
      have m2 : p9.n ≤ p8.n + 1 := by omega
      have on : ∀ q ∈ [o, Od.n], Od.ok q := okn (l := [o]) ok1'
      rcases dd with rfl | rfl | rfl | rfl <;> wtm_at "evo"
      · exact ⟨.tup (.w "Drop") [o], p9, _, _, _, ⟨by simp, ok1', by simp [Hd.ok]⟩, ok9, m1, m2, rfl, rfl⟩
      · exact ⟨.tup (.w "swap") [o, .n], p9, _, _, _, ⟨by simp, on, by simp [Hd.ok]⟩, ok9, m1, m2, rfl, rfl⟩
      · exact ⟨.tup .n [o], p9, _, _, _, ⟨by simp, ok1', trivial⟩, ok9, m1, m2, rfl, rfl⟩
      · exact ⟨.tup .one [o, .n], p9, _, _, _, ⟨by simp, on, trivial⟩, ok9, m1, m2, rfl, rfl⟩
    · exact ⟨ed, p8, _, _, _, hed, ok8, by omega, by omega, rfl, rfl⟩
  rintro e s ⟨ed, p9, x0, x2, x4, hed, ok9, lo9, hi9, rfl, rfl⟩
  wtm_at "evo"
  exact go_end1 ed.low (bagO_low _) (h ed p9 hed ok9 (by omega) (by omega))

end Ke
namespace Ke
open PySem PySem.Spec PyProof.Rows L2 Lb Nn
/-! the text of the edits -/
structure Gd (n w : Nat) (p : PyData) : Prop where
  sh : p.showable = true
  lv : p.leavesShort 31 = true
  hd : p.hasDict = false
  dp : p.depth ≤ n
  wt : p.weight ≤ w
theorem Gd.up {n w m v : Nat} {p : PyData} (h : Gd n w p) (hn : n ≤ m) (hw : w ≤ v) : Gd m v p := ⟨h.sh, h.lv, h.hd, Nat.le_trans h.dp hn, Nat.le_trans h.wt hw⟩
theorem gd_all {n w : Nat} : ∀ {ps : List PyData}, (∀ p ∈ ps, Gd n w p) → PyData.showableAll ps = true ∧ PyData.leavesShortAll 31 ps = true ∧ PyData.hasDictAll ps = false ∧ PyData.depthAll ps ≤ n ∧ PyData.weightAll ps ≤ ps.length * (w + 1)
  | [], _ => ⟨rfl, rfl, rfl, Nat.zero_le _, Nat.zero_le _⟩
  | p :: ps, h => by
    have hp := h p List.mem_cons_self
    obtain ⟨h1, h2, h3, h4, h5⟩ := gd_all fun q hq => h q (List.mem_cons_of_mem _ hq)
    refine ⟨?_, ?_, ?_, ?_, ?_⟩
    · unfold PyData.showableAll
      rw [hp.sh, h1]
      rfl
    · unfold PyData.leavesShortAll
      rw [hp.lv, h2]
      rfl
    · unfold PyData.hasDictAll
      rw [hp.hd, h3]
      rfl
    · unfold PyData.depthAll
      exact Nat.max_le.mpr ⟨hp.dp, h4⟩
    · unfold PyData.weightAll
      have := hp.wt
      rw [List.length_cons, Nat.succ_mul]
      omega
theorem gd_list {n w : Nat} {ps : List PyData} (h : ∀ p ∈ ps, Gd n w p) : Gd (n + 1) (ps.length * (w + 1)) (.list ps) := by
  obtain ⟨h1, h2, h3, h4, h5⟩ := gd_all h
  exact ⟨by unfold PyData.showable; exact h1, by unfold PyData.leavesShort; exact h2, by unfold PyData.hasDict; exact h3, by unfold PyData.depth; omega, by unfold PyData.weight; exact h5⟩
theorem gd_tup {n w : Nat} {ps : List PyData} (h : ∀ p ∈ ps, Gd n w p) : Gd (n + 1) (ps.length * (w + 1)) (.tuple ps) := by
  obtain ⟨h1, h2, h3, h4, h5⟩ := gd_all h
  exact ⟨by unfold PyData.showable; exact h1, by unfold PyData.leavesShort; exact h2, by unfold PyData.hasDict; exact h3, by unfold PyData.depth; omega, by unfold PyData.weight; exact h5⟩
def pV : Vl → PyData
  | .i z => .int z
  | .s x => .str x
def pO : Od → PyData
  | .v x => pV x
  | .t => .bool true
  | .n => .none
  | .t1 => .tuple [.int 1]
  | .l1 => .list [.int 1]
  | .ab => .tuple [.str "a", .str "b"]
def pH : Hd → PyData
  | .w s => .str s
  | .n => .none
  | .one => .int 1
def pE : Ed → PyData
  | .tup h r => .tuple (pH h :: r.map pO)
  | .lst h r => .list (pH h :: r.map pO)
  | .non => .none
  | .drop => .str "drop"
theorem pd_V (x : Vl) : pdD x.d = some (pV x) := by cases x <;> rfl
theorem pd_O (o : Od) : pdD o.d = some (pO o) := by
  cases o with
  | v x => exact pd_V x
  | _ => rfl
theorem pd_H (h : Hd) : pdD h.d = some (pH h) := by cases h <;> rfl
theorem pd_map {α : Type} {f : α → D} {g : α → PyData} (h : ∀ a, pdD (f a) = some (g a)) : ∀ l : List α, pdDs (l.map f) = some (l.map g)
  | [] => rfl
  | a :: l => by
    rw [List.map_cons]
    unfold pdDs
    rw [h a, pd_map h l]
    rfl
theorem pd_E (e : Ed) : pdD e.d = some (pE e) := by
  cases e with
  | tup h r =>
    show pdD (.tup (h.d :: oD' r)) = _
    unfold pdD pdDs
    rw [pd_H, oD', pd_map pd_O]
    rfl
  | lst h r =>
    show pdD (.fl (h.d :: oD' r)) = _
    unfold pdD pdDs
    rw [pd_H, oD', pd_map pd_O]
    rfl
  | _ => rfl
theorem gd_int {z : Int} (h : z.natAbs < 2 ^ 99) : Gd 0 100 (.int z) := by
  have l : z.natAbs.log2 < 99 ∨ z = 0 := by
    by_cases h0 : z.natAbs = 0
    · exact .inr (by omega)
    · exact .inl ((Nat.log2_lt h0).mpr h)
  have l1 : z.natAbs.log2 < 1920 := by
    rcases l with l | rfl
    · omega
    · decide
  refine ⟨by unfold PyData.showable; exact decide_eq_true l1, ?_, rfl, Nat.le_refl _, ?_⟩
  · unfold PyData.leavesShort
    refine decide_eq_true ?_
    have e := int_text_length_le10 (a := z) (k := 30) (by decide) (by omega)
    show (Str.ofString (toString z)).length ≤ 31
    rw [PySem.ofString_length]
    exact e
  · unfold PyData.weight
    rcases l with l | rfl
    · split
      · omega
      · omega
    · decide
theorem gd_str {s : String} (h : (Str.ofString s).length ≤ 100) : Gd 0 100 (.str (Str.ofString s)) := by
  refine ⟨rfl, ?_, rfl, Nat.le_refl _, h⟩
  unfold PyData.leavesShort
  have := sOk_of s
  unfold sOk at this
  rw [← Array.all_toList] at this
  rw [List.all_eq_true] at this ⊢
  intro c hc
  have q := this c hc
  simp only [decide_eq_true_eq] at q ⊢
  have e : (16 : Nat) ^ 8 = 4294967296 := by decide
  omega
theorem gd_V {x : Vl} (h : x.ok) : Gd 0 100 (pV x) := by
  cases x with
  | i z => exact gd_int h
  | s y =>
    obtain ⟨z, hz, rfl⟩ := h
    refine gd_str ?_
    have e := int_text_length_le10 (a := z) (k := 30) (by decide) (by omega)
    rw [PySem.ofString_length]
    omega
theorem gd_O {o : Od} (h : o.ok) : Gd 1 300 (pO o) := by
  cases o with
  | v x => exact (gd_V h).up (by omega) (by omega)
  | t => exact ⟨rfl, rfl, rfl, by decide, by decide⟩
  | n => exact ⟨rfl, rfl, rfl, by decide, by decide⟩
  | t1 => exact (gd_tup (n := 0) (w := 100) fun p hp => by rw [List.mem_singleton.mp hp]; exact gd_int (by decide)).up (by omega) (by simp)
  | l1 => exact (gd_list (n := 0) (w := 100) fun p hp => by rw [List.mem_singleton.mp hp]; exact gd_int (by decide)).up (by omega) (by simp)
  | ab =>
    refine (gd_tup (n := 0) (w := 100) fun p hp => ?_).up (by omega) (by simp)
    rcases List.mem_cons.mp hp with rfl | hp
    · exact gd_str (by decide +kernel)
    · rw [List.mem_singleton.mp hp]
      exact gd_str (by decide +kernel)
theorem gd_H {h : Hd} (hh : h.ok) : Gd 1 300 (pH h) := by
  cases h with
  | w s =>
    have hh : s ∈ (["drop", "put", "move", "Drop", "swap"] : List Str) := hh
    refine Gd.up (n := 0) (w := 100) ?_ (by omega) (by omega)
    simp only [List.mem_cons, List.not_mem_nil, or_false] at hh
    rcases hh with rfl | rfl | rfl | rfl | rfl <;> exact gd_str (by decide +kernel)
  | n => exact ⟨rfl, rfl, rfl, by decide, by decide⟩
  | one => exact (gd_int (by decide)).up (by omega) (by omega)
theorem gd_E {e : Ed} (h : e.ok) : Gd 2 2000 (pE e) := by
  have all : ∀ {a : Hd} {r : List Od}, r.length ≤ 3 → (∀ o ∈ r, o.ok) → a.ok → (∀ p ∈ pH a :: r.map pO, Gd 1 300 p) ∧ (pH a :: r.map pO).length * (300 + 1) ≤ 2000 := fun {a r} h1 h2 h3 => by
    refine ⟨fun p hp => ?_, ?_⟩
    · rcases List.mem_cons.mp hp with rfl | hp
      · exact gd_H h3
      · obtain ⟨o, ho, rfl⟩ := List.mem_map.mp hp
        exact gd_O (h2 o ho)
    · rw [List.length_cons, List.length_map]
      omega
  cases e with
  | tup a r =>
    obtain ⟨h1, h2, h3⟩ := h
    obtain ⟨q1, q2⟩ := all h1 h2 h3
    exact (gd_tup q1).up (by omega) q2
  | lst a r =>
    obtain ⟨h1, h2, h3⟩ := h
    obtain ⟨q1, q2⟩ := all h1 h2 h3
    exact (gd_list q1).up (by omega) q2
  | non => exact ⟨rfl, rfl, rfl, by decide, by decide⟩
  | drop => exact (gd_str (by decide +kernel)).up (by omega) (by omega)
/-- what repr tells of the edits -/
def repE (es : List Ed) : Str := (PyData.list (es.map pE)).shown
theorem repr_eds {es : List Ed} {st : S} (h : ∀ e ∈ es, e.ok) (hl : es.length ≤ 13) : fRepr [.fl (es.map Ed.d)] st = .ok (.str (repE es)) st := by
  have g := gd_list (n := 2) (w := 2000) (ps := es.map pE) fun p hp => by
    obtain ⟨e, he, rfl⟩ := List.mem_map.mp hp
    exact gd_E (h e he)
  have hw : (es.map pE).length * (2000 + 1) ≤ 26100 := by rw [List.length_map]; omega
  have g := g.up (Nat.le_refl _) hw
  have ok : okP' (.list (es.map pE)) = true := by
    have s := PyData.shown_le 31 (by decide) _ g.lv
    have w := g.wt
    have d := g.dp
    have z := big_line
    unfold okP'
    simp only [Bool.and_eq_true, Bool.not_eq_true', Nat.ble_eq]
    exact ⟨⟨⟨⟨rfl, g.sh⟩, g.hd⟩, by omega⟩, by omega⟩
  have e : pdT st (.fl (es.map Ed.d)) = some (.list (es.map pE)) := by
    show pdD (.fl (es.map Ed.d)) = _
    unfold pdD
    rw [pd_map pd_E]
    rfl
  unfold fRepr
  simp only [e]
  rw [if_pos ok]
  rfl
theorem edit_call {st : S} {n : Nat} {p : Bag} {row : List Vl} {Q : D → S → Prop} (hst : st[n]? = some (bagO p)) (hp : p.ok) (hn : p.n ≤ 80000) (hr : ∀ x ∈ row, x.ok) (hl : row.length ≤ 200) (h : ∀ (e : Ed) p', e.ok → p'.ok → p.n ≤ p'.n → p'.n ≤ p.n + 30 → Q e.d (st.set n (bagO p'))) : (callF [true, false] mLEdit [.loc n, .fl (vD row)] st).sat Q :=
  bag_call hst (by simp only [List.all_cons, Nn.low_fl, vl_lows]; rfl) (edit_sat hp hn hr hl fun e p' h1 h2 h3 h4 => ⟨p', rfl, e.low, h e p' h1 h2 h3 h4⟩)

end Ke
namespace Ke
open PySem PySem.Spec PyProof.Rows L2 Lb Nn
/-! the law's books -/
section
variable {st : S} {neg : Bool} {k : Nat}
theorem eqv_vl {x y : Vl} : PyData.eqv (pD x.d) (pD y.d) = decide (x = y) := by
  have := eqF_eqv (a := x.d) (b := y.d) (by cases x <;> cases y <;> rfl)
  rw [vl_eqF] at this
  exact this.symm
theorem eqvs_vl : ∀ {a b : List Vl}, PyData.eqvAll (pDs (vD a)) (pDs (vD b)) = decide (a = b)
  | [], [] => rfl
  | [], y :: b => rfl
  | x :: a, [] => rfl
  | x :: a, y :: b => by
    show (PyData.eqv (pD x.d) (pD y.d) && PyData.eqvAll (pDs (vD a)) (pDs (vD b))) = _
    rw [eqv_vl, eqvs_vl, ← Bool.decide_and]
    congr 1
    simp
theorem okPs_vl {a : List Vl} (h : ∀ x ∈ a, x.ok) (n : Nat) : okPs n (vD a) = true := by
  induction a with
  | nil => cases n <;> rfl
  | cons x a ih =>
    show okPs n (x.d :: vD a) = true
    unfold okPs
    rw [(h x List.mem_cons_self).okP n, ih fun y hy => h y (List.mem_cons_of_mem _ hy)]
    rfl
theorem okP_fl {a : List Vl} (h : ∀ x ∈ a, x.ok) : okP 1 (.fl (vD a)) = true := by
  unfold okP
  exact okPs_vl h 0
theorem eq_ll {a b : List Vl} (ha : ∀ x ∈ a, x.ok) (hb : ∀ x ∈ b, x.ok) : fEqA neg (.fl (vD a)) (.fl (vD b)) st = .ok (.bl (ng neg (decide (a = b)))) st := by
  rw [eq_deep (okP_fl ha) (okP_fl hb) (by omega)]
  have : eqD (.fl (vD a)) (.fl (vD b)) = decide (a = b) := eqvs_vl
  rw [this]
theorem eq_ld {a b : List Vl} (ha : ∀ x ∈ a, x.ok) (hb : ∀ x ∈ b, x.ok) (hk : st[k]? = some (.lst (vD a))) : fEqA neg (.loc k) (.fl (vD b)) st = .ok (.bl (ng neg (decide (a = b)))) st := by
  have rd : rdL st k = some (vD a) := by unfold rdL; rw [hk]
  have d0 : dcD st (.loc k) = none := by
    unfold dcD
    simp only [hk]
  have t1 : toP st 50 (.loc k) = some (.list (pDs (vD a))) := by
    unfold toP
    rw [rd]
    show ((vD a).mapM (toP st 49)).map PyData.list = _
    rw [toPs_eq 0 49 (vD a) (okPs_vl ha 0) (by omega)]
    rfl
  have t2 : toP st 50 (.fl (vD b)) = some (.list (pDs (vD b))) := toP_eq 1 50 _ (okP_fl hb) (by omega)
  have s1 : SeqAt.shaped (.list (pDs (vD a))) = true := shaped_ok (okP_fl ha) (by omega)
  have s2 : SeqAt.shaped (.list (pDs (vD b))) = true := shaped_ok (okP_fl hb) (by omega)
  unfold fEqA
  rw [d0]
  unfold fEq
  rw [if_neg (by unfold scal2; exact Bool.false_ne_true), t1, t2]
  simp only [s1, s2, Bool.and_self, if_true]
  have : PyData.eqv (.list (pDs (vD a))) (.list (pDs (vD b))) = decide (a = b) := eqvs_vl
  rw [this]
  rfl
end
theorem done_ok {l l' : List Vl} {e : Ed} (hn : l.Nodup) (ho : ∀ x ∈ l, x.ok) (he : e.ok) (h : doneO l e = some l') : ∀ x ∈ l', x.ok := by
  have hb : edB l e = true := by rw [ed_iff hn, h]; rfl
  rcases ed_shape hb with ⟨x, rfl, hx⟩ | ⟨x, t, rfl, hx, ht⟩ | ⟨x, t, rfl, hx, ht⟩
  · have h : stepO l "drop" x [] = some l' := h
    obtain ⟨j, hp⟩ : ∃ j, place l x = some j := Option.isSome_iff_exists.mp (by rw [pl_mem]; exact decide_eq_true hx)
    simp only [stepO, hp, if_true] at h
    cases h
    obtain ⟨_, m, _⟩ := nd_cut hn hp
    exact fun y hy => ho y ((m y).mp hy).1
  · have h : stepO l "put" x [t] = some l' := h
    have hp := place_none.mpr hx
    have h : toO l x t = some l' := by simpa [stepO, hp, Nn.of_inj] using h
    obtain ⟨_, m, _⟩ := nd_to hn hx h
    have ox : x.ok := he.2.1 (.v x) List.mem_cons_self
    intro y hy
    rcases (m y).mp hy with q | rfl
    · exact ho y q
    · exact ox
  · have h : stepO l "move" x [t] = some l' := h
    obtain ⟨j, hp⟩ : ∃ j, place l x = some j := Option.isSome_iff_exists.mp (by rw [pl_mem]; exact decide_eq_true hx)
    have h : toO (Ke.cutV l j) x t = some l' := by simpa [stepO, hp, Nn.of_inj] using h
    obtain ⟨a, m, _⟩ := nd_cut hn hp
    obtain ⟨_, m', _⟩ := nd_to a (fun q => ((m x).mp q).2 rfl) h
    intro y hy
    rcases (m' y).mp hy with q | rfl
    · exact ho y ((m y).mp q).1
    · exact ho _ hx
/-- one edit more -/
theorem runE_snoc {e : Ed} : ∀ {es : List Ed} {l : List Vl} {k : Nat}, l.Nodup → runE l (es ++ [e]) k = match runE l es k with
    | .inl l' => runE l' [e] (k + es.length)
    | .inr j => .inr j
  | [], l, k, _ => rfl
  | f :: es, l, k, hn => by
    have hi := ed_iff hn f
    cases hd : doneO l f with
    | none =>
      have hb : edB l f = false := by rw [hi, hd]; rfl
      rw [List.cons_append]
      simp only [runE, hb, hd]
    | some l' =>
      have hb : edB l f = true := by rw [hi, hd]; rfl
      obtain ⟨n', _⟩ := done_nd hn hd
      rw [List.cons_append]
      simp only [runE, hb, hd]
      rw [runE_snoc n', show k + (f :: es).length = k + 1 + es.length by rw [List.length_cons]; omega]
      simp only [runE]
/-- the row and what is due, behind some edits -/
structure Bk (old : List Vl) (es : List Ed) (row due : D) : Prop where
  h : (∃ l, runE old es 0 = .inl l ∧ row = .fl (vD l) ∧ due = .non ∧ l.Nodup ∧ l.length ≤ old.length + es.length ∧ ∀ x ∈ l, x.ok) ∨ (∃ j : Nat, runE old es 0 = .inr j ∧ row = .non ∧ due = .int j)

end Ke
namespace Ke
open PySem PySem.Spec PyProof.Rows L2 Lb Nn
/-! what the law stands on -/
section
variable {st : S} {n k : Nat}
theorem callP_ap {md : List Bool} {f : Fn} {ar : MA} {env : Ev} : mCallP md f ar env st = (ar env st).bind (callFP md f) := rfl
theorem is_fl {neg : Bool} {l : List D} : fIsN neg (.fl l) .non st = .ok (.bl neg) st := rfl
theorem add1 {l : List Vl} : vD l ++ [D.int 1] = vD (l ++ [.i 1]) := by
  unfold vD
  rw [List.map_append]
  rfl
theorem addE {es : List Ed} {e : Ed} : es.map Ed.d ++ [e.d] = (es ++ [e]).map Ed.d := by rw [List.map_append]; rfl
theorem rows_call {p : Bag} {Q : D → S → Prop} (hp : p.ok) (hn : p.n ≤ 1000) (h : ∀ a b p', RowK a 100 → a.length ≤ 60 → p'.ok → p.n ≤ p'.n → p'.n ≤ p.n + 1000 → Q (.fl [.loc 1, .loc 2]) [bagO p', .lst (vD a), .lst (vD b)]) : (callFP [true] mLRows [.loc 0] [bagO p]).sat Q := by
  obtain ⟨d, s, e, a, b, p', h1, h2, h3, h4, h5, rfl, rfl⟩ := sat_eq (rows_sat (Q := fun d s => ∃ a b p', RowK a 100 ∧ a.length ≤ 60 ∧ p'.ok ∧ p.n ≤ p'.n ∧ p'.n ≤ p.n + 1000 ∧ d = .fl [.loc 1, .loc 2] ∧ s = [bagO p', .lst (vD a), .lst (vD b)]) hp hn fun a b p' h1 h2 h3 h4 h5 => ⟨a, b, p', h1, h2, h3, h4, h5, rfl, rfl⟩)
  have hm : minis [bagO p] [0] = some [bagO p] := by
    unfold minis minis
    simp only [List.getElem?_cons_zero, bagO_low, if_true]
  have e0 : callFP [true] mLRows [.loc 0] [bagO p] = callRP [0] [bagO p] (mLRows [.loc 0] [bagO p]) := by
    unfold callFP
    rw [show mutPl [true] [D.loc 0] = some [0] from rfl]
    dsimp only
    rw [hm, if_pos ⟨rfl, rfl⟩]
    rfl
  have e1 : callRP [0] [bagO p] (.ok (.fl [.loc 1, .loc 2]) [bagO p', .lst (vD a), .lst (vD b)]) = .ok (.fl [.loc 1, .loc 2]) [bagO p', .lst (vD a), .lst (vD b)] := by
    unfold callRP
    simp only [List.getElem?_cons_zero, List.getElem?_cons_succ]
    rw [if_pos]
    · rfl
    · refine ⟨?_, rfl, rfl, rfl⟩
      simp only [List.all_cons, List.all_nil, bagO_low, Bool.and_true, Bool.true_and]
      show (Nn.lows (vD a) && Nn.lows (vD b)) = true
      rw [vl_lows, vl_lows]
      rfl
  rw [e0, e, e1]
  exact h a b p' h1 h2 h3 h4 h5
theorem c_placeL {l : List Vl} (hl : l.length ≤ 1000) (h : st[n]? = some (.lst (vD l))) : callF [false, false] mLPlace [.loc n, .int 1] st = .ok (.int (placeI l (.i 1))) st := by
  refine call_lent (ds' := [.fl (vD l), .int 1]) rfl ?_ (place_t (x := .i 1) hl) rfl rfl
  have h1 : fz (fun k => !(([] : List Nat).contains k)) false st (.loc n) = some (.fl (vD l)) := fz_own rfl h (vl_lows l)
  have h2 : fz (fun k => !(([] : List Nat).contains k)) false st (.int 1) = some (.int 1) := rfl
  simp only [mArgs, h1, h2]
theorem placeI_neg {l : List Vl} {x : Vl} (h : placeI l x < 0) : x ∉ l := by
  refine place_none.mp ?_
  unfold placeI at h
  cases hp : place l x with
  | none => rfl
  | some j =>
    rw [hp] at h
    dsimp only at h
    omega
theorem RowK.ok {a : List Vl} {k : Nat} (h : RowK a k) : ∀ x ∈ a, x.ok := fun x hx => by
  obtain ⟨i, _, q⟩ := h.of x hx
  exact q.ok
/-- the elder list -/
structure Old (l : List Vl) : Prop where
  nd : l.Nodup
  ok : ∀ x ∈ l, x.ok
  len : l.length ≤ 61
theorem Old.one {l : List Vl} (h : Old l) (hl : l.length ≤ 60) (hn : Vl.i 1 ∉ l) : Old (l ++ [.i 1]) := by
  refine ⟨?_, fun x hx => ?_, by simp; omega⟩
  · rw [List.nodup_append]
    refine ⟨h.nd, List.nodup_cons.mpr ⟨List.not_mem_nil, List.nodup_nil⟩, fun a ha b hb e => ?_⟩
    rw [List.mem_singleton.mp hb] at e
    exact hn (e ▸ ha)
  · rcases List.mem_append.mp hx with hx | hx
    · exact h.ok x hx
    · rw [List.mem_singleton.mp hx]
      show (1 : Int).natAbs < 2 ^ 99
      decide
theorem Bk.zero {old : List Vl} (h : Old old) : Bk old [] (.fl (vD old)) .non := ⟨.inl ⟨old, rfl, rfl, rfl, h.nd, Nat.le_add_right _ _, h.ok⟩⟩
theorem Bk.due {old : List Vl} {es : List Ed} {e : Ed} {j : Nat} (h : Old old) (hr : runE old es 0 = .inr j) : Bk old (es ++ [e]) .non (.int j) := by
  refine ⟨.inr ⟨j, ?_, rfl, rfl⟩⟩
  rw [runE_snoc h.nd, hr]
theorem Bk.step {old l : List Vl} {es : List Ed} {e : Ed} (h : Old old) (hr : runE old es 0 = .inl l) (nd : l.Nodup) (len : l.length ≤ old.length + es.length) (ok : ∀ x ∈ l, x.ok) (he : e.ok) : (doneO l e = none ∧ Bk old (es ++ [e]) .non (.int es.length)) ∨ (∃ l', doneO l e = some l' ∧ Bk old (es ++ [e]) (.fl (vD l')) .non) := by
  have hi := ed_iff nd e
  have hs : runE old (es ++ [e]) 0 = runE l [e] (0 + es.length) := by rw [runE_snoc h.nd, hr]
  cases hd : doneO l e with
  | none =>
    have hb : edB l e = false := by rw [hi, hd]; rfl
    refine .inl ⟨rfl, ⟨.inr ⟨es.length, ?_, rfl, rfl⟩⟩⟩
    rw [hs]
    simp [runE, hb]
  | some l' =>
    have hb : edB l e = true := by rw [hi, hd]; rfl
    obtain ⟨n', len'⟩ := done_nd nd hd
    refine .inr ⟨l', rfl, ⟨.inl ⟨l', ?_, rfl, rfl, n', by rw [List.length_append, List.length_singleton]; omega, done_ok nd ok he hd⟩⟩⟩
    rw [hs]
    simp [runE, hb, hd]
/-- what edited will answer -/
inductive Jn (old : List Vl) (pd row due : D) : Prop where
  | told (l : List Vl) (ok : ∀ x ∈ l, x.ok) (len : l.length ≤ 200) (hr : row = .fl (vD l)) (hd : due = .non) (h : ∀ st, callF [false, false] mEditedo [.fl (vD old), pd] st = .ok (.loc st.length) (st ++ [.lst (vD l)]))
  | no (j : Int) (hd : due = .int j) (h : ∀ st, callF [false, false] mEditedo [.fl (vD old), pd] st = .ex "BadEdit" [("index", .int j)] st)
theorem Jn.of {old : List Vl} {es : List Ed} {pd row due : D} (ho : Old old) (he : es.length ≤ 12) (b : Bk old es row due) (hp : Nn.low pd = true) (h : mEditedo [.fl (vD old), pd] [] = resE (runE old es 0)) : Jn old pd row due := by
  rcases b.h with ⟨l, hr, rfl, rfl, _, len, ok⟩ | ⟨j, hr, rfl, rfl⟩
  · rw [hr] at h
    have := ho.len
    exact .told l ok (by omega) rfl rfl fun st => c_edited (r := .inl l) hp h
  · rw [hr] at h
    exact .no j rfl fun st => c_edited (r := .inr j) hp h
theorem Jn.oth {old : List Vl} {o : Ot} {row : D} : Jn old o.d' row (.int (-1)) := .no (-1) rfl fun st => c_editedO
theorem Bk.lowR {old : List Vl} {es : List Ed} {row due : D} (b : Bk old es row due) : Nn.low row = true := by
  rcases b.h with ⟨l, _, rfl, _⟩ | ⟨j, _, rfl, _⟩
  · rw [Nn.low_fl, vl_lows]
  · rfl
theorem Bk.lowD {old : List Vl} {es : List Ed} {row due : D} (b : Bk old es row due) : Nn.low due = true := by
  rcases b.h with ⟨l, _, _, rfl, _⟩ | ⟨j, _, _, rfl⟩ <;> rfl
end

end Ke
namespace Ke
open PySem PySem.Spec PyProof.Rows L2 Lb Nn
local macro_rules | `(tactic| wtm_at "ev") => `(tactic| simp only [Nn.seq_ap, Nn.next_ap, Nn.brk_ap, Nn.cnt_ap, Nn.var_ap, Nn.varK_ok, Nn.c_ap, Nn.m2_ap, Nn.m2K_ap, Nn.m2J_ap, Nn.m1_ap, Nn.mB_ap, Nn.mBK_ap, Nn.and_ap, Nn.or_ap, Nn.not_ap, Nn.andK_T, Nn.andK_F, Nn.orK_T, Nn.orK_F, Nn.notK_ap, Nn.andV_ap, Nn.orV_ap, Nn.notV_ap, Nn.ifE_ap, Nn.andVK_T, Nn.andVK_F, Nn.orVK_T, Nn.orVK_F, Nn.notVK_ap, Nn.ifEK_T, Nn.ifEK_F, Nn.nil_ap, Nn.cons_ap, Nn.consK_ap, Nn.consJ_ap, Nn.star_ap, Nn.starJ_ap, Nn.starK_tup, Nn.starK_tuf, Nn.starK_fl, Nn.starK_lc, Nn.starO_lst, Nn.lcL_nil, Nn.loopP_nil, List.append_nil,  Nn.tup_ap, Nn.lst_ap, Nn.newL_T, Nn.newL_F, Nn.newD_T, Nn.newD_F, Nn.dnew_ap, Nn.cb_ap, Nn.call_ap, Nn.callD_ap, Nn.callDD, Nn.dyn_nil, Nn.dyn_F, Nn.dyn_loc, Nn.dyn_fd, Nn.dyn_fl, Nn.dyn_tup, Nn.dyn_non, Nn.disp_ap, Nn.prs_nil, Nn.prs_cons, Nn.prA_ap, Nn.prB_ap, Nn.prC_str, Nn.prC_int, Nn.dispK_1, Nn.tr_ap, Nn.trK_bl, Nn.asg_ap, Nn.asgK_ap, Nn.asgJ_ok, Nn.gnm_ap, Nn.gkl_ap, Nn.ret_ap, Nn.retK_ap, Nn.retN_ap, Nn.drop_ap, Nn.dropK_ap, Nn.if_ap, Nn.ifK_T, Nn.ifK_F, Nn.kl_ap, Nn.klK_ap, Nn.wipe_nil, Nn.wipe_cons, Nn.put_mk, Nn.start_mk, Nn.for_ap, Nn.forK_ap, Nn.itP_l, Nn.it_ap, Nn.itK_tup, Nn.itK_tuf, Nn.itK_fl, Nn.itK_sc, Nn.itK_fd, Nn.itK_lc, Nn.revA_ap, Nn.revAK_tup, Nn.revAK_tuf, Nn.revAK_fl, List.reverse_cons, List.reverse_nil, Nn.itO_lst, Nn.itL_l, Nn.loopP_consG, Nn.lpC_ok, Nn.turn_nx, Nn.turn_ct, Nn.turn_rt, Nn.turn_bk, Nn.lcL_consG, Nn.lcC1_ap, Nn.lcC2_T, Nn.lcC2_F, Nn.gtp_tup, Nn.gtK_ok, Nn.gcn_ap, Nn.gcJ_ap, Nn.gnl_ap, Nn.en_nil, Nn.en_cons, Nn.sl_tup, Nn.sl_fl, Nn.cut_d1, Nn.cut_d2, Nn.cut_t1, Nn.cut_t2, List.take_succ_cons, List.take_zero, List.drop_succ_cons, List.drop_zero, List.take_nil, List.drop_nil, Nn.itK_str, Nn.range1_ap, Nn.enum_ap, Nn.enK_tup, Nn.enK_tuf, Nn.enK_fl, Nn.lc_ap, Nn.lcK_ap, Nn.newLK_ap, Nn.yes_ap, Nn.blk_ap, Nn.blkK_nx, Nn.blkK_ct, Nn.blkK_bk, Nn.blkK_rt, Nn.blkO_some, Nn.cons2_some, Nn.frzE_nil, Nn.frzE_none, Nn.frzE_cons, Nn.frzS_nil, Nn.frzS_cons, Nn.app2_some, Option.map_some, List.take_succ_cons, Nn.bind_ok, Nn.bindS_ok, Nn.bindN_nx, Nn.bindN_rt, Nn.bindN_ct, Nn.bindN_bk, Nn.bind_bind, Nn.bind_bindS, Nn.bindS_bindN, Nn.bindN_bindN, Nn.bbK_ap, Nn.bsK_ap, Nn.snK_ap, Nn.nnK_ap, Nn.aug_ap, Nn.augK_ap, Nn.augI_ap, Nn.augJ_ap, Nn.bl_ap, Nn.blK_ap, Nn.blO_ap, Nn.blJ_ap, Nn.index_ap, Nn.idxK_tuf, Nn.idxK_fl, Nn.join_ap, Nn.joinK_ap, Nn.fld_ap, Nn.sfld_ap, Nn.sfK_ap, Nn.mkF_ap, Nn.part_ap, Nn.partK_ap, Nn.noPart_ap, Nn.sl_ap, Nn.slA_ap, Nn.slB_ap, Nn.slC_ap, Nn.at0, Nn.at1, Nn.at2, Nn.at3, Nn.at4, Nn.at5, Nn.at6, Nn.at7, Nn.at8, Nn.at9, Nn.oD_some, Nn.ix_tup, Nn.ix_tuf, Nn.ix_fl, Nn.ix_sc, Nn.ix_lc, Nn.ixO_lst, Nn.ixO_dic, Nn.ixO_dicI, Nn.gsb_ap, Nn.okB_ok, Nn.gsA_ap, Nn.gsC_ap, Nn.gsE_ap, Nn.set_lc, Nn.setO_lst, Nn.setJ_some, Nn.ixN_L0, Nn.ixN_L1, Nn.ixN_L2, Nn.ixN_L3, Nn.ixN_L4, Nn.ixN_L5, Nn.add_int, Nn.sub_int, Nn.neg_int, Nn.lt_int, Nn.le_int, Nn.gt_int, Nn.ge_int, Nn.eq_int, Nn.eq_str, Nn.eq_bl, Nn.is_non, Nn.is_tup, Nn.is_str, Nn.is_int, Nn.is_bl, Nn.int_int, Nn.int_bl, Nn.abs_int, Nn.len_tup, Nn.len_tuf, Nn.len_fl, Nn.len_sc, Nn.len_lc, Nn.lenQ_lst, Nn.lenQ_dic, Nn.tuple_fl, Nn.tuple_lc, Nn.tupO_lst, Nn.sl_lc, Nn.slO_lst, Nn.min2_int, Nn.lstRg_ap, Nn.tupleF_fl, Nn.isi_ap, Nn.ty_non, Nn.ty_bl, Nn.ty_int, Nn.ty_str, Nn.ty_tup, Nn.ty_tuf, Nn.ty_fl, Nn.ty_sc, Nn.ty_fd, Nn.ty_lc, Nn.tyO_lst, Nn.tyO_dic, Nn.isO_NoneType_bool, Nn.isO_NoneType_int, Nn.isO_NoneType_str, Nn.isO_NoneType_tuple, Nn.isO_NoneType_list, Nn.isO_NoneType_dict, Nn.isO_bool_bool, Nn.isO_bool_int, Nn.isO_bool_str, Nn.isO_bool_tuple, Nn.isO_bool_list, Nn.isO_bool_dict, Nn.isO_int_bool, Nn.isO_int_int, Nn.isO_int_str, Nn.isO_int_tuple, Nn.isO_int_list, Nn.isO_int_dict, Nn.isO_str_bool, Nn.isO_str_int, Nn.isO_str_str, Nn.isO_str_tuple, Nn.isO_str_list, Nn.isO_str_dict, Nn.isO_tuple_bool, Nn.isO_tuple_int, Nn.isO_tuple_str, Nn.isO_tuple_tuple, Nn.isO_tuple_list, Nn.isO_tuple_dict, Nn.isO_list_bool, Nn.isO_list_int, Nn.isO_list_str, Nn.isO_list_tuple, Nn.isO_list_list, Nn.isO_list_dict, Nn.isO_dict_bool, Nn.isO_dict_int, Nn.isO_dict_str, Nn.isO_dict_tuple, Nn.isO_dict_list, Nn.isO_dict_dict, Nn.chain_ap, Nn.chA_ap, Nn.chB_ap, Nn.chC_T, Nn.chC_F, Nn.chD_ap, Nn.trK_gen, Nn.trO_some, Nn.tru_tup, Nn.tru_fl, Nn.tru_non, Nn.tru_bl, Nn.tru_int, Nn.emp_nil, Nn.emp_cons, Nn.emp_map, Nn.all_nil, Nn.sum_nil, Nn.ix_fdM, Nn.in_fdM, Nn.lookD_cons, Nn.fldK_foG, Nn.fldC_T, Nn.cont1, Nn.fldO_gen, Nn.fldP_some, Nn.sfJ_lc, Nn.putFD_nil, Nn.putFD_cons, Nn.kd_str, Nn.in_lc, Nn.inO_strs, Nn.in_tupS, Nn.in_tufS, Nn.in_flS, Nn.ap_lc, Nn.pop_lc, Nn.popO_snoc, Nn.rev_lc, Nn.revO_lst, Nn.rem_lc, Nn.ex_lc, Nn.ins_lc, Nn.list_tup, Nn.list_tuf, Nn.list_fl, Nn.list_sc, Nn.list_lc, Nn.lsO_lst, Nn.eq_non, Nn.eq_strI, List.map_cons, List.map_nil, List.length_cons, List.length_nil, List.replicate_succ, List.replicate_zero, List.set_cons_zero, List.set_cons_succ, List.getElem?_cons_zero, List.getElem?_cons_succ, List.cons_append, List.nil_append, Nat.reduceAdd, Nat.reduceSub, Nat.zero_add, if_true, if_false, ↓reduceIte, reduceCtorEq, Bool.false_eq_true, Nn.sat_ok, Nn.of_inj, Nn.in_sign, Int.reduceLE, Int.reduceLT, Int.reduceGT, Int.reduceGE, Int.reduceEq, Int.reduceNe, Nn.cast_0, Nn.cast_1, Nn.cast_2, Nn.cast_3, Nn.cast_4, Nn.cast_5, Nn.cast_6, Nn.cast_7, Nn.cast_8, Nn.cast_9, Nn.cast_10, Nn.cast_11, Nn.cast_12, Nn.cast_13, Nn.cast_14, Nn.cast_15, Nn.cast_16, Nn.cast_17, Nn.cast_18, Nn.cast_19, Nn.cast_20, Nn.cast_21, Nn.cast_22, Nn.cast_23, Nn.cast_24, Nn.cast_25, Nn.cast_26, Nn.cast_27, Nn.cast_28, Nn.cast_29, Nn.cast_30, Nn.cast_31, Nn.cast_32, Nn.cast_33, Nn.cast_34, Nn.cast_35, Nn.cast_36, Nn.cast_37, Nn.cast_38, Nn.cast_39, Nn.cast_40, Int.reduceAdd, Int.reduceSub, not_true_eq_false, not_false_eq_true, String.reduceEq, String.reduceNe, eq_self, decide_true, decide_false, Nn.ng, Nn.nd_dec, Nn.pow_18, Nn.pow_20, List.length_map, Bool.not_true, Bool.not_false])
local macro_rules | `(tactic| wtm_at "evo") => `(tactic| simp -implicitDefEqProofs (disch := first | assumption | omega | (refine Nn.okR_small ?_; omega) | (simp only [List.length_cons, List.length_nil, List.length_map, List.length_append]; omega) | (simp only [vl_lows, od_lows, eds_low, Vl.low, Od.low, Hd.low, Ed.low, bagO_low, Nn.lows_nil, Nn.lows_cons, Nn.low_non, Nn.low_bl, Nn.low_int, Nn.low_str, Nn.low_ty, Nn.low_tup, Nn.low_tuf, Nn.low_fl, Nn.low_sc, Nn.low_fd, Nn.low_fo, Nn.lows_str, Nn.lows_int, Nn.lows_app, Nn.lowO_strs, Nn.lowO_ints, Nn.lowO_l, Nn.lowO_d, Nn.lowO_i, Bool.and_true, Bool.and_self, Bool.true_and, List.all_cons, List.all_nil, List.map_cons, List.map_nil]; done) | decide) only [od_v, callP_ap, is_fl, Nn.try_ap, Nn.tryK_nx, Nn.xf_at, Nn.xis_at, Nn.out_nx, Nn.out_rt, Nn.bind_ex, Nn.bindS_ex, Nn.bindN_ex, Nn.put_x1, Nn.put_x2, Nn.mul_int, Nn.mod_int, Nn.div_int, Nn.lstK_ap, Nn.rgLK_ap, Nn.blkE_ap, Nn.frz_low, Nn.frz_lt, Nn.frzO_low, Nn.lcC3_ap, Nn.apO_lst, Nn.len_str, Nn.sfO_ins1, Nn.exO_lst, Nn.tupK_ap, Nn.rg1K_ap, Nn.okR_small, Nn.seq_ap, Nn.next_ap, Nn.brk_ap, Nn.cnt_ap, Nn.var_ap, Nn.varK_ok, Nn.c_ap, Nn.m2_ap, Nn.m2K_ap, Nn.m2J_ap, Nn.m1_ap, Nn.mB_ap, Nn.mBK_ap, Nn.and_ap, Nn.or_ap, Nn.not_ap, Nn.andK_T, Nn.andK_F, Nn.orK_T, Nn.orK_F, Nn.notK_ap, Nn.andV_ap, Nn.orV_ap, Nn.notV_ap, Nn.ifE_ap, Nn.andVK_T, Nn.andVK_F, Nn.orVK_T, Nn.orVK_F, Nn.notVK_ap, Nn.ifEK_T, Nn.ifEK_F, Nn.nil_ap, Nn.cons_ap, Nn.consK_ap, Nn.consJ_ap, Nn.star_ap, Nn.starJ_ap, Nn.starK_tup, Nn.starK_tuf, Nn.starK_fl, Nn.starK_lc, Nn.starO_lst, Nn.lcL_nil, Nn.loopP_nil, List.append_nil,  Nn.tup_ap, Nn.lst_ap, Nn.newL_T, Nn.newL_F, Nn.newD_T, Nn.newD_F, Nn.dnew_ap, Nn.cb_ap, Nn.call_ap, Nn.callD_ap, Nn.callDD, Nn.dyn_nil, Nn.dyn_F, Nn.dyn_loc, Nn.dyn_fd, Nn.dyn_fl, Nn.dyn_tup, Nn.dyn_non, Nn.disp_ap, Nn.prs_nil, Nn.prs_cons, Nn.prA_ap, Nn.prB_ap, Nn.prC_str, Nn.prC_int, Nn.dispK_1, Nn.tr_ap, Nn.trK_bl, Nn.asg_ap, Nn.asgK_ap, Nn.asgJ_ok, Nn.gnm_ap, Nn.gkl_ap, Nn.ret_ap, Nn.retK_ap, Nn.retN_ap, Nn.drop_ap, Nn.dropK_ap, Nn.if_ap, Nn.ifK_T, Nn.ifK_F, Nn.kl_ap, Nn.klK_ap, Nn.wipe_nil, Nn.wipe_cons, Nn.put_mk, Nn.start_mk, Nn.for_ap, Nn.forK_ap, Nn.itP_l, Nn.it_ap, Nn.itK_tup, Nn.itK_tuf, Nn.itK_fl, Nn.itK_sc, Nn.itK_fd, Nn.itK_lc, Nn.revA_ap, Nn.revAK_tup, Nn.revAK_tuf, Nn.revAK_fl, List.reverse_cons, List.reverse_nil, Nn.itO_lst, Nn.itL_l, Nn.loopP_consG, Nn.lpC_ok, Nn.turn_nx, Nn.turn_ct, Nn.turn_rt, Nn.turn_bk, Nn.lcL_consG, Nn.lcC1_ap, Nn.lcC2_T, Nn.lcC2_F, Nn.gtp_tup, Nn.gtK_ok, Nn.gcn_ap, Nn.gcJ_ap, Nn.gnl_ap, Nn.en_nil, Nn.en_cons, Nn.sl_tup, Nn.sl_fl, Nn.cut_d1, Nn.cut_d2, Nn.cut_t1, Nn.cut_t2, List.take_succ_cons, List.take_zero, List.drop_succ_cons, List.drop_zero, List.take_nil, List.drop_nil, Nn.itK_str, Nn.range1_ap, Nn.enum_ap, Nn.enK_tup, Nn.enK_tuf, Nn.enK_fl, Nn.lc_ap, Nn.lcK_ap, Nn.newLK_ap, Nn.yes_ap, Nn.blk_ap, Nn.blkK_nx, Nn.blkK_ct, Nn.blkK_bk, Nn.blkK_rt, Nn.blkO_some, Nn.cons2_some, Nn.frzE_nil, Nn.frzE_none, Nn.frzE_cons, Nn.frzS_nil, Nn.frzS_cons, Nn.app2_some, Option.map_some, List.take_succ_cons, Nn.bind_ok, Nn.bindS_ok, Nn.bindN_nx, Nn.bindN_rt, Nn.bindN_ct, Nn.bindN_bk, Nn.bind_bind, Nn.bind_bindS, Nn.bindS_bindN, Nn.bindN_bindN, Nn.bbK_ap, Nn.bsK_ap, Nn.snK_ap, Nn.nnK_ap, Nn.aug_ap, Nn.augK_ap, Nn.augI_ap, Nn.augJ_ap, Nn.bl_ap, Nn.blK_ap, Nn.blO_ap, Nn.blJ_ap, Nn.index_ap, Nn.idxK_tuf, Nn.idxK_fl, Nn.join_ap, Nn.joinK_ap, Nn.fld_ap, Nn.sfld_ap, Nn.sfK_ap, Nn.mkF_ap, Nn.part_ap, Nn.partK_ap, Nn.noPart_ap, Nn.sl_ap, Nn.slA_ap, Nn.slB_ap, Nn.slC_ap, Nn.at0, Nn.at1, Nn.at2, Nn.at3, Nn.at4, Nn.at5, Nn.at6, Nn.at7, Nn.at8, Nn.at9, Nn.oD_some, Nn.ix_tup, Nn.ix_tuf, Nn.ix_fl, Nn.ix_sc, Nn.ix_lc, Nn.ixO_lst, Nn.ixO_dic, Nn.ixO_dicI, Nn.gsb_ap, Nn.okB_ok, Nn.gsA_ap, Nn.gsC_ap, Nn.gsE_ap, Nn.set_lc, Nn.setO_lst, Nn.setJ_some, Nn.ixN_L0, Nn.ixN_L1, Nn.ixN_L2, Nn.ixN_L3, Nn.ixN_L4, Nn.ixN_L5, Nn.add_int, Nn.sub_int, Nn.neg_int, Nn.lt_int, Nn.le_int, Nn.gt_int, Nn.ge_int, Nn.eq_int, Nn.eq_str, Nn.eq_bl, Nn.is_non, Nn.is_tup, Nn.is_str, Nn.is_int, Nn.is_bl, Nn.int_int, Nn.int_bl, Nn.abs_int, Nn.len_tup, Nn.len_tuf, Nn.len_fl, Nn.len_sc, Nn.len_lc, Nn.lenQ_lst, Nn.lenQ_dic, Nn.tuple_fl, Nn.tuple_lc, Nn.tupO_lst, Nn.sl_lc, Nn.slO_lst, Nn.min2_int, Nn.lstRg_ap, Nn.tupleF_fl, Nn.isi_ap, Nn.ty_non, Nn.ty_bl, Nn.ty_int, Nn.ty_str, Nn.ty_tup, Nn.ty_tuf, Nn.ty_fl, Nn.ty_sc, Nn.ty_fd, Nn.ty_lc, Nn.tyO_lst, Nn.tyO_dic, Nn.isO_NoneType_bool, Nn.isO_NoneType_int, Nn.isO_NoneType_str, Nn.isO_NoneType_tuple, Nn.isO_NoneType_list, Nn.isO_NoneType_dict, Nn.isO_bool_bool, Nn.isO_bool_int, Nn.isO_bool_str, Nn.isO_bool_tuple, Nn.isO_bool_list, Nn.isO_bool_dict, Nn.isO_int_bool, Nn.isO_int_int, Nn.isO_int_str, Nn.isO_int_tuple, Nn.isO_int_list, Nn.isO_int_dict, Nn.isO_str_bool, Nn.isO_str_int, Nn.isO_str_str, Nn.isO_str_tuple, Nn.isO_str_list, Nn.isO_str_dict, Nn.isO_tuple_bool, Nn.isO_tuple_int, Nn.isO_tuple_str, Nn.isO_tuple_tuple, Nn.isO_tuple_list, Nn.isO_tuple_dict, Nn.isO_list_bool, Nn.isO_list_int, Nn.isO_list_str, Nn.isO_list_tuple, Nn.isO_list_list, Nn.isO_list_dict, Nn.isO_dict_bool, Nn.isO_dict_int, Nn.isO_dict_str, Nn.isO_dict_tuple, Nn.isO_dict_list, Nn.isO_dict_dict, Nn.chain_ap, Nn.chA_ap, Nn.chB_ap, Nn.chC_T, Nn.chC_F, Nn.chD_ap, Nn.trK_gen, Nn.trO_some, Nn.tru_tup, Nn.tru_fl, Nn.tru_non, Nn.tru_bl, Nn.tru_int, Nn.emp_nil, Nn.emp_cons, Nn.emp_map, Nn.all_nil, Nn.sum_nil, Nn.ix_fdM, Nn.in_fdM, Nn.lookD_cons, Nn.fldK_foG, Nn.fldC_T, Nn.cont1, Nn.fldO_gen, Nn.fldP_some, Nn.sfJ_lc, Nn.putFD_nil, Nn.putFD_cons, Nn.kd_str, Nn.in_lc, Nn.inO_strs, Nn.in_tupS, Nn.in_tufS, Nn.in_flS, Nn.ap_lc, Nn.pop_lc, Nn.popO_snoc, Nn.rev_lc, Nn.revO_lst, Nn.rem_lc, Nn.ex_lc, Nn.ins_lc, Nn.list_tup, Nn.list_tuf, Nn.list_fl, Nn.list_sc, Nn.list_lc, Nn.lsO_lst, Nn.eq_non, Nn.eq_strI, List.map_cons, List.map_nil, List.length_cons, List.length_nil, List.replicate_succ, List.replicate_zero, List.set_cons_zero, List.set_cons_succ, List.getElem?_cons_zero, List.getElem?_cons_succ, List.cons_append, List.nil_append, Nat.reduceAdd, Nat.reduceSub, Nat.zero_add, if_true, if_false, ↓reduceIte, reduceCtorEq, Bool.false_eq_true, Nn.sat_ok, Nn.of_inj, Nn.in_sign, Int.reduceLE, Int.reduceLT, Int.reduceGT, Int.reduceGE, Int.reduceEq, Int.reduceNe, Nn.cast_0, Nn.cast_1, Nn.cast_2, Nn.cast_3, Nn.cast_4, Nn.cast_5, Nn.cast_6, Nn.cast_7, Nn.cast_8, Nn.cast_9, Nn.cast_10, Nn.cast_11, Nn.cast_12, Nn.cast_13, Nn.cast_14, Nn.cast_15, Nn.cast_16, Nn.cast_17, Nn.cast_18, Nn.cast_19, Nn.cast_20, Nn.cast_21, Nn.cast_22, Nn.cast_23, Nn.cast_24, Nn.cast_25, Nn.cast_26, Nn.cast_27, Nn.cast_28, Nn.cast_29, Nn.cast_30, Nn.cast_31, Nn.cast_32, Nn.cast_33, Nn.cast_34, Nn.cast_35, Nn.cast_36, Nn.cast_37, Nn.cast_38, Nn.cast_39, Nn.cast_40, Int.reduceAdd, Int.reduceSub, not_true_eq_false, not_false_eq_true, String.reduceEq, String.reduceNe, eq_self, decide_true, decide_false, Nn.ng, Nn.nd_dec, Nn.pow_18, Nn.pow_20, List.length_map, Bool.not_true, Bool.not_false])
local macro_rules | `(tactic| wtm_at "br") => `(tactic| first | refine go_ifDN ?_ ?_ | refine go_ifD ?_ ?_ | refine go_bindS (sat_andD ?_ ?_) | refine go_bindS (sat_orD ?_ ?_) | refine go_bindS (sat_andVD ?_ ?_) | refine go_bindS (sat_orVD ?_ ?_) | refine go_bindS (sat_ifD ?_ ?_) | refine sat_bind (sat_andD ?_ ?_) | refine sat_bind (sat_orD ?_ ?_) | refine sat_bind (sat_andVD ?_ ?_) | refine sat_bind (sat_orVD ?_ ?_) | refine sat_bind (sat_ifD ?_ ?_) | refine go_ifN ?_ ?_ | refine go_if ?_ ?_ | refine go_bindS (sat_andB ?_ ?_) | refine go_bindS (sat_orB ?_ ?_) | refine go_bindS (sat_andVB ?_ ?_) | refine go_bindS (sat_orVB ?_ ?_) | refine go_bindS (sat_ifB ?_ ?_) | refine go_bindS (sat_chDec ?_ ?_) | refine sat_bind (sat_chDec ?_ ?_) | refine sat_chDec ?_ ?_ | refine sat_andD ?_ ?_ | refine sat_orD ?_ ?_ | refine sat_andVD ?_ ?_ | refine sat_orVD ?_ ?_ | refine sat_ifD ?_ ?_ | refine sat_andB ?_ ?_ | refine sat_orB ?_ ?_ | refine sat_andVB ?_ ?_ | refine sat_orVB ?_ ?_ | refine sat_ifB ?_ ?_ | fail)
local macro_rules | `(tactic| wtm_at "dr0") => `(tactic| ((first | refine go_bindS (draw_call (by rfl) (by assumption) (by omega) (by omega) (by omega) ?_) | refine sat_bind (draw_call (by rfl) (by assumption) (by omega) (by omega) (by omega) ?_) | refine draw_call (by rfl) (by assumption) (by omega) (by omega) (by omega) ?_ | fail); intro _ _ _ _ _ _ _; simp only [List.set_cons_zero, List.set_cons_succ]; try wtm_at "evo"))
local macro_rules | `(tactic| wtm_at "wd") => `(tactic| ((with_reducible first | refine word_bindS ?_ ?_ ?_ | refine word_bind ?_ ?_ ?_ | refine word_sat ?_ ?_ ?_ | fail); (focus omega); (focus omega); intro _ _; try wtm_at "evo"))
local macro_rules | `(tactic| wtm_at "dr") => `(tactic| first | wtm_at "dr0" | wtm_at "wd" | fail)
local macro_rules | `(tactic| wtm_at "brs") => `(tactic| (wtm_at "br" <;> (intro _; try wtm_at "evo")))
local macro_rules | `(tactic| wtm_at "all") => `(tactic| ((try wtm_at "evo"); repeat' (first | wtm_at "dr" | wtm_at "brs")))
local macro_rules | `(tactic| wtm_at "drs") => `(tactic| ((try wtm_at "evo"); repeat' wtm_at "dr"))
local macro_rules | `(tactic| wtm_at "low") => `(tactic| first | rfl | (simp only [vl_lows, od_lows, eds_low, Vl.low, Od.low, Hd.low, Ed.low, bagO_low, Nn.lows_nil, Nn.lows_cons, Nn.low_non, Nn.low_bl, Nn.low_int, Nn.low_str, Nn.low_ty, Nn.low_tup, Nn.low_tuf, Nn.low_fl, Nn.low_sc, Nn.low_fd, Nn.low_fo, Nn.lows_str, Nn.lows_int, Nn.lows_app, Nn.lowO_strs, Nn.lowO_ints, Nn.lowO_l, Nn.lowO_d, Nn.lowO_i, Bool.and_true, Bool.and_self, Bool.true_and, List.all_cons, List.all_nil, List.map_cons, List.map_nil, poolO_low, List.take_succ_cons, List.take_zero]; done) | fail)

def e0 (o : D) : Ev := ⟨[none, some (.loc 0), none, some o, none, none, none, none, none, none, none, none, none, none, none, none, none, none], none⟩
theorem law_true (ns : List Int) (hl : ns.length ≤ 63) : mLaw [.sc (ns.map .int)] [] = .ok (.bl true) [] := by
  have p0 : (Bag.mk ns 0 0 0).ok := ⟨by show (0 : Int) ≤ 0; omega, by show (0 : Int) ≤ 0; omega, by show (0 : Int) ≤ 0; omega⟩
  refine eq_of_sat (def_sat ?_)
  unfold mbLaw
  wtm_at "evo"
  rw [show O.lst [.fl (ns.map .int), .int 0, .int 0, .int 0] = bagO (Bag.mk ns 0 0 0) from rfl]
  generalize hP : Bag.mk ns 0 0 0 = P at p0
  have n0 : P.n = 0 := by rw [← hP]
  refine go_join (fun e s => ∃ (old : List Vl) (p : Bag), Old old ∧ p.ok ∧ p.n ≤ 2000 ∧ e = e0 (.fl (vD old)) ∧ s = [bagO p]) ?_ ?_
  · refine go_blk ?_
    refine go_bindS (rows_call p0 (by omega) fun a b p1 ra la ok1 lo1 hi1 => ?_)
    wtm_at "evo"
    have oa : Old a := ⟨ra.nd, ra.ok, by omega⟩
    have fin1 : ∀ (old : List Vl) (p : Bag), Old old → p.ok → p.n ≤ 2000 → (Rt.nx (e0 (.loc 1)) [bagO p, .lst (vD old), .lst (vD b)]).go fun r => (blkK 1 r).go (NxP (fun e s => ∃ (old : List Vl) (p : Bag), Old old ∧ p.ok ∧ p.n ≤ 2000 ∧ e = e0 (.fl (vD old)) ∧ s = [bagO p]) fun r => R.sat (fun d t => d = D.bl true ∧ t = []) (fin false 0 r)) := by
      intro old p h1 h2 h3
      refine go_blkN ?_
      unfold e0
      wtm_at "evo"
      rw [frz_lst (by decide) rfl (vl_lows _)]
      wtm_at "evo"
      exact ⟨old, p, h1, h2, h3, rfl, rfl⟩
    wtm_at "drs"
    rename_i d2 p2 z0 z1 ok2 lo2 hi2
    wtm_at "all"
    · rw [c_placeL (by omega) rfl]
      wtm_at "all"
      · rename_i hneg
        rw [add1]
        exact fin1 _ p2 (oa.one la (placeI_neg hneg)) ok2 (by omega)
      · exact fin1 _ p2 oa ok2 (by omega)
    · exact fin1 _ p2 oa ok2 (by omega)
  rintro e s ⟨old, p2, ho, ok2, hi2, rfl, rfl⟩
  have hok := ho.ok
  have hlen := ho.len
  unfold e0
  wtm_at "evo"
  refine go_join (fun e s => ∃ (es : List Ed) (row due : D) (p : Bag) (oth sh : Int), (∀ e ∈ es, e.ok) ∧ es.length ≤ 12 ∧ Bk old es row due ∧ p.ok ∧ p.n ≤ 3000 ∧ e = ⟨[none, some (.loc 0), none, some (.fl (vD old)), some (.int oth), some (.int sh), some (.fl (es.map Ed.d)), some row, some due, none, none, none, none, none, none, none, none, none], none⟩ ∧ s = [bagO p]) ?_ ?_
  · refine go_blk ?_
    wtm_at "drs"
    rename_i oth q1 z0 z1 ok3 lo3 hi3 sh q2 z2 z3 ok4 lo4 hi4 dm q3 z4 z5 ok5 lo5 hi5
    obtain ⟨m, rfl⟩ : ∃ m : Nat, dm = (m : Int) := ⟨dm.toNat, by omega⟩
    rw [show ((m : Int)).toNat = m by omega]
    refine go_loop (I := fun r e s => ∃ (k : Nat) (es : List Ed) (row due : D) (p : Bag) (x9 x10 x11 : Option D), k + r.length = m ∧ r = (rgD 0 m).drop k ∧ (∀ e ∈ es, e.ok) ∧ es.length = k ∧ Bk old es row due ∧ p.ok ∧ p.n ≤ 2010 + 30 * k ∧ e = ⟨[none, some (.loc 0), none, some (.fl (vD old)), some (.int oth), some (.int sh), some (.loc 1), some row, some due, x9, x10, x11, none, none, none, none, none, none], none⟩ ∧ s = [bagO p, .lst (es.map Ed.d)]) ⟨0, [], _, _, q3, _, _, _, by simp [rgD], rfl, (fun e h => absurd h List.not_mem_nil), rfl, .zero ho, ok5, by omega, rfl, rfl⟩ ?_ ?_
    · rintro d r e s ⟨k, es, row, due, p, x9, x10, x11, hk, hd, hes, hel, bk, okp, hip, rfl, rfl⟩
      obtain ⟨rfl, hr, hkm⟩ := rg_at hd
      rw [List.length_cons] at hk
      have hes' : ∀ {e : Ed}, e.ok → ∀ f ∈ es ++ [e], f.ok := fun he f hf => by
        rcases List.mem_append.mp hf with hf | hf
        · exact hes f hf
        · rw [List.mem_singleton.mp hf]
          exact he
      rcases bk.h with ⟨l, h1, rfl, rfl, h4, h5, h6⟩ | ⟨j, h1, rfl, rfl⟩
      · wtm_at "evo"
        refine go_bindS (edit_call rfl okp (by omega) h6 (by omega) fun e p' he ok' lo' hi' => ?_)
        wtm_at "evo"
        rw [addE, c_done (by omega) he.short]
        rcases Bk.step ho h1 h4 h5 h6 he with ⟨e1, bk'⟩ | ⟨l', e1, bk'⟩
        · rw [e1, resD]
          wtm_at "evo"
          exact ⟨k + 1, es ++ [e], _, _, p', _, _, _, by omega, hr, hes' he, by rw [List.length_append, List.length_singleton, hel], by rw [hel] at bk'; exact bk', ok', by omega, rfl, rfl⟩
        · rw [e1, resD]
          wtm_at "evo"
          exact ⟨k + 1, es ++ [e], _, _, p', _, _, _, by omega, hr, hes' he, by rw [List.length_append, List.length_singleton, hel], bk', ok', by omega, rfl, rfl⟩
      · wtm_at "evo"
        refine go_bindS (edit_call rfl okp (by omega) hok (by omega) fun e p' he ok' lo' hi' => ?_)
        wtm_at "evo"
        rw [addE]
        exact ⟨k + 1, es ++ [e], _, _, p', _, _, _, by omega, hr, hes' he, by rw [List.length_append, List.length_singleton, hel], .due ho h1, ok', by omega, rfl, rfl⟩
    · rintro e s ⟨k, es, row, due, p, x9, x10, x11, hk, hd, hes, hel, bk, okp, hip, rfl, rfl⟩
      have hk : k ≤ m := by rw [← hk]; omega
      have lr := bk.lowR
      have ld := bk.lowD
      wtm_at "evo"
      refine go_blkN ?_
      wtm_at "evo"
      rw [frz_lst (by decide) rfl (eds_low _)]
      wtm_at "evo"
      exact ⟨es, row, due, p, _, _, hes, by omega, bk, okp, by omega, rfl, rfl⟩
  rintro e s ⟨es, row, due, p3, oth, sh, hes, hel, bk, ok3, hi3, rfl, rfl⟩
  have lr := bk.lowR
  have ld := bk.lowD
  have jf : Jn old (.fl (es.map Ed.d)) row due := .of ho hel bk (by rw [Nn.low_fl, eds_low]) (edited_l (by omega) ho.nd (fun e he => (hes e he).short) (by omega))
  have jt : Jn old (.tup (es.map Ed.d)) row due := .of ho hel bk (by rw [Nn.low_tup, eds_low]) (edited_t (by omega) ho.nd (fun e he => (hes e he).short) (by omega))
  wtm_at "evo"
  refine go_join (fun e s => ∃ pd, Nn.low pd = true ∧ Jn old pd row due ∧ e = ⟨[none, some (.loc 0), none, some (.fl (vD old)), some (.int oth), some (.int sh), some (.fl (es.map Ed.d)), some row, some due, none, none, none, some pd, none, none, none, none, none], none⟩ ∧ s = [bagO p3]) ?_ ?_
  · wtm_at "all"
    · exact ⟨_, by rw [Nn.low_tup, eds_low], jt, rfl, rfl⟩
    · exact ⟨_, by rw [Nn.low_fl, eds_low], jf, rfl, rfl⟩
  rintro e s ⟨pd, lp, jn, rfl, rfl⟩
  wtm_at "evo"
  refine go_join (fun e s => ∃ (pd due' : D) (p : Bag) (x1 x4 : Option D), Nn.low pd = true ∧ Nn.low due' = true ∧ Jn old pd row due' ∧ e = ⟨[none, x1, none, some (.fl (vD old)), x4, none, some (.fl (es.map Ed.d)), some row, some due', none, none, none, some pd, none, none, none, none, none], none⟩ ∧ s = [bagO p]) ?_ ?_
  · wtm_at "all"
    · rename_i d4 p4 z0 z1 ok4 lo4 hi4
      have fin : ∀ (o : Ot) (p : Bag) (x1 x4 : Option D), ∃ (pd due' : D) (p' : Bag) (x1' x4' : Option D), Nn.low pd = true ∧ Nn.low due' = true ∧ Jn old pd row due' ∧ (⟨[none, x1, none, some (.fl (vD old)), x4, none, some (.fl (es.map Ed.d)), some row, some (.int (-1)), none, none, none, some o.d', none, none, none, none, none], none⟩ : Ev) = ⟨[none, x1', none, some (.fl (vD old)), x4', none, some (.fl (es.map Ed.d)), some row, some due', none, none, none, some pd, none, none, none, none, none], none⟩ ∧ [bagO p] = [bagO p'] :=
        fun o p x1 x4 => ⟨_, _, p, _, _, o.low, rfl, .oth, rfl, rfl⟩
      have dd : d4 = 0 ∨ d4 = 1 ∨ d4 = 2 ∨ d4 = 3 ∨ d4 = 4 := by omega
      rcases dd with rfl | rfl | rfl | rfl | rfl <;> wtm_at "evo"
      · exact fin .n _ _ _
      · exact fin .s _ _ _
      · exact fin .d _ _ _
      · exact fin .i _ _ _
      · exact fin .b _ _ _
    · exact ⟨pd, due, p3, _, _, lp, ld, jn, rfl, rfl⟩
  rintro e s ⟨pd, due', p, x1, x4, lp, ld', jn, rfl, rfl⟩
  have rp : ∀ st, fRepr [.fl (es.map Ed.d)] st = .ok (.str (repE es)) st := fun st => repr_eds hes (by omega)
  have eo : ∀ st, fEqA true (.fl (vD old)) (.fl (vD old)) st = .ok (.bl false) st := fun st => by
    rw [eq_ll hok hok, decide_eq_true rfl]
    rfl
  wtm_at "evo"
  rw [rp]
  wtm_at "evo"
  refine go_loop (I := fun r e s => ∃ (x15 x16 x17 : Option D), (∀ d ∈ r, Nn.low d = true) ∧ e = ⟨[none, none, none, some (.fl (vD old)), none, none, some (.fl (es.map Ed.d)), some row, some due', none, none, none, some pd, some (.fl (vD old)), some (.str (repE es)), x15, x16, x17], none⟩ ∧ s = [bagO p]) ⟨_, _, _, (fun d hd => by obtain ⟨k, _, rfl⟩ := List.mem_map.mp hd; rfl), rfl, rfl⟩ ?_ ?_
  · rintro d r e s ⟨x15, x16, x17, hr, rfl, rfl⟩
    have dl := hr d List.mem_cons_self
    have hr' : ∀ d ∈ r, Nn.low d = true := fun d h => hr d (List.mem_cons_of_mem _ h)
    wtm_at "evo"
    rcases jn with ⟨l, ok, len, rfl, rfl, h⟩ | ⟨j, rfl, h⟩
    · rw [h]
      have el : fEqA true (.loc 1) (.fl (vD l)) [bagO p, .lst (vD l)] = .ok (.bl false) [bagO p, .lst (vD l)] := by
        rw [eq_ld ok ok rfl, decide_eq_true rfl]
        rfl
      wtm_at "evo"
      rw [el]
      wtm_at "evo"
      rw [eo]
      wtm_at "evo"
      rw [rp]
      wtm_at "evo"
      exact ⟨_, _, _, hr', rfl, rfl⟩
    · rw [h]
      wtm_at "evo"
      rw [Nn.tryK_ex (by simp)]
      wtm_at "evo"
      rw [eo]
      wtm_at "evo"
      rw [rp]
      wtm_at "evo"
      exact ⟨_, _, _, hr', rfl, rfl⟩
  · rintro e s ⟨x15, x16, x17, hr, rfl, rfl⟩
    wtm_at "evo"
    exact go_endN rfl (by simp) rfl ⟨rfl, rfl⟩

end Ke
namespace Ke
open PySem PySem.Spec PyProof.Rows L2 Lb Nn
theorem all_mk {l : PySem.W.OpenLaw} {w : World} {K : PySem.W.Frag} {h : Heap} {mg : Str → Option Value} {fa : Addr} (X : K.In h) (G : h.Ns mainGlobals mg) (hfa : mg "law" = some (.ref fa))
    {CBadDeeds : Addr}
    {CBadEdit : Addr}
    {CDrawnError : Addr}
    {CInvalidNumber : Addr}
    {FIBadEdit CDBadEdit CCBadEdit NBadEdit : Addr} {nmBadEdit qBadEdit fiBadEdit : Str} {bsBadEdit bmBadEdit suBadEdit : List Value} {snBadEdit : List Str} {abBadEdit : Bool} {coBadEdit : Option Bool} {ddBadEdit odBadEdite anBadEdite cddBadEdit cldBadEdit : Option Addr} {k0BadEdit k1BadEdit k2BadEdit k3BadEdit k5BadEdit : Option Value} {ocBadEdite kVBadEdite docBadEdit pmBadEdite ctBadEdite cclBadEdit clBadEdite : Value} {oslBadEdit ccsBadEdit cslBadEdit : Array (Option Value)} {vsBadEdit : Array Value} {tfBadEdit : Tok} {cdtBadEdit : ClassData}
    {f0 f1 f2 f3 f4 f5 f6 f7 f8 f9 f10 f11 f12 f13 f14 f15  : Addr} {od0 an0 od1 an1 od2 an2 od3 an3 od4 an4 od5 an5 od6 an6 od7 an7 od8 an8 od9 an9 od10 an10 od11 an11 od12 an12 od13 an13 od14 an14 od15 an15 : Option Addr} {sl0 sl1 sl2 sl3 sl4 sl5 sl6 sl7 sl8 sl9 sl10 sl11 sl12 sl13 sl14 sl15 : Array (Option Value)} {oc0 kV0 dc0 pm0 cd0 ct0 oc1 kV1 dc1 pm1 cd1 ct1 oc2 kV2 dc2 pm2 cd2 ct2 oc3 kV3 dc3 pm3 cd3 ct3 oc4 kV4 dc4 pm4 cd4 ct4 oc5 kV5 dc5 pm5 cd5 ct5 oc6 kV6 dc6 pm6 cd6 ct6 oc7 kV7 dc7 pm7 cd7 ct7 oc8 kV8 dc8 pm8 cd8 ct8 oc9 kV9 dc9 pm9 cd9 ct9 oc10 kV10 dc10 pm10 cd10 ct10 oc11 kV11 dc11 pm11 cd11 ct11 oc12 kV12 dc12 pm12 cd12 ct12 oc13 kV13 dc13 pm13 cd13 ct13 oc14 kV14 dc14 pm14 cd14 ct14 oc15 kV15 dc15 pm15 cd15 ct15 : Value}
    (aBadDeeds : PySem.W.nsIn K mainGlobals "BadDeeds" = some (some (.ref CBadDeeds)))
    (aBadEdit : PySem.W.nsIn K mainGlobals "BadEdit" = some (some (.ref CBadEdit)))
    (aDrawnError : PySem.W.nsIn K mainGlobals "DrawnError" = some (some (.ref CDrawnError)))
    (aInvalidNumber : PySem.W.nsIn K mainGlobals "InvalidNumber" = some (some (.ref CInvalidNumber)))
    (e1BadEdit : K.lookup CBadEdit = some (excClassObj nmBadEdit qBadEdit CBadEdit NBadEdit bsBadEdit bmBadEdit true snBadEdit suBadEdit abBadEdit coBadEdit ddBadEdit k0BadEdit k1BadEdit k2BadEdit k3BadEdit k5BadEdit "ValueError.__new__"))
    (e2BadEdit : PySem.HandSPX.refsVE bmBadEdit = true)
    (e3BadEdit : PySem.W.findIn K (.ref CBadEdit) "__setattr__" = some (some (.builtin "object.__setattr__")))
    (e4BadEdit : PySem.W.subIn K (.ref CBadEdit) (.type "BaseException") = some true)
    (e5BadEdit : PySem.W.typeIn K (.ref CBadEdit) = some (.type "type"))
    (e6BadEdit : PySem.W.keepIn K (.ref CBadEdit) = true)
    (e7BadEdit : PySem.W.mroIn K CBadEdit (.ref CBadEdit) = some true)
    (e8BadEdit : PySem.W.ks_superIn K CBadEdit CBadEdit "__init__" = some (some (.builtin "ValueError.__init__")))
    (e9BadEdit : PySem.W.subIn K (.ref CBadEdit) (.type "ValueError") = some true)
    (eaBadEdit : PySem.W.findIn K (.ref CBadEdit) "index" = some none)
    (ebBadEdit : PySem.W.findIn K (.ref CBadEdit) "__getattribute__" = some (some (.builtin "BaseException.__getattribute__")))
    (ecBadEdit : PySem.W.findIn K (.ref CBadEdit) "__getattr__" = some none)
    (edBadEdit : PySem.W.hasDictIn K CBadEdit = true)
    (eeBadEdit : PySem.W.findIn K (.ref CBadEdit) "__class__" = some (some (.builtin "object.__class__")))
    (efBadEdit : PySem.W.specialIn K (.builtin "object.__class__") "__get__" = some (some (.builtin "getset_descriptor.__get__")))
    (egBadEdit : PySem.W.takesIn K (.builtin "object.__class__") = some true)
    (ehBadEdit : PySem.W.mroIn K CBadEdit (.type "object") = some true)
    (eiBadEdit : PySem.W.findIn K (.ref CBadEdit) "__init__" = some (some (.ref FIBadEdit)))
    (ejBadEdit : PySem.W.typeIn K (.ref FIBadEdit) = some (.type "function"))
    (ekBadEdit : K.lookup FIBadEdit = some ⟨ocBadEdite, odBadEdite, .func (PySem.W.fnX "__init__" "BadEdit.__init__" (defArgs (inClass (topS 4) 0)) (defBody (inClass (topS 4) 0)) (defScope (inClass (topS 4) 0)) [("__class__", CCBadEdit)] .none kVBadEdite docBadEdit pmBadEdite anBadEdite (.ref CDBadEdit) ctBadEdite), oslBadEdit⟩)
    (elBadEdit : PySem.W.codeIn K (.ref CDBadEdit) "BadEdit.__init__" = true)
    (emBadEdit : K.lookup CDBadEdit = some ⟨cclBadEdit, cddBadEdit, .fields vsBadEdit, ccsBadEdit⟩)
    (enBadEdit : vsBadEdit[2]? = some (.str fiBadEdit tfBadEdit))
    (eoBadEdit : ((l.prog.main.file : Str) == fiBadEdit) = true)
    (epBadEdit : (l.prog.main.scope.names.lookup ("super" : Str)).isSome = false)
    (eqBadEdit : K.lookup CCBadEdit = some ⟨clBadEdite, cldBadEdit, .cell (some (.ref CBadEdit)), cslBadEdit⟩)
    (erBadEdit : PySem.W.clsIn K CBadEdit = some cdtBadEdit)
    (esBadEdit : PySem.W.nsIn K mainGlobals "super" = some none)
    (etBadEdit : PySem.W.nsIn K PySem.cStatics "thirdparty.any" = some none)
    (kit_BadEdit_BadDeeds : PySem.W.kitOne K (.ref CBadEdit) (.ref CBadDeeds) = some false)
    (kit_BadEdit_DrawnError : PySem.W.kitOne K (.ref CBadEdit) (.ref CDrawnError) = some true)
    (kit_BadEdit_InvalidNumber : PySem.W.kitOne K (.ref CBadEdit) (.ref CInvalidNumber) = some false)
    (xa_BadEdit_BadEdit : PySem.W.subIn K (.ref CBadEdit) (.type "BaseException") = some true)
    (xb_BadEdit_BadEdit : PySem.W.hasDictIn K CBadEdit = true)
    (xc_BadEdit_BadEdit : PySem.W.typeIn K (.ref CBadEdit) = some (.type "type"))
    (xd_BadEdit_BadEdit : PySem.W.subIn K (.ref CBadEdit) (.ref CBadEdit) = some true)
    (a0 : PySem.W.nsIn K mainGlobals "law" = some (some (.ref f0)))
    (l0 : K.lookup f0 = some ⟨oc0, od0, .func (PySem.W.fnOf "law" "law" (defArgs sLaw) (defBody sLaw) (defScope sLaw) .none kV0 dc0 pm0 an0 cd0 ct0), sl0⟩) (c0 : PySem.W.codeIn K cd0 "law" = true) (k0 : PySem.W.keepIn K (.ref f0) = true)
    (a1 : PySem.W.nsIn K mainGlobals "_law_rows" = some (some (.ref f1)))
    (l1 : K.lookup f1 = some ⟨oc1, od1, .func (PySem.W.fnOf "_law_rows" "_law_rows" (defArgs sLRows) (defBody sLRows) (defScope sLRows) .none kV1 dc1 pm1 an1 cd1 ct1), sl1⟩) (c1 : PySem.W.codeIn K cd1 "_law_rows" = true) (k1 : PySem.W.keepIn K (.ref f1) = true)
    (a2 : PySem.W.nsIn K mainGlobals "_law_take" = some (some (.ref f2)))
    (l2 : K.lookup f2 = some ⟨oc2, od2, .func (PySem.W.fnOf "_law_take" "_law_take" (defArgs sLTake) (defBody sLTake) (defScope sLTake) .none kV2 dc2 pm2 an2 cd2 ct2), sl2⟩) (c2 : PySem.W.codeIn K cd2 "_law_take" = true) (k2 : PySem.W.keepIn K (.ref f2) = true)
    (a3 : PySem.W.nsIn K mainGlobals "_law_value" = some (some (.ref f3)))
    (l3 : K.lookup f3 = some ⟨oc3, od3, .func (PySem.W.fnOf "_law_value" "_law_value" (defArgs sLValue) (defBody sLValue) (defScope sLValue) .none kV3 dc3 pm3 an3 cd3 ct3), sl3⟩) (c3 : PySem.W.codeIn K cd3 "_law_value" = true) (k3 : PySem.W.keepIn K (.ref f3) = true)
    (a4 : PySem.W.nsIn K mainGlobals "_law_put_in" = some (some (.ref f4)))
    (l4 : K.lookup f4 = some ⟨oc4, od4, .func (PySem.W.fnOf "_law_put_in" "_law_put_in" (defArgs sLPutIn) (defBody sLPutIn) (defScope sLPutIn) .none kV4 dc4 pm4 an4 cd4 ct4), sl4⟩) (c4 : PySem.W.codeIn K cd4 "_law_put_in" = true) (k4 : PySem.W.keepIn K (.ref f4) = true)
    (a5 : PySem.W.nsIn K mainGlobals "_law_edit" = some (some (.ref f5)))
    (l5 : K.lookup f5 = some ⟨oc5, od5, .func (PySem.W.fnOf "_law_edit" "_law_edit" (defArgs sLEdit) (defBody sLEdit) (defScope sLEdit) .none kV5 dc5 pm5 an5 cd5 ct5), sl5⟩) (c5 : PySem.W.codeIn K cd5 "_law_edit" = true) (k5 : PySem.W.keepIn K (.ref f5) = true)
    (a6 : PySem.W.nsIn K mainGlobals "_law_fresh" = some (some (.ref f6)))
    (l6 : K.lookup f6 = some ⟨oc6, od6, .func (PySem.W.fnOf "_law_fresh" "_law_fresh" (defArgs sLFresh) (defBody sLFresh) (defScope sLFresh) .none kV6 dc6 pm6 an6 cd6 ct6), sl6⟩) (c6 : PySem.W.codeIn K cd6 "_law_fresh" = true) (k6 : PySem.W.keepIn K (.ref f6) = true)
    (a7 : PySem.W.nsIn K mainGlobals "_law_place" = some (some (.ref f7)))
    (l7 : K.lookup f7 = some ⟨oc7, od7, .func (PySem.W.fnOf "_law_place" "_law_place" (defArgs sLPlace) (defBody sLPlace) (defScope sLPlace) .none kV7 dc7 pm7 an7 cd7 ct7), sl7⟩) (c7 : PySem.W.codeIn K cd7 "_law_place" = true) (k7 : PySem.W.keepIn K (.ref f7) = true)
    (a8 : PySem.W.nsIn K mainGlobals "_law_odd" = some (some (.ref f8)))
    (l8 : K.lookup f8 = some ⟨oc8, od8, .func (PySem.W.fnOf "_law_odd" "_law_odd" (defArgs sLOdd) (defBody sLOdd) (defScope sLOdd) .none kV8 dc8 pm8 an8 cd8 ct8), sl8⟩) (c8 : PySem.W.codeIn K cd8 "_law_odd" = true) (k8 : PySem.W.keepIn K (.ref f8) = true)
    (a9 : PySem.W.nsIn K mainGlobals "_law_target" = some (some (.ref f9)))
    (l9 : K.lookup f9 = some ⟨oc9, od9, .func (PySem.W.fnOf "_law_target" "_law_target" (defArgs sLTarget) (defBody sLTarget) (defScope sLTarget) .none kV9 dc9 pm9 an9 cd9 ct9), sl9⟩) (c9 : PySem.W.codeIn K cd9 "_law_target" = true) (k9 : PySem.W.keepIn K (.ref f9) = true)
    (a10 : PySem.W.nsIn K mainGlobals "_law_done" = some (some (.ref f10)))
    (l10 : K.lookup f10 = some ⟨oc10, od10, .func (PySem.W.fnOf "_law_done" "_law_done" (defArgs sLDone) (defBody sLDone) (defScope sLDone) .none kV10 dc10 pm10 an10 cd10 ct10), sl10⟩) (c10 : PySem.W.codeIn K cd10 "_law_done" = true) (k10 : PySem.W.keepIn K (.ref f10) = true)
    (a11 : PySem.W.nsIn K mainGlobals "_law_is_value" = some (some (.ref f11)))
    (l11 : K.lookup f11 = some ⟨oc11, od11, .func (PySem.W.fnOf "_law_is_value" "_law_is_value" (defArgs sLIsValue) (defBody sLIsValue) (defScope sLIsValue) .none kV11 dc11 pm11 an11 cd11 ct11), sl11⟩) (c11 : PySem.W.codeIn K cd11 "_law_is_value" = true) (k11 : PySem.W.keepIn K (.ref f11) = true)
    (a12 : PySem.W.nsIn K mainGlobals "edited" = some (some (.ref f12)))
    (l12 : K.lookup f12 = some ⟨oc12, od12, .func (PySem.W.fnOf "edited" "edited" (defArgs sEdited) (defBody sEdited) (defScope sEdited) .none kV12 dc12 pm12 an12 cd12 ct12), sl12⟩) (c12 : PySem.W.codeIn K cd12 "edited" = true) (k12 : PySem.W.keepIn K (.ref f12) = true)
    (a13 : PySem.W.nsIn K mainGlobals "is_edit" = some (some (.ref f13)))
    (l13 : K.lookup f13 = some ⟨oc13, od13, .func (PySem.W.fnOf "is_edit" "is_edit" (defArgs sIsEdit) (defBody sIsEdit) (defScope sIsEdit) .none kV13 dc13 pm13 an13 cd13 ct13), sl13⟩) (c13 : PySem.W.codeIn K cd13 "is_edit" = true) (k13 : PySem.W.keepIn K (.ref f13) = true)
    (a14 : PySem.W.nsIn K mainGlobals "is_value" = some (some (.ref f14)))
    (l14 : K.lookup f14 = some ⟨oc14, od14, .func (PySem.W.fnOf "is_value" "is_value" (defArgs sIsValue) (defBody sIsValue) (defScope sIsValue) .none kV14 dc14 pm14 an14 cd14 ct14), sl14⟩) (c14 : PySem.W.codeIn K cd14 "is_value" = true) (k14 : PySem.W.keepIn K (.ref f14) = true)
    (a15 : PySem.W.nsIn K mainGlobals "is_target" = some (some (.ref f15)))
    (l15 : K.lookup f15 = some ⟨oc15, od15, .func (PySem.W.fnOf "is_target" "is_target" (defArgs sIsTarget) (defBody sIsTarget) (defScope sIsTarget) .none kV15 dc15 pm15 an15 cd15 ct15), sl15⟩) (c15 : PySem.W.codeIn K cd15 "is_target" = true) (k15 : PySem.W.keepIn K (.ref f15) = true)
    (z_bool : PySem.W.nsIn K mainGlobals "bool" = some none)
    (z_enumerate : PySem.W.nsIn K mainGlobals "enumerate" = some none)
    (z_int : PySem.W.nsIn K mainGlobals "int" = some none)
    (z_isinstance : PySem.W.nsIn K mainGlobals "isinstance" = some none)
    (z_len : PySem.W.nsIn K mainGlobals "len" = some none)
    (z_list : PySem.W.nsIn K mainGlobals "list" = some none)
    (z_range : PySem.W.nsIn K mainGlobals "range" = some none)
    (z_repr : PySem.W.nsIn K mainGlobals "repr" = some none)
    (z_str : PySem.W.nsIn K mainGlobals "str" = some none)
    (z_tuple : PySem.W.nsIn K mainGlobals "tuple" = some none)
    : ∃ fd : FuncData, (∀ (s : Shared) (v : Value), BindsTo s fd ⟨[v], []⟩ [("_law_script", v)]) ∧ ∀ base : Heap, K.In base → base.Ns mainGlobals mg → FnG l.prog w K mg base CX0 5 fa fd ["_law_script"] (spTop mLaw K) := by
  have e := hfa.symm.trans (PySem.W.mg_of X G a0)
  cases e
  have F0 := fun_mk (st := sLaw) l0 c0 k0
  have b0 := F0.binds (ps := ["_law_script"]) fun _ _ _ _ _ _ us hl => match us, hl with | [_], _ => rfl
  have F1 := fun_mk (st := sLRows) l1 c1 k1
  have b1 := F1.binds (ps := ["_law_bag"]) fun _ _ _ _ _ _ us hl => match us, hl with | [_], _ => rfl
  have F2 := fun_mk (st := sLTake) l2 c2 k2
  have b2 := F2.binds (ps := ["_law_bag", "_law_many"]) fun _ _ _ _ _ _ us hl => match us, hl with | [_, _], _ => rfl
  have F3 := fun_mk (st := sLValue) l3 c3 k3
  have b3 := F3.binds (ps := ["_law_bag", "_law_k"]) fun _ _ _ _ _ _ us hl => match us, hl with | [_, _], _ => rfl
  have F4 := fun_mk (st := sLPutIn) l4 c4 k4
  have b4 := F4.binds (ps := ["_law_bag", "_law_row", "_law_value_here", "_law_shape"]) fun _ _ _ _ _ _ us hl => match us, hl with | [_, _, _, _], _ => rfl
  have F5 := fun_mk (st := sLEdit) l5 c5 k5
  have b5 := F5.binds (ps := ["_law_bag", "_law_row"]) fun _ _ _ _ _ _ us hl => match us, hl with | [_, _], _ => rfl
  have F6 := fun_mk (st := sLFresh) l6 c6 k6
  have b6 := F6.binds (ps := ["_law_bag", "_law_row"]) fun _ _ _ _ _ _ us hl => match us, hl with | [_, _], _ => rfl
  have F7 := fun_mk (st := sLPlace) l7 c7 k7
  have b7 := F7.binds (ps := ["_law_row", "_law_value_here"]) fun _ _ _ _ _ _ us hl => match us, hl with | [_, _], _ => rfl
  have F8 := fun_mk (st := sLOdd) l8 c8 k8
  have b8 := F8.binds (ps := ["_law_bag"]) fun _ _ _ _ _ _ us hl => match us, hl with | [_], _ => rfl
  have F9 := fun_mk (st := sLTarget) l9 c9 k9
  have b9 := F9.binds (ps := ["_law_bag", "_law_row", "_law_value_here"]) fun _ _ _ _ _ _ us hl => match us, hl with | [_, _, _], _ => rfl
  have F10 := fun_mk (st := sLDone) l10 c10 k10
  have b10 := F10.binds (ps := ["_law_row", "_law_edit_here"]) fun _ _ _ _ _ _ us hl => match us, hl with | [_, _], _ => rfl
  have F11 := fun_mk (st := sLIsValue) l11 c11 k11
  have b11 := F11.binds (ps := ["_law_value_here"]) fun _ _ _ _ _ _ us hl => match us, hl with | [_], _ => rfl
  have F12 := fun_mk (st := sEdited) l12 c12 k12
  have b12 := F12.binds (ps := ["old", "edits"]) fun _ _ _ _ _ _ us hl => match us, hl with | [_, _], _ => rfl
  have F13 := fun_mk (st := sIsEdit) l13 c13 k13
  have b13 := F13.binds (ps := ["row", "edit"]) fun _ _ _ _ _ _ us hl => match us, hl with | [_, _], _ => rfl
  have F14 := fun_mk (st := sIsValue) l14 c14 k14
  have b14 := F14.binds (ps := ["thing"]) fun _ _ _ _ _ _ us hl => match us, hl with | [_], _ => rfl
  have F15 := fun_mk (st := sIsTarget) l15 c15 k15
  have b15 := F15.binds (ps := ["row", "value", "target"]) fun _ _ _ _ _ _ us hl => match us, hl with | [_, _, _], _ => rfl
  exact ⟨PySem.W.fnOf "law" "law" (defArgs sLaw) (defBody sLaw) (defScope sLaw) .none kV0 dc0 pm0 an0 cd0 ct0, fun s v => .of_eq rfl, fun base _ _ => top_ofG <| okLaw (P := l.prog) (w := w) (base := base) ({
    n_bool := PySem.W.mg_none_of X G z_bool,
    n_enumerate := PySem.W.mg_none_of X G z_enumerate,
    n_int := PySem.W.mg_none_of X G z_int,
    n_isinstance := PySem.W.mg_none_of X G z_isinstance,
    n_len := PySem.W.mg_none_of X G z_len,
    n_list := PySem.W.mg_none_of X G z_list,
    n_range := PySem.W.mg_none_of X G z_range,
    n_repr := PySem.W.mg_none_of X G z_repr,
    n_str := PySem.W.mg_none_of X G z_str,
    n_tuple := PySem.W.mg_none_of X G z_tuple,
    fLaw := _, dLaw := _, FLaw := F0, bLaw := b0, gLaw := PySem.W.mg_of X G a0,
    fLRows := _, dLRows := _, FLRows := F1, bLRows := b1, gLRows := PySem.W.mg_of X G a1,
    fLTake := _, dLTake := _, FLTake := F2, bLTake := b2, gLTake := PySem.W.mg_of X G a2,
    fLValue := _, dLValue := _, FLValue := F3, bLValue := b3, gLValue := PySem.W.mg_of X G a3,
    fLPutIn := _, dLPutIn := _, FLPutIn := F4, bLPutIn := b4, gLPutIn := PySem.W.mg_of X G a4,
    fLEdit := _, dLEdit := _, FLEdit := F5, bLEdit := b5, gLEdit := PySem.W.mg_of X G a5,
    fLFresh := _, dLFresh := _, FLFresh := F6, bLFresh := b6, gLFresh := PySem.W.mg_of X G a6,
    fLPlace := _, dLPlace := _, FLPlace := F7, bLPlace := b7, gLPlace := PySem.W.mg_of X G a7,
    fLOdd := _, dLOdd := _, FLOdd := F8, bLOdd := b8, gLOdd := PySem.W.mg_of X G a8,
    fLTarget := _, dLTarget := _, FLTarget := F9, bLTarget := b9, gLTarget := PySem.W.mg_of X G a9,
    fLDone := _, dLDone := _, FLDone := F10, bLDone := b10, gLDone := PySem.W.mg_of X G a10,
    fLIsValue := _, dLIsValue := _, FLIsValue := F11, bLIsValue := b11, gLIsValue := PySem.W.mg_of X G a11,
    fEdited := _, dEdited := _, FEdited := F12, bEdited := b12, gEdited := PySem.W.mg_of X G a12,
    fIsEdit := _, dIsEdit := _, FIsEdit := F13, bIsEdit := b13, gIsEdit := PySem.W.mg_of X G a13,
    fIsValue := _, dIsValue := _, FIsValue := F14, bIsValue := b14, gIsValue := PySem.W.mg_of X G a14,
    fIsTarget := _, dIsTarget := _, FIsTarget := F15, bIsTarget := b15, gIsTarget := PySem.W.mg_of X G a15,
    cBadDeeds := _, gcBadDeeds := PySem.W.mg_of X G aBadDeeds,
    cBadEdit := _, gcBadEdit := PySem.W.mg_of X G aBadEdit,
    cDrawnError := _, gcDrawnError := PySem.W.mg_of X G aDrawnError,
    cInvalidNumber := _, gcInvalidNumber := PySem.W.mg_of X G aInvalidNumber,
    ecBadEdit := errC_mk e1BadEdit e2BadEdit e3BadEdit e4BadEdit e5BadEdit e6BadEdit e7BadEdit e8BadEdit e9BadEdit eaBadEdit ebBadEdit ecBadEdit edBadEdit eeBadEdit efBadEdit egBadEdit ehBadEdit,
    eiBadEdit := errI_mk (sf := "self") (xf := "index") eiBadEdit ejBadEdit ekBadEdit elBadEdit emBadEdit enBadEdit eoBadEdit epBadEdit eqBadEdit erBadEdit (PySem.W.mg_none_of X G esBadEdit) etBadEdit ⟨_, rfl, rfl⟩ (NdefX.nscope_by (by decide +kernel)) rfl rfl rfl rfl rfl rfl (by decide) (by decide) (by decide) (by decide) (fun us hl => match us, hl with | [_, _], _ => rfl),
    kit_BadEdit_BadDeeds := kit_BadEdit_BadDeeds,
    kit_BadEdit_DrawnError := kit_BadEdit_DrawnError,
    kit_BadEdit_InvalidNumber := kit_BadEdit_InvalidNumber,
    exm_BadEdit_BadEdit := PySem.W.exm_ref xa_BadEdit_BadEdit xb_BadEdit_BadEdit xc_BadEdit_BadEdit xd_BadEdit_BadEdit } : TX l.prog K mg)⟩
end Ke
open PySem PySem.W PyProof.Rows
set_option maxHeartbeats 0 in
theorem PySem.Challenge.cw_drawnwhole_k44_edits_done_holds : PySem.Challenge.rw_drawnwhole_k44_edits_done.Holds := by
  w_on; o_law; k_head; (case hw => w_witness2)
  k_fill
  refine Nn.walk_ofG (l := PySem.Challenge.rw_drawnwhole_k44_edits_done) (n := 63) (k := 5) (x := "_law_script") (CX := fun _ => L2.CX0) (sp := fun w => Nn.spTop Ke.mLaw _) rfl (by decide) rfl ⟨rfl, by decide, by decide⟩ (fun w h Y => PySem.W.kIn_of Y) ?F (fun _ _ a ns hl ho hS => Nn.spTop_of ho hS (Ke.law_true ns hl)) (fun _ _ _ _ _ h => h)
  case F =>
    intro w mg fa h KX G hmg
    refine' Ke.all_mk KX G hmg ?aBadDeeds ?aBadEdit ?aDrawnError ?aInvalidNumber ?e1BadEdit ?e2BadEdit ?e3BadEdit ?e4BadEdit ?e5BadEdit ?e6BadEdit ?e7BadEdit ?e8BadEdit ?e9BadEdit ?eaBadEdit ?ebBadEdit ?ecBadEdit ?edBadEdit ?eeBadEdit ?efBadEdit ?egBadEdit ?ehBadEdit ?eiBadEdit ?ejBadEdit ?ekBadEdit ?elBadEdit ?emBadEdit ?enBadEdit ?eoBadEdit ?epBadEdit ?eqBadEdit ?erBadEdit ?esBadEdit ?etBadEdit ?kit_BadEdit_BadDeeds ?kit_BadEdit_DrawnError ?kit_BadEdit_InvalidNumber ?xa_BadEdit_BadEdit ?xb_BadEdit_BadEdit ?xc_BadEdit_BadEdit ?xd_BadEdit_BadEdit ?a0 ?l0 ?c0 ?k0 ?a1 ?l1 ?c1 ?k1 ?a2 ?l2 ?c2 ?k2 ?a3 ?l3 ?c3 ?k3 ?a4 ?l4 ?c4 ?k4 ?a5 ?l5 ?c5 ?k5 ?a6 ?l6 ?c6 ?k6 ?a7 ?l7 ?c7 ?k7 ?a8 ?l8 ?c8 ?k8 ?a9 ?l9 ?c9 ?k9 ?a10 ?l10 ?c10 ?k10 ?a11 ?l11 ?c11 ?k11 ?a12 ?l12 ?c12 ?k12 ?a13 ?l13 ?c13 ?k13 ?a14 ?l14 ?c14 ?k14 ?a15 ?l15 ?c15 ?k15 ?z_bool ?z_enumerate ?z_int ?z_isinstance ?z_len ?z_list ?z_range ?z_repr ?z_str ?z_tuple
    (case aBadDeeds => k_is); (case aBadEdit => k_is); (case aDrawnError => k_is); (case aInvalidNumber => k_is); (case e1BadEdit => k_is); (case e2BadEdit => decide +kernel); (case e3BadEdit => k_is); (case e4BadEdit => k_is); (case e5BadEdit => k_is); (case e6BadEdit => k_is); (case e7BadEdit => k_is); (case e8BadEdit => ks_is); (case e9BadEdit => k_is); (case eaBadEdit => k_is); (case ebBadEdit => k_is); (case ecBadEdit => k_is); (case edBadEdit => k_is); (case eeBadEdit => k_is); (case efBadEdit => k_is); (case egBadEdit => k_is); (case ehBadEdit => k_is); (case eiBadEdit => k_is); (case ejBadEdit => k_is); (case ekBadEdit => k_is); (case elBadEdit => k_is); (case emBadEdit => k_is); (case enBadEdit => rfl); (case eoBadEdit => rfl); (case epBadEdit => rfl); (case eqBadEdit => k_is); (case erBadEdit => k_is); (case esBadEdit => k_is); (case etBadEdit => k_is); (case kit_BadEdit_BadDeeds => kit_is); (case kit_BadEdit_DrawnError => kit_is); (case kit_BadEdit_InvalidNumber => kit_is); (case xa_BadEdit_BadEdit => k_is); (case xb_BadEdit_BadEdit => k_is); (case xc_BadEdit_BadEdit => k_is); (case xd_BadEdit_BadEdit => k_is); (case a0 => k_is); (case l0 => k_is); (case c0 => k_is); (case k0 => k_is); (case a1 => k_is); (case l1 => k_is); (case c1 => k_is); (case k1 => k_is); (case a2 => k_is); (case l2 => k_is); (case c2 => k_is); (case k2 => k_is); (case a3 => k_is); (case l3 => k_is); (case c3 => k_is); (case k3 => k_is); (case a4 => k_is); (case l4 => k_is); (case c4 => k_is); (case k4 => k_is); (case a5 => k_is); (case l5 => k_is); (case c5 => k_is); (case k5 => k_is); (case a6 => k_is); (case l6 => k_is); (case c6 => k_is); (case k6 => k_is); (case a7 => k_is); (case l7 => k_is); (case c7 => k_is); (case k7 => k_is); (case a8 => k_is); (case l8 => k_is); (case c8 => k_is); (case k8 => k_is); (case a9 => k_is); (case l9 => k_is); (case c9 => k_is); (case k9 => k_is); (case a10 => k_is); (case l10 => k_is); (case c10 => k_is); (case k10 => k_is); (case a11 => k_is); (case l11 => k_is); (case c11 => k_is); (case k11 => k_is); (case a12 => k_is); (case l12 => k_is); (case c12 => k_is); (case k12 => k_is); (case a13 => k_is); (case l13 => k_is); (case c13 => k_is); (case k13 => k_is); (case a14 => k_is); (case l14 => k_is); (case c14 => k_is); (case k14 => k_is); (case a15 => k_is); (case l15 => k_is); (case c15 => k_is); (case k15 => k_is); (case z_bool => k_is); (case z_enumerate => k_is); (case z_int => k_is); (case z_isinstance => k_is); (case z_len => k_is); (case z_list => k_is); (case z_range => k_is); (case z_repr => k_is); (case z_str => k_is); (case z_tuple => k_is)

