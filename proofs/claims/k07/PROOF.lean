import PyProof.Rows.All
import Wide.All
import OpenK.AllK
import Wide.FinOn
import HandS.ForMost
import HandS.Walk
import HandS.TupMul
import KE.GoesEnum
import HandS.Wide
import HandS.TupAny
import HandS.Zip
import HandS.IsInst
import HandS.ForExc
import HandS.Conv
import HandS.Style
import HandS.Replace
import HandS.RaiseMore
import HandS.TryOnly
import HandS.ExcOwn
import HandS.SetKeys
import HandS.Strs
import HandS.Zip0
import HandS.SetFor
import HandS.Set
import HandS.TupLe
import KE.DataMinMax
import HandS.SortKw
import HandS.More
import PySem.Challenge.RW_callwheel_k07_where_boxes_stand
set_option Elab.async false
set_option linter.all false
set_option maxRecDepth 100000
namespace MM
open PySem PySem.Spec PyProof.Rows L2
open Builtin
set_option maxHeartbeats 1000000 in
theorem meets_enum1 {v : Value} {o : Obj} {H : Heap → Prop} (B : Begins v o H) :
    Meets (Builtin.«enumerate.__new__» ⟨[.type "enumerate", v], []⟩) (fun _ R s => H s.heap ∧
      R (.ok (.ret (.ref (s.heap.push o).objs.size))) { s with heap := (s.heap.push o).push { cls := .type "enumerate", data := .fields #[.none, .bool false, .ref s.heap.objs.size, rawInt 0, .none, .none] } }) :=
  .of_wp fun prog w A R s h => by
    obtain ⟨hp, g, d, tk, os⟩ := s; obtain ⟨h1, h⟩ := h
    have hsub := sub_enumerate
    have q1 : ∀ {A' : Around} {E : Value → Shared → Prop} {Q : Value → Shared → Prop}, Q (.ref hp.objs.size) ⟨hp.push o, g, d, tk, os⟩ → wpAny (model prog w) A' (pyIter v) Q E ⟨hp, g, d, tk, os⟩ :=
      fun q => B.iter prog w _ _ ⟨hp, g, d, tk, os⟩ _ h1 q
    wp_walk using q1
    refine wpAny_stack_any fun st => wpAny_pure ?_
    split
    · rename_i c _ _ _ _ _
      cases (c == Value.type "enumerate")
      · wp_walk using q1
        exact ⟨_, rfl, h⟩
      · wp_walk using q1
        exact ⟨_, rfl, h⟩
    · wp_walk using q1
      exact ⟨_, rfl, h⟩
theorem call_enum1 {prog : Program} {w : World} {A : Around} {E : Value → Shared → Prop} {s : Shared} {v : Value} {o : Obj} {H : Heap → Prop} {Q : Value → Shared → Prop} (B : Begins v o H) (h1 : H s.heap)
    (h : ∀ h', IsEnum h' (s.heap.objs.size + 1) s.heap.objs.size 0 .none → h'.get? s.heap.objs.size = some o → h'.objs.size = s.heap.objs.size + 2 →
      (∀ b o, s.heap.get? b = some o → h'.get? b = some o) → Q (.ref (s.heap.objs.size + 1)) { s with heap := h' }) :
    wpAny (model prog w) A (call (.type "enumerate") [v]) Q E s := by
  refine callType_new F.called_enumerate (by decide) (F.typeCall_enumerate_1 _) (F.newCall_enumerate_1 _) (fun obj => F.args_object_init_2 obj _) F.entry_enumerate_new
    (meets_enum1 B) ⟨h1, ?_⟩
  have hz : (s.heap.push o).objs.size = s.heap.objs.size + 1 := Heap.size_push ..
  show _ ∧ _
  rw [hz]
  have he : IsEnum ((s.heap.push o).push { cls := .type "enumerate", data := .fields #[.none, .bool false, .ref s.heap.objs.size, rawInt 0, .none, .none] }) (s.heap.objs.size + 1) s.heap.objs.size 0 .none := by
    have := Heap.get?_push_size (s.heap.push o) (o := { cls := .type "enumerate", data := .fields #[.none, .bool false, .ref s.heap.objs.size, rawInt 0, .none, .none] }) rfl
    rw [hz] at this; exact this
  refine ⟨⟨_, he, rfl⟩, h _ he (Heap.get?_push_of_some _ (Heap.get?_push_size _ B.free)) (by rw [Heap.size_push, hz]) fun b o x => Heap.get?_push_of_some _ (Heap.get?_push_of_some _ x)⟩

def IteT (K : PySem.W.Frag) (a : Addr) : It :=
  ⟨fun i H => ∃ (xs : List V) (x : V), SqT K H a xs ∧ xs[i]? = some x, fun i H v H' => ∃ T x, v = .ref T ∧ H T = none ∧ H' = upd H T (.tup [.int (i : Nat), x]) ∧ ∀ xs, SqT K H a xs → xs[i]? = some x, fun i H => ∃ xs : List V, SqT K H a xs ∧ xs.length = i⟩
theorem turn_enumT {P : Program} {w : World} {K : PySem.W.Frag} {elts : List Expr} {kk : Nat} {tpos : Pos} (a e it : Addr) (hai : a ≠ it) (hae : a ≠ e) :
    Turn P w K (.Tuple elts kk tpos) (IteT K a) [e, it] e (fun i h => (∃ old, IsEnum h e it ((i : Nat) : Int) old) ∧ h.IsTupleIter it a i ∧ e ≠ it) where
  mem := by simp
  obj := fun i h st b hb => by
    obtain ⟨⟨old, he⟩, ⟨o, ho, hc, hd⟩, _⟩ := st
    have e' : b = e ∨ b = it := by simpa using hb
    rcases e' with z | z
    · rw [z]; exact ⟨_, he, fun v q => nomatch q⟩
    · rw [z]; exact ⟨o, ho, fun v q => by rw [hd] at q; cases q⟩
  keep := fun i h h' st k => let ⟨⟨old, he⟩, hi, hne⟩ := st; ⟨⟨old, k e (by simp) _ he⟩, hi.at fun o q => k it (by simp) o q, hne⟩
  item := by
    intro X hP hw hK hc i pins s σ H E I hf st hg
    subst hP hw hK
    obtain ⟨⟨old, he⟩, hit, hne⟩ := st
    obtain ⟨xs, x, hq, hx⟩ := hg
    obtain ⟨its, rv, p, hz⟩ := I.tuple hq
    obtain ⟨u, hu, ru⟩ := rv.get hx
    have hel : e < s.heap.objs.size := Heap.lt_size he
    have hil : it < s.heap.objs.size := by obtain ⟨_, q, _⟩ := hit; exact Heap.lt_size q
    have hil2 : i < its.toArray.size := by
      have := (List.getElem?_eq_some_iff.mp hu).1
      simpa using this
    have hh : X.A.in1.handled = none := I.ok.hd hc
    refine wpAny_pyNext_enum_itemC (Draws.tuple hh it a hai its.toArray) he ⟨hit, show s.heap.IsTuple a its.toArray from p⟩ hil2 hne (by simp [hne, Ne.symm hae]) fun u' h' tk hPu ho hst' hT hsz hk => ?_
    have eu : u' = u := by
      have : its[i]? = some u' := by simpa using hPu
      rw [hu] at this
      exact (Option.some.inj this).symm
    subst eu
    refine ⟨_, rfl, wpAny_letOwnedTupleGo_enum (s := { s with heap := h', toks := tk + 1 }) ho fun h'' he' sb => ?_⟩
    have hT2 : h''.get? s.heap.objs.size = some { cls := .type "tuple", data := .seq #[.int i tk, u'] } := (sb.2 _ (Nat.ne_of_gt hel)).trans hT
    have new : ObjOk X.prog X.w (upd H s.heap.objs.size (.tup [.int (i : Nat), x])) h'' s.heap.objs.size (.tup [.int (i : Nat), x]) :=
      ⟨by show 2 ≤ sizeLine; decide, [.int i tk, u'], .cons ⟨_, rfl⟩ (.cons ru .nil), ⟨_, hT2, rfl, _, rfl⟩⟩
    have I1 : Inv X pins σ (upd H s.heap.objs.size (.tup [.int (i : Nat), x])) { s with heap := h'', toks := tk + 1 } :=
      I.turnedNew (ch := [e, it]) (fun b ob hb q => (sb.2 b (fun z => hb (by simp [z]))).trans (hk b ob (fun z => hb (by simp [z])) (fun z => hb (by simp [z])) q)) hf (Nat.le_refl _) new
    refine ⟨.ref s.heap.objs.size, _, I1, rfl, ⟨_, x, rfl, I.hok.fresh (Nat.le_refl _), rfl, fun ys hy => by rw [I.tuple_inj hy hq]; exact hx⟩, ⟨⟨u', ?_⟩, hst'.1.at fun o q => (sb.2 it (Ne.symm hne)).trans q, hne⟩, fun b hb => ?_⟩
    · have e1 : ((i + 1 : Nat) : Int) = (i : Int) + 1 := by omega
      rw [e1]; exact he'
    · have hb' : b < s.heap.objs.size := by
        have e' : b = e ∨ b = it := by simpa using hb
        rcases e' with z | z
        · rw [z]; exact hel
        · rw [z]; exact hil
      rw [upd_ne (Nat.ne_of_lt hb')]
      exact (hf b hb).1
  done := by
    intro X hP hw hK hc i pins s σ H E I hf st hg
    subst hP hw hK
    obtain ⟨⟨old, he⟩, hit, hne⟩ := st
    obtain ⟨xs, hq, hx⟩ := hg
    obtain ⟨its, rv, p, hz⟩ := I.tuple hq
    obtain ⟨f0, f1, f2, f3, f4, f5⟩ := hf it (by simp)
    have hl := rv.length
    have hi : i = its.toArray.size := by
      rw [List.size_toArray]
      omega
    have hh : X.A.in1.handled = none := I.ok.hd hc
    rw [hi] at hit
    exact wpAny_pyNext_enum_endD (Draws.tuple hh it a hai its.toArray) he ⟨hit, show s.heap.IsTuple a its.toArray from p⟩ fun h' eb => ⟨rfl, I.turned (t' := s.toks) (fun b o hb q => eb b o hb q) f0 f1 f3 f4 f5⟩
  self := fun A i s Q E st h => let ⟨⟨_, he⟩, _⟩ := st; wpAny_pyIter_enum he h
def iEnumT (K : PySem.W.Frag) (ta : TA) : TI := fun σ H R => ta σ H fun vs H1 => ∃ a xs, vs = [.ref a] ∧ SqT K H1 a xs ∧ R (IteT K a) H1
theorem pi_enumT {X : Cx} {e : Expr} {ta : TA} {p pos tpos : Pos} {elts : List Expr} {kk : Nat} (hg : Gl X "enumerate") (hm : X.mg "enumerate" = none) (ha : PA X [e] ta) (hs : starEach [e] X.env = [(false, eval e X.env)] := by rfl) :
    PI X (.Tuple elts kk tpos) (.Call (.Name "enumerate" p) [e] [] pos) (iEnumT X.K ta) := by
  refine ⟨fun pins s σ H R I h => ?_⟩
  refine Call_ (ld_blt I hg hm boot_enumerate (PyProof.Rows.callWith_type1 (thn (ha.run pos pins s σ H _ I h) fun us s1 ⟨vs, H1, I1, r1, q1⟩ => ?_) hs rfl))
  obtain ⟨a, xs, ex, hq, q⟩ := q1
  subst ex
  cases r1 with
  | cons r rr =>
    cases rr
    cases r
    obtain ⟨its, rv, p', hz⟩ := I1.tuple hq
    have hal : a < s1.heap.objs.size := by
      obtain ⟨o, ho, _⟩ := id p'
      exact Heap.lt_size ho
    refine call_enum1 (begins_tuple a its.toArray) (show s1.heap.IsTuple a its.toArray from p') fun h' he hit hsz hk => wpAny_pyIter_enum he ?_
    have I2 : Inv X pins σ H1 { s1 with heap := h' } := I1.kept (t' := s1.toks) hk
    refine ⟨s1.heap.objs.size + 1, [s1.heap.objs.size + 1, s1.heap.objs.size], _, _, H1, rfl, I2, turn_enumT a (s1.heap.objs.size + 1) s1.heap.objs.size (Nat.ne_of_lt hal) (Nat.ne_of_lt (Nat.lt_succ_of_lt hal)), ⟨⟨.none, he⟩, ⟨_, hit, rfl, rfl⟩, Nat.succ_ne_self _⟩, fun b hb => ?_, q⟩
    have e' : b = s1.heap.objs.size + 1 ∨ b = s1.heap.objs.size := by simpa using hb
    have hle : s1.heap.objs.size ≤ b := by
      rcases e' with z | z
      · rw [z]; exact Nat.le_add_right _ _
      · rw [z]; exact Nat.le_refl _
    exact I1.fpOk hle (I1.hok.fresh hle)

theorem tuple_mul1 (l : Addr) (items : Array Value) (n : Nat) (dd : Option Addr) (sl : Array (Option Value)) (u : Tok) :
    Meets (Builtin.«tuple.__mul__» ⟨[.ref l, .int 1 u], []⟩) (fun A R s => s.heap.get? l = some { cls := .type "tuple", dict := dd, data := .seq items n, slots := sl } ∧ R (.ok (.ret (.ref l))) s) :=
  .of_wp fun prog w A R s h => by
    obtain ⟨hp, g, d, tk, os⟩ := s
    obtain ⟨hl, h⟩ := h
    have f1 := AutoSeq1.idx_int
    have c0 : (decide ((1 : Int) < -(2 ^ 63)) || decide ((1 : Int) ≥ 2 ^ 63)) = false := by decide
    have c1 : (items.isEmpty || (1 : Int) == 1) = true := by simp
    wp_walk using wpAny_loadPart' hl
    repeat (first
      | (refine wpAny_ite_false (decide_eq_false (by rw [c0]; exact Bool.false_ne_true)) ?_; wp_walk using wpAny_loadPart' hl)
      | (refine wpAny_ite_true (decide_eq_true c1) ?_; wp_walk using wpAny_loadPart' hl))
    exact ⟨_, rfl, h⟩
def rRep1 (K : PySem.W.Frag) : R2 := fun x y H Q => ∃ l xs, x = .ref l ∧ y = .int 1 ∧ SqT K H l xs ∧ Q (.ref l) H
theorem op_rep1 {X : Cx} : OpR X (binaryOp .Mult) (rRep1 X.K) := by
  intro pins s σ H x y v u Q I rx ry h
  obtain ⟨l, xs, rfl, rfl, hT, q⟩ := h
  cases rx
  obtain ⟨t, rfl⟩ := ry
  obtain ⟨its, r, ⟨⟨cls, dd, data, sl⟩, ho, hc, n, hd⟩, hs⟩ := I.tuple hT
  simp only at hc hd
  subst hc hd
  refine wpAny_binaryOp_repeat_ref (T := "tuple") (U := "int") (by decide) ⟨_, ho, rfl⟩ (fun s' => typeIs_int s' 1 t) noFill_tuple_mul F.fills_int_mul F.slot_int_rmul repeat_tuple F.slot_int_index.lookup
    (call_meets F.slot_int_rmul (typeIs_int s 1 t) F.entry_int_rmul (F.args_int_rmul_2 _ _) (int_rmul_tuple 1 t l its.toArray n dd sl)
      ⟨ho, rfl, ⟨_, ho, rfl⟩, call_meets F.slot_tuple_mul ⟨_, ho, rfl⟩ F.entry_tuple_mul (F.args_tuple_mul_2 _ _) (tuple_mul1 l its.toArray n dd sl t) ⟨ho, ?_⟩⟩)
  exact ⟨.ref l, H, I, rfl, q⟩
end MM

namespace MM
open PySem PySem.Spec PyProof.Rows L2
def FrzBy (as : List Addr) (H H' : Hp) : Prop := (∀ b, b ∉ as → H' b = H b) ∧ ∀ a ∈ as, ∃ ob vs, H a = some (.lst vs) ∧ H' a = some (.frz ob (.lst vs))
def FrzTo (H : Hp) (R : Hp → Prop) : Prop := ∃ as : List Addr, (∀ a ∈ as, ∃ vs, H a = some (.lst vs)) ∧ ∀ H', FrzBy as H H' → R H'
theorem FrzBy.nil {H H' : Hp} (h : FrzBy [] H H') : H' = H := by
  funext b
  exact h.1 b (by simp)
theorem FrzTo.nil {H : Hp} {R : Hp → Prop} (h : R H) : FrzTo H R := ⟨[], by simp, fun H' q => by rw [q.nil]; exact h⟩
open Classical in
theorem inv_frz {X : Cx} {pins : List (Addr × Obj)} {σ : List (Option V)} {H : Hp} {s : Shared} (I : Inv X pins σ H s) {as : List Addr} (ha : ∀ a ∈ as, ∃ vs, H a = some (.lst vs)) : ∃ H', FrzBy as H H' ∧ Inv X pins σ H' s := by
  have obj : ∀ a ∈ as, ∃ ob vs, H a = some (.lst vs) ∧ s.heap.get? a = some ob := fun a h => by
    obtain ⟨vs, e⟩ := ha a h
    obtain ⟨_, its, n, _, g⟩ := I.hok a _ e
    exact ⟨_, vs, e, g⟩
  let H' : Hp := fun b => if h : b ∈ as then some (.frz (obj b h).choose (.lst (obj b h).choose_spec.choose)) else H b
  have out : ∀ b, b ∉ as → H' b = H b := fun b h => dif_neg h
  have ins : ∀ b, b ∈ as → ∃ ob vs, H b = some (.lst vs) ∧ H' b = some (.frz ob (.lst vs)) ∧ s.heap.get? b = some ob := fun b h => by
    have q := (obj b h).choose_spec.choose_spec
    exact ⟨_, _, q.1, dif_pos h, q.2⟩
  have not : ∀ b (u : HO), H b = some u → (∀ vs, u ≠ .lst vs) → H' b = some u := fun b u e n => by
    have nb : b ∉ as := fun h => by
      obtain ⟨ob, vs, q, _⟩ := ins b h
      rw [e] at q
      exact n vs (Option.some.inj q)
    rw [out b nb, e]
  refine ⟨H', ⟨out, fun a h => let ⟨ob, vs, q1, q2, _⟩ := ins a h; ⟨ob, vs, q1, q2⟩⟩, ?_⟩
  have hok : HOk X.prog X.w H' s.heap := fun b u e => by
    have st : ∀ o, ObjOk X.prog X.w H s.heap b o → ObjOk X.prog X.w H' s.heap b o := fun o x =>
      x.stay (fun c v _ q => q) (fun c q => not c _ q (fun _ z => nomatch z)) (fun c xs q => not c _ q (fun _ z => nomatch z))
    by_cases h : b ∈ as
    · obtain ⟨ob, vs, q1, q2, q3⟩ := ins b h
      rw [q2] at e
      cases e
      exact ⟨q3, st _ (I.hok b _ q1)⟩
    · rw [out b h] at e
      exact st _ (I.hok b u e)
  have := I.step (H' := H') (h' := s.heap) (g' := s.gens) (t' := s.toks) (d' := s.drawn) (ch := []) (fun _ z => nomatch z) (fun b o _ _ _ e _ => e) (fun b o _ _ _ e _ => ⟨o.slots, e⟩)
    (fun b o _ _ n => by
      have nb : b ∉ as := fun h => by
        obtain ⟨_, _, q, _⟩ := ins b h
        rw [n] at q; cases q
      rw [out b nb, n])
    (fun b o _ e => ⟨o, e⟩) (fun b xs e => not b _ e (fun _ z => nomatch z)) (fun b o u e => not b _ e (fun _ z => nomatch z)) (fun b ps e => ⟨#[], by rw [not b _ e (fun _ z => nomatch z)]; simp⟩) (fun m q => q) hok I.bare
  exact this
/-- an expression, and then some new lists are locked -/
def tFrz (t : TE) : TE := fun σ H Q => t σ H fun v H' => FrzTo H' (Q v)
theorem pe_frz {X : Cx} {e : Expr} {t : TE} (h : PE X e t) : PE X e (tFrz t) := ⟨fun pins s σ H Q I q => thn (h.run pins s σ H _ I q) fun u s1 ⟨v, H1, I1, rv, as, ha, r⟩ => by
  obtain ⟨H2, f, I2⟩ := inv_frz I1 ha
  exact ⟨v, H2, I2, rv, r H2 f⟩⟩
theorem ps_frz {X : Cx} {st : Stmt} {t : TS} (h : PS X st t) : PS X st (fun E σ H => t { E with nx := fun σ' H' => FrzTo H' (E.nx σ') } σ H) := ⟨fun pins s σ H D I q => thn (h.run pins s σ H _ I q) fun f s1 z => by
  cases f with
  | next =>
    obtain ⟨σ1, H1, I1, as, ha, r⟩ := z
    obtain ⟨H2, f, I2⟩ := inv_frz I1 ha
    exact ⟨σ1, H2, I2, r H2 f⟩
  | _ => exact z⟩
theorem rd_obj {X : Cx} {pins : List (Addr × Obj)} {σ : List (Option V)} {H : Hp} {s : Shared} {a : Addr} {xs : List V} (I : Inv X pins σ H s) (h : Rd H a (.lst xs)) : ∃ (its : List Value) (n : Nat), xs.length ≤ sizeLine ∧ Vals xs its ∧ xs.length = its.length ∧ s.heap.get? a = some { cls := .type "list", data := .seq its.toArray n } := by
  obtain ⟨z, its, n, r, e⟩ := h.ok I.hok
  exact ⟨its, n, z, r, r.length, e⟩
def rCatR : R2 := fun x y H Q => ∃ l b xs zs, x = .ref l ∧ y = .ref b ∧ Rd H l (.lst xs) ∧ Rd H b (.lst zs) ∧ xs.length + zs.length ≤ sizeLine ∧
  ∀ q, H q = none → Q (.ref q) (upd H q (.lst (xs ++ zs)))
theorem op_catR {X : Cx} : OpR X (binaryOp .Add) rCatR := by
  rintro pins s σ H _ _ v u Q I rx ry ⟨l, b, xs, zs, rfl, rfl, h1, h2, hz, q⟩
  cases rx; cases ry
  obtain ⟨i1, n1, _, r1, l1, e1⟩ := rd_obj I h1
  obtain ⟨i2, n2, _, r2, l2, e2⟩ := rd_obj I h2
  refine PySem.P.add_list e1 e2 ?_ (by simp only [List.size_toArray]; omega)
  rw [show i1.toArray ++ i2.toArray = (i1 ++ i2).toArray from by simp]
  exact ⟨.ref _, _, I.lnew (t' := s.toks) (r1.append r2) (by simp only [List.length_append]; omega), rfl, q _ I.fresh⟩
def rRepR : R2 := fun x y H Q => ∃ l k xs, x = .ref l ∧ y = .int k ∧ Rd H l (.lst xs) ∧ -(2 ^ 63) ≤ k ∧ k < 2 ^ 63 ∧ xs.length * k.toNat ≤ sizeLine ∧
  ∀ q, H q = none → Q (.ref q) (upd H q (.lst (List.replicate k.toNat xs).flatten))
theorem op_repR {X : Cx} : OpR X (binaryOp .Mult) rRepR := by
  rintro pins s σ H _ _ v u Q I rx ry ⟨l, k, xs, rfl, rfl, h, h1, h2, hz, q⟩
  cases rx
  obtain ⟨t, rfl⟩ := ry
  obtain ⟨its, n, _, r, hl, e⟩ := rd_obj I h
  have hlen : its.length * k.toNat ≤ sizeLine := hl ▸ hz
  have big : (sizeLine : Nat) ≤ (2 ^ 63 - 1) / 8 := by decide
  have c1 : ¬ (!Builtin.List.listFitsIndex k) = true := by simp [fitsIndex_both h1 h2]
  have c2 : ¬ its.toArray.size * k.toNat > (2 ^ 63 - 1) / 8 := by rw [List.size_toArray]; omega
  have c3 : ¬ Builtin.List.listTooLong (its.toArray.size * k.toNat) = true := by rw [notLongL (show its.toArray.size * k.toNat ≤ sizeLine by rw [List.size_toArray]; exact hlen)]; decide
  have f : ∀ m : Nat, (List.replicate m its.toArray).foldl (· ++ ·) #[] = (List.replicate m its).flatten.toArray := fun m => by simpa using foldl_rep its m []
  have f2 : (List.replicate (if its.toArray.isEmpty = true then 0 else k.toNat) its.toArray).foldl (· ++ ·) #[] = (List.replicate k.toNat its).flatten.toArray := by
    rw [f]
    cases its <;> simp
  have m1 := AutoListH.list___mul___list_int_3 l its.toArray n k t c1 c2 c3
  refine wpAny_binaryOp_repeat_ref (T := "list") (U := "int") (by decide) ⟨_, e, rfl⟩ (fun s' => typeIs_int s' k t) noFill_list_mul F.fills_int_mul F.slot_int_rmul repeat_list F.slot_int_index.lookup
    (call_meets F.slot_int_rmul (typeIs_int s k t) F.entry_int_rmul (F.args_int_rmul_2 _ _) (int___rmul___int_list k t l its.toArray n) ⟨e, rfl, ⟨_, e, rfl⟩, call_meets F.slot_list_mul ⟨_, e, rfl⟩ F.entry_list_mul (F.args_list_mul_2 _ _) m1 ⟨e, ?_⟩⟩)
  rw [f2]
  exact ⟨.ref _, _, I.lnew (t' := s.toks) (r.rep k.toNat) (by rw [PyProof.Rows.lm_len_rep_flat, Nat.mul_comm]; exact hz), rfl, q _ I.fresh⟩
end MM

namespace MM
open PySem PySem.Spec PyProof.Rows L2

inductive D where
  | non | bl (b : Bool) | int (i : Int) | str (x : Str) | tup (l : List D) | ref (n : Nat) | scr (ns : List Int) | pl (l : List D)

inductive O where
  | lst (fz : Bool) (l : List D) | dct (fz : Bool) (l : List (Key × D)) | ins (c : Nat) (fs : List (Str × D))

abbrev Sto := List O
abbrev Fr := List (Option D)

inductive R (α : Type) where
  | ok (a : α) (s : Sto) | ex (c : Nat) (s : Sto) | no

inductive RS where
  | nx (r : Fr) (s : Sto) | rt (d : D) (s : Sto) | bk (r : Fr) (s : Sto) | ct (r : Fr) (s : Sto) | ex (c : Nat) (r : Fr) (s : Sto) | no

def R.bind {α β : Type} : R α → (α → Sto → R β) → R β
  | .ok a s, f => f a s
  | .ex c s, _ => .ex c s
  | .no, _ => .no

abbrev ME := Fr → Sto → R D
abbrev MT := Fr → Sto → R Bool
abbrev ML := Fr → Sto → R (List D)
abbrev MS := Fr → Sto → RS

/-- a locked list that the store does not know -/
def Pul (φ : List Addr) (H : Hp) (a : Addr) (xs : List V) : Prop := a ∉ φ ∧ ∃ o, H a = some (.frz o (.lst xs))
theorem Pul.rd {φ : List Addr} {H : Hp} {a : Addr} {xs : List V} (h : Pul φ H a xs) : Rd H a (.lst xs) := .inr h.2
theorem Pul.sq {K : PySem.W.Frag} {φ : List Addr} {H : Hp} {a : Addr} {xs : List V} (h : Pul φ H a xs) : SqL K H a xs := .inl (.inr h.2)
/-- the law's script: locked, or an object of the module's own -/
def Fro (K : PySem.W.Frag) (φ : List Addr) (H : Hp) (a : Addr) (xs : List V) : Prop :=
  (a ∉ φ ∧ ∃ o, H a = some (.frz o (.lst xs))) ∨
    ∃ (o : Obj) (its : Array Value) (n : Nat), K.lookup a = some o ∧ o.cls = .type "list" ∧ o.dict = none ∧ o.data = .seq its n ∧ its.size ≤ sizeLine ∧ Vals xs its.toList
theorem Fro.sq {K : PySem.W.Frag} {φ : List Addr} {H : Hp} {a : Addr} {xs : List V} (h : Fro K φ H a xs) : SqL K H a xs := by
  rcases h with ⟨_, h⟩ | h
  · exact .inl (.inr h)
  · exact .inr h
/-- tuples of texts: the object has no dict -/
def isSt : D → Bool
  | .str _ => true
  | _ => false
def isTx (l : List D) : Bool := !l.isEmpty && l.all isSt
def txD : D → Bool
  | .tup l => isTx l
  | _ => false
def NoD (H : Hp) (a : Addr) : Prop := ∃ o xs, H a = some (.frz o (.tup xs)) ∧ o.dict = none
mutual
def Rep (K : PySem.W.Frag) (φ : List Addr) (H : Hp) : D → V → Prop
  | .non, v => v = .non
  | .bl b, v => v = .bl b
  | .int i, v => v = .int i
  | .str x, v => v = .str x
  | .ref n, v => ∃ a, φ[n]? = some a ∧ v = .ref a
  | .tup l, v => ∃ a vs, v = .ref a ∧ SqT K H a vs ∧ RepL K φ H l vs ∧ (isTx l = true → NoD H a)
  | .scr ns, v => ∃ a, v = .ref a ∧ Fro K φ H a (ns.map V.int)
  | .pl l, v => ∃ a vs, v = .ref a ∧ Pul φ H a vs ∧ RepL K φ H l vs
def RepL (K : PySem.W.Frag) (φ : List Addr) (H : Hp) : List D → List V → Prop
  | [], vs => vs = []
  | d :: ds, vs => ∃ v r, vs = v :: r ∧ Rep K φ H d v ∧ RepL K φ H ds r
end

/-- pairs of a dict, fields of an instance -/
def RepKV {κ : Type} (K : PySem.W.Frag) (φ : List Addr) (H : Hp) : List (κ × D) → List (κ × V) → Prop
  | [], vs => vs = []
  | d :: ds, vs => ∃ v r, vs = (d.1, v) :: r ∧ Rep K φ H d.2 v ∧ RepKV K φ H ds r

/-- what is known around: the classes' addresses -/
structure Cl where
  cl : Nat → Addr

def RepO (K : PySem.W.Frag) (c : Cl) (φ : List Addr) (H : Hp) (a : Addr) : O → Prop
  | .lst fz l => ∃ vs, RepL K φ H l vs ∧ if fz = true then ∃ ob, H a = some (.frz ob (.lst vs)) else H a = some (.lst vs)
  | .dct fz l => ∃ vs, RepKV K φ H l vs ∧ if fz = true then ∃ ob, H a = some (.frz ob (.dK vs)) else H a = some (.dK vs)
  | .ins k fs => ∃ dx vs, RepKV K φ H fs vs ∧ H a = some (.ins (c.cl k) dx vs)

structure Rel (K : PySem.W.Frag) (c : Cl) (φ : List Addr) (S : Sto) (H : Hp) : Prop where
  len : φ.length = S.length
  nd : φ.Nodup
  obj : ∀ (n : Nat) a o, φ[n]? = some a → S[n]? = some o → RepO K c φ H a o

structure Ext (φ : List Addr) (H : Hp) (φ' : List Addr) (H' : Hp) : Prop where
  more : ∃ ψ, φ' = φ ++ ψ ∧ ∀ a ∈ ψ, H a = none
  nd : φ'.Nodup
  keep : ∀ a o, H a = some o → a ∉ φ → H' a = some o
  frz : ∀ a ob u, H a = some (.frz ob u) → H' a = some (.frz ob u)

def FrRel (K : PySem.W.Frag) (φ : List Addr) (H : Hp) (σ : L2.St) (ρ : Fr) : Prop :=
  ρ.length = σ.length ∧ ∀ (i : Nat) d, ρ[i]? = some (some d) → ∃ v, σ[i]? = some (some v) ∧ Rep K φ H d v

section
variable {K : PySem.W.Frag} {c : Cl} {φ φ' φ1 φ2 : List Addr} {H H' H1 H2 : Hp} {S S' : Sto}

theorem Ext.refl (nd : φ.Nodup) : Ext φ H φ H := ⟨⟨[], by simp, by simp⟩, nd, fun _ _ h _ => h, fun _ _ _ h => h⟩
theorem Ext.notin (e : Ext φ H φ' H') {a : Addr} {o : HO} (h : H a = some o) (n : a ∉ φ) : a ∉ φ' := by
  obtain ⟨ψ, rfl, hψ⟩ := e.more
  intro q
  rcases List.mem_append.mp q with q | q
  · exact n q
  · rw [hψ a q] at h; cases h
theorem Ext.trans (e : Ext φ H φ1 H1) (f : Ext φ1 H1 φ2 H2) : Ext φ H φ2 H2 := by
  refine ⟨?_, f.nd, fun a o h n => f.keep a o (e.keep a o h n) (e.notin h n), fun a ob u h => f.frz a ob u (e.frz a ob u h)⟩
  obtain ⟨ψ, e1, hψ⟩ := e.more
  obtain ⟨χ, e2, hχ⟩ := f.more
  refine ⟨ψ ++ χ, by rw [e2, e1, List.append_assoc], fun a ha => ?_⟩
  rcases List.mem_append.mp ha with q | q
  · exact hψ a q
  · cases h : H a with
    | none => rfl
    | some o =>
      by_cases n : a ∈ φ
      · have nd := f.nd
        rw [e2, e1, List.append_assoc] at nd
        exact absurd rfl ((List.nodup_append.mp nd).2.2 a n a (List.mem_append_right _ q))
      · have := hχ a q
        rw [e.keep a o h n] at this
        cases this
theorem Ext.ix (e : Ext φ H φ' H') {n : Nat} {a : Addr} (h : φ[n]? = some a) : φ'[n]? = some a := by
  obtain ⟨ψ, rfl, _⟩ := e.more
  rw [List.getElem?_append_left (List.getElem?_eq_some_iff.mp h).1]
  exact h
theorem Rel.there (r : Rel K c φ S H) {a : Addr} (h : a ∈ φ) : ∃ (n : Nat) (o : O), φ[n]? = some a ∧ S[n]? = some o ∧ RepO K c φ H a o := by
  obtain ⟨n, hn, e⟩ := List.getElem_of_mem h
  have h1 : φ[n]? = some a := by rw [List.getElem?_eq_getElem hn, e]
  have h2 : n < S.length := by rw [← r.len]; exact hn
  have h3 : S[n]? = some S[n] := List.getElem?_eq_getElem h2
  exact ⟨n, _, h1, h3, r.obj n a _ h1 h3⟩
theorem RepO.some (r : RepO K c φ H a o) : ∃ u, H a = some u ∧ (∀ xs, u ≠ .tup xs) ∧ ∀ ob xs, u ≠ .frz ob (.tup xs) := by
  cases o with
  | lst fz l =>
    obtain ⟨vs, _, h⟩ := r
    split at h
    · obtain ⟨ob, h⟩ := h
      exact ⟨_, h, fun _ q => (nomatch q), fun _ _ q => (nomatch q)⟩
    · exact ⟨_, h, fun _ q => (nomatch q), fun _ _ q => (nomatch q)⟩
  | dct fz l =>
    obtain ⟨vs, _, h⟩ := r
    split at h
    · obtain ⟨ob, h⟩ := h
      exact ⟨_, h, fun _ q => (nomatch q), fun _ _ q => (nomatch q)⟩
    · exact ⟨_, h, fun _ q => (nomatch q), fun _ _ q => (nomatch q)⟩
  | ins k fs =>
    obtain ⟨dx, vs, _, h⟩ := r
    exact ⟨_, h, fun _ q => (nomatch q), fun _ _ q => (nomatch q)⟩
theorem Rel.tupNot (r : Rel K c φ S H) {a : Addr} {xs : List V} (h : Rd H a (.tup xs)) : a ∉ φ := fun q => by
  obtain ⟨n, o, _, _, ro⟩ := r.there q
  obtain ⟨u, hu, n1, n2⟩ := ro.some
  rcases h with h | ⟨ob, h⟩
  · rw [h] at hu; exact n1 _ (Option.some.inj hu).symm
  · rw [h] at hu; exact n2 _ _ (Option.some.inj hu).symm
theorem Rel.free (r : Rel K c φ S H) {a : Addr} (h : H a = none) : a ∉ φ := fun q => by
  obtain ⟨n, o, _, _, ro⟩ := r.there q
  obtain ⟨u, hu, _⟩ := ro.some
  rw [h] at hu; cases hu
theorem Ext.tup (e : Ext φ H φ' H') (r : Rel K c φ S H) {a : Addr} {xs : List V} (h : SqT K H a xs) : SqT K H' a xs := by
  rcases h with h | h
  · have n := r.tupNot h
    rcases h with h | ⟨ob, h⟩
    · exact .inl (.inl (e.keep _ _ h n))
    · exact .inl (.inr ⟨ob, e.keep _ _ h n⟩)
  · exact .inr h
/-- heaps in which all tuples stay, addresses stay -/
structure Stays (K : PySem.W.Frag) (φ : List Addr) (H : Hp) (φ' : List Addr) (H' : Hp) : Prop where
  ix : ∀ (n : Nat) a, φ[n]? = some a → φ'[n]? = some a
  tup : ∀ a xs, SqT K H a xs → SqT K H' a xs
  pul : ∀ a xs, Pul φ H a xs → Pul φ' H' a xs
  nod : ∀ a, NoD H a → NoD H' a
theorem Stays.fro (st : Stays K φ H φ' H') (a : Addr) (xs : List V) (h : Fro K φ H a xs) : Fro K φ' H' a xs := by
  rcases h with h | h
  · exact .inl (st.pul a xs h)
  · exact .inr h
theorem Ext.stays (e : Ext φ H φ' H') (r : Rel K c φ S H) : Stays K φ H φ' H' := ⟨fun _ _ h => e.ix h, fun _ _ h => e.tup r h, fun a xs h => by
  obtain ⟨n, o, h⟩ := h
  exact ⟨e.notin h n, o, e.keep _ _ h n⟩, fun a h => by
  obtain ⟨o, xs, h, hd⟩ := h
  exact ⟨o, xs, e.frz _ _ _ h, hd⟩⟩
mutual
theorem Rep.stay (e : Stays K φ H φ' H') : ∀ (d : D) (v : V), Rep K φ H d v → Rep K φ' H' d v
  | .non, _, h => h
  | .bl _, _, h => h
  | .int _, _, h => h
  | .str _, _, h => h
  | .ref n, v, h => by
    unfold Rep at h ⊢
    obtain ⟨a, h1, h2⟩ := h
    exact ⟨a, e.ix _ _ h1, h2⟩
  | .tup l, v, h => by
    unfold Rep at h ⊢
    obtain ⟨a, vs, h1, h2, h3, h4⟩ := h
    exact ⟨a, vs, h1, e.tup _ _ h2, RepL.stay e l vs h3, fun q => e.nod _ (h4 q)⟩
  | .scr ns, v, h => by
    unfold Rep at h ⊢
    obtain ⟨a, h1, h2⟩ := h
    exact ⟨a, h1, e.fro _ _ h2⟩
  | .pl l, v, h => by
    unfold Rep at h ⊢
    obtain ⟨a, vs, h1, h2, h3⟩ := h
    exact ⟨a, vs, h1, e.pul _ _ h2, RepL.stay e l vs h3⟩
theorem RepL.stay (e : Stays K φ H φ' H') : ∀ (d : List D) (v : List V), RepL K φ H d v → RepL K φ' H' d v
  | [], _, h => h
  | d :: ds, vs, h => by
    unfold RepL at h ⊢
    obtain ⟨v, r, h1, h2, h3⟩ := h
    exact ⟨v, r, h1, Rep.stay e d v h2, RepL.stay e ds r h3⟩
end
theorem RepKV.stay {κ : Type} (e : Stays K φ H φ' H') : ∀ (d : List (κ × D)) (v : List (κ × V)), RepKV K φ H d v → RepKV K φ' H' d v
  | [], _, h => h
  | d :: ds, vs, h => by
    unfold RepKV at h ⊢
    obtain ⟨v, r, h1, h2, h3⟩ := h
    exact ⟨v, r, h1, Rep.stay e d.2 v h2, RepKV.stay e ds r h3⟩
theorem FrRel.stay {σ : L2.St} {ρ : Fr} (e : Stays K φ H φ' H') (f : FrRel K φ H σ ρ) : FrRel K φ' H' σ ρ := ⟨f.1, fun i d h => by
  obtain ⟨v, h1, h2⟩ := f.2 i d h
  exact ⟨v, h1, h2.stay e⟩⟩
end

def PostW {α : Type} (K : PySem.W.Frag) (c : Cl) (W : WX) (σ : L2.St) (φ : List Addr) (H : Hp) (good : α → Sto → List Addr → Hp → Prop) : R α → Prop
  | .ok d S' => ∀ φ' H', Ext φ H φ' H' → Rel K c φ' S' H' → good d S' φ' H'
  | .ex k S' => ∀ φ' H', Ext φ H φ' H' → Rel K c φ' S' H' → W (.ref (c.cl k)) none σ H'
  | .no => False
section
variable {K : PySem.W.Frag} {c : Cl} {W : WX} {σ : L2.St} {φ φ' φ1 : List Addr} {H H' H1 : Hp} {α β : Type} {good : α → Sto → List Addr → Hp → Prop} {good' : β → Sto → List Addr → Hp → Prop}
theorem PostW.from {r : R α} (e : Ext φ H φ1 H1) (h : PostW K c W σ φ H good r) : PostW K c W σ φ1 H1 good r := by
  cases r with
  | ok d S' => exact fun φ' H' e' r' => h φ' H' (e.trans e') r'
  | ex k S' => exact fun φ' H' e' r' => h φ' H' (e.trans e') r'
  | no => exact h
theorem PostW.elim {r : R β} {f : β → Sto → R α} (h : PostW K c W σ φ H good (r.bind f))
    (k : ∀ a S1 φ1 H1, Ext φ H φ1 H1 → Rel K c φ1 S1 H1 → PostW K c W σ φ1 H1 good (f a S1) → good' a S1 φ1 H1) : PostW K c W σ φ H good' r := by
  cases r with
  | ok d S' => exact fun φ1 H1 e1 r1 => k d S' φ1 H1 e1 r1 (PostW.from e1 h)
  | ex k S' => exact h
  | no => exact h
theorem PostW.here {a : α} {S : Sto} (r : Rel K c φ S H) (h : PostW K c W σ φ H good (.ok a S)) : good a S φ H := h φ H (Ext.refl r.nd) r
theorem PostW.imp {r : R α} {good2 : α → Sto → List Addr → Hp → Prop} (h : PostW K c W σ φ H good r) (k : ∀ a S φ' H', good a S φ' H' → good2 a S φ' H') : PostW K c W σ φ H good2 r := by
  cases r with
  | ok d S' => exact fun φ' H' e' r' => k _ _ _ _ (h φ' H' e' r')
  | ex k S' => exact h
  | no => exact h
end

/-- a value, a test, arguments, a list to be read, a new list -/
abbrev gE (K : PySem.W.Frag) (Q : VK) : D → Sto → List Addr → Hp → Prop := fun d _ φ H => ∀ v, Rep K φ H d v → Q v H
abbrev gT (Q : Bool → Hp → Prop) : Bool → Sto → List Addr → Hp → Prop := fun b _ _ H => Q b H
abbrev gA (K : PySem.W.Frag) (Q : List V → Hp → Prop) : List D → Sto → List Addr → Hp → Prop := fun ds _ φ H => ∀ vs, RepL K φ H ds vs → Q vs H
abbrev gL (K : PySem.W.Frag) (Q : VK) : List D → Sto → List Addr → Hp → Prop := fun ds _ φ H => ∀ a vs, SqL K H a vs → RepL K φ H ds vs → Q (.ref a) H
abbrev gN (K : PySem.W.Frag) (H0 : Hp) (Q : VK) : List D → Sto → List Addr → Hp → Prop := fun ds _ φ H => ∀ a vs, H0 a = none → H a = some (.lst vs) → a ∉ φ → RepL K φ H ds vs → Q (.ref a) H

def DE (X : Cx) (c : Cl) (W : WX) (e : Expr) (m : ME) : Prop :=
  ∃ t, PE X e t ∧ ∀ φ σ H ρ S Q, Rel X.K c φ S H → FrRel X.K φ H σ ρ → PostW X.K c W σ φ H (gE X.K Q) (m ρ S) → t σ H Q
def DT (X : Cx) (c : Cl) (W : WX) (e : Expr) (m : MT) : Prop :=
  ∃ t, PT X e t ∧ ∀ φ σ H ρ S Q, Rel X.K c φ S H → FrRel X.K φ H σ ρ → PostW X.K c W σ φ H (gT Q) (m ρ S) → t σ H Q
/-- and, or as tests -/
def DW (X : Cx) (c : Cl) (W : WX) (e : Expr) (m : MT) : Prop :=
  ∃ t, PW X e t ∧ ∀ φ σ H ρ S Q, Rel X.K c φ S H → FrRel X.K φ H σ ρ → PostW X.K c W σ φ H (gT Q) (m ρ S) → t σ H Q
def DA (X : Cx) (c : Cl) (W : WX) (es : List Expr) (m : ML) : Prop :=
  ∃ t, PA X es t ∧ ∀ φ σ H ρ S Q, Rel X.K c φ S H → FrRel X.K φ H σ ρ → PostW X.K c W σ φ H (gA X.K Q) (m ρ S) → t σ H Q
def DL (X : Cx) (c : Cl) (W : WX) (e : Expr) (m : ML) : Prop :=
  ∃ t, PE X e t ∧ ∀ φ σ H ρ S Q, Rel X.K c φ S H → FrRel X.K φ H σ ρ → PostW X.K c W σ φ H (gL X.K Q) (m ρ S) → t σ H Q
def DN (X : Cx) (c : Cl) (W : WX) (e : Expr) (m : ML) : Prop :=
  ∃ t, PE X e t ∧ ∀ φ σ H ρ S Q, Rel X.K c φ S H → FrRel X.K φ H σ ρ → PostW X.K c W σ φ H (gN X.K H Q) (m ρ S) → t σ H Q

def eVar (i : Nat) : ME := fun ρ S => match ρ[i]? with
  | some (some d) => .ok d S
  | _ => .no
def eC (d : D) : ME := fun _ S => .ok d S
section
variable {X : Cx} {c : Cl} {W : WX}
theorem de_var {i : Nat} {x : Str} {pos : Pos} (h : PE X (.Name x pos) (tVar i)) : DE X c W (.Name x pos) (eVar i) := by
  refine ⟨_, h, fun φ σ H ρ S Q r f p => ?_⟩
  unfold eVar at p
  split at p
  · rename_i d e
    obtain ⟨v, h1, h2⟩ := f.2 i d e
    exact ⟨v, h1, PostW.here r p v h2⟩
  · exact False.elim p
/-- a constant without an address -/
theorem de_c {e : Expr} {v : V} {d : D} (h : PE X e (tC v)) (hv : ∀ φ H, Rep X.K φ H d v) : DE X c W e (eC d) :=
  ⟨_, h, fun φ σ H ρ S Q r f p => PostW.here r p v (hv φ H)⟩
theorem de_int {i j pos} : DE X c W (.Constant (.int i) j pos) (eC (.int i)) := de_c pe_int fun _ _ => by unfold Rep; rfl
theorem de_bl {i j pos} : DE X c W (.Constant (.bool i) j pos) (eC (.bl i)) := de_c pe_bl fun _ _ => by unfold Rep; rfl
theorem de_str {i j pos} : DE X c W (.Constant (.str i) j pos) (eC (.str i)) := de_c pe_str fun _ _ => by unfold Rep; rfl
theorem de_non {j pos} : DE X c W (.Constant .none j pos) (eC .non) := de_c pe_non fun _ _ => by unfold Rep; rfl
end

/-- rules that may lock what is new -/
theorem PostW.frz {K : PySem.W.Frag} {c : Cl} {W : WX} {σ : L2.St} {φ : List Addr} {H : Hp} {Q : VK} {r : R D} (h : PostW K c W σ φ H (gE K Q) r) : PostW K c W σ φ H (gE K fun v H' => FrzTo H' (Q v)) r :=
  h.imp fun _ _ _ _ g v hv => FrzTo.nil (g v hv)
abbrev F1 := D → Sto → R D
abbrev F2 := D → D → Sto → R D
def eUn (f : F1) (a : ME) : ME := fun ρ S => (a ρ S).bind f
def eBin (f : F2) (a b : ME) : ME := fun ρ S => (a ρ S).bind fun x S1 => (b ρ S1).bind fun y S2 => f x y S2
/-- f is what the rule r says -/
def Fits2 (K : PySem.W.Frag) (c : Cl) (r : R2) (f : F2) : Prop := ∀ W σ φ H S x y dx dy Q, Rel K c φ S H → Rep K φ H dx x → Rep K φ H dy y → PostW K c W σ φ H (gE K Q) (f dx dy S) → r x y H Q
/-- the same, with locking -/
def Fits2F (K : PySem.W.Frag) (c : Cl) (r : R2) (f : F2) : Prop := ∀ W σ φ H S x y dx dy Q, Rel K c φ S H → Rep K φ H dx x → Rep K φ H dy y → PostW K c W σ φ H (gE K Q) (f dx dy S) → r x y H (fun v H' => FrzTo H' (Q v))
theorem Fits2.frz {K : PySem.W.Frag} {c : Cl} {r : R2} {f : F2} (h : Fits2 K c r f) : Fits2F K c r f := fun W σ φ H S x y dx dy Q r hx hy p => h W σ φ H S x y dx dy _ r hx hy p.frz
section
variable {X : Cx} {c : Cl} {W : WX} {a b : Expr} {ma mb : ME} {pos : Pos}
theorem de_binF {op : Operator} {r : R2} {f : F2} (ho : OpR X (binaryOp op) r) (hf : Fits2F X.K c r f) (ha : DE X c W a ma) (hb : DE X c W b mb) : DE X c W (.BinOp a op b pos) (eBin f ma mb) := by
  obtain ⟨ta, pa, ha⟩ := ha
  obtain ⟨tb, pb, hb⟩ := hb
  refine ⟨_, pe_frz (pe_op ho pa pb), fun φ σ H ρ S Q r f p => ?_⟩
  refine ha φ σ H ρ S _ r f (PostW.elim p fun d S1 φ1 H1 e1 r1 p1 => fun x hx => ?_)
  refine hb φ1 σ H1 ρ S1 _ r1 (f.stay (e1.stays r)) (PostW.elim p1 fun d2 S2 φ2 H2 e2 r2 p2 => fun y hy => ?_)
  exact hf W σ φ2 H2 S2 x y _ _ Q r2 (hx.stay (e2.stays r1)) hy p2
theorem de_bin {op : Operator} {r : R2} {f : F2} (ho : OpR X (binaryOp op) r) (hf : Fits2 X.K c r f) (ha : DE X c W a ma) (hb : DE X c W b mb) : DE X c W (.BinOp a op b pos) (eBin f ma mb) := by
  obtain ⟨ta, pa, ha⟩ := ha
  obtain ⟨tb, pb, hb⟩ := hb
  refine ⟨_, pe_op ho pa pb, fun φ σ H ρ S Q r f p => ?_⟩
  refine ha φ σ H ρ S _ r f (PostW.elim p fun d S1 φ1 H1 e1 r1 p1 => fun x hx => ?_)
  refine hb φ1 σ H1 ρ S1 _ r1 (f.stay (e1.stays r)) (PostW.elim p1 fun d2 S2 φ2 H2 e2 r2 p2 => fun y hy => ?_)
  exact hf W σ φ2 H2 S2 x y _ _ Q r2 (hx.stay (e2.stays r1)) hy p2
end
end MM

namespace MM
open PySem PySem.Spec PyProof.Rows L2
section
variable {K : PySem.W.Frag} {c : Cl} {φ φ' φ1 φ2 : List Addr} {H H' H1 H2 : Hp} {S S' : Sto} {a p : Addr} {o : O} {u : HO}
theorem RepO.stay (e : Stays K φ H φ' H') (h : H' a = H a) (r : RepO K c φ H a o) : RepO K c φ' H' a o := by
  cases o with
  | lst fz l =>
    obtain ⟨vs, h1, h2⟩ := r
    refine ⟨vs, h1.stay e, ?_⟩
    rw [h]; exact h2
  | dct fz l =>
    obtain ⟨vs, h1, h2⟩ := r
    refine ⟨vs, h1.stay e, ?_⟩
    rw [h]; exact h2
  | ins k fs =>
    obtain ⟨dx, vs, h1, h2⟩ := r
    refine ⟨dx, vs, h1.stay e, ?_⟩
    rw [h]; exact h2
theorem stays_free (h : H p = none) : Stays K φ H φ (upd H p u) := ⟨fun _ _ q => q, fun a xs q => by
  rcases q with (q | ⟨ob, q⟩) | q
  · exact .inl (.inl (by rw [upd_ne (ne_of_none q h)]; exact q))
  · exact .inl (.inr ⟨ob, by rw [upd_ne (ne_of_none q h)]; exact q⟩)
  · exact .inr q, fun a xs q => by
  obtain ⟨n, o, q⟩ := q
  exact ⟨n, o, by rw [upd_ne (ne_of_none q h)]; exact q⟩, fun a q => by
  obtain ⟨o, xs, q, hd⟩ := q
  exact ⟨o, xs, by rw [upd_ne (ne_of_none q h)]; exact q, hd⟩⟩
theorem stays_snoc (h : H p = none) : Stays K φ H (φ ++ [p]) (upd H p u) := ⟨fun n x q => by rw [List.getElem?_append_left (List.getElem?_eq_some_iff.mp q).1]; exact q, (stays_free (φ := φ) h).tup, fun a xs q => by
  obtain ⟨n, o, q⟩ := q
  have z := ne_of_none q h
  exact ⟨fun m => (List.mem_append.mp m).elim n (fun m => z (by simpa using m)), o, by rw [upd_ne z]; exact q⟩, (stays_free (K := K) (φ := φ) h).nod⟩
/-- a new object that the store does not know -/
theorem Rel.fresh (r : Rel K c φ S H) (h : H p = none) : Ext φ H φ (upd H p u) ∧ Rel K c φ S (upd H p u) := by
  refine ⟨⟨⟨[], by simp, by simp⟩, r.nd, fun a o e _ => by rw [upd_ne (ne_of_none e h)]; exact e, fun a ob u e => by rw [upd_ne (ne_of_none e h)]; exact e⟩, r.len, r.nd, fun n a o h1 h2 => ?_⟩
  refine (r.obj n a o h1 h2).stay (stays_free h) (upd_ne ?_)
  obtain ⟨w, hw, _⟩ := (r.obj n a o h1 h2).some
  exact ne_of_none hw h
theorem Ext.fresh (nd : φ.Nodup) (h : H p = none) : Ext φ H φ (upd H p u) :=
  ⟨⟨[], by simp, by simp⟩, nd, fun a o e _ => by rw [upd_ne (ne_of_none e h)]; exact e, fun a ob u e => by rw [upd_ne (ne_of_none e h)]; exact e⟩
/-- a new object of the store -/
theorem Rel.alloc (r : Rel K c φ S H) (h : H p = none) (ho : RepO K c (φ ++ [p]) (upd H p u) p o) : Ext φ H (φ ++ [p]) (upd H p u) ∧ Rel K c (φ ++ [p]) (S ++ [o]) (upd H p u) := by
  have np : p ∉ φ := r.free h
  have nd : (φ ++ [p]).Nodup := by
    rw [List.nodup_append]
    refine ⟨r.nd, by simp, fun x hx y hy e => ?_⟩
    simp at hy
    subst hy e
    exact np hx
  have st : Stays K φ H (φ ++ [p]) (upd H p u) := stays_snoc h
  refine ⟨⟨⟨[p], rfl, fun x hx => by simp at hx; rw [hx]; exact h⟩, nd, fun a o e _ => by rw [upd_ne (ne_of_none e h)]; exact e, fun a ob u e => by rw [upd_ne (ne_of_none e h)]; exact e⟩, by simp [r.len], nd, fun n a o' h1 h2 => ?_⟩
  by_cases hn : n < φ.length
  · rw [List.getElem?_append_left hn] at h1
    rw [List.getElem?_append_left (by rw [← r.len]; exact hn)] at h2
    have q := r.obj n a o' h1 h2
    refine q.stay st (upd_ne ?_)
    obtain ⟨w, hw, _⟩ := q.some
    exact ne_of_none hw h
  · have e : n = φ.length := by
      have := (List.getElem?_eq_some_iff.mp h1).1
      simp at this
      omega
    subst e
    have e1 : p = a := by simpa using h1
    have e2 : o = o' := by
      rw [r.len] at h2
      simpa using h2
    subst e1 e2
    exact ho
theorem stays_write (r : Rel K c φ S H) {n : Nat} (h1 : φ[n]? = some a) : Stays K φ H φ (upd H a u) := by
  refine ⟨fun _ _ q => q, fun b xs q => ?_, fun b xs q => ?_, fun b q => ?_⟩
  rotate_left
  · obtain ⟨n, o, q⟩ := q
    exact ⟨n, o, by rw [upd_ne (fun e => n (by rw [e]; exact List.mem_of_getElem? h1))]; exact q⟩
  · obtain ⟨o, xs, q, hd⟩ := q
    have nb : b ≠ a := fun e => r.tupNot (.inr ⟨o, q⟩) (by rw [e]; exact List.mem_of_getElem? h1)
    exact ⟨o, xs, by rw [upd_ne nb]; exact q, hd⟩
  rcases q with q | q
  · have nb : b ≠ a := fun e => r.tupNot q (by rw [e]; exact List.mem_of_getElem? h1)
    rcases q with q | ⟨ob, q⟩
    · exact .inl (.inl (by rw [upd_ne nb]; exact q))
    · exact .inl (.inr ⟨ob, by rw [upd_ne nb]; exact q⟩)
  · exact .inr q
theorem nodup_ne {l : List Addr} (nd : l.Nodup) {n m : Nat} {a b : Addr} (h1 : l[n]? = some a) (h2 : l[m]? = some b) (h : n ≠ m) : b ≠ a := by
  intro e
  subst e
  obtain ⟨i1, e1⟩ := List.getElem?_eq_some_iff.mp h1
  obtain ⟨i2, e2⟩ := List.getElem?_eq_some_iff.mp h2
  exact h ((List.getElem_inj nd).mp (e1.trans e2.symm))
/-- an object of the store is changed -/
theorem Rel.write (r : Rel K c φ S H) {n : Nat} (h1 : φ[n]? = some a) (ho : RepO K c φ (upd H a u) a o) (hz : ∀ ob w, H a ≠ some (.frz ob w)) : Ext φ H φ (upd H a u) ∧ Rel K c φ (S.set n o) (upd H a u) := by
  refine ⟨⟨⟨[], by simp, by simp⟩, r.nd, fun b w e nb => by rw [upd_ne (fun q => nb (by rw [q]; exact List.mem_of_getElem? h1))]; exact e, fun b ob w e => by rw [upd_ne (fun q => hz ob w (by rw [← q]; exact e))]; exact e⟩, by simp [r.len], r.nd, fun m b o' h2 h3 => ?_⟩
  by_cases hm : n = m
  · subst hm
    rw [h1] at h2
    cases h2
    rw [List.getElem?_set_self (by rw [← r.len]; exact (List.getElem?_eq_some_iff.mp h1).1)] at h3
    cases h3
    exact ho
  · rw [List.getElem?_set_ne hm] at h3
    exact (r.obj m b o' h2 h3).stay (stays_write r h1) (upd_ne (nodup_ne r.nd h1 h2 hm))
theorem Ext.back (e : Ext φ H φ' H') (r : Rel K c φ' S' H') (h : H' p = none) : H p = none := by
  cases q : H p with
  | none => rfl
  | some o =>
    by_cases n : p ∈ φ
    · obtain ⟨ψ, e1, _⟩ := e.more
      exact absurd (by rw [e1]; exact List.mem_append_left _ n) (r.free h)
    · rw [e.keep p o q n] at h
      cases h
theorem RepL.length : ∀ {ds : List D} {vs : List V}, RepL K φ H ds vs → ds.length = vs.length
  | [], vs, h => by unfold RepL at h; subst h; rfl
  | d :: ds, vs, h => by
    unfold RepL at h
    obtain ⟨v, r, rfl, _, h3⟩ := h
    simp [RepL.length h3]
theorem RepL.append : ∀ {ds es : List D} {vs us : List V}, RepL K φ H ds vs → RepL K φ H es us → RepL K φ H (ds ++ es) (vs ++ us)
  | [], es, vs, us, h, g => by unfold RepL at h; subst h; exact g
  | d :: ds, es, vs, us, h, g => by
    unfold RepL at h
    obtain ⟨v, r, rfl, h2, h3⟩ := h
    show RepL K φ H (d :: (ds ++ es)) _
    unfold RepL
    exact ⟨v, r ++ us, rfl, h2, RepL.append h3 g⟩
theorem RepL.nil : RepL K φ H [] [] := by unfold RepL; rfl
theorem RepL.cons {d : D} {ds : List D} {v : V} {vs : List V} (h : Rep K φ H d v) (g : RepL K φ H ds vs) : RepL K φ H (d :: ds) (v :: vs) := by
  unfold RepL
  exact ⟨v, vs, rfl, h, g⟩
theorem RepL.uncons {d : D} {ds : List D} {vs : List V} (h : RepL K φ H (d :: ds) vs) : ∃ v r, vs = v :: r ∧ Rep K φ H d v ∧ RepL K φ H ds r := by
  unfold RepL at h
  exact h
theorem RepL.isNil {vs : List V} (h : RepL K φ H [] vs) : vs = [] := by
  unfold RepL at h
  exact h
theorem RepL.get : ∀ {ds : List D} {vs : List V} {i : Nat} {d : D}, RepL K φ H ds vs → ds[i]? = some d → ∃ v, vs[i]? = some v ∧ Rep K φ H d v
  | [], _, _, _, _, e => by simp at e
  | d :: ds, vs, 0, d', h, e => by
    obtain ⟨v, r, rfl, h2, h3⟩ := h.uncons
    simp at e
    subst e
    exact ⟨v, rfl, h2⟩
  | d :: ds, vs, i + 1, d', h, e => by
    obtain ⟨v, r, rfl, h2, h3⟩ := h.uncons
    simpa using RepL.get h3 (by simpa using e)
theorem RepL.take : ∀ {ds : List D} {vs : List V} (i : Nat), RepL K φ H ds vs → RepL K φ H (ds.take i) (vs.take i)
  | ds, vs, 0, h => by simp; exact RepL.nil
  | [], vs, i + 1, h => by rw [h.isNil]; simp; exact RepL.nil
  | d :: ds, vs, i + 1, h => by
    obtain ⟨v, r, rfl, h2, h3⟩ := h.uncons
    simp
    exact RepL.cons h2 (RepL.take i h3)
theorem RepL.drop : ∀ {ds : List D} {vs : List V} (i : Nat), RepL K φ H ds vs → RepL K φ H (ds.drop i) (vs.drop i)
  | ds, vs, 0, h => by simpa using h
  | [], vs, i + 1, h => by rw [h.isNil]; simp; exact RepL.nil
  | d :: ds, vs, i + 1, h => by
    obtain ⟨v, r, rfl, h2, h3⟩ := h.uncons
    simp
    exact RepL.drop i h3
theorem RepL.set : ∀ {ds : List D} {vs : List V} {d : D} {v : V} (i : Nat), RepL K φ H ds vs → Rep K φ H d v → RepL K φ H (ds.set i d) (vs.set i v)
  | [], vs, d, v, i, h, g => by rw [h.isNil]; simp; exact RepL.nil
  | d :: ds, vs, d', v', 0, h, g => by
    obtain ⟨v, r, rfl, h2, h3⟩ := h.uncons
    simp
    exact RepL.cons g h3
  | d :: ds, vs, d', v', i + 1, h, g => by
    obtain ⟨v, r, rfl, h2, h3⟩ := h.uncons
    simp
    exact RepL.cons h2 (RepL.set i h3 g)
theorem RepL.flatRep {ds : List D} {vs : List V} (h : RepL K φ H ds vs) : ∀ n : Nat, RepL K φ H (List.replicate n ds).flatten (List.replicate n vs).flatten
  | 0 => by simp; exact RepL.nil
  | n + 1 => by
    rw [List.replicate_succ, List.replicate_succ, List.flatten_cons, List.flatten_cons]
    exact RepL.append h (RepL.flatRep h n)
theorem Rep.int_ {i : Int} {v : V} (h : Rep K φ H (.int i) v) : v = .int i := by unfold Rep at h; exact h
theorem Rep.bl_ {i : Bool} {v : V} (h : Rep K φ H (.bl i) v) : v = .bl i := by unfold Rep at h; exact h
theorem Rep.str_ {i : Str} {v : V} (h : Rep K φ H (.str i) v) : v = .str i := by unfold Rep at h; exact h
theorem Rep.non_ {v : V} (h : Rep K φ H .non v) : v = .non := by unfold Rep at h; exact h
theorem Rep.tup_ {l : List D} {v : V} (h : Rep K φ H (.tup l) v) : ∃ a vs, v = .ref a ∧ SqT K H a vs ∧ RepL K φ H l vs := by
  unfold Rep at h
  obtain ⟨a, vs, h1, h2, h3, _⟩ := h
  exact ⟨a, vs, h1, h2, h3⟩
theorem Rep.nod {l : List D} {a : Addr} (h : Rep K φ H (.tup l) (.ref a)) : isTx l = true → NoD H a := by
  unfold Rep at h
  obtain ⟨b, vs, h1, h2, h3, h4⟩ := h
  cases h1
  exact h4
theorem Rep.ref_ {n : Nat} {v : V} (h : Rep K φ H (.ref n) v) : ∃ a, φ[n]? = some a ∧ v = .ref a := by unfold Rep at h; exact h
theorem Rep.scr_ {l : List Int} {v : V} (h : Rep K φ H (.scr l) v) : ∃ a, v = .ref a ∧ Fro K φ H a (l.map V.int) := by unfold Rep at h; exact h
theorem Rep.pl_ {l : List D} {v : V} (h : Rep K φ H (.pl l) v) : ∃ a vs, v = .ref a ∧ Pul φ H a vs ∧ RepL K φ H l vs := by unfold Rep at h; exact h
theorem rep_pl {l : List D} {vs : List V} {a : Addr} (h : Pul φ H a vs) (g : RepL K φ H l vs) : Rep K φ H (.pl l) (.ref a) := by unfold Rep; exact ⟨a, vs, rfl, h, g⟩
theorem rep_int {i : Int} : Rep K φ H (.int i) (.int i) := by unfold Rep; rfl
theorem rep_bl {i : Bool} : Rep K φ H (.bl i) (.bl i) := by unfold Rep; rfl
theorem rep_str {i : Str} : Rep K φ H (.str i) (.str i) := by unfold Rep; rfl
theorem rep_non : Rep K φ H .non .non := by unfold Rep; rfl
theorem rep_tup {l : List D} {vs : List V} {a : Addr} (h : SqT K H a vs) (g : RepL K φ H l vs) (n : isTx l = true → NoD H a) : Rep K φ H (.tup l) (.ref a) := by unfold Rep; exact ⟨a, vs, rfl, h, g, n⟩
theorem rep_ref {n : Nat} {a : Addr} (h : φ[n]? = some a) : Rep K φ H (.ref n) (.ref a) := by unfold Rep; exact ⟨a, h, rfl⟩
/-- a list of the store -/
theorem Rel.lst (r : Rel K c φ S H) {n : Nat} {l : List D} (h1 : φ[n]? = some a) {fz : Bool} (h2 : S[n]? = some (.lst fz l)) : ∃ vs, RepL K φ H l vs ∧ SqL K H a vs ∧ (fz = false → H a = some (.lst vs)) := by
  obtain ⟨vs, g, h⟩ := r.obj n a _ h1 h2
  refine ⟨vs, g, ?_, fun e => ?_⟩
  · split at h
    · exact .inl (.inr h)
    · exact .inl (.inl h)
  · subst e
    simpa using h
end

/-- a new tuple -/
theorem post_tup {K : PySem.W.Frag} {c : Cl} {W : WX} {σ : L2.St} {φ : List Addr} {H : Hp} {S : Sto} {Q : VK} {l : List D} {vs : List V} {p : Addr} (r : Rel K c φ S H) (g : RepL K φ H l vs) (hp : H p = none)
    (ob : Obj) (hob : ob.dict = none) (h : PostW K c W σ φ H (gE K Q) (.ok (.tup l) S)) : Q (.ref p) (upd H p (.frz ob (.tup vs))) := by
  obtain ⟨e, r'⟩ := r.fresh (u := .frz ob (.tup vs)) hp
  exact h φ _ e r' _ (rep_tup (.inl (.inr ⟨ob, upd_same⟩)) (g.stay (stays_free hp)) fun _ => ⟨ob, vs, upd_same, hob⟩)
/-- a new tuple that is none of texts -/
theorem post_tup0 {K : PySem.W.Frag} {c : Cl} {W : WX} {σ : L2.St} {φ : List Addr} {H : Hp} {S : Sto} {Q : VK} {l : List D} {vs : List V} {p : Addr} (r : Rel K c φ S H) (g : RepL K φ H l vs) (hp : H p = none) (hl : isTx l = false)
    (h : PostW K c W σ φ H (gE K Q) (.ok (.tup l) S)) : Q (.ref p) (upd H p (.tup vs)) := by
  obtain ⟨e, r'⟩ := r.fresh (u := .tup vs) hp
  exact h φ _ e r' _ (rep_tup (SqT.of upd_same) (g.stay (stays_free hp)) fun q => by rw [hl] at q; cases q)
theorem post_lst {K : PySem.W.Frag} {c : Cl} {W : WX} {σ : L2.St} {φ : List Addr} {H : Hp} {S : Sto} {Q : VK} {l : List D} {vs : List V} {p : Addr} (r : Rel K c φ S H) (g : RepL K φ H l vs) (hp : H p = none)
    (h : PostW K c W σ φ H (gE K Q) (.ok (.ref S.length) (S ++ [.lst false l]))) : Q (.ref p) (upd H p (.lst vs)) := by
  have st : Stays K φ H (φ ++ [p]) (upd H p (.lst vs)) := stays_snoc hp
  obtain ⟨e, r'⟩ := r.alloc (o := .lst false l) (u := .lst vs) hp ⟨vs, g.stay st, by simp [upd_same]⟩
  exact h _ _ e r' _ (rep_ref (by rw [← r.len]; simp))

/-- an object that the store does not know is locked -/
theorem Rel.lock {K : PySem.W.Frag} {c : Cl} {φ : List Addr} {S : Sto} {H : Hp} (r : Rel K c φ S H) {p : Addr} {vs : List V} {ob : Obj} (hp : H p = some (.lst vs)) (hn : p ∉ φ) : Rel K c φ S (upd H p (.frz ob (.lst vs))) ∧ Stays K φ H φ (upd H p (.frz ob (.lst vs))) := by
  have st : Stays K φ H φ (upd H p (.frz ob (.lst vs))) := ⟨fun _ _ q => q, fun b zs q => by
    rcases q with (q | ⟨o, q⟩) | q
    · exact .inl (.inl (by rw [upd_ne (fun e => by rw [e, hp] at q; cases q)]; exact q))
    · exact .inl (.inr ⟨o, by rw [upd_ne (fun e => by rw [e, hp] at q; cases q)]; exact q⟩)
    · exact .inr q, fun b zs q => by
    obtain ⟨n, o, q⟩ := q
    exact ⟨n, o, by rw [upd_ne (fun e => by rw [e, hp] at q; cases q)]; exact q⟩, fun b q => by
    obtain ⟨o, xs, q, hd⟩ := q
    exact ⟨o, xs, by rw [upd_ne (fun e => by rw [e, hp] at q; cases q)]; exact q, hd⟩⟩
  refine ⟨⟨r.len, r.nd, fun m b o h1 h2 => (r.obj m b o h1 h2).stay st (upd_ne fun e => hn (by rw [← e]; exact List.mem_of_getElem? h1))⟩, st⟩
theorem frzBy_one {H H' : Hp} {p : Addr} (h : FrzBy [p] H H') : ∃ ob vs, H p = some (.lst vs) ∧ H' = upd H p (.frz ob (.lst vs)) := by
  obtain ⟨ob, vs, h1, h2⟩ := h.2 p (by simp)
  refine ⟨ob, vs, h1, ?_⟩
  funext b
  by_cases e : b = p
  · subst e; rw [upd_same, h2]
  · rw [upd_ne e, h.1 b (by simpa using e)]
/-- a new list that is locked at once -/
theorem post_pl {K : PySem.W.Frag} {c : Cl} {W : WX} {σ : L2.St} {φ : List Addr} {H : Hp} {S : Sto} {Q : VK} {l : List D} {vs : List V} {p : Addr} (r : Rel K c φ S H) (g : RepL K φ H l vs) (hp : H p = none)
    (h : PostW K c W σ φ H (gE K Q) (.ok (.pl l) S)) : FrzTo (upd H p (.lst vs)) (Q (.ref p)) := by
  refine ⟨[p], fun a ha => by rw [List.mem_singleton.mp ha]; exact ⟨vs, upd_same⟩, fun H' f => ?_⟩
  obtain ⟨ob, vs', h1, rfl⟩ := frzBy_one f
  rw [upd_same] at h1
  cases h1
  rw [upd_upd]
  obtain ⟨e, r'⟩ := r.fresh (u := .frz ob (.lst vs)) hp
  exact h φ _ e r' _ (rep_pl ⟨r.free hp, ob, upd_same⟩ (g.stay (stays_free hp)))
/-- what stands in a list, of the store or locked -/
def lstOf (S : Sto) : D → Option (List D)
  | .pl l => some l
  | .ref n => match S[n]? with
    | some (.lst _ l) => some l
    | _ => none
  | _ => none
theorem lstOf_rd {K : PySem.W.Frag} {c : Cl} {φ : List Addr} {H : Hp} {S : Sto} {d : D} {v : V} {l : List D} (r : Rel K c φ S H) (h : Rep K φ H d v) (e : lstOf S d = some l) : ∃ a vs, v = .ref a ∧ Rd H a (.lst vs) ∧ RepL K φ H l vs := by
  cases d with
  | pl l' =>
    cases e
    obtain ⟨a, vs, rfl, h1, h2⟩ := h.pl_
    exact ⟨a, vs, rfl, h1.rd, h2⟩
  | ref n =>
    simp only [lstOf] at e
    split at e
    · rename_i fz l' hl
      cases e
      obtain ⟨a, i1, rfl⟩ := h.ref_
      obtain ⟨vs, g, h⟩ := r.obj n a _ i1 hl
      refine ⟨a, vs, rfl, ?_, g⟩
      split at h
      · exact .inr h
      · exact .inl h
    · cases e
  | _ => cases e
/-- t + u, where a new tuple is known to have no dict -/
def rCatF (K : PySem.W.Frag) : R2 := fun x y H Q => ∃ a b xs ys, x = .ref a ∧ y = .ref b ∧ SqT K H a xs ∧ SqT K H b ys ∧ xs.length + ys.length ≤ sizeLine ∧
  (xs = [] → Q (.ref b) H) ∧ (xs ≠ [] → ys = [] → Q (.ref a) H) ∧ (xs ≠ [] → ys ≠ [] → ∀ p ob, H p = none → ob.dict = none → Q (.ref p) (upd H p (.frz ob (.tup (xs ++ ys)))))
theorem op_catF {X : Cx} : OpR X (binaryOp .Add) (rCatF X.K) := by
  rintro pins s σ H x y v u Q I rx ry ⟨a, b, xs, ys, rfl, rfl, ha, hb, hz, q0, q1, q2⟩
  cases rx; cases ry
  obtain ⟨i1, r1, p1, _⟩ := I.tuple ha
  obtain ⟨i2, r2, p2, _⟩ := I.tuple hb
  by_cases hx : xs = []
  · subst hx
    cases r1
    exact cat_tup0 p1 p2 ⟨.ref b, H, I, rfl, q0 rfl⟩
  · refine HT.cat_tup p1 p2 (fun z => hx (r1.nil_iff.mp z)) (fun z => ⟨.ref a, H, I, rfl, q1 hx (r2.nil_iff.mp z)⟩) (fun z => ?_) (by have := r1.length; have := r2.length; omega)
    refine ⟨.ref _, _, I.laid (t' := s.toks) (o := .frz { cls := .type "tuple", data := .seq (i1 ++ i2).toArray } (.tup (xs ++ ys))) (fun b ob => Heap.get?_push_of_some _) (Nat.le_refl _) ⟨?_, ?_⟩, rfl, q2 hx (fun w => z (r2.nil_iff.mpr w)) _ _ (I.hok.fresh (Nat.le_refl _)) rfl⟩
    · exact Heap.get?_push_size _ rfl
    · exact ⟨by simpa using hz, _, r1.append r2, IsTup.new _ _⟩
/-- the sum of lists is never written -/
def addD : F2
  | .int i, .int j, S => .ok (.int (i + j)) S
  | .str x, .str y, S => if x.length + y.length ≤ sizeLine then .ok (.str (x ++ y)) S else .no
  | .tup a, .tup b, S => if a.length + b.length ≤ sizeLine then .ok (.tup (a ++ b)) S else .no
  | x, y, S => match lstOf S x, lstOf S y with
    | some a, some b => if a.length + b.length ≤ sizeLine then .ok (.pl (a ++ b)) S else .no
    | _, _ => .no
def rAddA (K : PySem.W.Frag) : R2 := fun x y H Q => (∃ i j, x = .int i ∧ y = .int j ∧ Q (.int (i + j)) H) ∨ (∃ i j, x = .str i ∧ y = .str j ∧ i.length + j.length ≤ sizeLine ∧ Q (.str (i ++ j)) H) ∨ rCatF K x y H Q ∨ rCatR x y H Q
theorem op_addA {X : Cx} : OpR X (binaryOp .Add) (rAddA X.K) := op_add.or (op_add_str.or (op_catF.or op_catR))
theorem fits_add_tup {K : PySem.W.Frag} {c : Cl} {W : WX} {σ : L2.St} {φ : List Addr} {H : Hp} {S : Sto} {Q : VK} {a b : List D} {x y : V} (r : Rel K c φ S H) (hx : Rep K φ H (.tup a) x) (hy : Rep K φ H (.tup b) y) (hz : a.length + b.length ≤ sizeLine)
    (p : PostW K c W σ φ H (gE K Q) (.ok (.tup (a ++ b)) S)) : rCatF K x y H Q := by
  obtain ⟨a1, v1, rfl, s1, g1⟩ := hx.tup_
  obtain ⟨a2, v2, rfl, s2, g2⟩ := hy.tup_
  have e1 := g1.length
  have e2 := g2.length
  refine ⟨a1, a2, v1, v2, rfl, rfl, s1, s2, by omega, fun e => ?_, fun _ e => ?_, fun _ _ q ob hq hob => ?_⟩
  · subst e
    have z : a = [] := List.eq_nil_of_length_eq_zero (by simpa using e1)
    subst z
    exact PostW.here r p _ hy
  · subst e
    have z : b = [] := List.eq_nil_of_length_eq_zero (by simpa using e2)
    subst z
    rw [List.append_nil] at p
    exact PostW.here r p _ hx
  · exact post_tup r (g1.append g2) hq ob hob p
theorem fits_add {K : PySem.W.Frag} {c : Cl} : Fits2F K c (rAddA K) addD := by
  intro W σ φ H S x y dx dy Q r hx hy p
  unfold addD at p
  split at p
  · rw [hx.int_, hy.int_]
    exact .inl ⟨_, _, rfl, rfl, PostW.here r p.frz _ rep_int⟩
  · split at p
    · rename_i hz
      rw [hx.str_, hy.str_]
      exact .inr (.inl ⟨_, _, rfl, rfl, hz, PostW.here r p.frz _ rep_str⟩)
    · exact False.elim p
  · split at p
    · rename_i hz
      exact .inr (.inr (.inl (fits_add_tup r hx hy hz p.frz)))
    · exact False.elim p
  · split at p
    · split at p
      · rename_i h1 h2 hz
        obtain ⟨a1, v1, rfl, s1, g1⟩ := lstOf_rd r hx h1
        obtain ⟨a2, v2, rfl, s2, g2⟩ := lstOf_rd r hy h2
        have e1 := g1.length
        have e2 := g2.length
        refine .inr (.inr (.inr ⟨a1, a2, v1, v2, rfl, rfl, s1, s2, by omega, fun q hq => ?_⟩))
        exact post_pl r (g1.append g2) hq p
      · exact False.elim p
    · exact False.elim p
end MM

namespace MM
open PySem PySem.Spec PyProof.Rows L2

def subD : F2
  | .int i, .int j, S => .ok (.int (i - j)) S
  | _, _, _ => .no
theorem fits_sub {K : PySem.W.Frag} {c : Cl} : Fits2 K c (rI0 fun i j => .int (i - j)) subD := by
  intro W σ φ H S x y dx dy Q r hx hy p
  unfold subD at p
  split at p
  · rw [hx.int_, hy.int_]
    exact ⟨_, _, rfl, rfl, PostW.here r p _ rep_int⟩
  · exact False.elim p
/-- a text n times -/
def repS (x : Str) (n : Nat) : Str := ⟨(List.replicate n x.cps).foldl (· ++ ·) #[]⟩
theorem fold_len : ∀ (l : List (Array Nat)) (a : Array Nat), (l.foldl (· ++ ·) a).toList = a.toList ++ (l.map Array.toList).flatten
  | [], a => by simp
  | x :: l, a => by
    rw [List.foldl_cons, fold_len l (a ++ x)]
    simp
theorem repS_list (x : Str) (n : Nat) : (repS x n).cps.toList = (List.replicate n x.cps.toList).flatten := by
  unfold repS
  rw [fold_len, List.map_replicate]
  simp
theorem repS_len (x : Str) (n : Nat) : (repS x n).length = n * x.length := by
  have h : (repS x n).length = (repS x n).cps.toList.length := by simp [Str.length]
  rw [h, repS_list]
  simp [Str.length]
def rRepS : R2 := fun x y H Q => ∃ a k, x = .str a ∧ y = .int k ∧ 1 ≤ a.length ∧ a.length ≤ 1000 ∧ 2 ≤ k ∧ k ≤ 1000 ∧ Q (.str (repS a k.toNat)) H
theorem op_repS {X : Cx} : OpR X (binaryOp .Mult) rRepS := by
  intro pins s σ H x y v u Q I rx ry h
  obtain ⟨a, k, rfl, rfl, h1, h2, h3, h4, q⟩ := h
  obtain ⟨t, rfl⟩ := rx
  obtain ⟨t', rfl⟩ := ry
  have hm : a.length * k.toNat ≤ 1000 * 1000 := Nat.mul_le_mul h2 (by omega)
  have c0 : (decide (k < -(2 ^ 63)) || decide (k ≥ 2 ^ 63)) = false := by
    rw [decide_eq_false (by omega), decide_eq_false (by omega)] <;> rfl
  refine PySem.P.mul_str c0 (fun _ _ => ?_) (fun _ _ => ?_) ?_
  · have hd : (1000 : Int) ≤ (2 ^ 63 - 1) / k := (Int.le_ediv_iff_mul_le (by omega)).mpr (by omega)
    omega
  · unfold Builtin.Str.tooLong
    exact decide_eq_false (by rw [sizeLine_eq]; omega)
  · have e1 : (k == 1 || a.length == 0) = false := by
      rw [beq_eq_false_iff_ne.mpr (show k ≠ 1 by omega), beq_eq_false_iff_ne.mpr (show a.length ≠ 0 by omega)]
      rfl
    rw [if_neg (show ¬ k < 1 by omega), e1, if_neg (by decide)]
    refine ⟨?_, .str (repS a k.toNat), H, I.tok _, ⟨_, rfl⟩, q⟩
    show (repS a k.toNat).length ≤ sizeLine
    rw [repS_len, Nat.mul_comm, sizeLine_eq]
    omega
def MulOk (k : Int) (n : Nat) : Prop := -(2 ^ 63) ≤ k ∧ k < 2 ^ 63 ∧ n * k.toNat ≤ sizeLine
/-- a list so many times, never written -/
noncomputable def mulD : F2
  | .str a, .int k, S => if 1 ≤ a.length ∧ a.length ≤ 1000 ∧ 2 ≤ k ∧ k ≤ 1000 then .ok (.str (repS a k.toNat)) S else .no
  | .int i, .int j, S => if (-(2 ^ 64) < i ∧ i < 2 ^ 64) ∨ (-(2 ^ 64) < j ∧ j < 2 ^ 64) then .ok (.int (i * j)) S else .no
  | .tup l, .int k, S => if k = 1 then .ok (.tup l) S else if l ≠ [] ∧ 2 ≤ k ∧ k ≤ 1000 ∧ l.length ≤ 1000 ∧ l.all isSt = false then .ok (.tup (List.replicate k.toNat l).flatten) S else .no
  | x, .int k, S => match lstOf S x with
    | some l => @ite _ (MulOk k l.length) (Classical.propDecidable _) (.ok (.pl (List.replicate k.toNat l).flatten) S) .no
    | _ => .no
  | _, _, _ => .no
def rMulA (K : PySem.W.Frag) : R2 := fun x y H Q => (rI CMul fun i j => .int (i * j)) x y H Q ∨ rRepT K x y H Q ∨ rRepR x y H Q ∨ rRep1 K x y H Q ∨ rRepS x y H Q
theorem op_mulA {X : Cx} : OpR X (binaryOp .Mult) (rMulA X.K) := op_mul.or (op_repT.or (op_repR.or (op_rep1.or op_repS)))
theorem rep_noTx {l : List D} (h : l.all isSt = false) : ∀ n : Nat, isTx (List.replicate n l).flatten = false
  | 0 => rfl
  | n + 1 => by
    unfold isTx
    rw [List.replicate_succ, List.flatten_cons, List.all_append, h, Bool.false_and, Bool.and_false]
theorem fits_mul_tup {K : PySem.W.Frag} {c : Cl} {W : WX} {σ : L2.St} {φ : List Addr} {H : Hp} {S : Sto} {Q : VK} {l : List D} {k : Int} {x y : V} (r : Rel K c φ S H) (hx : Rep K φ H (.tup l) x) (hy : Rep K φ H (.int k) y)
    (p : PostW K c W σ φ H (gE K Q) (if k = 1 then .ok (.tup l) S else if l ≠ [] ∧ 2 ≤ k ∧ k ≤ 1000 ∧ l.length ≤ 1000 ∧ l.all isSt = false then .ok (.tup (List.replicate k.toNat l).flatten) S else .no)) : rRepT K x y H Q ∨ rRep1 K x y H Q := by
  obtain ⟨a1, v1, rfl, s1, g1⟩ := hx.tup_
  rw [hy.int_]
  split at p
  · rename_i hk
    rw [hk]
    exact .inr ⟨a1, v1, rfl, rfl, s1, PostW.here r p _ hx⟩
  · split at p
    · rename_i h
      obtain ⟨h1, h2, h3, h4, h5⟩ := h
      have e := g1.length
      refine .inl ⟨a1, _, v1, rfl, rfl, s1, fun z => ?_, h2, h3, by omega, fun q hq => ?_⟩
      · subst z
        exact h1 (List.eq_nil_of_length_eq_zero (by simpa using e))
      · exact post_tup0 r (g1.flatRep _) hq (rep_noTx h5 _) p
    · exact False.elim p
theorem fits_mul {K : PySem.W.Frag} {c : Cl} : Fits2F K c (rMulA K) mulD := by
  intro W σ φ H S x y dx dy Q r hx hy p
  unfold mulD at p
  split at p
  · split at p
    · rename_i h
      rw [hx.str_, hy.int_]
      exact .inr (.inr (.inr (.inr ⟨_, _, rfl, rfl, h.1, h.2.1, h.2.2.1, h.2.2.2, PostW.here r p.frz _ rep_str⟩)))
    · exact False.elim p
  · split at p
    · rename_i h
      rw [hx.int_, hy.int_]
      exact .inl ⟨_, _, rfl, rfl, h, PostW.here r p.frz _ rep_int⟩
    · exact False.elim p
  · rcases fits_mul_tup r hx hy p.frz with q | q
    · exact .inr (.inl q)
    · exact .inr (.inr (.inr (.inl q)))
  · split at p
    · split at p
      · rename_i hs h
        obtain ⟨h1, h2, h3⟩ := h
        obtain ⟨a1, v1, rfl, s1, g1⟩ := lstOf_rd r hx hs
        rw [hy.int_]
        have e := g1.length
        refine .inr (.inr (.inl ⟨a1, _, v1, rfl, rfl, s1, h1, h2, by rw [← e]; exact h3, fun q hq => ?_⟩))
        exact post_pl r (g1.flatRep _) hq p
      · exact False.elim p
    · exact False.elim p
  · exact False.elim p
def modD : F2
  | .int i, .int j, S => if 0 < j then .ok (.int (i % j)) S else .no
  | _, _, _ => .no
theorem fits_mod {K : PySem.W.Frag} {c : Cl} : Fits2 K c (rI (fun _ j => 0 < j) fun i j => .int (i % j)) modD := by
  intro W σ φ H S x y dx dy Q r hx hy p
  unfold modD at p
  split at p
  · split at p
    · rename_i h
      rw [hx.int_, hy.int_]
      exact ⟨_, _, rfl, rfl, h, PostW.here r p _ rep_int⟩
    · exact False.elim p
  · exact False.elim p
def fdivD : F2
  | .int i, .int j, S => if 0 < j ∧ j.natAbs.log2 < 9000 then .ok (.int (i / j)) S else .no
  | _, _, _ => .no
theorem fits_fdiv {K : PySem.W.Frag} {c : Cl} : Fits2 K c (rI CDivW fun i j => .int (i / j)) fdivD := by
  intro W σ φ H S x y dx dy Q r hx hy p
  unfold fdivD at p
  split at p
  · split at p
    · rename_i h
      rw [hx.int_, hy.int_]
      exact ⟨_, _, rfl, rfl, h, PostW.here r p _ rep_int⟩
    · exact False.elim p
  · exact False.elim p
def powD : F2
  | .int i, .int j, S => if 0 ≤ j ∧ j ≤ 1000000 ∧ i.natAbs < 2 ^ 64 then .ok (.int (i ^ j.toNat)) S else .no
  | _, _, _ => .no
theorem fits_pow {K : PySem.W.Frag} {c : Cl} : Fits2 K c (rI CPow fun i j => .int (i ^ j.toNat)) powD := by
  intro W σ φ H S x y dx dy Q r hx hy p
  unfold powD at p
  split at p
  · split at p
    · rename_i h
      rw [hx.int_, hy.int_]
      exact ⟨_, _, rfl, rfl, h, PostW.here r p _ rep_int⟩
    · exact False.elim p
  · exact False.elim p
def negD : F1
  | .int i, S => .ok (.int (-i)) S
  | _, _ => .no

def ordD (fi : Int → Int → Bool) (fs : List Nat → List Nat → Bool) : F2
  | .int i, .int j, S => .ok (.bl (fi i j)) S
  | .str x, .str y, S => .ok (.bl (fs x.cps.toList y.cps.toList)) S
  | _, _, _ => .no
def ltD : F2 := ordD (fun i j => decide (i < j)) fun x y => decide (x < y)
def gtD : F2 := ordD (fun i j => decide (j < i)) fun x y => decide (y < x)
def rOrd (fi : Int → Int → Bool) (fs : List Nat → List Nat → Bool) : R2 := fun x y H Q => (rI0 fun i j => .bl (fi i j)) x y H Q ∨ ∃ i j, x = .str i ∧ y = .str j ∧ Q (.bl (fs i.cps.toList j.cps.toList)) H
theorem fits_ord {K : PySem.W.Frag} {c : Cl} {fi : Int → Int → Bool} {fs : List Nat → List Nat → Bool} : Fits2 K c (rOrd fi fs) (ordD fi fs) := by
  intro W σ φ H S x y dx dy Q r hx hy p
  unfold ordD at p
  split at p
  · rw [hx.int_, hy.int_]
    exact .inl ⟨_, _, rfl, rfl, PostW.here r p _ rep_bl⟩
  · rw [hx.str_, hy.str_]
    exact .inr ⟨_, _, rfl, rfl, PostW.here r p _ rep_bl⟩
  · exact False.elim p
section
variable {X : Cx}
theorem op_ltA : OpR X (compareOp .Lt) (rOrd (fun i j => decide (i < j)) fun x y => decide (x < y)) := op_lt.or op_lt_str
theorem op_gtA : OpR X (compareOp .Gt) (rOrd (fun i j => decide (j < i)) fun x y => decide (y < x)) := op_gt.or op_gt_str
end

mutual
/-- as data; none where it has an address -/
def toP : D → Option PyData
  | .non => some .none
  | .bl b => some (.bool b)
  | .int i => some (.int i)
  | .str x => if PyData.strOk x = true then some (.str x) else none
  | .tup l => (toPl l).map .tuple
  | .ref _ => none
  | .scr _ => none
  | .pl l => (toPl l).map .list
def toPl : List D → Option (List PyData)
  | [] => some []
  | d :: ds => match toP d, toPl ds with
    | some p, some q => some (p :: q)
    | _, _ => none
end
/-- a list of the store of such data too -/
def view (S : Sto) : D → Option PyData
  | .ref n => match S[n]? with
    | some (.lst _ l) => (toPl l).map .list
    | _ => none
  | d => toP d
mutual
theorem Rep.dp {K : PySem.W.Frag} {φ : List Addr} {H : Hp} : ∀ (d : D) (v : V) (p : PyData), Rep K φ H d v → toP d = some p → Dp K H v p ∧ p.canLay0 = true
  | .non, v, p, h, e => by unfold toP at e; cases e; rw [h.non_]; exact ⟨.non, by simp [PyData.canLay0]⟩
  | .bl b, v, p, h, e => by unfold toP at e; cases e; rw [h.bl_]; exact ⟨.bl b, by simp [PyData.canLay0]⟩
  | .int b, v, p, h, e => by unfold toP at e; cases e; rw [h.int_]; exact ⟨.int b, by simp [PyData.canLay0]⟩
  | .str b, v, p, h, e => by
    unfold toP at e
    split at e
    · rename_i hs
      cases e; rw [h.str_]; exact ⟨.str b, by simpa [PyData.canLay0] using hs⟩
    · cases e
  | .ref b, v, p, h, e => by unfold toP at e; cases e
  | .scr b, v, p, h, e => by unfold toP at e; cases e
  | .pl l, v, p, h, e => by
    unfold toP at e
    obtain ⟨q, e1, rfl⟩ := Option.map_eq_some_iff.mp e
    obtain ⟨a, vs, rfl, s, g⟩ := h.pl_
    obtain ⟨h1, h2⟩ := RepL.dp l vs q g e1
    exact ⟨.lst s.sq h1, by simpa [PyData.canLay0] using h2⟩
  | .tup l, v, p, h, e => by
    unfold toP at e
    obtain ⟨q, e1, rfl⟩ := Option.map_eq_some_iff.mp e
    obtain ⟨a, vs, rfl, s, g⟩ := h.tup_
    obtain ⟨h1, h2⟩ := RepL.dp l vs q g e1
    exact ⟨.tup s h1, by simpa [PyData.canLay0] using h2⟩
theorem RepL.dp {K : PySem.W.Frag} {φ : List Addr} {H : Hp} : ∀ (d : List D) (v : List V) (p : List PyData), RepL K φ H d v → toPl d = some p → DpAll K H v p ∧ PyData.canLayAll0 p = true
  | [], v, p, h, e => by unfold toPl at e; cases e; rw [h.isNil]; exact ⟨.nil, by simp [PyData.canLayAll0]⟩
  | d :: ds, v, p, h, e => by
    unfold toPl at e
    obtain ⟨x, r, rfl, h1, h2⟩ := h.uncons
    split at e
    · rename_i p1 p2 e1 e2
      cases e
      obtain ⟨a1, a2⟩ := Rep.dp d x p1 h1 e1
      obtain ⟨b1, b2⟩ := RepL.dp ds r p2 h2 e2
      exact ⟨.cons a1 b1, by simp [PyData.canLayAll0, a2, b2]⟩
    · cases e
end
theorem Rep.view {K : PySem.W.Frag} {c : Cl} {φ : List Addr} {H : Hp} {S : Sto} (r : Rel K c φ S H) {d : D} {v : V} {p : PyData} (h : Rep K φ H d v) (e : view S d = some p) : Dp K H v p ∧ p.canLay0 = true := by
  unfold MM.view at e
  split at e
  · split at e
    · rename_i n _ l hs
      obtain ⟨q, e1, rfl⟩ := Option.map_eq_some_iff.mp e
      obtain ⟨a, i1, rfl⟩ := h.ref_
      obtain ⟨vs, g, s, _⟩ := r.lst i1 hs
      obtain ⟨h1, h2⟩ := RepL.dp l vs q g e1
      exact ⟨.lst s h1, by simpa [PyData.canLay0] using h2⟩
    · cases e
  · exact h.dp _ _ _ e
def scalD : D → D → Bool
  | .non, .non => true | .non, .int _ => true | .int _, .non => true | .non, .bl _ => true | .bl _, .non => true | .non, .str _ => true | .str _, .non => true
  | .int _, .int _ => true | .bl _, .bl _ => true | .str _, .str _ => true
  | .int _, .str _ => true | .str _, .int _ => true | .bl _, .str _ => true | .str _, .bl _ => true
  | _, _ => false
def sameD : D → D → Bool
  | .non, .non => true
  | .int i, .int j => decide (i = j)
  | .bl i, .bl j => decide (i = j)
  | .str i, .str j => decide (i = j)
  | _, _ => false
/-- == : scalars, else data -/
def eqB (S : Sto) (x y : D) : Option Bool :=
  if scalD x y = true then some (sameD x y) else match view S x, view S y with
  | some p, some q => if p.depth ≤ 64 ∧ q.depth ≤ 64 then some (PyData.eqv p q) else none
  | _, _ => none
def eqD : F2 := fun x y S => match eqB S x y with
  | some b => .ok (.bl b) S
  | none => .no
def neD : F2 := fun x y S => match eqB S x y with
  | some b => .ok (.bl (!b)) S
  | none => .no
theorem scal_of {K : PySem.W.Frag} {φ : List Addr} {H : Hp} {dx dy : D} {x y : V} (hx : Rep K φ H dx x) (hy : Rep K φ H dy y) (h : scalD dx dy = true) : scal x y = true ∧ decide (x = y) = sameD dx dy := by
  unfold scalD at h
  split at h <;> first
    | (cases h; done)
    | (unfold Rep at hx hy
       subst hx hy
       refine ⟨rfl, ?_⟩
       unfold sameD
       simp)
theorem fits_eq {K : PySem.W.Frag} {c : Cl} : Fits2 K c (fun x y H Q => rEq x y H Q ∨ rEqD K x y H Q) eqD := by
  intro W σ φ H S x y dx dy Q r hx hy p
  unfold eqD eqB at p
  split at p
  · rename_i b hb
    split at hb
    · rename_i hs
      cases hb
      obtain ⟨h1, h2⟩ := scal_of hx hy hs
      exact .inl ⟨h1, by rw [h2]; exact PostW.here r p _ rep_bl⟩
    · split at hb
      · rename_i p1 p2 e1 e2
        split at hb
        · rename_i hd
          cases hb
          obtain ⟨a1, a2⟩ := hx.view r e1
          obtain ⟨b1, b2⟩ := hy.view r e2
          refine .inr ⟨p1, p2, a1, b1, ?_, ?_, PostW.here r p _ rep_bl⟩
          · unfold SeqAt.shaped; simp [a2, hd.1]
          · unfold SeqAt.shaped; simp [b2, hd.2]
        · cases hb
      · cases hb
  · exact False.elim p
theorem fits_ne {K : PySem.W.Frag} {c : Cl} : Fits2 K c (fun x y H Q => rNe x y H Q ∨ rNeD K x y H Q) neD := by
  intro W σ φ H S x y dx dy Q r hx hy p
  unfold neD eqB at p
  split at p
  · rename_i b hb
    split at hb
    · rename_i hs
      cases hb
      obtain ⟨h1, h2⟩ := scal_of hx hy hs
      exact .inl ⟨h1, by rw [h2]; exact PostW.here r p _ rep_bl⟩
    · split at hb
      · rename_i p1 p2 e1 e2
        split at hb
        · rename_i hd
          cases hb
          obtain ⟨a1, a2⟩ := hx.view r e1
          obtain ⟨b1, b2⟩ := hy.view r e2
          refine .inr ⟨p1, p2, a1, b1, ?_, ?_, PostW.here r p _ rep_bl⟩
          · unfold SeqAt.shaped; simp [a2, hd.1]
          · unfold SeqAt.shaped; simp [b2, hd.2]
        · cases hb
      · cases hb
  · exact False.elim p
theorem op_eqA {X : Cx} (hu : X.A.units + 64 < cLine) : OpR X (compareOp .Eq) (fun x y H Q => rEq x y H Q ∨ rEqD X.K x y H Q) := op_eq.or (op_eqD hu)
theorem op_neA {X : Cx} (hu : X.A.units + 64 < cLine) : OpR X (compareOp .NotEq) (fun x y H Q => rNe x y H Q ∨ rNeD X.K x y H Q) := op_ne.or (op_neD hu)

def isNB : D → Bool
  | .non => true
  | _ => false
def notND : F2
  | x, .non, S => .ok (.bl (!isNB x)) S
  | _, _, _ => .no
theorem isNB_of {K : PySem.W.Frag} {φ : List Addr} {H : Hp} {d : D} {x : V} (h : Rep K φ H d x) : decide (x = .non) = isNB d := by
  cases d with
  | non => rw [h.non_]; rfl
  | bl b => rw [h.bl_]; rfl
  | int b => rw [h.int_]; rfl
  | str b => rw [h.str_]; rfl
  | tup l => obtain ⟨_, _, rfl, _⟩ := h.tup_; rfl
  | ref n => obtain ⟨_, _, rfl⟩ := h.ref_; rfl
  | scr n => obtain ⟨_, rfl, _⟩ := h.scr_; rfl
  | pl n => obtain ⟨_, _, rfl, _⟩ := h.pl_; rfl
theorem fits_notN {K : PySem.W.Frag} {c : Cl} : Fits2 K c (fun x y H Q => y = .non ∧ Q (.bl (!decide (x = .non))) H) notND := by
  intro W σ φ H S x y dx dy Q r hx hy p
  unfold notND at p
  split at p
  · exact ⟨hy.non_, by rw [isNB_of hx]; exact PostW.here r p _ rep_bl⟩
  · exact False.elim p

def flatD : D → Bool
  | .non => true | .bl _ => true | .int _ => true | .str _ => true
  | _ => false
def eqF : D → D → Bool
  | .non, .non => true
  | .bl a, .bl b => a == b
  | .bl a, .int b => (if a then 1 else 0) == b
  | .int a, .bl b => a == (if b then 1 else 0)
  | .int a, .int b => a == b
  | .str a, .str b => a == b
  | _, _ => false
def inL (x : D) (l : List D) : Bool := l.any fun y => eqF y x
/-- things of any depth -/
def deepIn (S : Sto) (x y : D) : Option Bool := match view S x, view S y with
  | some d, some (.list ds) => if d.depth ≤ 60 ∧ (PyData.list ds).depth ≤ 64 then some (ds.any fun z => PyData.eqv z d) else none
  | some d, some (.tuple ds) => if d.depth ≤ 60 ∧ (PyData.tuple ds).depth ≤ 64 then some (ds.any fun z => PyData.eqv z d) else none
  | _, _ => none
def inB (S : Sto) (x y : D) : Option Bool := match x, y with
  | .str u, .str z => if u.cps.size = 1 then some (decide (u.cps.getD 0 0 ∈ z.cps.toList)) else none
  | x, .tup l => if flatD x = true ∧ l.all flatD = true then some (inL x l) else deepIn S x (.tup l)
  | x, y => match lstOf S y with
    | some l => if flatD x = true ∧ l.all flatD = true then some (inL x l) else deepIn S x y
    | _ => none
def inD : F2 := fun x y S => match inB S x y with
  | some b => .ok (.bl b) S
  | none => .no
def notInD : F2 := fun x y S => match inB S x y with
  | some b => .ok (.bl (!b)) S
  | none => .no
section
variable {K : PySem.W.Frag} {c : Cl} {φ : List Addr} {H : Hp} {S : Sto}
theorem flat_of {d : D} {x : V} (h : Rep K φ H d x) (f : flatD d = true) : flatV x = true := by
  cases d with
  | non => rw [h.non_]; rfl
  | bl b => rw [h.bl_]; rfl
  | int b => rw [h.int_]; rfl
  | str b => rw [h.str_]; rfl
  | tup l => cases f
  | ref n => cases f
  | scr n => cases f
  | pl n => cases f
theorem flats_of : ∀ {ds : List D} {vs : List V}, RepL K φ H ds vs → ds.all flatD = true → vs.all flatV = true
  | [], vs, h, f => by rw [h.isNil]; rfl
  | d :: ds, vs, h, f => by
    obtain ⟨v, r, rfl, h1, h2⟩ := h.uncons
    simp only [List.all_cons, Bool.and_eq_true] at f ⊢
    exact ⟨flat_of h1 f.1, flats_of h2 f.2⟩
theorem eqF_of {d e : D} {x y : V} (h : Rep K φ H d x) (g : Rep K φ H e y) (f : flatD d = true) (f' : flatD e = true) : eqV x y = eqF d e := by
  cases d <;> first | (cases f; done) | (cases e <;> first | (cases f'; done) | (unfold Rep at h g; subst h g; rfl))
theorem inL_of {e : D} {y : V} (g : Rep K φ H e y) (f' : flatD e = true) : ∀ {ds : List D} {vs : List V}, RepL K φ H ds vs → ds.all flatD = true → inV y vs = inL e ds
  | [], vs, h, f => by rw [h.isNil]; rfl
  | d :: ds, vs, h, f => by
    obtain ⟨v, r, rfl, h1, h2⟩ := h.uncons
    simp only [List.all_cons, Bool.and_eq_true] at f
    have := inL_of g f' h2 f.2
    unfold inV inL at this ⊢
    rw [List.any_cons, List.any_cons, eqF_of h1 g f.1 f', this]
theorem one_sign {u : Str} (h : u.cps.size = 1) : u = ⟨#[u.cps.getD 0 0]⟩ := by
  obtain ⟨a⟩ := u
  obtain ⟨l⟩ := a
  match l, h with
  | [x], _ => rfl
end
def rInQ (K : PySem.W.Frag) (neg : Bool) : R2 := fun x y H Q => ∃ d ds, Dp K H x d ∧ (Dp K H y (.list ds) ∨ Dp K H y (.tuple ds)) ∧ SeqAt.shaped d = true ∧ PyData.canLayAll0 ds = true ∧ d.depth ≤ 60 ∧ Q (.bl (if neg then !(ds.any fun z => PyData.eqv z d) else ds.any fun z => PyData.eqv z d)) H
theorem deep_ok {K : PySem.W.Frag} {c : Cl} {φ : List Addr} {H : Hp} {S : Sto} {dx dy : D} {x y : V} {b : Bool} {neg : Bool} {Q : VK} (r : Rel K c φ S H) (hx : Rep K φ H dx x) (hy : Rep K φ H dy y) (h : deepIn S dx dy = some b) (q : Q (.bl (if neg then !b else b)) H) : rInQ K neg x y H Q := by
  unfold deepIn at h
  split at h
  · rename_i d ds e1 e2
    split at h
    · rename_i hd
      cases h
      obtain ⟨a1, a2⟩ := hx.view r e1
      obtain ⟨b1, b2⟩ := hy.view r e2
      exact ⟨d, ds, a1, .inl b1, by unfold SeqAt.shaped; simp [a2]; omega, by simpa [PyData.canLay0] using b2, hd.1, q⟩
    · cases h
  · rename_i d ds e1 e2
    split at h
    · rename_i hd
      cases h
      obtain ⟨a1, a2⟩ := hx.view r e1
      obtain ⟨b1, b2⟩ := hy.view r e2
      exact ⟨d, ds, a1, .inr b1, by unfold SeqAt.shaped; simp [a2]; omega, by simpa [PyData.canLay0] using b2, hd.1, q⟩
    · cases h
  · cases h
theorem op_inQ {X : Cx} (hu : X.A.units + 64 < cLine) : OpR X (compareOp .In) (rInQ X.K false) := by
  rintro pins s σ H x y v u Q I rx ry ⟨d, ds, hd, he, sd, se, hz, q⟩
  obtain ⟨as, r1⟩ := Dp.reads I d x v hd rx
  have hm : X.A.units + 1 + min (PyData.depthAll ds) d.depth < cLine := by omega
  rcases he with he | he
  · obtain ⟨bs, r2⟩ := Dp.reads I _ y u he ry
    exact SeqAt.in_list_reads r2 r1 se (SeqAt.canLay_of_shaped sd) hm ⟨.bl _, H, I, rfl, q⟩
  · obtain ⟨bs, r2⟩ := Dp.reads I _ y u he ry
    exact SeqAt.in_tuple_reads r2 r1 se (SeqAt.canLay_of_shaped sd) hm ⟨.bl _, H, I, rfl, q⟩
theorem op_notInQ {X : Cx} (hu : X.A.units + 64 < cLine) : OpR X (compareOp .NotIn) (rInQ X.K true) := by
  rintro pins s σ H x y v u Q I rx ry ⟨d, ds, hd, he, sd, se, hz, q⟩
  obtain ⟨as, r1⟩ := Dp.reads I d x v hd rx
  have hm : X.A.units + 1 + min (PyData.depthAll ds) d.depth < cLine := by omega
  rcases he with he | he
  · obtain ⟨bs, r2⟩ := Dp.reads I _ y u he ry
    exact SeqAt.notIn_list_reads r2 r1 se (SeqAt.canLay_of_shaped sd) hm ⟨.bl _, H, I, rfl, q⟩
  · obtain ⟨bs, r2⟩ := Dp.reads I _ y u he ry
    exact SeqAt.notIn_tuple_reads r2 r1 se (SeqAt.canLay_of_shaped sd) hm ⟨.bl _, H, I, rfl, q⟩
theorem fits_in {K : PySem.W.Frag} {c : Cl} : Fits2 K c (fun x y H Q => (∃ (c : Nat) (z : Str), x = .str ⟨#[c]⟩ ∧ y = .str z ∧ Q (.bl (decide (c ∈ z.cps.toList))) H) ∨ rIn K false x y H Q ∨ rInQ K false x y H Q) inD := by
  intro W σ φ H S x y dx dy Q r hx hy p
  unfold inD at p
  split at p
  · rename_i b hb
    unfold inB at hb
    split at hb
    · split at hb
      · rename_i u z hu
        cases hb
        rw [hx.str_, hy.str_]
        refine .inl ⟨_, _, congrArg _ (one_sign hu), rfl, PostW.here r p _ rep_bl⟩
      · cases hb
    · split at hb
      · rename_i hf
        cases hb
        obtain ⟨a, vs, rfl, s, g⟩ := hy.tup_
        refine .inr (.inl ⟨a, vs, rfl, .inr s, flat_of hx hf.1, flats_of g hf.2, ?_⟩)
        rw [inL_of hx hf.1 g hf.2]
        exact PostW.here r p _ rep_bl
      · exact .inr (.inr (deep_ok r hx hy hb (PostW.here r p _ rep_bl)))
    · split at hb
      · split at hb
        · rename_i hl hf
          cases hb
          obtain ⟨a, vs, rfl, s, g⟩ := lstOf_rd r hy hl
          refine .inr (.inl ⟨a, vs, rfl, .inl (.inl s), flat_of hx hf.1, flats_of g hf.2, ?_⟩)
          rw [inL_of hx hf.1 g hf.2]
          exact PostW.here r p _ rep_bl
        · exact .inr (.inr (deep_ok r hx hy hb (PostW.here r p _ rep_bl)))
      · cases hb
  · exact False.elim p
theorem fits_notIn {K : PySem.W.Frag} {c : Cl} : Fits2 K c (fun x y H Q => (∃ (c : Nat) (z : Str), x = .str ⟨#[c]⟩ ∧ y = .str z ∧ Q (.bl (!decide (c ∈ z.cps.toList))) H) ∨ rIn K true x y H Q ∨ rInQ K true x y H Q) notInD := by
  intro W σ φ H S x y dx dy Q r hx hy p
  unfold notInD at p
  split at p
  · rename_i b hb
    unfold inB at hb
    split at hb
    · split at hb
      · rename_i u z hu
        cases hb
        rw [hx.str_, hy.str_]
        refine .inl ⟨_, _, congrArg _ (one_sign hu), rfl, PostW.here r p _ rep_bl⟩
      · cases hb
    · split at hb
      · rename_i hf
        cases hb
        obtain ⟨a, vs, rfl, s, g⟩ := hy.tup_
        refine .inr (.inl ⟨a, vs, rfl, .inr s, flat_of hx hf.1, flats_of g hf.2, ?_⟩)
        rw [inL_of hx hf.1 g hf.2]
        exact PostW.here r p _ rep_bl
      · exact .inr (.inr (deep_ok r hx hy hb (PostW.here r p _ rep_bl)))
    · split at hb
      · split at hb
        · rename_i hl hf
          cases hb
          obtain ⟨a, vs, rfl, s, g⟩ := lstOf_rd r hy hl
          refine .inr (.inl ⟨a, vs, rfl, .inl (.inl s), flat_of hx hf.1, flats_of g hf.2, ?_⟩)
          rw [inL_of hx hf.1 g hf.2]
          exact PostW.here r p _ rep_bl
        · exact .inr (.inr (deep_ok r hx hy hb (PostW.here r p _ rep_bl)))
      · cases hb
  · exact False.elim p
theorem op_inA {X : Cx} (hu : X.A.units + 64 < cLine) : OpR X (compareOp .In) (fun x y H Q => (∃ (c : Nat) (z : Str), x = .str ⟨#[c]⟩ ∧ y = .str z ∧ Q (.bl (decide (c ∈ z.cps.toList))) H) ∨ rIn X.K false x y H Q ∨ rInQ X.K false x y H Q) := op_in_sign.or (op_in_seq.or (op_inQ hu))
theorem op_notInA {X : Cx} (hu : X.A.units + 64 < cLine) : OpR X (compareOp .NotIn) (fun x y H Q => (∃ (c : Nat) (z : Str), x = .str ⟨#[c]⟩ ∧ y = .str z ∧ Q (.bl (!decide (c ∈ z.cps.toList))) H) ∨ rIn X.K true x y H Q ∨ rInQ X.K true x y H Q) := op_notIn_sign.or (op_notIn_seq.or (op_notInQ hu))

def ixD : F2
  | .tup l, .int i, S => match atI l i with
    | some d => .ok d S
    | none => .no
  | .str z, .int i, S => if z.length ≤ sizeLine then (match atI z.cps.toList i with
    | some k => .ok (.str ⟨#[k]⟩) S
    | none => .no) else .no
  | .ref n, .int i, S => match S[n]? with
    | some (.lst _ l) => (match atI l i with
      | some d => .ok d S
      | none => .no)
    | _ => .no
  | .scr ns, .int i, S => match atI ns i with
    | some d => .ok (.int d) S
    | none => .no
  | .pl l, .int i, S => match atI l i with
    | some d => .ok d S
    | none => .no
  | _, _, _ => .no
theorem atI_map {α β : Type} (f : α → β) (l : List α) (i : Int) : atI (l.map f) i = (atI l i).map f := by
  unfold atI
  rw [List.length_map]
  cases ixN l.length i with
  | none => rfl
  | some j => simp
theorem RepL.at {K : PySem.W.Frag} {φ : List Addr} {H : Hp} {l : List D} {vs : List V} {i : Int} {d : D} (h : RepL K φ H l vs) (e : atI l i = some d) : ∃ v, atI vs i = some v ∧ Rep K φ H d v := by
  unfold atI at e ⊢
  rw [← h.length]
  cases q : ixN l.length i with
  | none => rw [q] at e; cases e
  | some j =>
    rw [q] at e
    exact h.get e
theorem fits_ix {K : PySem.W.Frag} {c : Cl} : Fits2 K c (rIx K) ixD := by
  intro W σ φ H S x y dx dy Q r hx hy p
  unfold ixD at p
  split at p
  · split at p
    · rename_i e
      obtain ⟨a, vs, rfl, s, g⟩ := hx.tup_
      obtain ⟨v, e', g'⟩ := g.at e
      exact .inr (.inl ⟨a, vs, _, v, rfl, hy.int_, s, e', PostW.here r p _ g'⟩)
    · exact False.elim p
  · split at p
    · split at p
      · rename_i hz _ k e
        exact .inr (.inr ⟨_, _, k, hx.str_, hy.int_, hz, e, PostW.here r p _ rep_str⟩)
      · exact False.elim p
    · exact False.elim p
  · split at p
    · split at p
      · rename_i hl _ d e
        obtain ⟨a, i1, rfl⟩ := hx.ref_
        obtain ⟨vs, g, s, _⟩ := r.lst i1 hl
        obtain ⟨v, e', g'⟩ := g.at e
        exact .inl ⟨a, vs, _, v, rfl, hy.int_, s, e', PostW.here r p _ g'⟩
      · exact False.elim p
    · exact False.elim p
  · split at p
    · rename_i d e
      obtain ⟨a, rfl, s⟩ := hx.scr_
      exact .inl ⟨a, _, _, .int d, rfl, hy.int_, s.sq, by rw [atI_map, e]; rfl, PostW.here r p _ rep_int⟩
    · exact False.elim p
  · split at p
    · rename_i e
      obtain ⟨a, vs, rfl, s, g⟩ := hx.pl_
      obtain ⟨v, e', g'⟩ := g.at e
      exact .inl ⟨a, vs, _, v, rfl, hy.int_, s.sq, e', PostW.here r p _ g'⟩
    · exact False.elim p
  · exact False.elim p
def cutD (l : List D) (lo hi : Option Int) : List D := (l.drop (HT.sIx l.length 0 lo)).take (HT.sIx l.length l.length hi - HT.sIx l.length 0 lo)
theorem RepL.cut {K : PySem.W.Frag} {φ : List Addr} {H : Hp} {l : List D} {vs : List V} (h : RepL K φ H l vs) (lo hi : Option Int) : RepL K φ H (cutD l lo hi) (cutV vs lo hi) := by
  unfold cutD cutV
  rw [h.length]
  exact (h.drop _).take _
def slM (x : D) (lo hi : Option Int) (S : Sto) : R D := match x with
  | .tup l => .ok (.tup (cutD l lo hi)) S
  | .str z => if z.length ≤ sizeLine then .ok (.str (cutS z lo hi)) S else .no
  | x => match lstOf S x with
    | some l => .ok (.ref S.length) (S ++ [.lst false (cutD l lo hi)])
    | _ => .no
/-- a slice that is never written -/
def slD (x : D) (lo hi : Option Int) (S : Sto) : R D := match x with
  | .tup l => .ok (.tup (cutD l lo hi)) S
  | .str z => if z.length ≤ sizeLine then .ok (.str (cutS z lo hi)) S else .no
  | x => match lstOf S x with
    | some l => .ok (.pl (cutD l lo hi)) S
    | _ => .no
/-- t[lo:hi], where a new tuple is known to have no dict -/
def rSlF (K : PySem.W.Frag) : V → Option Int → Option Int → Hp → VK → Prop := fun x lo hi H Q => ∃ a xs, x = .ref a ∧ SqT K H a xs ∧
  (HT.sIx xs.length 0 lo = 0 ∧ HT.sIx xs.length xs.length hi = xs.length → Q (.ref a) H) ∧ (¬ (HT.sIx xs.length 0 lo = 0 ∧ HT.sIx xs.length xs.length hi = xs.length) → ∀ p ob, H p = none → ob.dict = none → Q (.ref p) (upd H p (.frz ob (.tup (cutV xs lo hi)))))
theorem sl_tupF {X : Cx} : SlR X (rSlF X.K) := by
  rintro pins s σ H x v vl vu lo hi sl Q I rx hs pl pu ⟨a, xs, rfl, hx, q1, q2⟩
  cases rx
  obtain ⟨its, r, ht, hz⟩ := I.tuple hx
  have hl := r.length
  have hn : its.toArray.size = xs.length := by rw [List.size_toArray]; omega
  by_cases hw : HT.sIx xs.length 0 lo = 0 ∧ HT.sIx xs.length xs.length hi = xs.length
  · exact ⟨"tuple", _, PyProof.Rows.slot_tuple_getitem.lookup, ht.typeIs, getItem_tuple_whole ht hs pl pu (by rw [hn]; exact hw) ⟨.ref a, H, I, rfl, q1 hw⟩⟩
  · refine ⟨"tuple", _, PyProof.Rows.slot_tuple_getitem.lookup, ht.typeIs, HT.getItem_tuple_cut ht hs pl pu (by rw [hn]; exact hw) ?_ (by rw [hn]; exact hz)⟩
    rw [hn]
    refine ⟨.ref s.heap.objs.size, _, I.laid (t' := s.toks) (o := .frz { cls := .type "tuple", data := .seq ((its.drop (HT.sIx xs.length 0 lo)).take (HT.sIx xs.length xs.length hi - HT.sIx xs.length 0 lo)).toArray } (.tup (cutV xs lo hi))) (fun b ob => Heap.get?_push_of_some _) (Nat.le_refl _) ⟨?_, ?_⟩, rfl, q2 hw _ _ (I.hok.fresh (Nat.le_refl _)) rfl⟩
    · exact Heap.get?_push_size _ rfl
    · exact ⟨Nat.le_trans (cutV_length xs lo hi) hz, _, (r.drop (HT.sIx xs.length 0 lo)).take _, IsTup.new _ _⟩
def rSlAll (K : PySem.W.Frag) : V → Option Int → Option Int → Hp → VK → Prop := fun x lo hi H Q => rSlF K x lo hi H Q ∨ rSlS x lo hi H Q ∨ rSlL K x lo hi H Q
theorem sl_all {X : Cx} : SlR X (rSlAll X.K) := sl_tupF.or (sl_str.or sl_list)
theorem cut_whole {l : List D} {lo hi : Option Int} (h1 : HT.sIx l.length 0 lo = 0) (h2 : HT.sIx l.length l.length hi = l.length) : cutD l lo hi = l := by
  unfold cutD
  rw [h1, h2]
  simp
theorem fits_sl_tup {K : PySem.W.Frag} {c : Cl} {W : WX} {σ : L2.St} {φ : List Addr} {H : Hp} {S : Sto} {x : V} {l : List D} {lo hi : Option Int} {Q : VK} (r : Rel K c φ S H) (hx : Rep K φ H (.tup l) x) (p : PostW K c W σ φ H (gE K Q) (.ok (.tup (cutD l lo hi)) S)) : rSlAll K x lo hi H Q := by
  obtain ⟨a, vs, rfl, s, g⟩ := hx.tup_
  refine .inl ⟨a, vs, rfl, s, fun ⟨h1, h2⟩ => ?_, fun _ q ob hq hob => ?_⟩
  · rw [← g.length] at h1 h2
    rw [cut_whole h1 h2] at p
    exact PostW.here r p _ hx
  · exact post_tup r (g.cut lo hi) hq ob hob p
theorem fits_slM {K : PySem.W.Frag} {c : Cl} {W : WX} {σ : L2.St} {φ : List Addr} {H : Hp} {S : Sto} {x : V} {d : D} {lo hi : Option Int} {Q : VK} (r : Rel K c φ S H) (hx : Rep K φ H d x) (p : PostW K c W σ φ H (gE K Q) (slM d lo hi S)) : rSlAll K x lo hi H Q := by
  unfold slM at p
  split at p
  · exact fits_sl_tup r hx p
  · split at p
    · rename_i hz
      exact .inr (.inl ⟨_, hx.str_, hz, PostW.here r p _ rep_str⟩)
    · exact False.elim p
  · split at p
    · rename_i hl
      obtain ⟨a, vs, rfl, s, g⟩ := lstOf_rd r hx hl
      exact .inr (.inr ⟨a, vs, rfl, .inl s, fun q hq => post_lst r (g.cut lo hi) hq p⟩)
    · exact False.elim p
theorem fits_sl {K : PySem.W.Frag} {c : Cl} {W : WX} {σ : L2.St} {φ : List Addr} {H : Hp} {S : Sto} {x : V} {d : D} {lo hi : Option Int} {Q : VK} (r : Rel K c φ S H) (hx : Rep K φ H d x) (p : PostW K c W σ φ H (gE K Q) (slD d lo hi S)) : rSlAll K x lo hi H (fun v H' => FrzTo H' (Q v)) := by
  unfold slD at p
  split at p
  · exact fits_sl_tup r hx p.frz
  · split at p
    · rename_i hz
      exact .inr (.inl ⟨_, hx.str_, hz, PostW.here r p.frz _ rep_str⟩)
    · exact False.elim p
  · split at p
    · rename_i hl
      obtain ⟨a, vs, rfl, s, g⟩ := lstOf_rd r hx hl
      exact .inr (.inr ⟨a, vs, rfl, .inl s, fun q hq => post_pl r (g.cut lo hi) hq p⟩)
    · exact False.elim p
end MM

namespace MM
open PySem PySem.Spec PyProof.Rows L2

section
variable {X : Cx} {c : Cl} {W : WX} {a b e : Expr} {es : List Expr} {ma mb me : ME} {mt mu : MT} {ml : ML} {pos : Pos}

theorem de_neg (ha : DE X c W a ma) : DE X c W (.UnaryOp .USub a pos) (eUn negD ma) := by
  obtain ⟨ta, pa, ha⟩ := ha
  refine ⟨_, pe_un un_neg pa, fun φ σ H ρ S Q r f p => ?_⟩
  refine ha φ σ H ρ S _ r f (PostW.elim p fun d S1 φ1 H1 e1 r1 p1 => fun x hx => ?_)
  unfold negD at p1
  split at p1
  · exact ⟨_, hx.int_, PostW.here r1 p1 _ rep_int⟩
  · exact False.elim p1

theorem de_ix (ha : DE X c W a ma) (hb : DE X c W b mb) (hs : PlainIx b := by intro _ _; rfl) : DE X c W (.Subscript a b pos) (eBin ixD ma mb) := by
  obtain ⟨ta, pa, ha⟩ := ha
  obtain ⟨tb, pb, hb⟩ := hb
  refine ⟨_, pe_ix ix_seq pa pb hs, fun φ σ H ρ S Q r f p => ?_⟩
  refine ha φ σ H ρ S _ r f (PostW.elim p fun d S1 φ1 H1 e1 r1 p1 => fun x hx => ?_)
  refine hb φ1 σ H1 ρ S1 _ r1 (f.stay (e1.stays r)) (PostW.elim p1 fun d2 S2 φ2 H2 e2 r2 p2 => fun y hy => ?_)
  exact fits_ix W σ φ2 H2 S2 x y _ _ Q r2 (hx.stay (e2.stays r1)) hy p2
/-- the ends of a slice -/
abbrev MO := Fr → Sto → R (Option Int)
def DO (X : Cx) (c : Cl) (W : WX) (e : Option Expr) (m : MO) : Prop :=
  ∃ t, PO X e t ∧ ∀ φ σ H ρ S Q, Rel X.K c φ S H → FrRel X.K φ H σ ρ → PostW X.K c W σ φ H (fun o _ _ H' => Q o H') (m ρ S) → t σ H Q
def oN : MO := fun _ S => .ok none S
def oS (m : ME) : MO := fun ρ S => (m ρ S).bind fun d S1 => match d with
  | .int i => .ok (some i) S1
  | _ => .no
theorem do_none : DO X c W none oN := ⟨_, po_none, fun φ σ H ρ S Q r f p => PostW.here r p⟩
theorem do_some (ha : DE X c W a ma) : DO X c W (some a) (oS ma) := by
  obtain ⟨ta, pa, ha⟩ := ha
  refine ⟨_, po_some pa, fun φ σ H ρ S Q r f p => ?_⟩
  refine ha φ σ H ρ S _ r f (PostW.elim p fun d S1 φ1 H1 e1 r1 p1 => fun x hx => ?_)
  split at p1
  · exact ⟨_, hx.int_, PostW.here r1 p1⟩
  · exact False.elim p1
def eSlM (a : ME) (lo hi : MO) : ME := fun ρ S => (a ρ S).bind fun x S1 => (lo ρ S1).bind fun l S2 => (hi ρ S2).bind fun h S3 => slM x l h S3
theorem de_slM {lo hi : Option Expr} {ml mh : MO} {p2 : Pos} (ha : DE X c W a ma) (hl : DO X c W lo ml) (hh : DO X c W hi mh) : DE X c W (.Subscript a (.Slice lo hi none p2) pos) (eSlM ma ml mh) := by
  obtain ⟨ta, pa, ha⟩ := ha
  obtain ⟨tl, pl, hl⟩ := hl
  obtain ⟨th, ph, hh⟩ := hh
  refine ⟨_, pe_slice sl_all pa pl ph, fun φ σ H ρ S Q r f p => ?_⟩
  refine ha φ σ H ρ S _ r f (PostW.elim p fun d S1 φ1 H1 e1 r1 p1 => fun x hx => ?_)
  refine hl φ1 σ H1 ρ S1 _ r1 (f.stay (e1.stays r)) (PostW.elim p1 fun l S2 φ2 H2 e2 r2 p2 => ?_)
  refine hh φ2 σ H2 ρ S2 _ r2 ((f.stay (e1.stays r)).stay (e2.stays r1)) (PostW.elim p2 fun h S3 φ3 H3 e3 r3 p3 => ?_)
  exact fits_slM r3 ((hx.stay (e2.stays r1)).stay (e3.stays r2)) p3

def eSl (a : ME) (lo hi : MO) : ME := fun ρ S => (a ρ S).bind fun x S1 => (lo ρ S1).bind fun l S2 => (hi ρ S2).bind fun h S3 => slD x l h S3
theorem de_sl {lo hi : Option Expr} {ml mh : MO} {p2 : Pos} (ha : DE X c W a ma) (hl : DO X c W lo ml) (hh : DO X c W hi mh) : DE X c W (.Subscript a (.Slice lo hi none p2) pos) (eSl ma ml mh) := by
  obtain ⟨ta, pa, ha⟩ := ha
  obtain ⟨tl, pl, hl⟩ := hl
  obtain ⟨th, ph, hh⟩ := hh
  refine ⟨_, pe_frz (pe_slice sl_all pa pl ph), fun φ σ H ρ S Q r f p => ?_⟩
  refine ha φ σ H ρ S _ r f (PostW.elim p fun d S1 φ1 H1 e1 r1 p1 => fun x hx => ?_)
  refine hl φ1 σ H1 ρ S1 _ r1 (f.stay (e1.stays r)) (PostW.elim p1 fun l S2 φ2 H2 e2 r2 p2 => ?_)
  refine hh φ2 σ H2 ρ S2 _ r2 ((f.stay (e1.stays r)).stay (e2.stays r1)) (PostW.elim p2 fun h S3 φ3 H3 e3 r3 p3 => ?_)
  exact fits_sl r3 ((hx.stay (e2.stays r1)).stay (e3.stays r2)) p3

def aNil : ML := fun _ S => .ok [] S
def aCons (a : ME) (r : ML) : ML := fun ρ S => (a ρ S).bind fun x S1 => (r ρ S1).bind fun xs S2 => .ok (x :: xs) S2
theorem da_nil : DA X c W [] aNil := ⟨_, pa_nil, fun φ σ H ρ S Q r f p => PostW.here r p _ RepL.nil⟩
theorem da_cons (ha : DE X c W e me) (hr : DA X c W es ml) (hs : starEach (e :: es) X.env = (false, eval e X.env) :: starEach es X.env := by rfl) : DA X c W (e :: es) (aCons me ml) := by
  obtain ⟨ta, pa, ha⟩ := ha
  obtain ⟨tr, pr, hr⟩ := hr
  refine ⟨_, pa_cons pa pr hs, fun φ σ H ρ S Q r f p => ?_⟩
  refine ha φ σ H ρ S _ r f (PostW.elim p fun d S1 φ1 H1 e1 r1 p1 => fun x hx => ?_)
  refine hr φ1 σ H1 ρ S1 _ r1 (f.stay (e1.stays r)) (PostW.elim p1 fun ds S2 φ2 H2 e2 r2 p2 => fun ys hy => ?_)
  exact PostW.here r2 p2 _ (RepL.cons (hx.stay (e2.stays r1)) hy)
/-- a written tuple, known to have no dict -/
def tTupF (t : TA) : TE := fun σ H Q => t σ H fun xs H1 => xs.length ≤ sizeLine ∧ ∀ p ob, H1 p = none → ob.dict = none → Q (.ref p) (upd H1 p (.frz ob (.tup xs)))
theorem pe_tupF {X : Cx} {es : List Expr} {t : TA} {pos : Pos} {x1} (h : PA X es t) : PE X (.Tuple es x1 pos) (tTupF t) := ⟨fun pins s σ H Q I hq =>
  wpAny_Tuple_spliced (thn (h.run pos pins s σ H _ I hq) fun us s1 ⟨xs, H1, I1, r, z, q⟩ => ⟨by have := r.length; omega, by
    refine ⟨.ref s1.heap.objs.size, _, I1.laid (t' := s1.toks) (o := .frz { cls := .type "tuple", data := .seq us.toArray } (.tup xs)) (fun b u => Heap.get?_push_of_some _) (Nat.le_refl _) ⟨?_, ?_⟩, rfl, q _ _ (I1.hok.fresh (Nat.le_refl _)) rfl⟩
    · exact Heap.get?_push_size _ rfl
    · exact ⟨z, us, r, ⟨_, Heap.get?_push_size _ rfl, rfl, _, rfl⟩⟩⟩)⟩
def eTup (r : ML) : ME := fun ρ S => (r ρ S).bind fun xs S1 => if xs.length ≤ sizeLine then .ok (.tup xs) S1 else .no
theorem de_tup {x1 : Nat} (ha : DA X c W es ml) : DE X c W (.Tuple es x1 pos) (eTup ml) := by
  obtain ⟨ta, pa, ha⟩ := ha
  refine ⟨_, pe_tupF pa, fun φ σ H ρ S Q r f p => ?_⟩
  refine ha φ σ H ρ S _ r f (PostW.elim p fun ds S1 φ1 H1 e1 r1 p1 => fun vs hv => ?_)
  split at p1
  · rename_i hz
    exact ⟨by rw [← hv.length]; exact hz, fun q ob hq hob => post_tup r1 hv hq ob hob p1⟩
  · exact False.elim p1

def lNew (r : ML) : ML := fun ρ S => (r ρ S).bind fun xs S1 => if xs.length ≤ sizeLine then .ok xs S1 else .no
theorem dn_lst (ha : DA X c W es ml) : DN X c W (.List es pos) (lNew ml) := by
  obtain ⟨ta, pa, ha⟩ := ha
  refine ⟨_, pe_lst pa, fun φ σ H ρ S Q r f p => ?_⟩
  refine ha φ σ H ρ S _ r f (PostW.elim p fun ds S1 φ1 H1 e1 r1 p1 => fun vs hv => ?_)
  split at p1
  · rename_i hz
    refine ⟨by rw [← hv.length]; exact hz, fun q hq => ?_⟩
    obtain ⟨e2, r2⟩ := r1.fresh (u := .lst vs) hq
    exact p1 φ1 _ e2 r2 q vs (e1.back r1 hq) upd_same (r1.free hq) (hv.stay (stays_free hq))
  · exact False.elim p1
end
theorem rel_new {K : PySem.W.Frag} {c : Cl} {φ : List Addr} {H : Hp} {S : Sto} {l : List D} {vs : List V} {p : Addr} (r : Rel K c φ S H) (g : RepL K φ H l vs) (hp : H p = some (.lst vs)) (hn : p ∉ φ) :
    Rel K c (φ ++ [p]) (S ++ [.lst false l]) H := by
  have nd : (φ ++ [p]).Nodup := by
    rw [List.nodup_append]
    refine ⟨r.nd, by simp, fun x hx y hy e => ?_⟩
    simp at hy
    subst hy e
    exact hn hx
  have st : Stays K φ H (φ ++ [p]) H := ⟨fun n x q => by rw [List.getElem?_append_left (List.getElem?_eq_some_iff.mp q).1]; exact q, fun _ _ q => q, fun a xs q => by
    obtain ⟨n, o, q⟩ := q
    exact ⟨fun m => (List.mem_append.mp m).elim n (fun m => by
        have z : a = p := by simpa using m
        rw [z, hp] at q
        cases q), o, q⟩, fun _ q => q⟩
  refine ⟨by simp [r.len], nd, fun n a o' h1 h2 => ?_⟩
  by_cases hn' : n < φ.length
  · rw [List.getElem?_append_left hn'] at h1
    rw [List.getElem?_append_left (by rw [← r.len]; exact hn')] at h2
    exact (r.obj n a o' h1 h2).stay st rfl
  · have e : n = φ.length := by
      have := (List.getElem?_eq_some_iff.mp h1).1
      simp at this
      omega
    subst e
    have e1 : p = a := by simpa using h1
    have e2 : O.lst false l = o' := by
      rw [r.len] at h2
      simpa using h2
    subst e1 e2
    exact ⟨vs, g.stay st, by simpa using hp⟩
section
variable {X : Cx} {c : Cl} {W : WX} {a b e : Expr} {es : List Expr} {ma mb me : ME} {mt mu : MT} {ml : ML} {pos : Pos}
/-- the new list goes to the store -/
def eNew (r : ML) : ME := fun ρ S => (r ρ S).bind fun xs S1 => .ok (.ref S1.length) (S1 ++ [.lst false xs])
theorem de_new (ha : DN X c W e ml) : DE X c W e (eNew ml) := by
  obtain ⟨ta, pa, ha⟩ := ha
  refine ⟨_, pa, fun φ σ H ρ S Q r f p => ?_⟩
  refine ha φ σ H ρ S _ r f ?_
  unfold eNew at p
  cases hm : ml ρ S with
  | ok ds S1 =>
    rw [hm] at p
    intro φ1 H1 e1 r1 q vs h0 hq hn g
    have r2 := rel_new r1 g hq hn
    refine p (φ1 ++ [q]) H1 ⟨?_, r2.nd, e1.keep, e1.frz⟩ r2 _ (rep_ref (by rw [← r1.len]; simp))
    obtain ⟨ψ, e2, h2⟩ := e1.more
    exact ⟨ψ ++ [q], by rw [e2, List.append_assoc], fun x hx => by
      rcases List.mem_append.mp hx with z | z
      · exact h2 x z
      · simp at z
        rw [z]; exact h0⟩
  | ex k S1 => rw [hm] at p; exact p
  | no => rw [hm] at p; exact p
/-- the new list is never written -/
def ePl (r : ML) : ME := fun ρ S => (r ρ S).bind fun xs S1 => .ok (.pl xs) S1
theorem lock_new {K : PySem.W.Frag} {φ : List Addr} {H0 H : Hp} {S : Sto} {xs : List D} {a : Addr} {vs : List V} {R : Hp → Prop} (r : Rel K c φ S H) (hq : H a = some (.lst vs)) (hn : a ∉ φ) (g : RepL K φ H xs vs)
    (h : ∀ ob, Rel K c φ S (upd H a (.frz ob (.lst vs))) → Stays K φ H φ (upd H a (.frz ob (.lst vs))) → Rep K φ (upd H a (.frz ob (.lst vs))) (.pl xs) (.ref a) → R (upd H a (.frz ob (.lst vs)))) : FrzTo H R := by
  refine ⟨[a], fun b hb => by rw [List.mem_singleton.mp hb]; exact ⟨vs, hq⟩, fun H' f => ?_⟩
  obtain ⟨ob, vs', h1, rfl⟩ := frzBy_one f
  rw [hq] at h1
  cases h1
  obtain ⟨r', st⟩ := r.lock (ob := ob) hq hn
  exact h ob r' st (rep_pl ⟨hn, ob, upd_same⟩ (g.stay st))
theorem ext_lock {φ φ1 : List Addr} {H H1 : Hp} {a : Addr} {u : HO} (e : Ext φ H φ1 H1) (h0 : H a = none) : Ext φ H φ1 (upd H1 a u) :=
  ⟨e.more, e.nd, fun b o hb nb => by rw [upd_ne (ne_of_none hb h0)]; exact e.keep b o hb nb, fun b ob u hb => by rw [upd_ne (ne_of_none hb h0)]; exact e.frz b ob u hb⟩
theorem de_pl (ha : DN X c W e ml) : DE X c W e (ePl ml) := by
  obtain ⟨ta, pa, ha⟩ := ha
  refine ⟨_, pe_frz pa, fun φ σ H ρ S Q r f p => ?_⟩
  refine ha φ σ H ρ S _ r f ?_
  unfold ePl at p
  cases hm : ml ρ S with
  | ok ds S1 =>
    rw [hm] at p
    intro φ1 H1 e1 r1 q vs h0 hq hn g
    exact lock_new (H0 := H) r1 hq hn g fun ob r2 st rp => p φ1 _ (ext_lock e1 h0) r2 _ rp
  | ex k S1 => rw [hm] at p; exact p
  | no => rw [hm] at p; exact p
/-- a list that is read -/
theorem dl_new (ha : DN X c W e ml) : DL X c W e ml := by
  obtain ⟨ta, pa, ha⟩ := ha
  refine ⟨_, pa, fun φ σ H ρ S Q r f p => ?_⟩
  exact ha φ σ H ρ S _ r f (p.imp fun ds S' φ' H' g a vs h0 h1 h2 h3 => g a vs (SqL.of h1) h3)
def tV (a : ME) : MT := fun ρ S => (a ρ S).bind fun d S1 => match d with
  | .bl b => .ok b S1
  | _ => .no
theorem dt_of {m : ME} {t : TE} (pt : PT X e (tTest t)) (h : ∀ φ σ H ρ S Q, Rel X.K c φ S H → FrRel X.K φ H σ ρ → PostW X.K c W σ φ H (gE X.K Q) (m ρ S) → t σ H Q) : DT X c W e (tV m) := by
  refine ⟨_, pt, fun φ σ H ρ S Q r f p => ?_⟩
  refine h φ σ H ρ S _ r f (PostW.elim p fun d S1 φ1 H1 e1 r1 p1 => fun x hx => ?_)
  split at p1
  · exact ⟨_, hx.bl_, PostW.here r1 p1⟩
  · exact False.elim p1
theorem dt_cmp {op : CmpOp} {r : R2} {f : F2} (ho : OpR X (compareOp op) r) (hf : Fits2 X.K c r f) (ha : DE X c W a ma) (hb : DE X c W b mb) (hm : behindInMarks op b = false) : DT X c W (.Compare a [op] [b] pos) (tV (eBin f ma mb)) := by
  obtain ⟨ta, pa, ha⟩ := ha
  obtain ⟨tb, pb, hb⟩ := hb
  refine dt_of (pt_cmpR ho pa pb hm) fun φ σ H ρ S Q r f p => ?_
  refine ha φ σ H ρ S _ r f (PostW.elim p fun d S1 φ1 H1 e1 r1 p1 => fun x hx => ?_)
  refine hb φ1 σ H1 ρ S1 _ r1 (f.stay (e1.stays r)) (PostW.elim p1 fun d2 S2 φ2 H2 e2 r2 p2 => fun y hy => ?_)
  exact hf W σ φ2 H2 S2 x y _ _ Q r2 (hx.stay (e2.stays r1)) hy p2
/-- a bool's expression as a test -/
theorem dt_val (ha : DE X c W e me) (he : ∀ whole, isTrue e X.env whole = (do let v ← whole; standAt e.pos; holding [v] (truthy v)) := by intro _; rfl) : DT X c W e (tV me) := by
  obtain ⟨ta, pa, ha⟩ := ha
  exact dt_of (pt_val pa he) ha
def tNt (a : MT) : MT := fun ρ S => (a ρ S).bind fun b S1 => .ok (!b) S1
theorem dt_not (ha : DT X c W a mt) : DT X c W (.UnaryOp .Not a pos) (tNt mt) := by
  obtain ⟨ta, pa, ha⟩ := ha
  refine ⟨_, pt_not pa, fun φ σ H ρ S Q r f p => ?_⟩
  refine ha φ σ H ρ S _ r f (PostW.elim p fun d S1 φ1 H1 e1 r1 p1 => ?_)
  have q := PostW.here r1 p1
  exact q
def tAn (a b : MT) : MT := fun ρ S => (a ρ S).bind fun x S1 => if x = true then b ρ S1 else .ok false S1
def tOo (a b : MT) : MT := fun ρ S => (a ρ S).bind fun x S1 => if x = true then .ok true S1 else b ρ S1
theorem dw_and1 (ha : DT X c W a mt) : DW X c W (.BoolOp .And [a] pos) mt := by
  obtain ⟨ta, pa, ha⟩ := ha
  exact ⟨_, pw_and1 pa, ha⟩
theorem dw_or1 (ha : DT X c W a mt) : DW X c W (.BoolOp .Or [a] pos) mt := by
  obtain ⟨ta, pa, ha⟩ := ha
  exact ⟨_, pw_or1 pa, ha⟩
theorem dw_and {rest : List Expr} (ha : DT X c W a mt) (hb : DW X c W (.BoolOp .And (b :: rest) pos) mu) : DW X c W (.BoolOp .And (a :: b :: rest) pos) (tAn mt mu) := by
  obtain ⟨ta, pa, ha⟩ := ha
  obtain ⟨tb, pb, hb⟩ := hb
  refine ⟨_, pw_and pa pb, fun φ σ H ρ S Q r f p => ?_⟩
  refine ha φ σ H ρ S _ r f (PostW.elim p fun d S1 φ1 H1 e1 r1 p1 => ?_)
  dsimp only [gT]
  split
  · rename_i hd
    rw [if_pos hd] at p1
    exact hb φ1 σ H1 ρ S1 _ r1 (f.stay (e1.stays r)) p1
  · rename_i hd
    rw [if_neg hd] at p1
    exact PostW.here r1 p1
theorem dw_or {rest : List Expr} (ha : DT X c W a mt) (hb : DW X c W (.BoolOp .Or (b :: rest) pos) mu) : DW X c W (.BoolOp .Or (a :: b :: rest) pos) (tOo mt mu) := by
  obtain ⟨ta, pa, ha⟩ := ha
  obtain ⟨tb, pb, hb⟩ := hb
  refine ⟨_, pw_or pa pb, fun φ σ H ρ S Q r f p => ?_⟩
  refine ha φ σ H ρ S _ r f (PostW.elim p fun d S1 φ1 H1 e1 r1 p1 => ?_)
  dsimp only [gT]
  split
  · rename_i hd
    rw [if_pos hd] at p1
    exact PostW.here r1 p1
  · rename_i hd
    rw [if_neg hd] at p1
    exact hb φ1 σ H1 ρ S1 _ r1 (f.stay (e1.stays r)) p1
theorem dt_w (h : DW X c W e mt) : DT X c W e mt := by
  obtain ⟨t, p, h⟩ := h
  exact ⟨t, p.pt, h⟩
/-- and, or, not as values (bools) -/
def eAn (a b : ME) : ME := fun ρ S => (a ρ S).bind fun x S1 => match x with
  | .bl true => b ρ S1
  | .bl false => .ok (.bl false) S1
  | _ => .no
def notD : F1
  | .bl b, S => .ok (.bl (!b)) S
  | _, _ => .no
theorem de_one {op} (ha : DE X c W a ma) : DE X c W (.BoolOp op [a] pos) ma := by
  obtain ⟨ta, pa, ha⟩ := ha
  exact ⟨_, pe_one pa, ha⟩
theorem de_and {rest : List Expr} (ha : DE X c W a ma) (hb : DE X c W (.BoolOp .And (b :: rest) pos) mb) : DE X c W (.BoolOp .And (a :: b :: rest) pos) (eAn ma mb) := by
  obtain ⟨ta, pa, ha⟩ := ha
  obtain ⟨tb, pb, hb⟩ := hb
  refine ⟨_, pe_and pa pb, fun φ σ H ρ S Q r f p => ?_⟩
  refine ha φ σ H ρ S _ r f (PostW.elim p fun d S1 φ1 H1 e1 r1 p1 => fun x hx => ?_)
  split at p1
  · refine ⟨true, hx.bl_, ?_⟩
    rw [if_pos rfl]
    exact hb φ1 σ H1 ρ S1 _ r1 (f.stay (e1.stays r)) p1
  · refine ⟨false, hx.bl_, ?_⟩
    rw [if_neg Bool.false_ne_true]
    exact PostW.here r1 p1 _ rep_bl
  · exact False.elim p1
theorem de_not (ha : DE X c W a ma) : DE X c W (.UnaryOp .Not a pos) (eUn notD ma) := by
  obtain ⟨ta, pa, ha⟩ := ha
  refine ⟨_, pe_not pa, fun φ σ H ρ S Q r f p => ?_⟩
  refine ha φ σ H ρ S _ r f (PostW.elim p fun d S1 φ1 H1 e1 r1 p1 => fun x hx => ?_)
  unfold notD at p1
  split at p1
  · exact ⟨_, hx.bl_, PostW.here r1 p1 _ rep_bl⟩
  · exact False.elim p1
end
end MM

namespace MM
open PySem PySem.Spec PyProof.Rows L2

abbrev FL := List D → Sto → R D
def eCall (f : FL) (a : ML) : ME := fun ρ S => (a ρ S).bind f
def FitsL (K : PySem.W.Frag) (c : Cl) (r : List V → Hp → VK → Prop) (f : FL) : Prop := ∀ W σ φ H S vs ds Q, Rel K c φ S H → RepL K φ H ds vs → PostW K c W σ φ H (gE K Q) (f ds S) → r vs H Q
section
variable {X : Cx} {c : Cl} {W : WX} {e : Expr} {es : List Expr} {ml : ML} {me : ME} {p pos : Pos} {x : Str}
theorem de_callB {id : String} {r : List V → Hp → VK → Prop} {f : FL} (hc : CallR X (.builtin id) r) (hf : FitsL X.K c r f) (hg : Gl X x) (hm : X.mg x = none) (hv : bootBuiltins x = some (.builtin id)) (ha : DA X c W (e :: es) ml)
    (hn : x ≠ "__name__" := by decide) (hdb : (x == ("__debug__" : Str)) = false := by decide) (hs : starEach (e :: es) X.env = (false, eval e X.env) :: starEach es X.env := by rfl) (hpl : (backTo pos (starEach es X.env)).any (·.1) = false := by rfl) :
    DE X c W (.Call (.Name x p) (e :: es) [] pos) (eCall f ml) := by
  obtain ⟨ta, pa, ha⟩ := ha
  refine ⟨_, pe_callB hc hg hm hv pa hn hdb hs hpl, fun φ σ H ρ S Q r f p => ?_⟩
  refine ha φ σ H ρ S _ r f (PostW.elim p fun ds S1 φ1 H1 e1 r1 p1 => fun vs hv => ?_)
  exact hf W σ φ1 H1 S1 vs ds Q r1 hv p1
theorem de_callTy {id : String} {r : List V → Hp → VK → Prop} {f : FL} (hc : CallR X (.type id) r) (hf : FitsL X.K c r f) (hg : Gl X x) (hm : X.mg x = none) (hv : bootBuiltins x = some (.type id)) (ha : DA X c W (e :: es) ml)
    (hn : x ≠ "__name__" := by decide) (hdb : (x == ("__debug__" : Str)) = false := by decide) (hs : starEach (e :: es) X.env = (false, eval e X.env) :: starEach es X.env := by rfl) (hpl : (backTo pos (starEach es X.env)).any (·.1) = false := by rfl) :
    DE X c W (.Call (.Name x p) (e :: es) [] pos) (eCall f ml) := by
  obtain ⟨ta, pa, ha⟩ := ha
  refine ⟨_, pe_callTy hc hg hm hv pa hn hdb hs hpl, fun φ σ H ρ S Q r f p => ?_⟩
  refine ha φ σ H ρ S _ r f (PostW.elim p fun ds S1 φ1 H1 e1 r1 p1 => fun vs hv => ?_)
  exact hf W σ φ1 H1 S1 vs ds Q r1 hv p1
/-- f(list): the list may be new -/
abbrev FS := List D → Sto → R D
def eLs (f : FS) (a : ML) : ME := fun ρ S => (a ρ S).bind f
def FitsS (K : PySem.W.Frag) (c : Cl) (r : List V → Hp → VK → Prop) (f : FS) : Prop := ∀ W σ φ H S a vs ds Q, Rel K c φ S H → SqL K H a vs → RepL K φ H ds vs → PostW K c W σ φ H (gE K Q) (f ds S) → r [.ref a] H Q
theorem de_lsB {id : String} {r : List V → Hp → VK → Prop} {f : FS} (hc : CallR X (.builtin id) r) (hf : FitsS X.K c r f) (hg : Gl X x) (hm : X.mg x = none) (hv : bootBuiltins x = some (.builtin id)) (ha : DL X c W e ml)
    (hn : x ≠ "__name__" := by decide) (hdb : (x == ("__debug__" : Str)) = false := by decide) (hs : starEach [e] X.env = (false, eval e X.env) :: starEach [] X.env := by rfl) (hpl : (backTo pos (starEach [] X.env)).any (·.1) = false := by rfl) :
    DE X c W (.Call (.Name x p) [e] [] pos) (eLs f ml) := by
  obtain ⟨ta, pa, ha⟩ := ha
  refine ⟨_, pe_callB hc hg hm hv (pa_cons pa pa_nil hs) hn hdb hs hpl, fun φ σ H ρ S Q r f p => ?_⟩
  refine ha φ σ H ρ S _ r f (PostW.elim p fun ds S1 φ1 H1 e1 r1 p1 => fun a vs s hv => ?_)
  exact hf W σ φ1 H1 S1 a vs ds Q r1 s hv p1
end

def absD : FL
  | [.int i], S => .ok (.int (if i < 0 then -i else i)) S
  | _, _ => .no
def maxD : FL
  | [.int i, .int j], S => .ok (.int (if j > i then j else i)) S
  | _, _ => .no
def minD : FL
  | [.int i, .int j], S => .ok (.int (if j < i then j else i)) S
  | _, _ => .no
def lenD : FL
  | [.str z], S => if z.length ≤ sizeLine then .ok (.int z.length) S else .no
  | [.tup l], S => .ok (.int l.length) S
  | [.ref n], S => match S[n]? with
    | some (.lst _ l) => .ok (.int l.length) S
    | _ => .no
  | [.scr l], S => .ok (.int l.length) S
  | [.pl l], S => .ok (.int l.length) S
  | _, _ => .no
def strD : FL
  | [.int i], S => if i.natAbs.log2 < 1920 then .ok (.str (toString i)) S else .no
  | [.str z], S => .no
  | _, _ => .no
section
variable {K : PySem.W.Frag} {c : Cl}
theorem one_of {φ : List Addr} {H : Hp} {d : D} {vs : List V} (h : RepL K φ H [d] vs) : ∃ v, vs = [v] ∧ Rep K φ H d v := by
  obtain ⟨v, r, rfl, h1, h2⟩ := h.uncons
  rw [h2.isNil]
  exact ⟨v, rfl, h1⟩
theorem two_of {φ : List Addr} {H : Hp} {d e : D} {vs : List V} (h : RepL K φ H [d, e] vs) : ∃ v w, vs = [v, w] ∧ Rep K φ H d v ∧ Rep K φ H e w := by
  obtain ⟨v, r, rfl, h1, h2⟩ := h.uncons
  obtain ⟨w, rfl, h3⟩ := one_of h2
  exact ⟨v, w, rfl, h1, h3⟩
theorem fits_abs : FitsL K c (fun xs H Q => ∃ i, xs = [.int i] ∧ Q (.int (if i < 0 then -i else i)) H) absD := by
  intro W σ φ H S vs ds Q r h p
  unfold absD at p
  split at p
  · obtain ⟨v, rfl, hv⟩ := one_of h
    rw [hv.int_]
    exact ⟨_, rfl, PostW.here r p _ rep_int⟩
  · exact False.elim p
theorem fits_max : FitsL K c (fun xs H Q => ∃ i j, xs = [.int i, .int j] ∧ Q (.int (if j > i then j else i)) H) maxD := by
  intro W σ φ H S vs ds Q r h p
  unfold maxD at p
  split at p
  · obtain ⟨v, w, rfl, hv, hw⟩ := two_of h
    rw [hv.int_, hw.int_]
    exact ⟨_, _, rfl, PostW.here r p _ rep_int⟩
  · exact False.elim p
theorem fits_min : FitsL K c (fun xs H Q => ∃ i j, xs = [.int i, .int j] ∧ Q (.int (if j < i then j else i)) H) minD := by
  intro W σ φ H S vs ds Q r h p
  unfold minD at p
  split at p
  · obtain ⟨v, w, rfl, hv, hw⟩ := two_of h
    rw [hv.int_, hw.int_]
    exact ⟨_, _, rfl, PostW.here r p _ rep_int⟩
  · exact False.elim p
theorem fits_len : FitsL K c (fun xs H Q => ∃ x n, xs = [x] ∧ LenV K x H n ∧ Q (.int n) H) lenD := by
  intro W σ φ H S vs ds Q r h p
  unfold lenD at p
  split at p
  · obtain ⟨v, rfl, hv⟩ := one_of h
    split at p
    · rename_i hz
      rw [hv.str_]
      exact ⟨_, _, rfl, ⟨hz, rfl⟩, PostW.here r p _ rep_int⟩
    · exact False.elim p
  · obtain ⟨v, rfl, hv⟩ := one_of h
    obtain ⟨a, vs, rfl, s, g⟩ := hv.tup_
    refine ⟨_, _, rfl, .inr ⟨vs, s, rfl⟩, ?_⟩
    rw [← g.length]
    exact PostW.here r p _ rep_int
  · obtain ⟨v, rfl, hv⟩ := one_of h
    split at p
    · rename_i hl
      obtain ⟨a, i1, rfl⟩ := hv.ref_
      obtain ⟨vs, g, s, _⟩ := r.lst i1 hl
      refine ⟨_, _, rfl, .inl ⟨vs, s, rfl⟩, ?_⟩
      rw [← g.length]
      exact PostW.here r p _ rep_int
    · exact False.elim p
  · obtain ⟨v, rfl, hv⟩ := one_of h
    obtain ⟨a, rfl, s⟩ := hv.scr_
    refine ⟨_, _, rfl, .inl ⟨_, s.sq, rfl⟩, ?_⟩
    rw [List.length_map]
    exact PostW.here r p _ rep_int
  · obtain ⟨v, rfl, hv⟩ := one_of h
    obtain ⟨a, vs, rfl, s, g⟩ := hv.pl_
    refine ⟨_, _, rfl, .inl ⟨vs, s.sq, rfl⟩, ?_⟩
    rw [← g.length]
    exact PostW.here r p _ rep_int
  · exact False.elim p
theorem fits_str : FitsL K c (fun xs H Q => ∃ i, xs = [.int i] ∧ i.natAbs.log2 < 1920 ∧ Q (.str (toString i)) H) strD := by
  intro W σ φ H S vs ds Q r h p
  unfold strD at p
  split at p
  · obtain ⟨v, rfl, hv⟩ := one_of h
    split at p
    · rename_i hz
      rw [hv.int_]
      exact ⟨_, rfl, hz, PostW.here r p _ rep_str⟩
    · exact False.elim p
  · exact False.elim p
  · exact False.elim p
end

def bools : List D → Option (List Bool)
  | [] => some []
  | .bl b :: r => (bools r).map (b :: ·)
  | _ => none
def txts : List D → Option (List Str)
  | [] => some []
  | .str b :: r => (txts r).map (b :: ·)
  | _ => none
section
variable {K : PySem.W.Frag} {c : Cl} {φ : List Addr} {H : Hp}
theorem bools_of : ∀ {ds : List D} {vs : List V} {bs : List Bool}, RepL K φ H ds vs → bools ds = some bs → vs = bs.map V.bl
  | [], vs, bs, h, e => by cases e; rw [h.isNil]; rfl
  | .bl b :: r, vs, bs, h, e => by
    obtain ⟨v, r', rfl, h1, h2⟩ := h.uncons
    obtain ⟨q, e1, rfl⟩ := Option.map_eq_some_iff.mp e
    rw [h1.bl_, bools_of h2 e1]
    rfl
  | .non :: r, vs, bs, h, e => by cases e
  | .int _ :: r, vs, bs, h, e => by cases e
  | .str _ :: r, vs, bs, h, e => by cases e
  | .tup _ :: r, vs, bs, h, e => by cases e
  | .ref _ :: r, vs, bs, h, e => by cases e
  | .scr _ :: r, vs, bs, h, e => by cases e
  | .pl _ :: r, vs, bs, h, e => by cases e
theorem txts_of : ∀ {ds : List D} {vs : List V} {bs : List Str}, RepL K φ H ds vs → txts ds = some bs → vs = bs.map V.str
  | [], vs, bs, h, e => by cases e; rw [h.isNil]; rfl
  | .str b :: r, vs, bs, h, e => by
    obtain ⟨v, r', rfl, h1, h2⟩ := h.uncons
    obtain ⟨q, e1, rfl⟩ := Option.map_eq_some_iff.mp e
    rw [h1.str_, txts_of h2 e1]
    rfl
  | .non :: r, vs, bs, h, e => by cases e
  | .bl _ :: r, vs, bs, h, e => by cases e
  | .int _ :: r, vs, bs, h, e => by cases e
  | .tup _ :: r, vs, bs, h, e => by cases e
  | .ref _ :: r, vs, bs, h, e => by cases e
  | .scr _ :: r, vs, bs, h, e => by cases e
  | .pl _ :: r, vs, bs, h, e => by cases e
end
def allD : FS := fun l S => match bools l with
  | some bs => .ok (.bl (bs.all id)) S
  | none => .no
/-- tuple(x): a new one is known to have no dict -/
def rTupF (K : PySem.W.Frag) : List V → Hp → VK → Prop := fun xs H Q => ∃ p ys, xs = [.ref p] ∧ ((SqL K H p ys ∧ ∀ l ob, H l = none → ob.dict = none → Q (.ref l) (upd H l (.frz ob (.tup ys)))) ∨ (SqT K H p ys ∧ Q (.ref p) H))
theorem call_tupleF {X : Cx} : CallR X (.type "tuple") (rTupF X.K) := by
  rintro pins s σ H xs us Q I r ⟨p, ys, rfl, h⟩
  obtain ⟨u, rfl, rx⟩ := vals1 r
  cases rx
  rcases h with ⟨hq, q⟩ | ⟨hq, q⟩
  · obtain ⟨its, r', pl, hz⟩ := I.list hq
    have hn := r'.length
    refine call_tuple_list pl.isList (fun h' kp => ?_) (by rw [List.size_toArray]; omega)
    have I1 : Inv X pins σ H { s with heap := h' } := I.kept (t' := s.toks) kp
    refine ⟨.ref h'.objs.size, _, I1.laid (t' := s.toks) (o := .frz { cls := .type "tuple", data := .seq its.toArray } (.tup ys)) (fun b o => Heap.get?_push_of_some _) (Nat.le_refl _) ⟨?_, ?_⟩, rfl, q _ _ (I1.hok.fresh (Nat.le_refl _)) rfl⟩
    · exact Heap.get?_push_size _ rfl
    · exact ⟨hz, its, r', IsTup.new _ _⟩
  · obtain ⟨its, r', pl, hz⟩ := I.tuple hq
    exact call_tuple_same pl ⟨.ref p, H, I, rfl, q⟩
section
variable {K : PySem.W.Frag} {c : Cl}
theorem fits_all : FitsS K c (rAll K) allD := by
  intro W σ φ H S a vs ds Q r s h p
  unfold allD at p
  split at p
  · rename_i bs e
    exact ⟨a, bs, rfl, by rw [← bools_of h e]; exact s, PostW.here r p _ rep_bl⟩
  · exact False.elim p
end
section
variable {X : Cx} {c : Cl} {W : WX} {e : Expr} {es : List Expr} {ml : ML} {me : ME} {p pos : Pos} {x : Str}
end

inductive Ty where
  | int | bool | str | tuple | list | dict
def Ty.name : Ty → String
  | .int => "int" | .bool => "bool" | .str => "str" | .tuple => "tuple" | .list => "list" | .dict => "dict"
def isOf (S : Sto) (t : Ty) : D → Option Bool
  | .non => some false
  | .bl _ => some (match t with | .int => true | .bool => true | _ => false)
  | .int _ => some (match t with | .int => true | _ => false)
  | .str _ => some (match t with | .str => true | _ => false)
  | .tup _ => some (match t with | .tuple => true | _ => false)
  | .ref n => match S[n]? with
    | some (.lst _ _) => some (match t with | .list => true | _ => false)
    | some (.dct _ _) => some (match t with | .dict => true | _ => false)
    | _ => none
  | .scr _ => none
  | .pl _ => some (match t with | .list => true | _ => false)
def isiD (t : Ty) : F1 := fun d S => match isOf S t d with
  | some b => .ok (.bl b) S
  | none => .no
theorem tyX_tup {K : PySem.W.Frag} {H : Hp} {a : Addr} {vs : List V} (s : SqT K H a vs) : TyX K H (.ref a) (.type "tuple") := by
  rcases s with (s | ⟨o, s⟩) | ⟨o, its, n, h1, h2, _⟩
  · exact .base (.tup s)
  · exact .fTuple s
  · exact .kTuple h1 h2
theorem isi_ok {K : PySem.W.Frag} {c : Cl} {W : WX} {σ : L2.St} {φ : List Addr} {H : Hp} {S : Sto} {Q : VK} {d : D} {x : V} {t : Ty} (r : Rel K c φ S H) (hx : Rep K φ H d x) (p : PostW K c W σ φ H (gE K Q) (isiD t d S)) : rIsi K [x, .ty t.name] H Q := by
  unfold isiD at p
  split at p
  · rename_i b e
    have q := PostW.here r p _ rep_bl
    cases d with
    | non =>
      rw [hx.non_]
      cases e
      refine ⟨_, _, .type "NoneType", .type t.name, _, rfl, .ty _, .base .non, ?_, q⟩
      cases t <;> exact kit_ty (by decide +kernel)
    | bl k =>
      rw [hx.bl_]
      cases e
      refine ⟨_, _, .type "bool", .type t.name, _, rfl, .ty _, .base (.bl _), ?_, q⟩
      cases t <;> exact kit_ty (by decide +kernel)
    | int k =>
      rw [hx.int_]
      cases e
      refine ⟨_, _, .type "int", .type t.name, _, rfl, .ty _, .base (.int _), ?_, q⟩
      cases t <;> exact kit_ty (by decide +kernel)
    | str k =>
      rw [hx.str_]
      cases e
      refine ⟨_, _, .type "str", .type t.name, _, rfl, .ty _, .base (.str _), ?_, q⟩
      cases t <;> exact kit_ty (by decide +kernel)
    | tup l =>
      obtain ⟨a, vs, rfl, s, g⟩ := hx.tup_
      cases e
      refine ⟨_, _, .type "tuple", .type t.name, _, rfl, .ty _, tyX_tup s, ?_, q⟩
      cases t <;> exact kit_ty (by decide +kernel)
    | ref n =>
      obtain ⟨a, i1, rfl⟩ := hx.ref_
      simp only [isOf] at e
      split at e
      · rename_i fz l hl
        cases e
        obtain ⟨vs, g, h⟩ := r.obj n a _ i1 hl
        refine ⟨_, _, .type "list", .type t.name, _, rfl, .ty _, ?_, ?_, q⟩
        · split at h
          · obtain ⟨ob, h⟩ := h
            exact .base (.frz h)
          · exact .base (.lst h)
        · cases t <;> exact kit_ty (by decide +kernel)
      · rename_i fz l hl
        cases e
        obtain ⟨vs, g, h⟩ := r.obj n a _ i1 hl
        refine ⟨_, _, .type "dict", .type t.name, _, rfl, .ty _, ?_, ?_, q⟩
        · split at h
          · obtain ⟨ob, h⟩ := h
            exact .fDict h
          · exact .base (.dK h)
        · cases t <;> exact kit_ty (by decide +kernel)
      · cases e
    | scr n => cases e
    | pl l =>
      obtain ⟨a, vs, rfl, ⟨_, ob, h⟩, g⟩ := hx.pl_
      cases e
      refine ⟨_, _, .type "list", .type t.name, _, rfl, .ty _, .base (.frz h), ?_, q⟩
      cases t <;> exact kit_ty (by decide +kernel)
  · exact False.elim p
theorem de_isi {X : Cx} {c : Cl} {W : WX} {e : Expr} {me : ME} {p p2 pos : Pos} {y : Str} (t : Ty) (hg : Gl X "isinstance") (hm : X.mg "isinstance" = none) (hg2 : Gl X y) (hm2 : X.mg y = none) (hv2 : bootBuiltins y = some (.type t.name)) (ha : DE X c W e me)
    (hn : y ≠ "__name__" := by decide) (hdb : (y == ("__debug__" : Str)) = false := by decide)
    (hs : starEach [e, .Name y p2] X.env = (false, eval e X.env) :: starEach [.Name y p2] X.env := by rfl) (hs2 : starEach [.Name y p2] X.env = (false, eval (.Name y p2) X.env) :: starEach [] X.env := by rfl) (hpl : (backTo pos (starEach [.Name y p2] X.env)).any (·.1) = false := by rfl) :
    DE X c W (.Call (.Name "isinstance" p) [e, .Name y p2] [] pos) (eUn (isiD t) me) := by
  obtain ⟨ta, pa, ha⟩ := ha
  refine ⟨_, pe_callB call_isi hg hm PyProof.Rows.boot_isinstance (pa_cons pa (pa_cons (pe_bltn (v := .ty t.name) hg2 hm2 hv2 rfl hn hdb) pa_nil hs2) hs) (by decide) (by decide) hs hpl, fun φ σ H ρ S Q r f p => ?_⟩
  refine ha φ σ H ρ S _ r f (PostW.elim p fun d S1 φ1 H1 e1 r1 p1 => fun x hx => ?_)
  exact isi_ok r1 hx p1

def isStrD : D → Sto → Bool
  | .str _, _ => true
  | _, _ => false
def isLstD : D → Sto → Bool
  | .ref n, S => match S[n]? with
    | some (.lst _ _) => true
    | _ => false
  | _, _ => false
abbrev FM := D → List D → Sto → R D
def eMeth (ok : D → Sto → Bool) (f : FM) (a : ME) (l : ML) : ME := fun ρ S => (a ρ S).bind fun x S1 => if ok x S1 = true then (l ρ S1).bind fun ys S2 => f x ys S2 else .no
def FitsM (K : PySem.W.Frag) (c : Cl) (r : V → List V → Hp → VK → Prop) (f : FM) : Prop := ∀ W σ φ H S x d vs ds Q, Rel K c φ S H → Rep K φ H d x → RepL K φ H ds vs → PostW K c W σ φ H (gE K Q) (f d ds S) → r x vs H Q
def FitsMS (K : PySem.W.Frag) (c : Cl) (r : V → List V → Hp → VK → Prop) (f : FM) : Prop := ∀ W σ φ H S x d a vs ds Q, Rel K c φ S H → Rep K φ H d x → SqL K H a vs → RepL K φ H ds vs → PostW K c W σ φ H (gE K Q) (f d ds S) → r x [.ref a] H Q
def Typed (K : PySem.W.Frag) (c : Cl) (T : String) (ok : D → Sto → Bool) : Prop := ∀ φ S H d x, Rel K c φ S H → Rep K φ H d x → ok d S = true → tyV K T x H
theorem typed_str {K : PySem.W.Frag} {c : Cl} : Typed K c "str" isStrD := by
  intro φ S H d x r h e
  cases d <;> first | (rw [h.str_]; rfl) | cases e
theorem typed_lst {K : PySem.W.Frag} {c : Cl} : Typed K c "list" isLstD := by
  intro φ S H d x r h e
  cases d <;> first | (cases e; done) | skip
  rename_i n
  simp only [isLstD] at e
  split at e
  · rename_i hl
    obtain ⟨a, i1, rfl⟩ := h.ref_
    obtain ⟨vs, g, s, _⟩ := r.lst i1 hl
    exact .inl ⟨rfl, vs, s⟩
  · cases e
section
variable {X : Cx} {c : Cl} {W : WX} {o e : Expr} {es : List Expr} {ml : ML} {mo me : ME} {apos cpos : Pos} {name : Str} {T id : String} {ok : D → Sto → Bool} {f : FM} {r : V → List V → Hp → VK → Prop}
theorem de_bm (pa : PlainAttrs T) (slot : Slot T name id) (hty : typeOf (.builtin id) = pure (.type "method_descriptor")) (hm : MtR X id r) (hf : FitsM X.K c r f) (ht : Typed X.K c T ok) (ho : DE X c W o mo) (ha : DA X c W (e :: es) ml)
    (hbase : attributeBase o name X.env (eval o X.env) = eval o X.env := by rfl)
    (hfew : ((backTo cpos (starEach (e :: es) X.env)).all (fun x => !x.1) && (backToKw cpos (keywordEach [] X.env)).all (fun x => x.1.isSome)
      && decide ((e :: es).length + ([] : List Keyword).length + (if ([] : List Keyword).isEmpty then 0 else 1) < 30)) = true := by rfl)
    (hline : (apos.endLine == cpos.line) = true := by rfl) (hs : starEach (e :: es) X.env = (false, eval e X.env) :: starEach es X.env := by rfl) (hplain : (backTo cpos (starEach es X.env)).any (·.1) = false := by rfl) :
    DE X c W (.Call (.Attribute o name apos) (e :: es) [] cpos) (eMeth ok f mo ml) := by
  obtain ⟨to, po, ho⟩ := ho
  obtain ⟨ta, pa', ha⟩ := ha
  refine ⟨_, pe_bm pa slot hty hm po pa' hbase hfew hline hs hplain, fun φ σ H ρ S Q r f p => ?_⟩
  refine ho φ σ H ρ S _ r f (PostW.elim p fun d S1 φ1 H1 e1 r1 p1 => fun x hx => ?_)
  split at p1
  · rename_i hk
    refine ⟨ht φ1 S1 H1 d x r1 hx hk, ?_⟩
    refine ha φ1 σ H1 ρ S1 _ r1 (f.stay (e1.stays r)) (PostW.elim p1 fun ds S2 φ2 H2 e2 r2 p2 => fun vs hv => ?_)
    exact hf W σ φ2 H2 S2 x d vs ds Q r2 (hx.stay (e2.stays r1)) hv p2
  · exact False.elim p1
theorem de_bmL (pa : PlainAttrs T) (slot : Slot T name id) (hty : typeOf (.builtin id) = pure (.type "method_descriptor")) (hm : MtR X id r) (hf : FitsMS X.K c r f) (ht : Typed X.K c T ok) (ho : DE X c W o mo) (ha : DL X c W e ml)
    (hbase : attributeBase o name X.env (eval o X.env) = eval o X.env := by rfl)
    (hfew : ((backTo cpos (starEach [e] X.env)).all (fun x => !x.1) && (backToKw cpos (keywordEach [] X.env)).all (fun x => x.1.isSome)
      && decide (([e] : List Expr).length + ([] : List Keyword).length + (if ([] : List Keyword).isEmpty then 0 else 1) < 30)) = true := by rfl)
    (hline : (apos.endLine == cpos.line) = true := by rfl) (hs : starEach [e] X.env = (false, eval e X.env) :: starEach [] X.env := by rfl) (hplain : (backTo cpos (starEach [] X.env)).any (·.1) = false := by rfl) :
    DE X c W (.Call (.Attribute o name apos) [e] [] cpos) (eMeth ok f mo ml) := by
  obtain ⟨to, po, ho⟩ := ho
  obtain ⟨ta, pa', ha⟩ := ha
  refine ⟨_, pe_bm pa slot hty hm po (pa_cons pa' pa_nil hs) hbase hfew hline hs hplain, fun φ σ H ρ S Q r f p => ?_⟩
  refine ho φ σ H ρ S _ r f (PostW.elim p fun d S1 φ1 H1 e1 r1 p1 => fun x hx => ?_)
  split at p1
  · rename_i hk
    refine ⟨ht φ1 S1 H1 d x r1 hx hk, ?_⟩
    refine ha φ1 σ H1 ρ S1 _ r1 (f.stay (e1.stays r)) (PostW.elim p1 fun ds S2 φ2 H2 e2 r2 p2 => fun a vs s hv => ?_)
    exact hf W σ φ2 H2 S2 x d a vs ds Q r2 (hx.stay (e2.stays r1)) s hv p2
  · exact False.elim p1
end
/-- sep.join(list) -/
def joinD : FM := fun x l S => match x with
  | .str a => match txts l with
    | some ys => if (ys.map (·.length)).sum + ys.length * a.length ≤ 16777216 then .ok (.str (Txt.join a ys)) S else .no
    | none => .no
  | _ => .no
/-- xs.append(y), xs.extend(ys), xs.pop(), xs.pop(i) -/
def appendD : FM := fun x l S => match x, l with
  | .ref n, [d] => match S[n]? with
    | some (.lst false xs) => if xs.length < sizeLine then .ok .non (S.set n (.lst false (xs ++ [d]))) else .no
    | _ => .no
  | _, _ => .no
section
variable {K : PySem.W.Frag} {c : Cl}
theorem fits_join : FitsMS K c (fun x xs H Q => ∃ a p, ∃ ys : List Str, x = .str a ∧ xs = [.ref p] ∧ (SqL K H p (ys.map V.str) ∨ SqT K H p (ys.map V.str)) ∧
    (ys.map (·.length)).sum + ys.length * a.length ≤ 16777216 ∧ Q (.str (Txt.join a ys)) H) joinD := by
  intro W σ φ H S x d a vs ds Q r hx s hv p
  unfold joinD at p
  split at p
  · split at p
    · split at p
      · rename_i ys e hz
        exact ⟨_, a, ys, hx.str_, rfl, .inl (by rw [← txts_of hv e]; exact s), hz, PostW.here r p _ rep_str⟩
      · exact False.elim p
    · exact False.elim p
  · exact False.elim p
/-- a list of the store becomes another -/
theorem post_set {W : WX} {σ : L2.St} {φ : List Addr} {H : Hp} {S : Sto} {Q : VK} {n : Nat} {a : Addr} {l : List D} {vs : List V} {d : D} {v : V} (r : Rel K c φ S H) (i1 : φ[n]? = some a) (g : RepL K φ H l vs) (hd : Rep K φ H d v) {us : List V} (hs : H a = some (.lst us))
    (p : PostW K c W σ φ H (gE K Q) (.ok d (S.set n (.lst false l)))) : Q v (upd H a (.lst vs)) := by
  have st := stays_write (u := .lst vs) r i1
  obtain ⟨e, r'⟩ := r.write (o := .lst false l) (u := .lst vs) i1 ⟨vs, g.stay st, by simp [upd_same]⟩ (fun ob w q => by rw [hs] at q; cases q)
  exact p _ _ e r' _ (hd.stay st)
theorem fits_append : FitsM K c rAppend appendD := by
  intro W σ φ H S x d vs ds Q r hx hv p
  unfold appendD at p
  split at p
  · split at p
    · split at p
      · rename_i n d xs hl hz
        obtain ⟨a, i1, rfl⟩ := hx.ref_
        obtain ⟨v, rfl, hd⟩ := one_of hv
        obtain ⟨us, g, _, s⟩ := r.lst i1 hl
        refine ⟨a, us, v, rfl, rfl, s rfl, by rw [← g.length]; exact hz, ?_⟩
        exact post_set r i1 (g.append (RepL.cons hd RepL.nil)) rep_non (s rfl) p
      · exact False.elim p
    · exact False.elim p
  · exact False.elim p
theorem RepL.erase {φ : List Addr} {H : Hp} {l : List D} {vs : List V} (g : RepL K φ H l vs) (k : Nat) : RepL K φ H (l.eraseIdx k) (vs.eraseIdx k) := by
  rw [List.eraseIdx_eq_take_drop_succ, List.eraseIdx_eq_take_drop_succ]
  exact (g.take _).append (g.drop _)
end
section
variable {X : Cx} {c : Cl} {W : WX} {o e : Expr} {ml : ML} {mo me : ME} {apos cpos : Pos}
end
end MM

namespace MM
open PySem PySem.Spec PyProof.Rows L2

def PostS (K : PySem.W.Frag) (c : Cl) (W : WX) (φ : List Addr) (H : Hp) (E : Ends) : RS → Prop
  | .nx ρ' S' => ∀ φ' H' σ', Ext φ H φ' H' → Rel K c φ' S' H' → FrRel K φ' H' σ' ρ' → E.nx σ' H'
  | .bk ρ' S' => ∀ φ' H' σ', Ext φ H φ' H' → Rel K c φ' S' H' → FrRel K φ' H' σ' ρ' → E.bk σ' H'
  | .ct ρ' S' => ∀ φ' H' σ', Ext φ H φ' H' → Rel K c φ' S' H' → FrRel K φ' H' σ' ρ' → E.ct σ' H'
  | .rt d S' => ∀ φ' H' v, Ext φ H φ' H' → Rel K c φ' S' H' → Rep K φ' H' d v → E.rt v H'
  | .ex k ρ' S' => ∀ φ' H' σ', Ext φ H φ' H' → Rel K c φ' S' H' → FrRel K φ' H' σ' ρ' → W (.ref (c.cl k)) none σ' H'
  | .no => False
theorem PostS.from {K : PySem.W.Frag} {c : Cl} {W : WX} {φ φ1 : List Addr} {H H1 : Hp} {E : Ends} {r : RS} (e : Ext φ H φ1 H1) (h : PostS K c W φ H E r) : PostS K c W φ1 H1 E r := by
  cases r with
  | nx ρ S => exact fun φ' H' σ' e' => h φ' H' σ' (e.trans e')
  | bk ρ S => exact fun φ' H' σ' e' => h φ' H' σ' (e.trans e')
  | ct ρ S => exact fun φ' H' σ' e' => h φ' H' σ' (e.trans e')
  | rt ρ S => exact fun φ' H' σ' e' => h φ' H' σ' (e.trans e')
  | ex k ρ S => exact fun φ' H' σ' e' => h φ' H' σ' (e.trans e')
  | no => exact h
def DS (X : Cx) (c : Cl) (W : WX) (st : Stmt) (m : MS) : Prop :=
  ∃ t, PS X st t ∧ ∀ φ σ H ρ S E, Rel X.K c φ S H → FrRel X.K φ H σ ρ → PostS X.K c W φ H E (m ρ S) → t E σ H
def DSs (X : Cx) (c : Cl) (W : WX) (st : List Stmt) (m : MS) : Prop :=
  ∃ t, PSs X st t ∧ ∀ φ σ H ρ S E, Rel X.K c φ S H → FrRel X.K φ H σ ρ → PostS X.K c W φ H E (m ρ S) → t E σ H
/-- an expression, then on -/
def RS.of {α : Type} (ρ : Fr) : R α → (α → Sto → RS) → RS
  | .ok a S, k => k a S
  | .ex c S, _ => .ex c ρ S
  | .no, _ => .no
def RS.then : RS → (Fr → Sto → RS) → RS
  | .nx ρ S, k => k ρ S
  | r, _ => r
def sPass : MS := fun ρ S => .nx ρ S
def sSeq (a b : MS) : MS := fun ρ S => (a ρ S).then b
section
variable {X : Cx} {c : Cl} {W : WX} {st : Stmt} {rest : List Stmt} {m n : MS} {e : Expr} {me : ME} {mt : MT} {pos : Pos}
theorem PostS.expr {α : Type} {φ : List Addr} {H : Hp} {S : Sto} {σ : L2.St} {ρ : Fr} {E : Ends} {r : R α} {k : α → Sto → RS} {good : α → Sto → List Addr → Hp → Prop} (rel : Rel X.K c φ S H) (f : FrRel X.K φ H σ ρ) (h : PostS X.K c W φ H E (RS.of ρ r k))
    (g : ∀ a S1 φ1 H1, Ext φ H φ1 H1 → Rel X.K c φ1 S1 H1 → FrRel X.K φ1 H1 σ ρ → PostS X.K c W φ1 H1 E (k a S1) → good a S1 φ1 H1) : PostW X.K c W σ φ H good r := by
  cases r with
  | ok a S1 => exact fun φ1 H1 e1 r1 => g a S1 φ1 H1 e1 r1 (f.stay (e1.stays rel)) (PostS.from e1 h)
  | ex k S1 => exact fun φ1 H1 e1 r1 => h φ1 H1 σ e1 r1 (f.stay (e1.stays rel))
  | no => exact h
theorem dss_nil : DSs X c W [] sPass := ⟨_, pss_nil, fun φ σ H ρ S E r f p => p φ H σ (Ext.refl r.nd) r f⟩
theorem dss_cons (h1 : DS X c W st m) (h2 : DSs X c W rest n) : DSs X c W (st :: rest) (sSeq m n) := by
  obtain ⟨t1, p1, h1⟩ := h1
  obtain ⟨t2, p2, h2⟩ := h2
  refine ⟨_, pss_cons p1 p2, fun φ σ H ρ S E r f p => ?_⟩
  refine h1 φ σ H ρ S _ r f ?_
  unfold sSeq at p
  cases hm : m ρ S with
  | nx ρ1 S1 =>
    rw [hm] at p
    exact fun φ1 H1 σ1 e1 r1 f1 => h2 φ1 σ1 H1 ρ1 S1 E r1 f1 (PostS.from e1 p)
  | bk ρ1 S1 => rw [hm] at p; exact p
  | ct ρ1 S1 => rw [hm] at p; exact p
  | rt ρ1 S1 => rw [hm] at p; exact p
  | ex k ρ1 S1 => rw [hm] at p; exact p
  | no => rw [hm] at p; exact p
theorem dss_one (h1 : DS X c W st m) : DSs X c W [st] m := by
  obtain ⟨t1, p1, h1⟩ := h1
  exact ⟨_, pss_one p1, h1⟩
def sExpr (a : ME) : MS := fun ρ S => RS.of ρ (a ρ S) fun _ S1 => .nx ρ S1
theorem ds_expr (he : DE X c W e me) (hs : swapsWith e none pos.line X.env = pure false := by rfl) : DS X c W (.Expr e pos) (sExpr me) := by
  obtain ⟨t, p, h⟩ := he
  refine ⟨_, ps_expr p hs, fun φ σ H ρ S E r f p => ?_⟩
  exact h φ σ H ρ S _ r f (PostS.expr r f p fun d S1 φ1 H1 e1 r1 f1 p1 => fun v hv => p1 φ1 H1 σ (Ext.refl r1.nd) r1 f1)
def sRet (a : ME) : MS := fun ρ S => RS.of ρ (a ρ S) fun d S1 => .rt d S1
theorem ds_ret (he : DE X c W e me) : DS X c W (.Return (some e) pos) (sRet me) := by
  obtain ⟨t, p, h⟩ := he
  refine ⟨_, ps_ret p, fun φ σ H ρ S E r f p => ?_⟩
  exact h φ σ H ρ S _ r f (PostS.expr r f p fun d S1 φ1 H1 e1 r1 f1 p1 => fun v hv => p1 φ1 H1 v (Ext.refl r1.nd) r1 hv)
def sIf (t : MT) (a b : MS) : MS := fun ρ S => RS.of ρ (t ρ S) fun x S1 => if x = true then a ρ S1 else b ρ S1
theorem ds_if {d : Expr} {a b : List Stmt} (hc : DT X c W d mt) (ha : DSs X c W a m) (hb : DSs X c W b n) : DS X c W (.If d a b pos) (sIf mt m n) := by
  obtain ⟨tc, pc, hc⟩ := hc
  obtain ⟨ta, pa, ha⟩ := ha
  obtain ⟨tb, pb, hb⟩ := hb
  refine ⟨_, ps_if pc pa pb, fun φ σ H ρ S E r f p => ?_⟩
  refine hc φ σ H ρ S _ r f (PostS.expr r f p fun d S1 φ1 H1 e1 r1 f1 p1 => ?_)
  dsimp only [gT]
  split
  · rename_i hd
    rw [if_pos hd] at p1
    exact ha φ1 σ H1 ρ S1 _ r1 f1 p1
  · rename_i hd
    rw [if_neg hd] at p1
    exact hb φ1 σ H1 ρ S1 _ r1 f1 p1
end

abbrev MG := D → Fr → Option Fr
def PostG (K : PySem.W.Frag) (φ : List Addr) (H : Hp) (Q : L2.St → Hp → Prop) : Option Fr → Prop
  | some ρ' => ∀ σ', FrRel K φ H σ' ρ' → Q σ' H
  | none => False
def DG (X : Cx) (tg : Expr) (m : MG) : Prop := ∃ g, PG X tg g ∧ ∀ φ σ H ρ v d Q, FrRel X.K φ H σ ρ → Rep X.K φ H d v → PostG X.K φ H Q (m d ρ) → g v σ H Q
def DGs (X : Cx) (tg : List Expr) (m : List D → Fr → Option Fr) : Prop := ∃ g, PGs X tg g ∧ ∀ φ σ H ρ v d Q, FrRel X.K φ H σ ρ → RepL X.K φ H d v → PostG X.K φ H Q (m d ρ) → g v σ H Q
def tN (i : Nat) : MG := fun d ρ => some (ρ.set i (some d))
def tsNil : List D → Fr → Option Fr
  | [], ρ => some ρ
  | _, _ => none
def tsCons (a : MG) (r : List D → Fr → Option Fr) : List D → Fr → Option Fr
  | d :: ds, ρ => (a d ρ).bind fun ρ' => r ds ρ'
  | _, _ => none
def tTp (n : Nat) (r : List D → Fr → Option Fr) : MG
  | .tup l, ρ => if l.length = n then r l ρ else none
  | _, _ => none
theorem FrRel.set {K : PySem.W.Frag} {φ : List Addr} {H : Hp} {σ : L2.St} {ρ : Fr} {d : D} {v : V} (f : FrRel K φ H σ ρ) (i : Nat) (h : Rep K φ H d v) : FrRel K φ H (σ.set i (some v)) (ρ.set i (some d)) := by
  refine ⟨by simp [f.1], fun j d' hj => ?_⟩
  by_cases e : i = j
  · subst e
    have hl : i < ρ.length := by
      have := (List.getElem?_eq_some_iff.mp hj).1
      simpa using this
    rw [List.getElem?_set_self hl] at hj
    cases hj
    exact ⟨v, List.getElem?_set_self (by rw [← f.1]; exact hl), h⟩
  · rw [List.getElem?_set_ne e] at hj ⊢
    exact f.2 j d' hj
section
variable {X : Cx} {c : Cl} {W : WX} {e : Expr} {es : List Expr} {me : ME} {pos : Pos} {mg : MG}
theorem dg_name {i : Nat} {x : Str} (h : PG X (.Name x pos) (gName i)) : DG X (.Name x pos) (tN i) :=
  ⟨_, h, fun φ σ H ρ v d Q f r p => p _ (f.set i r)⟩
theorem dgs_nil : DGs X [] tsNil := ⟨_, pgs_nil, fun φ σ H ρ v d Q f r p => by
  unfold tsNil at p
  split at p
  · exact ⟨r.isNil, p σ f⟩
  · exact False.elim p⟩
theorem dgs_cons {mr : List D → Fr → Option Fr} (h1 : DG X e mg) (h2 : DGs X es mr) (hs : (assignEach (e :: es) X.env).map (·.2) = assign e X.env :: (assignEach es X.env).map (·.2) := by rfl) : DGs X (e :: es) (tsCons mg mr) := by
  obtain ⟨g1, p1, h1⟩ := h1
  obtain ⟨g2, p2, h2⟩ := h2
  refine ⟨_, pgs_cons p1 p2 hs, fun φ σ H ρ v d Q f r p => ?_⟩
  unfold tsCons at p
  split at p
  · obtain ⟨v, rr, rfl, ra, rb⟩ := r.uncons
    rename_i _ d ds
    refine ⟨v, rr, rfl, h1 φ σ H ρ v d _ f ra ?_⟩
    cases hm : mg d ρ with
    | none => rw [hm] at p; exact p
    | some ρ' =>
      rw [hm] at p
      exact fun σ' f' => h2 φ σ' H ρ' rr ds Q f' rb p
  · exact False.elim p
theorem dg_tup {k n : Nat} {mr : List D → Fr → Option Fr} (hc : X.calm = true) (h : DGs X es mr) (hn : (assignEach es X.env).length = n := by rfl) (hst : (assignEach es X.env).findIdx? (·.1) = none := by rfl) : DG X (.Tuple es k pos) (tTp n mr) := by
  obtain ⟨g, p, h⟩ := h
  refine ⟨_, pg_tup hc p hn hst, fun φ σ H ρ v d Q f r p => ?_⟩
  unfold tTp at p
  split at p
  · obtain ⟨a, vs, rfl, s, g⟩ := r.tup_
    split at p
    · rename_i hl
      exact ⟨a, vs, rfl, s, by rw [← g.length]; exact hl, h φ σ H _ vs _ Q f g p⟩
    · exact False.elim p
  · exact False.elim p
def sSet (i : Nat) (a : ME) : MS := fun ρ S => RS.of ρ (a ρ S) fun d S1 => .nx (ρ.set i (some d)) S1
theorem ds_set {i : Nat} {x : Str} {pos' : Pos} (hN : X.N.Nodup) (hi : X.N[i]? = some x) (hx : Loc X.env.scope x) (he : DE X c W e me) (hs : swapsWith e (some (.Name x pos')) pos.line X.env = pure false := by rfl) (hf : X.fn x = true ∨ X.env.scope.names.lookup x = some .local := by first | exact .inl rfl | exact .inr rfl | assumption) :
    DS X c W (.Assign [.Name x pos'] e pos) (sSet i me) := by
  obtain ⟨t, p, h⟩ := he
  refine ⟨_, ps_set hN hi hx p hs hf, fun φ σ H ρ S E r f p => ?_⟩
  exact h φ σ H ρ S _ r f (PostS.expr r f p fun d S1 φ1 H1 e1 r1 f1 p1 => fun v hv => p1 φ1 H1 _ (Ext.refl r1.nd) r1 (f1.set i hv))
/-- o[i] = e (a list) -/
def setIx (x i v : D) (S : Sto) : Option Sto := match x, i with
  | .ref n, .int k => match S[n]? with
    | some (.lst false l) => (ixN l.length k).map fun j => S.set n (.lst false (l.set j v))
    | _ => none
  | _, _ => none
def sSetIx (o i a : ME) : MS := fun ρ S => RS.of ρ (a ρ S) fun d S1 => RS.of ρ (o ρ S1) fun x S2 => RS.of ρ (i ρ S2) fun k S3 => match setIx x k d S3 with
  | some S4 => .nx ρ S4
  | none => .no
theorem ds_setIx {o i : Expr} {mo mi : ME} {tpos : Pos} (he : DE X c W e me) (ho : DE X c W o mo) (hi : DE X c W i mi)
    (ha : ∀ v, assign (.Subscript o i tpos) X.env v = (do
      let ov ← holding [v] (eval o X.env)
      let iv ← holding [v, ov] (eval i X.env)
      standAt tpos
      holding [v, ov, iv] (setItem ov iv v)
      release [v, ov, iv] []) := by intro _; rfl)
    (hs : swapsWithSole [.Subscript o i tpos] e pos.line X.env = pure false := by rfl) (hw : swappedStores [.Subscript o i tpos] e X.env = pure none := by rfl)
    (h1 : (assignEach [.Subscript o i tpos] X.env).map (·.2) = [assign (.Subscript o i tpos) X.env] := by rfl) : DS X c W (.Assign [.Subscript o i tpos] e pos) (sSetIx mo mi me) := by
  obtain ⟨t, p, h⟩ := he
  obtain ⟨to, po, ho⟩ := ho
  obtain ⟨ti, pi, hi⟩ := hi
  refine ⟨_, ps_asg p (pg_sub po pi set_list ha) hs hw h1, fun φ σ H ρ S E r f p => ?_⟩
  refine h φ σ H ρ S _ r f (PostS.expr r f p fun d S1 φ1 H1 e1 r1 f1 p1 => fun v hv => ?_)
  refine ho φ1 σ H1 ρ S1 _ r1 f1 (PostS.expr r1 f1 p1 fun x S2 φ2 H2 e2 r2 f2 p2 => fun xv hx => ?_)
  refine hi φ2 σ H2 ρ S2 _ r2 f2 (PostS.expr r2 f2 p2 fun k S3 φ3 H3 e3 r3 f3 p3 => fun kv hk => ?_)
  have hv3 := (hv.stay (e2.stays r1)).stay (e3.stays r2)
  have hx3 := hx.stay (e3.stays r2)
  unfold setIx at p3
  split at p3
  · rename_i S4 h4
    split at h4
    · split at h4
      · rename_i hl
        obtain ⟨j, hj, rfl⟩ := Option.map_eq_some_iff.mp h4
        obtain ⟨a, i1, rfl⟩ := hx3.ref_
        obtain ⟨us, g, _, s⟩ := r3.lst i1 hl
        refine ⟨a, us, _, j, rfl, hk.int_, s rfl, by rw [← g.length]; exact hj, ?_⟩
        have st := stays_write (u := .lst (us.set j v)) r3 i1
        obtain ⟨e4, r4⟩ := r3.write (u := .lst (us.set j v)) i1 (o := .lst false _) ⟨_, (g.set j hv3).stay st, by simp [upd_same]⟩ (fun ob w q => by rw [s rfl] at q; cases q)
        exact p3 _ _ _ e4 r4 (f3.stay st)
      · cases h4
    · cases h4
  · exact False.elim p3
end

def whN (t : MT) (b : MS) : Nat → MS
  | 0, _, _ => .no
  | n + 1, ρ, S => RS.of ρ (t ρ S) fun x S1 => if x = true then (match b ρ S1 with
    | .nx ρ' S' => whN t b n ρ' S'
    | .ct ρ' S' => whN t b n ρ' S'
    | .bk ρ' S' => .nx ρ' S'
    | .rt d S' => .rt d S'
    | .ex k ρ' S' => .ex k ρ' S'
    | .no => .no) else .nx ρ S1
def fuel : Nat := 2 ^ 64
def sWhile (t : MT) (b : MS) : MS := whN t b fuel
theorem ds_while {X : Cx} {c : Cl} {W : WX} {d : Expr} {body : List Stmt} {mt : MT} {m : MS} {pos : Pos} (hp : PassesOwn (model X.prog X.w) X.A X.env X.xe) (hc : DT X c W d mt) (hb : DSs X c W body m) : DS X c W (.While d body [] pos) (sWhile mt m) := by
  obtain ⟨tc, pc, hc⟩ := hc
  obtain ⟨tb, pb, hb⟩ := hb
  refine ⟨_, ps_while hp pc pb, fun φ0 σ0 H0 ρ0 S0 E r0 f0 p0 => ?_⟩
  refine ⟨fun n σ H => ∃ φ ρ S, Ext φ0 H0 φ H ∧ Rel X.K c φ S H ∧ FrRel X.K φ H σ ρ ∧ PostS X.K c W φ H E (whN mt m n ρ S), ⟨fuel, φ0, ρ0, S0, Ext.refl r0.nd, r0, f0, p0⟩, ?_⟩
  rintro n σ H ⟨φ, ρ, S, e, r, f, p⟩
  cases n with
  | zero => exact False.elim p
  | succ n =>
    refine hc φ σ H ρ S _ r f (PostS.expr r f p fun d S1 φ1 H1 e1 r1 f1 p1 => ?_)
    dsimp only [gT]
    split
    · rename_i hd
      rw [if_pos hd] at p1
      refine ⟨fun σ' H' => ∃ φ ρ S, Ext φ0 H0 φ H' ∧ Rel X.K c φ S H' ∧ FrRel X.K φ H' σ' ρ ∧ PostS X.K c W φ H' E (whN mt m n ρ S), fun σ' H' h' => ⟨n, Nat.lt_succ_self n, h'⟩, ?_⟩
      refine hb φ1 σ H1 ρ S1 _ r1 f1 ?_
      cases hm : m ρ S1 with
      | nx ρ2 S2 =>
        rw [hm] at p1
        exact fun φ2 H2 σ2 e2 r2 f2 => ⟨φ2, ρ2, S2, (e.trans e1).trans e2, r2, f2, PostS.from e2 p1⟩
      | ct ρ2 S2 =>
        rw [hm] at p1
        exact fun φ2 H2 σ2 e2 r2 f2 => ⟨φ2, ρ2, S2, (e.trans e1).trans e2, r2, f2, PostS.from e2 p1⟩
      | bk ρ2 S2 => rw [hm] at p1; exact p1
      | rt d S2 => rw [hm] at p1; exact p1
      | ex k ρ2 S2 => rw [hm] at p1; exact p1
      | no => rw [hm] at p1; exact p1
    · rename_i hd
      rw [if_neg hd] at p1
      exact p1 φ1 H1 σ (Ext.refl r1.nd) r1 f1
end MM

namespace MM
open PySem PySem.Spec PyProof.Rows L2

structure IterOk (K : PySem.W.Frag) (c : Cl) (J : It) (items : List D) (g : Sto → Prop) (φ0 : List Addr) (H0 : Hp) : Prop where
  go : ∀ φ S H (i : Nat) d, Ext φ0 H0 φ H → Rel K c φ S H → g S → items[i]? = some d → J.go i H ∧ ∀ x H', J.yld i H x H' → Ext φ H φ H' ∧ Rel K c φ S H' ∧ Rep K φ H' d x
  stop : ∀ φ S H, Ext φ0 H0 φ H → Rel K c φ S H → g S → J.stop items.length H
abbrev MI := Fr → Sto → R (List D × (Sto → Prop))
abbrev gI (K : PySem.W.Frag) (c : Cl) (Q : It → Hp → Prop) : List D × (Sto → Prop) → Sto → List Addr → Hp → Prop := fun x _ φ H => ∀ J, IterOk K c J x.1 x.2 φ H → Q J H
def DI (X : Cx) (c : Cl) (W : WX) (tg iter : Expr) (m : MI) : Prop :=
  ∃ t, PI X tg iter t ∧ ∀ φ σ H ρ S Q, Rel X.K c φ S H → FrRel X.K φ H σ ρ → PostW X.K c W σ φ H (gI X.K c Q) (m ρ S) → t σ H Q
open Classical in
noncomputable def forD (g : Sto → Prop) (tg : MG) (b : MS) : List D → MS
  | [], ρ, S => if g S then .nx ρ S else .no
  | d :: ds, ρ, S => if g S then (match tg d ρ with
    | some ρ1 => match b ρ1 S with
      | .nx ρ' S' => forD g tg b ds ρ' S'
      | .ct ρ' S' => forD g tg b ds ρ' S'
      | .bk ρ' S' => .nx ρ' S'
      | .rt d S' => .rt d S'
      | .ex k ρ' S' => .ex k ρ' S'
      | .no => .no
    | none => .no) else .no
noncomputable def sFor (i : MI) (tg : MG) (b : MS) : MS := fun ρ S => RS.of ρ (i ρ S) fun x S1 => forD x.2 tg b x.1 ρ S1
theorem ds_for {X : Cx} {c : Cl} {W : WX} {tg iter : Expr} {body : List Stmt} {mi : MI} {mg : MG} {m : MS} {pos : Pos} (hp : PassesOwn (model X.prog X.w) X.A X.env X.xe) (hc : X.calm = true) (hi : DI X c W tg iter mi) (hg : DG X tg mg) (hb : DSs X c W body m)
    (hs : ∀ x, foldedSetIterable iter X.env x = pure x := by intro _; rfl) : DS X c W (.For tg iter body [] pos) (sFor mi mg m) := by
  obtain ⟨ti, pi, hi⟩ := hi
  obtain ⟨tg', pg, hg⟩ := hg
  obtain ⟨tb, pb, hb⟩ := hb
  refine ⟨_, ps_for hp hc pi pg pb hs, fun φ0 σ0 H0 ρ0 S0 E r0 f0 p0 => ?_⟩
  refine hi φ0 σ0 H0 ρ0 S0 _ r0 f0 (PostS.expr r0 f0 p0 fun x S1 φ1 H1 e1 r1 f1 p1 => fun J IO => ?_)
  obtain ⟨items, g⟩ := x
  dsimp only at p1 IO
  refine ⟨fun i m' σ H => m' = items.length - i ∧ i ≤ items.length ∧ ∃ φ ρ S, Ext φ1 H1 φ H ∧ Rel X.K c φ S H ∧ FrRel X.K φ H σ ρ ∧ PostS X.K c W φ H E (forD g mg m (items.drop i) ρ S),
    ⟨items.length, by simp, Nat.zero_le _, φ1, ρ0, S1, Ext.refl r1.nd, r1, f1, by simpa using p1⟩, ?_⟩
  rintro i m' σ H ⟨rfl, hle, φ, ρ, S, e, r, f, p⟩
  by_cases hlt : i < items.length
  · right
    rw [List.drop_eq_getElem_cons hlt] at p
    unfold forD at p
    split at p
    · rename_i hgS
      obtain ⟨hgo, hy⟩ := IO.go φ S H i _ e r hgS (List.getElem?_eq_getElem hlt)
      refine ⟨hgo, fun σ' H' => ∃ φ' ρ' S', Ext φ1 H1 φ' H' ∧ Rel X.K c φ' S' H' ∧ FrRel X.K φ' H' σ' ρ' ∧ PostS X.K c W φ' H' E (forD g mg m (items.drop (i + 1)) ρ' S'), fun σ' H' h' => ⟨items.length - (i + 1), by omega, rfl, hlt, h'⟩, fun x H' hx => ?_⟩
      obtain ⟨e2, r2, rx⟩ := hy x H' hx
      have f2 := f.stay (e2.stays r)
      refine hg φ σ H' ρ x _ _ f2 rx ?_
      cases hm : mg items[i] ρ with
      | none => rw [hm] at p; exact p
      | some ρ1 =>
        rw [hm] at p
        intro σ1 f3
        refine hb φ σ1 H' ρ1 S _ r2 f3 ?_
        dsimp only at p
        cases hm2 : m ρ1 S with
        | nx ρ2 S2 =>
          rw [hm2] at p
          exact fun φ2 H2 σ2 e3 r3 f3 => ⟨φ2, ρ2, S2, (e.trans e2).trans e3, r3, f3, PostS.from (e2.trans e3) p⟩
        | ct ρ2 S2 =>
          rw [hm2] at p
          exact fun φ2 H2 σ2 e3 r3 f3 => ⟨φ2, ρ2, S2, (e.trans e2).trans e3, r3, f3, PostS.from (e2.trans e3) p⟩
        | bk ρ2 S2 => rw [hm2] at p; exact PostS.from (r := .bk ρ2 S2) e2 (by exact p)
        | rt d S2 => rw [hm2] at p; exact PostS.from (r := .rt d S2) e2 p
        | ex k ρ2 S2 => rw [hm2] at p; exact PostS.from (r := .ex k ρ2 S2) e2 p
        | no => rw [hm2] at p; exact p
    · exact False.elim p
  · left
    have e' : i = items.length := by omega
    subst e'
    rw [List.drop_length] at p
    unfold forD at p
    split at p
    · rename_i hgS
      exact ⟨IO.stop φ S H e r hgS, p φ H σ (Ext.refl r.nd) r f⟩
    · exact False.elim p

abbrev noG : Sto → Prop := fun _ => True
def inStore (n : Nat) (l : List D) : Sto → Prop := fun S => ∃ fz, S[n]? = some (.lst fz l)
section
variable {K : PySem.W.Frag} {c : Cl} {φ0 : List Addr} {H0 : Hp} {S0 : Sto}
theorem iter_tup {a : Addr} {vs : List V} {l : List D} (r0 : Rel K c φ0 S0 H0) (s : SqT K H0 a vs) (g : RepL K φ0 H0 l vs) : IterOk K c (Itt K a) l noG φ0 H0 := by
  refine ⟨fun φ S H i d e r _ hd => ?_, fun φ S H e r _ => ?_⟩
  · obtain ⟨v, hv, rv⟩ := g.get hd
    have st := e.stays r0
    have s' := st.tup _ _ s
    refine ⟨⟨vs, v, s', hv⟩, fun x H' hy => ?_⟩
    obtain ⟨rfl, hy⟩ := hy
    have := hy vs s'
    rw [hv] at this
    cases this
    exact ⟨Ext.refl r.nd, r, rv.stay st⟩
  · exact ⟨vs, (e.stays r0).tup _ _ s, by rw [g.length]; exact Nat.le_refl _⟩
/-- a list to be walked: its things, and what must stay meanwhile -/
def srcOf (S : Sto) : D → Option (List D × (Sto → Prop))
  | .pl l => some (l, noG)
  | .ref n => match S[n]? with
    | some (.lst _ l) => some (l, inStore n l)
    | _ => none
  | _ => none
theorem src_at {d : D} {v : V} {l : List D} {g : Sto → Prop} (r0 : Rel K c φ0 S0 H0) (h : Rep K φ0 H0 d v) (e : srcOf S0 d = some (l, g)) : ∃ a, v = .ref a ∧ (∃ vs, SqL K H0 a vs) ∧ ∀ φ S H, Ext φ0 H0 φ H → Rel K c φ S H → g S → ∃ vs, SqL K H a vs ∧ RepL K φ H l vs := by
  cases d with
  | pl l' =>
    cases e
    obtain ⟨a, vs, rfl, h1, h2⟩ := h.pl_
    exact ⟨a, rfl, ⟨vs, h1.sq⟩, fun φ S H e r _ => ⟨vs, ((e.stays r0).pul _ _ h1).sq, h2.stay (e.stays r0)⟩⟩
  | ref n =>
    simp only [srcOf] at e
    split at e
    · rename_i fz l' hl
      cases e
      obtain ⟨a, i1, rfl⟩ := h.ref_
      obtain ⟨us, _, s0, _⟩ := r0.lst i1 hl
      refine ⟨a, rfl, ⟨us, s0⟩, fun φ S H e r hS => ?_⟩
      obtain ⟨fz', hS⟩ := hS
      obtain ⟨vs, g, s, _⟩ := r.lst (e.ix i1) hS
      exact ⟨vs, s, g⟩
    · cases e
  | _ => cases e
theorem iter_src {a : Addr} {l : List D} {g : Sto → Prop} (h : ∀ φ S H, Ext φ0 H0 φ H → Rel K c φ S H → g S → ∃ vs, SqL K H a vs ∧ RepL K φ H l vs) : IterOk K c (Itl K a) l g φ0 H0 := by
  refine ⟨fun φ S H i d e r hS hd => ?_, fun φ S H e r hS => ?_⟩
  · obtain ⟨vs, s, gg⟩ := h φ S H e r hS
    obtain ⟨v, hv, rv⟩ := gg.get hd
    refine ⟨⟨vs, v, s, hv⟩, fun x H' hy => ?_⟩
    obtain ⟨rfl, hy⟩ := hy
    have := hy vs s
    rw [hv] at this
    cases this
    exact ⟨Ext.refl r.nd, r, rv⟩
  · obtain ⟨vs, s, gg⟩ := h φ S H e r hS
    exact ⟨vs, s, by rw [gg.length]; exact Nat.le_refl _⟩
def rangeD (lo : Int) (n : Nat) : List D := (List.range n).map fun (i : Nat) => D.int (lo + i)
theorem iter_range {lo : Int} {n : Nat} : IterOk K c (Itr lo n) (rangeD lo n) noG φ0 H0 := by
  refine ⟨fun φ S H i d e r _ hd => ?_, fun φ S H e r _ => ?_⟩
  · unfold rangeD at hd
    rw [List.getElem?_map] at hd
    obtain ⟨j, hj, rfl⟩ := Option.map_eq_some_iff.mp hd
    have hlt : i < n := by
      have := (List.getElem?_eq_some_iff.mp hj).1
      simpa using this
    have : j = i := by simpa [List.getElem?_range hlt] using hj.symm
    subst this
    refine ⟨hlt, fun x H' hy => ?_⟩
    obtain ⟨rfl, rfl⟩ := hy
    exact ⟨Ext.refl r.nd, r, rep_int⟩
  · show n ≤ (rangeD lo n).length
    simp [rangeD]
def signsD (x : Str) : List D := x.cps.toList.map fun k => D.str ⟨#[k]⟩
theorem iter_str {x : Str} : IterOk K c (Its x) (signsD x) noG φ0 H0 := by
  refine ⟨fun φ S H i d e r _ hd => ?_, fun φ S H e r _ => ?_⟩
  · unfold signsD at hd
    rw [List.getElem?_map] at hd
    obtain ⟨k, hk, rfl⟩ := Option.map_eq_some_iff.mp hd
    have hk' : x.cps[i]? = some k := by simpa using hk
    refine ⟨(Array.getElem?_eq_some_iff.mp hk').1, fun v H' hy => ?_⟩
    obtain ⟨rfl, k2, h2, rfl⟩ := hy
    rw [hk'] at h2
    cases h2
    exact ⟨Ext.refl r.nd, r, rep_str⟩
  · show x.cps.size ≤ (signsD x).length
    simp [signsD]
end
section
variable {X : Cx} {c : Cl} {W : WX} {tg e e2 : Expr} {me : ME} {ml : ML} {p pos : Pos}
/-- over a tuple, a text, a list of the store: by its kind -/
def iT (a : ME) : MI := fun ρ S => (a ρ S).bind fun d S1 => match d with
  | .tup l => .ok (l, noG) S1
  | _ => .no
def iS (a : ME) : MI := fun ρ S => (a ρ S).bind fun d S1 => match d with
  | .str x => .ok (signsD x, noG) S1
  | _ => .no
def iL (a : ME) : MI := fun ρ S => (a ρ S).bind fun d S1 => match srcOf S1 d with
  | some x => .ok x S1
  | none => .no
theorem di_tup (h : DE X c W e me) : DI X c W tg e (iT me) := by
  obtain ⟨t, pe, h⟩ := h
  refine ⟨_, pi_tup pe, fun φ σ H ρ S Q r f p => ?_⟩
  refine h φ σ H ρ S _ r f (PostW.elim p fun d S1 φ1 H1 e1 r1 p1 => fun x hx => ?_)
  split at p1
  · obtain ⟨a, vs, rfl, s, g⟩ := hx.tup_
    exact ⟨a, rfl, ⟨vs, s⟩, PostW.here r1 p1 _ (iter_tup r1 s g)⟩
  · exact False.elim p1
theorem di_str (h : DE X c W e me) : DI X c W tg e (iS me) := by
  obtain ⟨t, pe, h⟩ := h
  refine ⟨_, pi_str pe, fun φ σ H ρ S Q r f p => ?_⟩
  refine h φ σ H ρ S _ r f (PostW.elim p fun d S1 φ1 H1 e1 r1 p1 => fun x hx => ?_)
  split at p1
  · exact ⟨_, hx.str_, PostW.here r1 p1 _ iter_str⟩
  · exact False.elim p1
theorem di_lst (h : DE X c W e me) : DI X c W tg e (iL me) := by
  obtain ⟨t, pe, h⟩ := h
  refine ⟨_, pi_list pe, fun φ σ H ρ S Q r f p => ?_⟩
  refine h φ σ H ρ S _ r f (PostW.elim p fun d S1 φ1 H1 e1 r1 p1 => fun x hx => ?_)
  split at p1
  · rename_i y hl
    obtain ⟨a, rfl, hv, hh⟩ := src_at (l := y.1) (g := y.2) r1 hx hl
    exact ⟨a, rfl, hv, PostW.here r1 p1 _ (iter_src hh)⟩
  · exact False.elim p1
/-- range -/
def iR1 (a : ML) : MI := fun ρ S => (a ρ S).bind fun ds S1 => match ds with
  | [.int j] => if -(2 ^ 62) ≤ j ∧ j < 2 ^ 62 then .ok (rangeD 0 j.toNat, noG) S1 else .no
  | _ => .no
theorem di_range1 (hg : Gl X "range") (hm : X.mg "range" = none) (h : DA X c W [e] ml) (hs : starEach [e] X.env = [(false, eval e X.env)] := by rfl) : DI X c W tg (.Call (.Name "range" p) [e] [] pos) (iR1 ml) := by
  obtain ⟨t, pe, h⟩ := h
  refine ⟨_, pi_range1 hg hm pe hs, fun φ σ H ρ S Q r f p => ?_⟩
  refine h φ σ H ρ S _ r f (PostW.elim p fun d S1 φ1 H1 e1 r1 p1 => fun vs hv => ?_)
  split at p1
  · split at p1
    · rename_i hj
      obtain ⟨v, rfl, h1⟩ := one_of hv
      rw [h1.int_]
      exact ⟨_, rfl, hj.1, hj.2, PostW.here r1 p1 _ iter_range⟩
    · exact False.elim p1
  · exact False.elim p1
end

def enumD (l : List D) : List D := (List.range l.length).map fun (i : Nat) => D.tup [.int i, l.getD i .non]
theorem enumD_get {l : List D} {i : Nat} {d : D} (h : (enumD l)[i]? = some d) : ∃ x, l[i]? = some x ∧ d = .tup [.int i, x] := by
  unfold enumD at h
  rw [List.getElem?_map] at h
  obtain ⟨j, hj, rfl⟩ := Option.map_eq_some_iff.mp h
  have hlt : i < l.length := by
    have := (List.getElem?_eq_some_iff.mp hj).1
    simpa using this
  have : j = i := by simpa [List.getElem?_range hlt] using hj.symm
  subst this
  exact ⟨l[j], List.getElem?_eq_getElem hlt, by rw [List.getD_eq_getElem?_getD, List.getElem?_eq_getElem hlt]; rfl⟩
theorem enumD_len (l : List D) : (enumD l).length = l.length := by simp [enumD]
section
variable {K : PySem.W.Frag} {c : Cl} {φ0 : List Addr} {H0 : Hp} {S0 : Sto}
theorem pair_new {φ : List Addr} {S : Sto} {H : Hp} {T : Addr} {dx dy : D} {x y : V} (r : Rel K c φ S H) (hT : H T = none) (hx : Rep K φ H dx x) (hy : Rep K φ H dy y) (hn : txD (.tup [dx, dy]) = false) :
    Ext φ H φ (upd H T (.tup [x, y])) ∧ Rel K c φ S (upd H T (.tup [x, y])) ∧ Rep K φ (upd H T (.tup [x, y])) (.tup [dx, dy]) (.ref T) := by
  obtain ⟨e, r'⟩ := r.fresh (u := .tup [x, y]) hT
  exact ⟨e, r', rep_tup (SqT.of upd_same) ((RepL.cons hx (RepL.cons hy RepL.nil)).stay (stays_free hT)) fun q => by rw [show isTx [dx, dy] = false from hn] at q; cases q⟩
theorem iter_enumT {a : Addr} {vs : List V} {l : List D} (r0 : Rel K c φ0 S0 H0) (s : SqT K H0 a vs) (g : RepL K φ0 H0 l vs) : IterOk K c (IteT K a) (enumD l) noG φ0 H0 := by
  refine ⟨fun φ S H i d e r _ hd => ?_, fun φ S H e r _ => ?_⟩
  · obtain ⟨x, hx, rfl⟩ := enumD_get hd
    obtain ⟨v, hv, rv⟩ := g.get hx
    have st := e.stays r0
    have s' := st.tup _ _ s
    refine ⟨⟨vs, v, s', hv⟩, fun y H' hy => ?_⟩
    obtain ⟨T, z, rfl, hT, rfl, hz⟩ := hy
    have := hz vs s'
    rw [hv] at this
    cases this
    exact pair_new r hT rep_int (rv.stay st) rfl
  · exact ⟨vs, (e.stays r0).tup _ _ s, by rw [enumD_len, g.length]⟩
theorem iter_enumS {a : Addr} {l : List D} {g : Sto → Prop} (h : ∀ φ S H, Ext φ0 H0 φ H → Rel K c φ S H → g S → ∃ vs, SqL K H a vs ∧ RepL K φ H l vs) : IterOk K c (Ite K a) (enumD l) g φ0 H0 := by
  refine ⟨fun φ S H i d e r hS hd => ?_, fun φ S H e r hS => ?_⟩
  · obtain ⟨x, hx, rfl⟩ := enumD_get hd
    obtain ⟨vs, s, gg⟩ := h φ S H e r hS
    obtain ⟨v, hv, rv⟩ := gg.get hx
    refine ⟨⟨vs, v, s, hv⟩, fun y H' hy => ?_⟩
    obtain ⟨T, z, rfl, hT, rfl, hz⟩ := hy
    have := hz vs s
    rw [hv] at this
    cases this
    exact pair_new r hT rep_int rv rfl
  · obtain ⟨vs, s, gg⟩ := h φ S H e r hS
    exact ⟨vs, s, by rw [enumD_len, gg.length]; exact Nat.le_refl _⟩
end
section
variable {X : Cx} {c : Cl} {W : WX} {e e2 : Expr} {me me2 : ME} {ml : ML} {p pos tpos : Pos} {elts : List Expr} {kk : Nat}
def iET (a : ME) : MI := fun ρ S => (a ρ S).bind fun d S1 => match d with
  | .tup l => .ok (enumD l, noG) S1
  | _ => .no
def iEL (a : ME) : MI := fun ρ S => (a ρ S).bind fun d S1 => match srcOf S1 d with
  | some x => .ok (enumD x.1, x.2) S1
  | none => .no
theorem di_enumT (hg : Gl X "enumerate") (hm : X.mg "enumerate" = none) (h : DE X c W e me) (hs : starEach [e] X.env = [(false, eval e X.env)] := by rfl) : DI X c W (.Tuple elts kk tpos) (.Call (.Name "enumerate" p) [e] [] pos) (iET me) := by
  obtain ⟨t, pe, h⟩ := h
  refine ⟨_, pi_enumT hg hm (pa_cons pe pa_nil (by rw [hs]; rfl)) hs, fun φ σ H ρ S Q r f p => ?_⟩
  refine h φ σ H ρ S _ r f (PostW.elim p fun d S1 φ1 H1 e1 r1 p1 => fun x hx => ?_)
  split at p1
  · obtain ⟨a, vs, rfl, s, g⟩ := hx.tup_
    exact ⟨a, vs, rfl, s, PostW.here r1 p1 _ (iter_enumT r1 s g)⟩
  · exact False.elim p1
theorem di_enumL (hg : Gl X "enumerate") (hm : X.mg "enumerate" = none) (h : DE X c W e me) (hs : starEach [e] X.env = [(false, eval e X.env)] := by rfl) : DI X c W (.Tuple elts kk tpos) (.Call (.Name "enumerate" p) [e] [] pos) (iEL me) := by
  obtain ⟨t, pe, h⟩ := h
  refine ⟨_, pi_enum hg hm (pa_cons pe pa_nil (by rw [hs]; rfl)) hs, fun φ σ H ρ S Q r f p => ?_⟩
  refine h φ σ H ρ S _ r f (PostW.elim p fun d S1 φ1 H1 e1 r1 p1 => fun x hx => ?_)
  split at p1
  · rename_i y hl
    obtain ⟨a, rfl, ⟨vs, s⟩, hh⟩ := src_at (l := y.1) (g := y.2) r1 hx hl
    exact ⟨a, vs, rfl, s, PostW.here r1 p1 _ (iter_enumS hh)⟩
  · exact False.elim p1
end
end MM

namespace MM
open PySem PySem.Spec PyProof.Rows L2

abbrev WF : WX := fun _ _ _ _ => False
def tM (K : PySem.W.Frag) (c : Cl) (W : WX) (m : ME) : TE := fun σ H Q => ∃ φ ρ S, Rel K c φ S H ∧ FrRel K φ H σ ρ ∧ PostW K c W σ φ H (gE K Q) (m ρ S)
def tMT (K : PySem.W.Frag) (c : Cl) (W : WX) (m : MT) : TT := fun σ H Q => ∃ φ ρ S, Rel K c φ S H ∧ FrRel K φ H σ ρ ∧ PostW K c W σ φ H (gT Q) (m ρ S)
theorem DE.pe {X : Cx} {c : Cl} {W : WX} {e : Expr} {m : ME} (h : DE X c W e m) : PE X e (tM X.K c W m) := by
  obtain ⟨t, p, h⟩ := h
  exact ⟨fun pins s σ H Q I ⟨φ, ρ, S, r, f, q⟩ => p.run pins s σ H Q I (h φ σ H ρ S Q r f q)⟩
theorem DT.pt {X : Cx} {c : Cl} {W : WX} {e : Expr} {m : MT} (h : DT X c W e m) : PT X e (tMT X.K c W m) := by
  obtain ⟨t, p, h⟩ := h
  exact ⟨fun pins s σ H Q I ⟨φ, ρ, S, r, f, q⟩ => p.run pins s σ H Q I (h φ σ H ρ S Q r f q)⟩
/-- targets of a comprehension: they touch its own slots alone -/
def gMo (K : PySem.W.Frag) (m : MG) (vs : List Nat) : TG := fun v σ H Q => ∃ φ ρ d, FrRel K φ H σ ρ ∧ Rep K φ H d v ∧ (match m d ρ with
  | some ρ' => ∀ σ', FrRel K φ H σ' ρ' → wipe σ' vs = wipe σ vs → Q σ' H
  | none => False)
def DGo (X : Cx) (tg : Expr) (m : MG) (vs : List Nat) : Prop := PG X tg (gMo X.K m vs)
theorem wipe_get {σ : L2.St} {j : Nat} : ∀ {vs : List Nat}, (wipe σ vs)[j]? = if j ∈ vs then σ[j]?.map (fun _ => none) else σ[j]?
  | [] => by simp [wipe]
  | v :: vs => by
    unfold wipe
    by_cases e : v = j
    · subst e
      simp only [List.mem_cons, true_or, if_true]
      by_cases hl : v < σ.length
      · rw [List.getElem?_set_self (by rw [wipe_length]; exact hl), List.getElem?_eq_getElem hl]
        rfl
      · rw [List.getElem?_eq_none (by rw [List.length_set, wipe_length]; omega), List.getElem?_eq_none (by omega)]
        rfl
    · rw [List.getElem?_set_ne e, wipe_get]
      have : (j ∈ v :: vs) ↔ j ∈ vs := by simp [Ne.symm e]
      by_cases h : j ∈ vs
      · rw [if_pos h, if_pos (this.mpr h)]
      · rw [if_neg h, if_neg (fun q => h (this.mp q))]
theorem wipe_set {σ : L2.St} {vs : List Nat} {i : Nat} {x : Option V} (h : i ∈ vs) : wipe (σ.set i x) vs = wipe σ vs := by
  apply List.ext_getElem?
  intro j
  rw [wipe_get, wipe_get]
  by_cases e : i = j
  · subst e
    rw [if_pos h, if_pos h]
    by_cases hl : i < σ.length
    · rw [List.getElem?_set_self hl, List.getElem?_eq_getElem hl]
      rfl
    · rw [List.getElem?_eq_none (by rw [List.length_set]; omega), List.getElem?_eq_none (by omega)]
  · rw [List.getElem?_set_ne e]
theorem dgo_name {X : Cx} {i : Nat} {x : Str} {pos : Pos} {vs : List Nat} (h : PG X (.Name x pos) (gName i)) (hi : i ∈ vs) : DGo X (.Name x pos) (tN i) vs :=
  ⟨fun pins s σ H v u Q I r ⟨φ, ρ, d, f, rd, q⟩ => h.run pins s σ H v u Q I r (q _ (f.set i rd) (wipe_set hi))⟩
def R.cut {α : Type} : R α → R α
  | .ok a S => .ok a S
  | _ => .no
def wipeF (ρ : Fr) (vs : List Nat) : Fr := vs.foldr (fun v r => r.set v none) ρ
theorem wipeF_length (ρ : Fr) : ∀ vs : List Nat, (wipeF ρ vs).length = ρ.length
  | [] => rfl
  | v :: vs => by
    show ((wipeF ρ vs).set v none).length = _
    rw [List.length_set, wipeF_length ρ vs]
theorem FrRel.wipe {K : PySem.W.Frag} {φ : List Addr} {H : Hp} {σ : L2.St} {ρ : Fr} (f : FrRel K φ H σ ρ) : ∀ vs : List Nat, FrRel K φ H (wipe σ vs) (wipeF ρ vs)
  | [] => f
  | v :: vs => by
    have ih := FrRel.wipe f vs
    refine ⟨by rw [wipeF_length, wipe_length, f.1], fun j d hj => ?_⟩
    have hj' : ((wipeF ρ vs).set v none)[j]? = some (some d) := hj
    by_cases e : v = j
    · subst e
      have hl : v < (wipeF ρ vs).length := by
        have := (List.getElem?_eq_some_iff.mp hj').1
        simpa using this
      rw [List.getElem?_set_self hl] at hj'
      cases hj'
    · rw [List.getElem?_set_ne e] at hj'
      obtain ⟨v', h1, h2⟩ := ih.2 j d hj'
      refine ⟨v', ?_, h2⟩
      unfold L2.wipe
      rw [List.getElem?_set_ne e]
      exact h1
open Classical in
noncomputable def lcD (g : Sto → Prop) (tg : MG) (t : MT) (m : ME) (ρ : Fr) : List D → Sto → R (List D)
  | [], S => if g S then .ok [] S else .no
  | d :: ds, S => if g S then (match tg d ρ with
    | some ρ1 => (t ρ1 S).cut.bind fun b S1 => if b = true then (m ρ1 S1).cut.bind fun y S2 => (lcD g tg t m ρ ds S2).bind fun ys S3 => .ok (y :: ys) S3 else lcD g tg t m ρ ds S1
    | none => .no) else .no
noncomputable def lComp (i : MI) (vs : List Nat) (tg : MG) (t : MT) (m : ME) : ML := fun ρ S => (i ρ S).bind fun x S1 => if x.1.length ≤ sizeLine then lcD x.2 tg t m (wipeF ρ vs) x.1 S1 else .no
def tYs : MT := fun _ S => .ok true S
section
variable {K : PySem.W.Frag} {c : Cl} {φ φ1 : List Addr} {H H1 : Hp} {S : Sto}
/-- an object that the store does not know is changed (a list) -/
theorem Rel.other (r : Rel K c φ S H) {a : Addr} {xs ys : List V} (h : H a = some (.lst xs)) (n : a ∉ φ) : Rel K c φ S (upd H a (.lst ys)) ∧ Stays K φ H φ (upd H a (.lst ys)) := by
  have st : Stays K φ H φ (upd H a (.lst ys)) := ⟨fun _ _ q => q, fun b zs q => by
    rcases q with (q | ⟨ob, q⟩) | q
    · exact .inl (.inl (by rw [upd_ne (fun e => by rw [e, h] at q; cases q)]; exact q))
    · exact .inl (.inr ⟨ob, by rw [upd_ne (fun e => by rw [e, h] at q; cases q)]; exact q⟩)
    · exact .inr q, fun b zs q => by
    obtain ⟨n, o, q⟩ := q
    exact ⟨n, o, by rw [upd_ne (fun e => by rw [e, h] at q; cases q)]; exact q⟩, fun b q => by
    obtain ⟨o, xs, q, hd⟩ := q
    exact ⟨o, xs, by rw [upd_ne (fun e => by rw [e, h] at q; cases q)]; exact q, hd⟩⟩
  refine ⟨⟨r.len, r.nd, fun m b o h1 h2 => (r.obj m b o h1 h2).stay st (upd_ne fun e => n (by rw [← e]; exact List.mem_of_getElem? h1))⟩, st⟩
theorem Ext.other (e : Ext φ1 H1 φ H) {a : Addr} {u : HO} (h : H1 a = none) : Ext φ1 H1 φ (upd H a u) :=
  ⟨e.more, e.nd, fun b o hb nb => by rw [upd_ne (ne_of_none hb h)]; exact e.keep b o hb nb, fun b ob u hb => by rw [upd_ne (ne_of_none hb h)]; exact e.frz b ob u hb⟩
end
theorem R.cut_ok {α : Type} {r : R α} {a : α} {S : Sto} (h : r.cut = .ok a S) : r = .ok a S := by
  cases r <;> first | exact h | cases h
theorem lc_reads {X : Cx} {c : Cl} {W : WX} {mi : MI} {vs : List Nat} {tg : MG} {mt : MT} {m : ME} {ti : TI}
    (hi : ∀ φ σ H ρ S Q, Rel X.K c φ S H → FrRel X.K φ H σ ρ → PostW X.K c W σ φ H (gI X.K c Q) (mi ρ S) → ti σ H Q) :
    ∀ φ σ H ρ S Q, Rel X.K c φ S H → FrRel X.K φ H σ ρ → PostW X.K c W σ φ H (gN X.K H Q) (lComp mi vs tg mt m ρ S) → tLc ti (gMo X.K tg vs) (tMT X.K c WF mt) (tM X.K c WF m) vs σ H Q := by
  intro φ0 σ H0 ρ S0 Q r0 f0 p0
  refine hi φ0 σ H0 ρ S0 _ r0 f0 (PostW.elim p0 fun x S1 φ1 H1 e1 r1 p1 => fun J IO => ?_)
  obtain ⟨items, g⟩ := x
  dsimp only at p1 IO
  split at p1
  · rename_i hz
    intro D hD
    have fw := (f0.stay (e1.stays r0)).wipe vs
    have hD0 : H0 D = none := e1.back r1 hD
    have hDn : D ∉ φ1 := r1.free hD
    -- what is wanted of what is left of the comprehension
    let Fin : List MM.D → R (List MM.D) → Prop := fun acc r => match r with
      | .ok ys S' => ∀ φ' H' us, Ext φ1 H1 φ' H' → Rel X.K c φ' S' H' → D ∉ φ' → H' D = some (.lst us) → RepL X.K φ' H' (acc ++ ys) us → Q (.ref D) H'
      | _ => False
    have fin0 : Fin [] (lcD g tg mt m (wipeF ρ vs) items S1) := by
      cases hr : lcD g tg mt m (wipeF ρ vs) items S1 with
      | ok ys S' =>
        rw [hr] at p1
        exact fun φ' H' us e' r' n' hD' g' => p1 φ' H' e' r' D us hD0 hD' n' g'
      | ex k S' =>
        exfalso
        have : ∀ (l : List MM.D) (S : Sto) k S', lcD g tg mt m (wipeF ρ vs) l S ≠ .ex k S' := by
          intro l
          induction l with
          | nil =>
            intro S k S' q
            unfold lcD at q
            split at q <;> cases q
          | cons d ds ih =>
            intro S k S' q
            unfold lcD at q
            split at q
            · split at q
              · rename_i ρ1 _
                cases ht : (mt ρ1 S).cut with
                | no => rw [ht] at q; cases q
                | ex a b => cases h : mt ρ1 S <;> rw [h] at ht <;> cases ht
                | ok b S1 =>
                  rw [ht] at q
                  dsimp only [R.bind] at q
                  split at q
                  · cases hm : (m ρ1 S1).cut with
                    | no => rw [hm] at q; cases q
                    | ex a b => cases h : m ρ1 S1 <;> rw [h] at hm <;> cases hm
                    | ok y S2 =>
                      rw [hm] at q
                      dsimp only [R.bind] at q
                      cases hl : lcD g tg mt m (wipeF ρ vs) ds S2 with
                      | no => rw [hl] at q; cases q
                      | ok a b => rw [hl] at q; cases q
                      | ex a b => exact ih _ _ _ hl
                  · exact ih _ _ _ q
              · cases q
            · cases q
        exact this _ _ _ _ hr
      | no => rw [hr] at p1; exact p1
    obtain ⟨eD, rD⟩ := r1.fresh (u := .lst []) hD
    refine ⟨fun i m' H => m' = items.length - i ∧ i ≤ items.length ∧ ∃ φ S acc us, Ext φ1 H1 φ H ∧ Rel X.K c φ S H ∧ D ∉ φ ∧ H D = some (.lst us) ∧ RepL X.K φ H acc us ∧ us.length ≤ i ∧ Stays X.K φ1 H1 φ H ∧ Fin acc (lcD g tg mt m (wipeF ρ vs) (items.drop i) S),
      ⟨items.length, by simp, Nat.zero_le _, φ1, S1, [], [], eD, rD, hDn, upd_same, RepL.nil, Nat.le_refl _, eD.stays r1, by simpa using fin0⟩, ?_⟩
    rintro i m' H ⟨rfl, hle, φ, S, acc, us, e, r, nD, hDl, ga, hlen, st, fin⟩
    by_cases hlt : i < items.length
    · right
      rw [List.drop_eq_getElem_cons hlt] at fin
      unfold lcD at fin
      split at fin
      · rename_i hgS
        obtain ⟨hgo, hy⟩ := IO.go φ S H i _ e r hgS (List.getElem?_eq_getElem hlt)
        refine ⟨hgo, fun H' => ∃ φ' S' acc' us', Ext φ1 H1 φ' H' ∧ Rel X.K c φ' S' H' ∧ D ∉ φ' ∧ H' D = some (.lst us') ∧ RepL X.K φ' H' acc' us' ∧ us'.length ≤ i + 1 ∧ Stays X.K φ1 H1 φ' H' ∧ Fin acc' (lcD g tg mt m (wipeF ρ vs) (items.drop (i + 1)) S'), fun H' h' => ⟨items.length - (i + 1), by omega, rfl, hlt, h'⟩, fun x H' hx => ?_⟩
        obtain ⟨e2, r2, rx⟩ := hy x H' hx
        have st2 := e2.stays r
        have fw2 := (fw.stay st).stay st2
        refine ⟨φ, wipeF ρ vs, items[i], fw2, rx, ?_⟩
        cases hm : tg items[i] (wipeF ρ vs) with
        | none => rw [hm] at fin; exact fin
        | some ρ1 =>
          rw [hm] at fin
          dsimp only at fin
          intro σ1 f3 hw
          refine ⟨hw.trans (by
            apply List.ext_getElem?
            intro j
            rw [wipe_get, wipe_get]
            by_cases hj : j ∈ vs
            · simp only [hj, if_true, Option.map_map]
              rfl
            · simp [hj]), φ, ρ1, S, r2, f3, ?_⟩
          cases ht : mt ρ1 S with
          | no => rw [ht] at fin; exact fin
          | ex k S2 => rw [ht] at fin; exact fin.elim
          | ok b S2 =>
            rw [ht] at fin
            dsimp only [R.cut, R.bind] at fin
            intro φ3 H3 e3 r3
            have eA := (e.trans e2).trans e3
            have st3 := e3.stays r2
            have nD2 : D ∉ φ := nD
            have hD2 : H' D = some (.lst us) := e2.keep _ _ hDl nD
            have hD3 : H3 D = some (.lst us) := e3.keep _ _ hD2 nD
            have nD3 : D ∉ φ3 := e3.notin hD2 nD
            have ga3 := (ga.stay st2).stay st3
            have stAll : Stays X.K φ1 H1 φ3 H3 := ⟨fun n a h => st3.ix _ _ (st2.ix _ _ (st.ix _ _ h)), fun a xs h => st3.tup _ _ (st2.tup _ _ (st.tup _ _ h)), fun a xs h => st3.pul _ _ (st2.pul _ _ (st.pul _ _ h)), fun a h => st3.nod _ (st2.nod _ (st.nod _ h))⟩
            dsimp only [gT]
            split
            · rename_i hb
              rw [if_pos hb] at fin
              refine ⟨φ3, ρ1, S2, r3, f3.stay st3, ?_⟩
              cases hm2 : m ρ1 S2 with
              | no => rw [hm2] at fin; exact fin
              | ex k S4 => rw [hm2] at fin; exact fin.elim
              | ok y S4 =>
                rw [hm2] at fin
                dsimp only [R.cut, R.bind] at fin
                intro φ4 H4 e4 r4 v hv
                have st4 := e4.stays r3
                have hD4 : H4 D = some (.lst us) := e4.keep _ _ hD3 nD3
                have nD4 : D ∉ φ4 := e4.notin hD3 nD3
                refine ⟨us, hD4, by omega, ?_⟩
                obtain ⟨r5, st5⟩ := r4.other (ys := us ++ [v]) hD4 nD4
                refine ⟨φ4, S4, acc ++ [y], us ++ [v], (eA.trans e4).other hD, r5, nD4, upd_same, ((ga3.stay st4).append (RepL.cons hv RepL.nil)).stay st5, by simp; omega,
                  ⟨fun n a h => st5.ix _ _ (st4.ix _ _ (stAll.ix _ _ h)), fun a xs h => st5.tup _ _ (st4.tup _ _ (stAll.tup _ _ h)), fun a xs h => st5.pul _ _ (st4.pul _ _ (stAll.pul _ _ h)), fun a h => st5.nod _ (st4.nod _ (stAll.nod _ h))⟩, ?_⟩
                cases hl : lcD g tg mt m (wipeF ρ vs) (items.drop (i + 1)) S4 with
                | no => rw [hl] at fin; exact fin
                | ex k S5 => rw [hl] at fin; exact fin
                | ok ys S5 =>
                  rw [hl] at fin
                  intro φ' H' us' e' r' n' hD' g'
                  exact fin φ' H' us' e' r' n' hD' (by simpa using g')
            · rename_i hb
              rw [if_neg hb] at fin
              exact ⟨φ3, S2, acc, us, eA, r3, nD3, hD3, ga3, by omega, stAll, fin⟩
      · exact fin.elim
    · left
      have e' : i = items.length := by omega
      subst e'
      rw [List.drop_length] at fin
      unfold lcD at fin
      split at fin
      · rename_i hgS
        exact ⟨IO.stop φ S H e r hgS, fin φ H us e r nD hDl (by simpa using ga)⟩
      · exact fin.elim
  · exact False.elim p1
section
variable {X : Cx} {c : Cl} {W : WX} {elt tg iter : Expr} {ifs : List Expr} {scope : Scope} {own : List (Str × Nat)} {pos : Pos} {mi : MI} {mg : MG} {mt : MT} {m : ME}
theorem dn_lc (hc : X.calm = true) (hN : X.N.Nodup) (hi : DI X c W tg iter mi) (ok : BlkOk X.N X.env.scope scope own)
    (hg : ∀ (s : Shared) (H : Hp) (C : Addr) (cl : List (Str × Addr)) (fp : List Addr), DGo (X.blk s H scope (compEnvC scope cl C X.env) fp) tg mg (own.map (·.2)))
    (he : ∀ (s : Shared) (H : Hp) (C : Addr) (cl : List (Str × Addr)) (fp : List Addr), DE (X.blk s H scope (compEnvC scope cl C X.env) fp) c WF elt m) (hs : ∀ x, foldedSetIterable iter X.env x = pure x := by intro _; rfl) :
    DN X c W (.ListComp elt [⟨tg, iter, [], 0⟩] scope pos) (lComp mi (own.map (·.2)) mg tYs m) := by
  obtain ⟨ti, pi, hi⟩ := hi
  refine ⟨_, pe_lc (g := gMo X.K mg (own.map fun (p : Str × Nat) => p.2)) (tt := tMT X.K c WF tYs) (te := tM X.K c WF m) hc hN pi ok (fun s H C cl fp => hg s H C cl fp) (fun s H C cl fp => ?_) (fun s H C cl fp => (he s H C cl fp).pe) hs, lc_reads hi⟩
  exact ⟨fun pins s' σ H' Q I ⟨φ, ρ, S, r, f, q⟩ => (pts_nil).run pins s' σ H' Q I (q φ H' (Ext.refl r.nd) r)⟩
/-- y = [..], never written -/
theorem ds_setLcP {i : Nat} {D' : Ends} {σ : L2.St} {φ : List Addr} {H : Hp} {ρ : Fr} {S : Sto} {t : TE} {ml : ML} (r : Rel X.K c φ S H) (f : FrRel X.K φ H σ ρ)
    (h : ∀ φ σ H ρ S Q, Rel X.K c φ S H → FrRel X.K φ H σ ρ → PostW X.K c W σ φ H (gN X.K H Q) (ml ρ S) → t σ H Q)
    (p : PostS X.K c W φ H D' (sSet i (ePl ml) ρ S)) : tAsg t (gName i) { D' with nx := fun σ' H' => FrzTo H' (D'.nx σ') } σ H := by
  refine h φ σ H ρ S _ r f ?_
  unfold sSet ePl at p
  cases hm : ml ρ S with
  | no => rw [hm] at p; exact p
  | ex k S1 => rw [hm] at p; exact fun φ1 H1 e1 r1 => p φ1 H1 σ e1 r1 (f.stay (e1.stays r))
  | ok ds S1 =>
    rw [hm] at p
    intro φ1 H1 e1 r1 q vs h0 hq hn g
    exact lock_new (H0 := H) r1 hq hn g fun ob r2 st rp => p φ1 _ _ (ext_lock e1 h0) r2 (((f.stay (e1.stays r)).stay st).set i rp)
theorem ds_setLcQ {i : Nat} {y : Str} {py spos : Pos} (hc : X.calm = true) (hN : X.N.Nodup) (hy : X.N[i]? = some y) (hyl : X.env.scope.names.lookup y = some .local)
    (hsw : swapsWith (.ListComp elt [⟨tg, iter, [], 0⟩] scope pos) (some (.Name y py)) spos.line X.env = pure true) (hi : DI X c W tg iter mi) (ok : BlkOk X.N X.env.scope scope own)
    (hg : ∀ (s : Shared) (H : Hp) (C : Addr) (cl : List (Str × Addr)) (fp : List Addr), DGo (X.blk s H scope (compEnvC scope cl C X.env) fp) tg mg (own.map (·.2)))
    (he : ∀ (s : Shared) (H : Hp) (C : Addr) (cl : List (Str × Addr)) (fp : List Addr), DE (X.blk s H scope (compEnvC scope cl C X.env) fp) c WF elt m) (hs : ∀ x, foldedSetIterable iter X.env x = pure x := by intro _; rfl) :
    DS X c W (.Assign [.Name y py] (.ListComp elt [⟨tg, iter, [], 0⟩] scope pos) spos) (sSet i (ePl (lComp mi (own.map (·.2)) mg tYs m))) := by
  obtain ⟨ti, pi, hi⟩ := hi
  refine ⟨_, ps_frz (ps_setLc (i := i) (g := gMo X.K mg (own.map fun (p : Str × Nat) => p.2)) (tt := tMT X.K c WF tYs) (te := tM X.K c WF m) hc hN hy hyl hsw pi ok (fun s H C cl fp => hg s H C cl fp) (fun s H C cl fp => ?_) (fun s H C cl fp => (he s H C cl fp).pe) hs),
    fun φ σ H ρ S E r f p => ds_setLcP r f (lc_reads hi) p⟩
  exact ⟨fun pins s' σ H' Q I ⟨φ, ρ, S, r, f, q⟩ => (pts_nil).run pins s' σ H' Q I (q φ H' (Ext.refl r.nd) r)⟩
theorem ds_setLcIfQ {d : Expr} {i : Nat} {y : Str} {py spos : Pos} (hc : X.calm = true) (hN : X.N.Nodup) (hy : X.N[i]? = some y) (hyl : X.env.scope.names.lookup y = some .local)
    (hsw : swapsWith (.ListComp elt [⟨tg, iter, [d], 0⟩] scope pos) (some (.Name y py)) spos.line X.env = pure true) (hi : DI X c W tg iter mi) (ok : BlkOk X.N X.env.scope scope own)
    (hg : ∀ (s : Shared) (H : Hp) (C : Addr) (cl : List (Str × Addr)) (fp : List Addr), DGo (X.blk s H scope (compEnvC scope cl C X.env) fp) tg mg (own.map (·.2)))
    (ht : ∀ (s : Shared) (H : Hp) (C : Addr) (cl : List (Str × Addr)) (fp : List Addr), DT (X.blk s H scope (compEnvC scope cl C X.env) fp) c WF d mt)
    (he : ∀ (s : Shared) (H : Hp) (C : Addr) (cl : List (Str × Addr)) (fp : List Addr), DE (X.blk s H scope (compEnvC scope cl C X.env) fp) c WF elt m) (hs : ∀ x, foldedSetIterable iter X.env x = pure x := by intro _; rfl) :
    DS X c W (.Assign [.Name y py] (.ListComp elt [⟨tg, iter, [d], 0⟩] scope pos) spos) (sSet i (ePl (lComp mi (own.map (·.2)) mg mt m))) := by
  obtain ⟨ti, pi, hi⟩ := hi
  exact ⟨_, ps_frz (ps_setLc (i := i) (g := gMo X.K mg (own.map fun (p : Str × Nat) => p.2)) (tt := tMT X.K c WF mt) (te := tM X.K c WF m) hc hN hy hyl hsw pi ok (fun s H C cl fp => hg s H C cl fp) (fun s H C cl fp => pts_one (ht s H C cl fp).pt) (fun s H C cl fp => (he s H C cl fp).pe) hs),
    fun φ σ H ρ S E r f p => ds_setLcP r f (lc_reads hi) p⟩
end
end MM

namespace MM
open PySem PySem.Spec PyProof.Rows L2

/-- the promise: what sp tells of the arguments' data and the store -/
def spOf (K : PySem.W.Frag) (c : Cl) (n : Nat) (sp : FL) : Sp := fun vs H Q E => ∃ φ S ds, Rel K c φ S H ∧ RepL K φ H ds vs ∧ ds.length = n ∧ PostW K c (fun cls d _ H' => E cls d H') [] φ H (gE K Q) (sp ds S)
structure FnD (P : Program) (w : World) (K : PySem.W.Frag) (mg : Str → Option Value) (base : Heap) (c : Cl) (k : Nat) (f : Addr) (fd : FuncData) (ps : List Str) (sp : FL) : Prop where
  ok : FnOk P w K mg base (L2.CX P w) k f fd ps (spOf K c ps.length sp)
theorem FnD.mono {P : Program} {w : World} {K : PySem.W.Frag} {mg : Str → Option Value} {base : Heap} {c : Cl} {j k : Nat} {f : Addr} {fd : FuncData} {ps : List Str} {sp : FL} (F : FnD P w K mg base c j f fd ps sp) (h : j ≤ k) : FnD P w K mg base c k f fd ps sp := ⟨F.ok.mono h⟩
/-- W and σ do not matter but for what is raised -/
theorem PostW.wish {α : Type} {K : PySem.W.Frag} {c : Cl} {W W' : WX} {σ σ' : L2.St} {φ : List Addr} {H : Hp} {good : α → Sto → List Addr → Hp → Prop} {r : R α} (h : PostW K c W σ φ H good r) (hw : ∀ cls d H', W cls d σ H' → W' cls d σ' H') : PostW K c W' σ' φ H good r := by
  cases r with
  | ok a S => exact h
  | ex k S => exact fun φ' H' e r => hw _ _ _ (h φ' H' e r)
  | no => exact h
section
variable {X : Cx} {c : Cl} {W : WX} {k : Nat} {f : Addr} {fd : FuncData} {ps : List Str} {sp : FL} {x : Str} {p pos : Pos} {e : Expr} {es : List Expr} {ml : ML}
theorem de_call (F : FnD X.prog X.w X.K X.mg X.base c k f fd ps sp) (hr : Room k X.A) (hg : Gl X x) (hm : X.mg x = some (.ref f)) (hk : PySem.W.keepIn X.K (.ref f) = true) (hb : Binds X.K fd ps []) (tk : Takes X W)
    (ha : DA X c W (e :: es) ml) (hlen : ps.length = (e :: es).length) (hl : ∀ ρ S ds S', ml ρ S = .ok ds S' → ds.length = ps.length) (hdb : (x == ("__debug__" : Str)) = false := by decide) (he : starEach (e :: es) X.env = (false, eval e X.env) :: starEach es X.env := by rfl) (hpl : (backTo pos (starEach es X.env)).any (·.1) = false := by rfl) :
    DE X c W (.Call (.Name x p) (e :: es) [] pos) (eCall sp ml) := by
  obtain ⟨ta, pa, ha⟩ := ha
  refine ⟨_, pe_callS (E := WE W) F.ok hr hg hm hk hb (fun σ => passAt tk σ) pa hdb he hpl, fun φ σ H ρ S Q r f p => ?_⟩
  refine ha φ σ H ρ S _ r f ?_
  unfold eCall at p
  cases hq : ml ρ S with
  | no => rw [hq] at p; exact p
  | ex k S1 => rw [hq] at p; exact p
  | ok ds S1 =>
    rw [hq] at p
    intro φ1 H1 e1 r1 vs hv
    exact ⟨φ1, S1, ds, r1, hv, hl _ _ _ _ hq, (PostW.from e1 p).wish fun _ _ _ h => h⟩
end
/-- how many arguments come -/
theorem aCons_len {a : ME} {m : ML} {n : Nat} (h : ∀ ρ S ds S', m ρ S = .ok ds S' → ds.length = n) : ∀ ρ S ds S', aCons a m ρ S = .ok ds S' → ds.length = n + 1 := by
  intro ρ S ds S' e
  unfold aCons at e
  cases ha : a ρ S with
  | no => rw [ha] at e; cases e
  | ex k S1 => rw [ha] at e; cases e
  | ok d S1 =>
    rw [ha] at e
    dsimp only [R.bind] at e
    cases hm : m ρ S1 with
    | no => rw [hm] at e; cases e
    | ex k S1 => rw [hm] at e; cases e
    | ok ds' S2 =>
      rw [hm] at e
      cases e
      simp [h _ _ _ _ hm]
theorem aNil_len : ∀ ρ S ds S', aNil ρ S = .ok ds S' → ds.length = 0 := by
  intro ρ S ds S' e
  cases e
  rfl

/-- the frame at a def's entry -/
def startF (n : Nat) (ds : List D) : Fr := ds.map some ++ List.replicate (n - ds.length) none
def RS.end : RS → R D
  | .nx _ S => .ok .non S
  | .rt d S => .ok d S
  | .ex k _ S => .ex k S
  | _ => .no
def body (n : Nat) (m : MS) : FL := fun ds S => (m (startF n ds) S).end
theorem start_rel {K : PySem.W.Frag} {φ : List Addr} {H : Hp} {N : List Str} {ds : List D} {vs : List V} (h : RepL K φ H ds vs) : FrRel K φ H (L2.start N vs) (startF N.length ds) := by
  have e := h.length
  refine ⟨by simp [L2.start, startF, e], fun i d hi => ?_⟩
  unfold startF at hi
  by_cases hl : i < ds.length
  · rw [List.getElem?_append_left (by simpa using hl), List.getElem?_map] at hi
    obtain ⟨d', h1, h2⟩ := Option.map_eq_some_iff.mp hi
    cases h2
    obtain ⟨v, h3, h4⟩ := h.get h1
    refine ⟨v, ?_, h4⟩
    unfold L2.start
    rw [List.getElem?_append_left (by simp; omega), List.getElem?_map, h3]
    rfl
  · rw [List.getElem?_append_right (by simp; omega)] at hi
    have := List.mem_of_getElem? hi
    rw [List.mem_replicate] at this
    cases this.2
theorem fnD_of {P : Program} {w : World} {K : PySem.W.Frag} {mg : Str → Option Value} {base : Heap} {c : Cl} {x qual : Str} {st : Stmt} {f : Addr} {fd : FuncData} {N ps : List Str} {k : Nat} {m : MS} (F : Fun K x qual st f fd) (S : FnScope N ps (defScope st))
    (hbody : ∀ (cdv : Value) (A : Around) (outer : List Env) (s : Shared) (H : Hp) (E : XK), Room k (A.deeper (envOfC qual (defScope st) s.heap.objs.size f cdv)) →
      Takes (cxOf (L2.CX P w) P w K mg base N qual (defScope st) f cdv A outer s H E) (fun cls d _ H' => E cls d H') → PassesOwn (model P w) (A.deeper (envOfC qual (defScope st) s.heap.objs.size f cdv)) (envOfC qual (defScope st) s.heap.objs.size f cdv) (cxOf (L2.CX P w) P w K mg base N qual (defScope st) f cdv A outer s H E).xe →
      DSs (cxOf (L2.CX P w) P w K mg base N qual (defScope st) f cdv A outer s H E) c (fun cls d _ H' => E cls d H') (defBody st) m) : FnD P w K mg base c (k + 1) f fd ps (body N.length m) := by
  refine ⟨F.okX S (fun vs H Q E h => ?_) (fun cdv A outer s H vs Q E hr h => ?_)⟩
  · obtain ⟨φ, S, ds, r, hv, hl, _⟩ := h
    rw [← hv.length, hl]
  · obtain ⟨φ, S', ds, r, hv, hl, p⟩ := h
    obtain ⟨t, pt, ht⟩ := hbody cdv A outer s H E hr (takes_of rfl rfl rfl rfl) (passes_of (X := cxOf (L2.CX P w) P w K mg base N qual (defScope st) f cdv A outer s H E) rfl)
    refine ⟨t, pt, ht φ _ H (startF N.length ds) S' _ r (start_rel hv) ?_⟩
    unfold body at p
    cases hm : m (startF N.length ds) S' with
    | nx ρ S1 => rw [hm] at p; exact fun φ' H' σ' e' r' f' => p φ' H' e' r' _ rep_non
    | rt d S1 => rw [hm] at p; exact fun φ' H' v e' r' rv => p φ' H' e' r' _ rv
    | ex k ρ S1 => rw [hm] at p; exact fun φ' H' σ' e' r' f' => p φ' H' e' r'
    | bk ρ S1 => rw [hm] at p; exact False.elim p
    | ct ρ S1 => rw [hm] at p; exact False.elim p
    | no => rw [hm] at p; exact False.elim p

mutual
/-- all addresses within lie below n -/
def bdD (n : Nat) : D → Prop
  | .ref m => m < n
  | .tup l => bdL n l
  | .non => True
  | .bl _ => True
  | .int _ => True
  | .str _ => True
  | .scr _ => True
  | .pl l => bdL n l
def bdL (n : Nat) : List D → Prop
  | [] => True
  | d :: ds => bdD n d ∧ bdL n ds
end
def bdKV {κ : Type} (n : Nat) : List (κ × D) → Prop
  | [] => True
  | d :: ds => bdD n d.2 ∧ bdKV n ds
def bdO (n : Nat) : O → Prop
  | .lst _ l => bdL n l
  | .dct _ l => bdKV n l
  | .ins _ l => bdKV n l
def Closed (S : Sto) : Prop := ∀ o ∈ S, bdO S.length o
mutual
theorem Rep.lt {K : PySem.W.Frag} {φ : List Addr} {H : Hp} : ∀ (d : D) (v : V), Rep K φ H d v → bdD φ.length d
  | .non, _, _ => by unfold bdD; trivial
  | .bl _, _, _ => by unfold bdD; trivial
  | .int _, _, _ => by unfold bdD; trivial
  | .str _, _, _ => by unfold bdD; trivial
  | .scr _, _, _ => by unfold bdD; trivial
  | .pl l, v, h => by
    unfold bdD
    obtain ⟨a, vs, rfl, s, g⟩ := h.pl_
    exact RepL.lt l vs g
  | .ref n, v, h => by
    unfold bdD
    obtain ⟨a, h, _⟩ := h.ref_
    exact (List.getElem?_eq_some_iff.mp h).1
  | .tup l, v, h => by
    unfold bdD
    obtain ⟨a, vs, rfl, s, g⟩ := h.tup_
    exact RepL.lt l vs g
theorem RepL.lt {K : PySem.W.Frag} {φ : List Addr} {H : Hp} : ∀ (d : List D) (v : List V), RepL K φ H d v → bdL φ.length d
  | [], _, _ => by unfold bdL; trivial
  | d :: ds, vs, h => by
    obtain ⟨v, r, rfl, h1, h2⟩ := h.uncons
    unfold bdL
    exact ⟨Rep.lt d v h1, RepL.lt ds r h2⟩
end
theorem RepKV.lt {κ : Type} {K : PySem.W.Frag} {φ : List Addr} {H : Hp} : ∀ (d : List (κ × D)) (v : List (κ × V)), RepKV K φ H d v → bdKV φ.length d
  | [], _, _ => by unfold bdKV; trivial
  | d :: ds, vs, h => by
    unfold RepKV at h
    obtain ⟨v, r, rfl, h1, h2⟩ := h
    unfold bdKV
    exact ⟨Rep.lt d.2 v h1, RepKV.lt ds r h2⟩
theorem RepO.lt {K : PySem.W.Frag} {c : Cl} {φ : List Addr} {H : Hp} {a : Addr} : ∀ (o : O), RepO K c φ H a o → bdO φ.length o
  | .lst _ l, ⟨vs, g, _⟩ => g.lt
  | .dct _ l, ⟨vs, g, _⟩ => RepKV.lt l vs g
  | .ins _ l, ⟨_, vs, g, _⟩ => RepKV.lt l vs g
theorem Rel.closed {K : PySem.W.Frag} {c : Cl} {φ : List Addr} {S : Sto} {H : Hp} (r : Rel K c φ S H) : Closed S := fun o ho => by
  obtain ⟨n, hn, e⟩ := List.getElem_of_mem ho
  have h1 : S[n]? = some o := by rw [List.getElem?_eq_getElem hn, e]
  have h2 : n < φ.length := by rw [r.len]; exact hn
  have := (r.obj n _ o (List.getElem?_eq_getElem h2) h1).lt
  rw [r.len] at this
  exact this
/-- fewer addresses -/
structure Fewer (K : PySem.W.Frag) (φ' φ : List Addr) (H : Hp) : Prop where
  ix : ∀ (n : Nat) a, n < φ.length → φ'[n]? = some a → φ[n]? = some a
  sub : ∀ a, a ∈ φ → a ∈ φ'
mutual
theorem Rep.fewer {K : PySem.W.Frag} {φ φ' : List Addr} {H : Hp} (w : Fewer K φ' φ H) : ∀ (d : D) (v : V), bdD φ.length d → Rep K φ' H d v → Rep K φ H d v
  | .non, _, _, h => by unfold Rep at h ⊢; exact h
  | .bl _, _, _, h => by unfold Rep at h ⊢; exact h
  | .int _, _, _, h => by unfold Rep at h ⊢; exact h
  | .str _, _, _, h => by unfold Rep at h ⊢; exact h
  | .scr _, _, _, h => by
    obtain ⟨a, rfl, z⟩ := h.scr_
    unfold Rep
    refine ⟨a, rfl, ?_⟩
    rcases z with ⟨n, z⟩ | z
    · exact .inl ⟨fun q => n (w.sub _ q), z⟩
    · exact .inr z
  | .ref n, _, e, h => by
    unfold bdD at e
    obtain ⟨a, z, rfl⟩ := h.ref_
    exact rep_ref (w.ix n a e z)
  | .tup l, v, e, h => by
    unfold bdD at e
    obtain ⟨a, vs, rfl, s, g⟩ := h.tup_
    exact rep_tup s (RepL.fewer w l vs e g) h.nod
  | .pl l, v, e, h => by
    unfold bdD at e
    obtain ⟨a, vs, rfl, s, g⟩ := h.pl_
    exact rep_pl ⟨fun q => s.1 (w.sub _ q), s.2⟩ (RepL.fewer w l vs e g)
theorem RepL.fewer {K : PySem.W.Frag} {φ φ' : List Addr} {H : Hp} (w : Fewer K φ' φ H) : ∀ (d : List D) (v : List V), bdL φ.length d → RepL K φ' H d v → RepL K φ H d v
  | [], _, _, h => by rw [h.isNil]; exact RepL.nil
  | d :: ds, vs, e, h => by
    unfold bdL at e
    obtain ⟨v, r, rfl, h1, h2⟩ := h.uncons
    exact RepL.cons (Rep.fewer w d v e.1 h1) (RepL.fewer w ds r e.2 h2)
end
theorem RepKV.fewer {κ : Type} {K : PySem.W.Frag} {φ φ' : List Addr} {H : Hp} (w : Fewer K φ' φ H) : ∀ (d : List (κ × D)) (v : List (κ × V)), bdKV φ.length d → RepKV K φ' H d v → RepKV K φ H d v
  | [], _, _, h => h
  | d :: ds, vs, e, h => by
    unfold RepKV at h ⊢
    unfold bdKV at e
    obtain ⟨v, r, rfl, h1, h2⟩ := h
    exact ⟨v, r, rfl, Rep.fewer w d.2 v e.1 h1, RepKV.fewer w ds r e.2 h2⟩
theorem RepO.fewer {K : PySem.W.Frag} {c : Cl} {φ φ' : List Addr} {H : Hp} {a : Addr} (w : Fewer K φ' φ H) : ∀ (o : O), bdO φ.length o → RepO K c φ' H a o → RepO K c φ H a o
  | .lst _ l, e, ⟨vs, g, h⟩ => ⟨vs, g.fewer w _ _ e, h⟩
  | .dct _ l, e, ⟨vs, g, h⟩ => ⟨vs, RepKV.fewer w _ _ e g, h⟩
  | .ins _ l, e, ⟨dx, vs, g, h⟩ => ⟨dx, vs, RepKV.fewer w _ _ e g, h⟩
/-- the tail of the store is forgotten -/
theorem Rel.forget {K : PySem.W.Frag} {c : Cl} {φ φ' : List Addr} {H H' : Hp} {S S' T : Sto} (r : Rel K c φ S H) (e : Ext φ H φ' H') (r' : Rel K c φ' (S' ++ T) H') (hl : S.length ≤ S'.length) (hc : Closed S') :
    Ext φ H (φ'.take S'.length) H' ∧ Rel K c (φ'.take S'.length) S' H' ∧ Fewer K φ' (φ'.take S'.length) H' := by
  have hlen : φ'.length = S'.length + T.length := by rw [r'.len, List.length_append]
  have hlen' : (φ'.take S'.length).length = S'.length := by rw [List.length_take]; omega
  have nd : (φ'.take S'.length).Nodup := r'.nd.sublist (List.take_sublist _ _)
  have w : Fewer K φ' (φ'.take S'.length) H' := ⟨fun n a h q => by rw [List.getElem?_take_of_lt (by omega)]; exact q, fun a h => List.mem_of_mem_take h⟩
  obtain ⟨ψ, hψ, hn⟩ := e.more
  refine ⟨⟨⟨ψ.take (S'.length - φ.length), ?_, fun a h => hn a (List.mem_of_mem_take h)⟩, nd, e.keep, e.frz⟩, ⟨hlen', nd, fun n a o h1 h2 => ?_⟩, w⟩
  · rw [hψ, List.take_append, List.take_of_length_le (by rw [r.len]; exact hl)]
  · have hlt : n < S'.length := (List.getElem?_eq_some_iff.mp h2).1
    have h1' : φ'[n]? = some a := by rw [List.getElem?_take_of_lt hlt] at h1; exact h1
    refine (r'.obj n a o h1' (by rw [List.getElem?_append_left hlt]; exact h2)).fewer w _ ?_
    rw [hlen']
    exact hc o (List.mem_of_getElem? h2)
/-- sp tells what sp' tells, up to what is thrown away -/
def Refines (sp sp' : FL) : Prop := ∀ ds S, Closed S → bdL S.length ds → match sp' ds S with
  | .ok d S' => ∃ T, sp ds S = .ok d (S' ++ T) ∧ bdD S'.length d ∧ S.length ≤ S'.length ∧ Closed S'
  | .ex k S' => ∃ T, sp ds S = .ex k (S' ++ T) ∧ S.length ≤ S'.length ∧ Closed S'
  | .no => True
theorem FnD.imp {P : Program} {w : World} {K : PySem.W.Frag} {mg : Str → Option Value} {base : Heap} {c : Cl} {k : Nat} {f : Addr} {fd : FuncData} {ps : List Str} {sp sp' : FL} (F : FnD P w K mg base c k f fd ps sp) (h : Refines sp sp') : FnD P w K mg base c k f fd ps sp' := by
  refine ⟨F.ok.imp fun vs H Q E q => ?_⟩
  obtain ⟨φ, S, ds, r, g, hl, p⟩ := q
  refine ⟨φ, S, ds, r, g, hl, ?_⟩
  have hh := h ds S r.closed (by rw [← r.len]; exact g.lt)
  cases hs : sp' ds S with
  | no => rw [hs] at p; exact False.elim p
  | ok d S' =>
    rw [hs] at p hh
    obtain ⟨T, e, hd, h1, h2⟩ := hh
    rw [e]
    intro φ' H' e' r' v hv
    obtain ⟨e2, r2, w2⟩ := r.forget e' r' h1 h2
    exact p _ _ e2 r2 v (hv.fewer w2 _ _ (by rw [r2.len]; exact hd))
  | ex k S' =>
    rw [hs] at p hh
    obtain ⟨T, e, h1, h2⟩ := hh
    rw [e]
    intro φ' H' e' r'
    obtain ⟨e2, r2, w2⟩ := r.forget e' r' h1 h2
    exact p _ _ e2 r2

mutual
def mapR (g : Nat → Option D) : D → Option D
  | .ref n => g n
  | .tup l => (mapRL g l).map .tup
  | .pl l => (mapRL g l).map .pl
  | .non => some .non
  | .bl b => some (.bl b)
  | .int i => some (.int i)
  | .str x => some (.str x)
  | .scr ns => some (.scr ns)
def mapRL (g : Nat → Option D) : List D → Option (List D)
  | [] => some []
  | d :: ds => match mapR g d, mapRL g ds with
    | some a, some b => some (a :: b)
    | _, _ => none
end
def rfz (T : Sto) (k : Nat) : Nat → Nat → Option D
  | 0, n => if n < k then some (.ref n) else none
  | f + 1, n => if n < k then some (.ref n) else match T[n - k]? with
    | some (.lst _ l) => (mapRL (rfz T k f) l).map .pl
    | _ => none
def rfzD (T : Sto) (k : Nat) (d : D) : Option D := mapR (rfz T k 3) d
def Kept (S A : Sto) : Prop := ∀ (n : Nat) o, A[n]? = some o → S[n]? = some o ∨ bdO S.length o
open Classical in
noncomputable def gc (S : Sto) : R D → R D
  | .ok d S' => match rfzD (S'.drop S.length) S.length d with
    | some d' => if Kept S (S'.take S.length) ∧ S.length ≤ S'.length then .ok d' (S'.take S.length) else .ok d S'
    | none => .ok d S'
  | .ex k S' => if Kept S (S'.take S.length) ∧ S.length ≤ S'.length then .ex k (S'.take S.length) else .ex k S'
  | .no => .no
noncomputable def gcF (sp : FL) : FL := fun ds S => gc S (sp ds S)
theorem sts_of {K : PySem.W.Frag} {φ φ' : List Addr} {H H' : Hp} : ∀ {l l' : List D} {vs : List V}, l'.all isSt = true → RepL K φ' H' l' vs → RepL K φ H l vs → l.all isSt = true
  | [], _, _, _, _, _ => rfl
  | d :: l, l', vs, h, r', r => by
    obtain ⟨v, vr, rfl, h1, h2⟩ := r.uncons
    cases l' with
    | nil => have := r'.isNil; cases this
    | cons d' l' =>
      obtain ⟨w, wr, e, g1, g2⟩ := r'.uncons
      cases e
      rw [List.all_cons, Bool.and_eq_true] at h
      have e2 := sts_of h.2 g2 h2
      cases d' <;> first | (cases h.1; done) | skip
      have ev := g1.str_
      subst ev
      have ed : isSt d = true := by
        cases d <;> unfold Rep at h1
        · cases h1
        · cases h1
        · cases h1
        · rfl
        · obtain ⟨_, _, q, _⟩ := h1; cases q
        · obtain ⟨_, _, q⟩ := h1; cases q
        · obtain ⟨_, q, _⟩ := h1; cases q
        · obtain ⟨_, _, q, _⟩ := h1; cases q
      rw [List.all_cons, ed, e2]; rfl
theorem tx_of {K : PySem.W.Frag} {φ φ' : List Addr} {H H' : Hp} {l l' : List D} {vs : List V} (h : isTx l' = true) (r' : RepL K φ' H' l' vs) (r : RepL K φ H l vs) : isTx l = true := by
  unfold isTx at h ⊢
  rw [Bool.and_eq_true] at h ⊢
  refine ⟨?_, sts_of h.2 r' r⟩
  have e1 := r'.length
  have e2 := r.length
  cases l with
  | nil =>
    have : l' = [] := List.eq_nil_of_length_eq_zero (by rw [e1, ← e2]; rfl)
    rw [this] at h
    exact h.1
  | cons a l => rfl
section
variable {K : PySem.W.Frag} {c : Cl} {φ φ' : List Addr} {H H' H2 : Hp} {S A T : Sto} {as : List Addr}
/-- what is locked: the new lists -/
structure Locks (K : PySem.W.Frag) (c : Cl) (φ' : List Addr) (A T : Sto) (H' : Hp) (as : List Addr) (H2 : Hp) : Prop where
  rel : Rel K c φ' (A ++ T) H'
  by_ : FrzBy as H' H2
  mem : ∀ a, a ∈ as ↔ ∃ n l, A.length ≤ n ∧ φ'[n]? = some a ∧ (A ++ T)[n]? = some (.lst false l)
theorem Locks.other (L : Locks K c φ' A T H' as H2) {a : Addr} {u : HO} (h : H' a = some u) (hu : ∀ vs, u ≠ .lst vs) : H2 a = some u := by
  rw [L.by_.1 a fun q => ?_, h]
  obtain ⟨_, vs, e, _⟩ := L.by_.2 a q
  rw [h] at e
  exact hu vs (Option.some.inj e)
theorem Locks.stays (L : Locks K c φ' A T H' as H2) : Stays K φ' H' φ' H2 := ⟨fun _ _ h => h, fun a xs h => by
  rcases h with (h | ⟨o, h⟩) | h
  · exact .inl (.inl (L.other h (fun _ z => nomatch z)))
  · exact .inl (.inr ⟨o, L.other h (fun _ z => nomatch z)⟩)
  · exact .inr h, fun a xs h => ⟨h.1, h.2.choose, L.other h.2.choose_spec (fun _ z => nomatch z)⟩, fun a h => by
  obtain ⟨o, xs, h, hd⟩ := h
  exact ⟨o, xs, L.other h (fun _ z => nomatch z), hd⟩⟩
theorem Locks.take (L : Locks K c φ' A T H' as H2) : (φ'.take A.length).length = A.length := by
  have := L.rel.len
  rw [List.length_append] at this
  rw [List.length_take]; omega
theorem Locks.notin (L : Locks K c φ' A T H' as H2) {n : Nat} {a : Addr} (h : φ'[n]? = some a) (hn : A.length ≤ n) : a ∉ φ'.take A.length := fun q => by
  obtain ⟨m, hm, e⟩ := List.getElem_of_mem q
  have hm' : m < A.length := by rw [L.take] at hm; exact hm
  have e2 : φ'[m]? = some a := by rw [← List.getElem?_take_of_lt hm', List.getElem?_eq_getElem hm, e]
  exact nodup_ne L.rel.nd h e2 (by omega) rfl
mutual
theorem Locks.map (L : Locks K c φ' A T H' as H2) {g : Nat → Option D} (hg : ∀ n d a, g n = some d → φ'[n]? = some a → Rep K (φ'.take A.length) H2 d (.ref a)) : ∀ (d : D) (v : V) (d' : D), Rep K φ' H' d v → mapR g d = some d' → Rep K (φ'.take A.length) H2 d' v
  | .non, v, d', h, e => by unfold mapR at e; cases e; unfold Rep at h ⊢; exact h
  | .bl _, v, d', h, e => by unfold mapR at e; cases e; unfold Rep at h ⊢; exact h
  | .int _, v, d', h, e => by unfold mapR at e; cases e; unfold Rep at h ⊢; exact h
  | .str _, v, d', h, e => by unfold mapR at e; cases e; unfold Rep at h ⊢; exact h
  | .scr _, v, d', h, e => by
    unfold mapR at e
    cases e
    obtain ⟨a, rfl, z⟩ := h.scr_
    unfold Rep
    refine ⟨a, rfl, ?_⟩
    rcases z with ⟨n, o, z⟩ | z
    · exact .inl ⟨fun q => n (List.mem_of_mem_take q), o, L.other z (fun _ z => nomatch z)⟩
    · exact .inr z
  | .ref n, v, d', h, e => by
    unfold mapR at e
    obtain ⟨a, z, rfl⟩ := h.ref_
    exact hg n d' a e z
  | .tup l, v, d', h, e => by
    unfold mapR at e
    obtain ⟨l', e1, rfl⟩ := Option.map_eq_some_iff.mp e
    obtain ⟨a, vs, rfl, s, gg⟩ := h.tup_
    exact rep_tup (L.stays.tup _ _ s) (Locks.mapL L hg l vs l' gg e1) fun q => L.stays.nod _ (h.nod (tx_of q (Locks.mapL L hg l vs l' gg e1) gg))
  | .pl l, v, d', h, e => by
    unfold mapR at e
    obtain ⟨l', e1, rfl⟩ := Option.map_eq_some_iff.mp e
    obtain ⟨a, vs, rfl, s, gg⟩ := h.pl_
    exact rep_pl ⟨fun q => s.1 (List.mem_of_mem_take q), (L.stays.pul _ _ s).2⟩ (Locks.mapL L hg l vs l' gg e1)
theorem Locks.mapL (L : Locks K c φ' A T H' as H2) {g : Nat → Option D} (hg : ∀ n d a, g n = some d → φ'[n]? = some a → Rep K (φ'.take A.length) H2 d (.ref a)) : ∀ (d : List D) (v : List V) (d' : List D), RepL K φ' H' d v → mapRL g d = some d' → RepL K (φ'.take A.length) H2 d' v
  | [], v, d', h, e => by unfold mapRL at e; cases e; rw [h.isNil]; exact RepL.nil
  | d :: ds, v, d', h, e => by
    unfold mapRL at e
    obtain ⟨x, r, rfl, h1, h2⟩ := h.uncons
    split at e
    · rename_i a b e1 e2
      cases e
      exact RepL.cons (Locks.map L hg d x a h1 e1) (Locks.mapL L hg ds r b h2 e2)
    · cases e
end
theorem Locks.rfz (L : Locks K c φ' A T H' as H2) : ∀ (f n : Nat) d a, rfz T A.length f n = some d → φ'[n]? = some a → Rep K (φ'.take A.length) H2 d (.ref a) := by
  have low : ∀ (n : Nat) a, n < A.length → φ'[n]? = some a → Rep K (φ'.take A.length) H2 (.ref n) (.ref a) := fun n a hn h => rep_ref (by rw [List.getElem?_take_of_lt hn]; exact h)
  intro f
  induction f with
  | zero =>
    intro n d a e h
    unfold MM.rfz at e
    split at e
    · rename_i hn; cases e; exact low n a hn h
    · cases e
  | succ f ih =>
    intro n d a e h
    unfold MM.rfz at e
    split at e
    · rename_i hn; cases e; exact low n a hn h
    · rename_i hn
      split at e
      · rename_i fz l hl
        obtain ⟨l', e1, rfl⟩ := Option.map_eq_some_iff.mp e
        have hs : (A ++ T)[n]? = some (.lst fz l) := by rw [List.getElem?_append_right (by omega)]; exact hl
        obtain ⟨vs, g, ho⟩ := L.rel.obj n a _ h hs
        refine rep_pl ⟨L.notin h (by omega), ?_⟩ (L.mapL ih l vs l' g e1)
        cases fz with
        | true =>
          obtain ⟨ob, ho⟩ := (show ∃ ob, H' a = some (.frz ob (.lst vs)) by simpa using ho)
          exact ⟨ob, L.other ho (fun _ z => nomatch z)⟩
        | false =>
          have ho' : H' a = some (.lst vs) := by simpa using ho
          obtain ⟨ob, vs', e2, e3⟩ := L.by_.2 a ((L.mem a).mpr ⟨n, l, by omega, h, hs⟩)
          rw [ho'] at e2
          cases e2
          exact ⟨ob, e3⟩
      · cases e
theorem Locks.rel2 (L : Locks K c φ' A T H' as H2) (hk : ∀ o ∈ A, bdO A.length o) : Rel K c (φ'.take A.length) A H2 := by
  refine ⟨L.take, L.rel.nd.sublist (List.take_sublist _ _), fun n a o h1 h2 => ?_⟩
  have hlt : n < A.length := (List.getElem?_eq_some_iff.mp h2).1
  have h1' : φ'[n]? = some a := by rw [List.getElem?_take_of_lt hlt] at h1; exact h1
  have hna : a ∉ as := fun q => by
    obtain ⟨m, l, hm, e, _⟩ := (L.mem a).mp q
    exact nodup_ne L.rel.nd h1' e (by omega) rfl
  have w : Fewer K φ' (φ'.take A.length) H2 := ⟨fun n a h q => by rw [L.take] at h; rw [List.getElem?_take_of_lt h]; exact q, fun a h => List.mem_of_mem_take h⟩
  exact ((L.rel.obj n a o h1' (by rw [List.getElem?_append_left hlt]; exact h2)).stay L.stays (L.by_.1 a hna)).fewer w _ (by rw [L.take]; exact hk o (List.mem_of_getElem? h2))
theorem Locks.ext {φ : List Addr} (L : Locks K c φ' A T H' as H2) (e : Ext φ H φ' H') (hl : φ.length = A.length) : φ'.take A.length = φ ∧ Ext φ H φ H2 := by
  obtain ⟨ψ, e1, e2⟩ := e.more
  have ht : φ'.take A.length = φ := by rw [e1, ← hl, List.take_left]
  refine ⟨ht, ⟨⟨[], by simp, by simp⟩, by rw [← ht]; exact L.rel.nd.sublist (List.take_sublist _ _), fun a o h n => ?_, fun a ob u h => ?_⟩⟩
  · have q := e.keep a o h n
    rw [L.by_.1 a fun z => ?_, q]
    obtain ⟨m, l, hm, e3, _⟩ := (L.mem a).mp z
    rw [e1, List.getElem?_append_right (by omega)] at e3
    rw [e2 a (List.mem_of_getElem? e3)] at h
    cases h
  · have q := e.frz a ob u h
    rw [L.by_.1 a fun z => ?_, q]
    obtain ⟨m, l, hm, e3, _⟩ := (L.mem a).mp z
    rw [e1, List.getElem?_append_right (by omega)] at e3
    rw [e2 a (List.mem_of_getElem? e3)] at h
    cases h
open Classical in
theorem locks_of (r : Rel K c φ' (A ++ T) H') : ∃ as, (∀ a ∈ as, ∃ vs, H' a = some (.lst vs)) ∧ ∀ H2, FrzBy as H' H2 → Locks K c φ' A T H' as H2 := by
  have key : ∀ a, a ∈ φ'.filter (fun a => decide (∃ (n : Nat) (l : List D), A.length ≤ n ∧ φ'[n]? = some a ∧ (A ++ T)[n]? = some (.lst false l))) ↔ ∃ (n : Nat) (l : List D), A.length ≤ n ∧ φ'[n]? = some a ∧ (A ++ T)[n]? = some (.lst false l) := by
    intro a
    rw [List.mem_filter, decide_eq_true_eq]
    exact ⟨fun h => h.2, fun h => ⟨by obtain ⟨n, l, _, e, _⟩ := h; exact List.mem_of_getElem? e, h⟩⟩
  refine ⟨φ'.filter (fun a => decide (∃ (n : Nat) (l : List D), A.length ≤ n ∧ φ'[n]? = some a ∧ (A ++ T)[n]? = some (.lst false l))), fun a ha => ?_, fun H2 f => ⟨r, f, key⟩⟩
  obtain ⟨n, l, _, e1, e2⟩ := (key a).mp ha
  obtain ⟨vs, _, h⟩ := r.obj n a _ e1 e2
  exact ⟨vs, by simpa using h⟩
theorem kept_bd {φ : List Addr} (r : Rel K c φ S H) (hl : A.length = S.length) (hk : Kept S A) : ∀ o ∈ A, bdO A.length o := fun o ho => by
  obtain ⟨n, hn, e⟩ := List.getElem_of_mem ho
  rw [hl]
  rcases hk n o (by rw [List.getElem?_eq_getElem hn, e]) with q | q
  · exact r.closed o (List.mem_of_getElem? q)
  · exact q
/-- behind a call: its garbage is thrown away -/
theorem gc_post {W : WX} {σ : L2.St} {φ : List Addr} {Q : VK} {r : R D} (rel : Rel K c φ S H) (p : PostW K c W σ φ H (gE K Q) (gc S r)) : PostW K c W σ φ H (gE K fun v H' => FrzTo H' (Q v)) r := by
  cases r with
  | no => exact p
  | ok d S' =>
    simp only [gc] at p
    split at p
    · rename_i d' hd
      split at p
      · rename_i hk
        intro φ' H' e' r' v hv
        have hA : (S'.take S.length).length = S.length := by rw [List.length_take]; omega
        have r'' : Rel K c φ' (S'.take S.length ++ S'.drop S.length) H' := by rw [List.take_append_drop]; exact r'
        obtain ⟨as, h1, h2⟩ := locks_of r''
        refine ⟨as, h1, fun H2 f => ?_⟩
        have L := h2 H2 f
        obtain ⟨e1, e2⟩ := L.ext e' (by rw [hA, rel.len])
        have r2 := L.rel2 (kept_bd rel hA hk.1)
        rw [e1] at r2
        refine p φ H2 e2 r2 v ?_
        have hg : ∀ n d a, rfz (S'.drop S.length) S.length 3 n = some d → φ'[n]? = some a → Rep K (φ'.take (S'.take S.length).length) H2 d (.ref a) := fun n d a h q => L.rfz 3 n d a (by rw [hA]; exact h) q
        have := L.map hg d v d' hv hd
        rw [e1] at this
        exact this
      · exact p.frz
    · exact p.frz
  | ex k S' =>
    simp only [gc] at p
    split at p
    · rename_i hk
      intro φ' H' e' r'
      have hA : (S'.take S.length).length = S.length := by rw [List.length_take]; omega
      have r'' : Rel K c φ' (S'.take S.length ++ S'.drop S.length) H' := by rw [List.take_append_drop]; exact r'
      obtain ⟨e2, r2, w2⟩ := rel.forget e' r'' (by rw [hA]; exact Nat.le_refl _) (kept_bd rel hA hk.1)
      exact p _ _ e2 r2
    · exact p
end
section
variable {X : Cx} {c : Cl} {W : WX} {k : Nat} {f : Addr} {fd : FuncData} {ps : List Str} {sp : FL} {x : Str} {p pos : Pos} {e : Expr} {es : List Expr} {ml : ML}
theorem de_callGc (F : FnD X.prog X.w X.K X.mg X.base c k f fd ps sp) (hr : Room k X.A) (hg : Gl X x) (hm : X.mg x = some (.ref f)) (hk : PySem.W.keepIn X.K (.ref f) = true) (hb : Binds X.K fd ps []) (tk : Takes X W)
    (ha : DA X c W (e :: es) ml) (hlen : ps.length = (e :: es).length) (hl : ∀ ρ S ds S', ml ρ S = .ok ds S' → ds.length = ps.length) (hdb : (x == ("__debug__" : Str)) = false := by decide) (he : starEach (e :: es) X.env = (false, eval e X.env) :: starEach es X.env := by rfl) (hpl : (backTo pos (starEach es X.env)).any (·.1) = false := by rfl) :
    DE X c W (.Call (.Name x p) (e :: es) [] pos) (eCall (gcF sp) ml) := by
  obtain ⟨ta, pa, ha⟩ := ha
  refine ⟨_, pe_frz (pe_callS (E := WE W) F.ok hr hg hm hk hb (fun σ => passAt tk σ) pa hdb he hpl), fun φ σ H ρ S Q r f p => ?_⟩
  refine ha φ σ H ρ S _ r f ?_
  unfold eCall at p
  cases hq : ml ρ S with
  | no => rw [hq] at p; exact p
  | ex k S1 => rw [hq] at p; exact p
  | ok ds S1 =>
    rw [hq] at p
    intro φ1 H1 e1 r1 vs hv
    exact ⟨φ1, S1, ds, r1, hv, hl _ _ _ _ hq, (gc_post r1 (PostW.from e1 p)).wish fun _ _ _ h => h⟩
end
def spLaw (K : PySem.W.Frag) : Sp := fun vs H Q _ => ∃ (a : Addr) (ns : List Int), vs = [.ref a] ∧ Only H ∧ SqL K H a (ns.map V.int) ∧ ns.length ≤ 63 ∧ ∀ H', Q (.bl true) H'
theorem law_end {P : Program} {w : World} {K : PySem.W.Frag} {mg : Str → Option Value} {base : Heap} {c : Cl} {k : Nat} {f : Addr} {fd : FuncData} {x : Str} {sp : FL} (F : FnD P w K mg base c k f fd [x] sp)
    (h : ∀ ns : List Int, ns.length ≤ 63 → ∃ S, sp [.scr ns] [] = .ok (.bl true) S) : FnOk P w K mg base (L2.CX P w) k f fd [x] (spLaw K) := by
  refine F.ok.imp fun vs H Q E q => ?_
  obtain ⟨a, ns, rfl, hO, s, hl, q⟩ := q
  obtain ⟨S, e⟩ := h ns hl
  refine ⟨[], [], [.scr ns], ⟨rfl, List.nodup_nil, fun n a o h => by simp at h⟩, ?_, rfl, ?_⟩
  · refine RepL.cons ?_ RepL.nil
    unfold Rep
    refine ⟨a, rfl, ?_⟩
    rcases s with (s | s) | s
    · rcases hO a with z | ⟨o, xs, z⟩
      · rw [z] at s; cases s
      · rw [z] at s; cases s
    · exact .inl ⟨by simp, s⟩
    · exact .inr s
  · rw [e]
    intro φ' H' e' r' v hv
    rw [hv.bl_]
    exact q H'
end MM

namespace MM
open PySem PySem.Spec PyProof.Rows L2

theorem pi_or {X : Cx} {tg iter : Expr} {t u : TI} (h : PI X tg iter t) (h' : PI X tg iter u) : PI X tg iter (fun σ H R => t σ H R ∨ u σ H R) :=
  ⟨fun pins s σ H R I q => q.elim (fun q => h.run pins s σ H R I q) fun q => h'.run pins s σ H R I q⟩
/-- by what the mirror tells: the one, else the other -/
theorem di_or {X : Cx} {c : Cl} {W : WX} {tg iter : Expr} {m m1 m2 : MI} (h1 : DI X c W tg iter m1) (h2 : DI X c W tg iter m2) (h : ∀ ρ S, m ρ S = m1 ρ S ∨ m ρ S = m2 ρ S) : DI X c W tg iter m := by
  obtain ⟨t1, p1, h1⟩ := h1
  obtain ⟨t2, p2, h2⟩ := h2
  refine ⟨_, pi_or p1 p2, fun φ σ H ρ S Q r f p => ?_⟩
  rcases h ρ S with e | e
  · rw [e] at p
    exact .inl (h1 φ σ H ρ S Q r f p)
  · rw [e] at p
    exact .inr (h2 φ σ H ρ S Q r f p)
/-- over a tuple, a text, or a list -/
def iA (a : ME) : MI := fun ρ S => (a ρ S).bind fun d S1 => match d with
  | .tup l => .ok (l, noG) S1
  | .str x => .ok (signsD x, noG) S1
  | d => match srcOf S1 d with
    | some x => .ok x S1
    | none => .no
theorem di_any {X : Cx} {c : Cl} {W : WX} {tg e : Expr} {me : ME} (h : DE X c W e me) : DI X c W tg e (iA me) := by
  refine di_or (m1 := iT me) (m2 := fun ρ S => match iS me ρ S with | .no => iL me ρ S | r => r) (di_tup h) (di_or (di_str h) (di_lst h) fun ρ S => ?_) fun ρ S => ?_
  · cases iS me ρ S <;> simp
  · unfold iA iT iS iL
    cases me ρ S with
    | no => exact .inl rfl
    | ex k S1 => exact .inl rfl
    | ok d S1 => cases d <;> first | exact .inl rfl | exact .inr rfl
/-- enumerate of a tuple or a list -/
def iEA (a : ME) : MI := fun ρ S => (a ρ S).bind fun d S1 => match d with
  | .tup l => .ok (enumD l, noG) S1
  | d => match srcOf S1 d with
    | some x => .ok (enumD x.1, x.2) S1
    | none => .no
theorem di_enumA {X : Cx} {c : Cl} {W : WX} {e : Expr} {me : ME} {p pos tpos : Pos} {elts : List Expr} {kk : Nat} (hg : Gl X "enumerate") (hm : X.mg "enumerate" = none) (h : DE X c W e me) (hs : starEach [e] X.env = [(false, eval e X.env)] := by rfl) :
    DI X c W (.Tuple elts kk tpos) (.Call (.Name "enumerate" p) [e] [] pos) (iEA me) := by
  refine di_or (di_enumT hg hm h hs) (di_enumL hg hm h hs) fun ρ S => ?_
  unfold iEA iET iEL
  cases me ρ S with
  | no => exact .inl rfl
  | ex k S1 => exact .inl rfl
  | ok d S1 => cases d <;> first | exact .inl rfl | exact .inr rfl
/-- tuple(x), x a tuple or a list -/
def tupleA : FL
  | [.tup l], S => .ok (.tup l) S
  | [d], S => match lstOf S d with
    | some l => .ok (.tup l) S
    | _ => .no
  | _, _ => .no
theorem fits_tupleA {K : PySem.W.Frag} {c : Cl} : FitsL K c (rTupF K) tupleA := by
  intro W σ φ H S vs ds Q r h p
  unfold tupleA at p
  split at p
  · obtain ⟨v, rfl, hv⟩ := one_of h
    obtain ⟨a, vs, rfl, s, g⟩ := hv.tup_
    exact ⟨a, vs, rfl, .inr ⟨s, PostW.here r p _ hv⟩⟩
  · split at p
    · rename_i hl
      obtain ⟨v, rfl, hv⟩ := one_of h
      obtain ⟨a, vs, rfl, s, g⟩ := lstOf_rd r hv hl
      exact ⟨a, vs, rfl, .inl ⟨.inl s, fun q ob hq hob => post_tup r g hq ob hob p⟩⟩
    · exact False.elim p
  · exact False.elim p
section
variable {X : Cx} {c : Cl} {W : WX} {e e2 : Expr} {me me2 : ME} {ml : ML} {p pos : Pos} {x : Str}
/-- list(range(n)), list(range(a, b)) -/
def lR1 (a : ME) : ML := fun ρ S => (a ρ S).bind fun d S1 => match d with
  | .int n => if n ≤ 16777216 ∧ -(2 ^ 62) ≤ n then .ok (rangeD 0 n.toNat) S1 else .no
  | _ => .no
theorem rep_range {K : PySem.W.Frag} {φ : List Addr} {H : Hp} {a b : Int} : RepL K φ H (rangeD a (b - a).toNat) (rgV a b) := by
  unfold rangeD rgV
  induction List.range (b - a).toNat with
  | nil => exact RepL.nil
  | cons i r ih => exact RepL.cons rep_int ih
theorem dn_range1 {p2 pos2 : Pos} (hc : X.calm = true) (hg : Gl X "list") (hm : X.mg "list" = none) (hg2 : Gl X "range") (hm2 : X.mg "range" = none) (ha : DE X c W e me)
    (hs : starEach [e] X.env = (false, eval e X.env) :: starEach [] X.env := by rfl) (hs2 : starEach [.Call (.Name "range" p2) [e] [] pos2] X.env = (false, eval (.Call (.Name "range" p2) [e] [] pos2) X.env) :: starEach [] X.env := by rfl) :
    DN X c W (.Call (.Name "list" p) [.Call (.Name "range" p2) [e] [] pos2] [] pos) (lR1 me) := by
  obtain ⟨ta, pa, ha⟩ := ha
  refine ⟨_, pe_listRg hc hg hm (prg_1 hg2 hm2 pa hs) hs2, fun φ σ H ρ S Q r f p => ?_⟩
  refine ha φ σ H ρ S _ r f (PostW.elim p fun d S1 φ1 H1 e1 r1 p1 => fun x hx => ?_)
  split at p1
  · split at p1
    · rename_i n hn
      refine ⟨n, hx.int_, ⟨by omega, by omega, by omega, by omega, by omega⟩, fun q hq => ?_⟩
      obtain ⟨e2, r2⟩ := r1.fresh (u := .lst (rgV 0 n)) hq
      have g : RepL X.K φ1 (upd H1 q (.lst (rgV 0 n))) (rangeD 0 n.toNat) (rgV 0 n) := by
        have := rep_range (K := X.K) (φ := φ1) (H := upd H1 q (.lst (rgV 0 n))) (a := 0) (b := n)
        rwa [Int.sub_zero] at this
      exact p1 φ1 _ e2 r2 q _ (e1.back r1 hq) upd_same (r1.free hq) g
    · exact False.elim p1
  · exact False.elim p1
end

def Def (K : PySem.W.Frag) (mg : Str → Option Value) (x : Str) (ps : List Str) (st : Stmt) : Prop := ∃ f fd, Fun K x x st f fd ∧ Binds K fd ps [] ∧ mg x = some (.ref f)
theorem def_mk {K : PySem.W.Frag} {h : Heap} {mg : Str → Option Value} {x : Str} {ps : List Str} {st : Stmt} {f : Addr} {oc : Value} {od an : Option Addr} {osl : Array (Option Value)} {kV doc pm cdv ct : Value} (X : K.In h) (G : h.Ns mainGlobals mg)
    (a : PySem.W.nsIn K mainGlobals x = some (some (.ref f))) (l : K.lookup f = some ⟨oc, od, .func (PySem.W.fnOf x x (defArgs st) (defBody st) (defScope st) .none kV doc pm an cdv ct), osl⟩)
    (c : PySem.W.codeIn K cdv x = true) (k : PySem.W.keepIn K (.ref f) = true)
    (b : ∀ (kV doc pm : Value) (an : Option Addr) (cdv ct : Value) (us : List Value), us.length = ps.length → bindArgs (PySem.W.fnOf x x (defArgs st) (defBody st) (defScope st) .none kV doc pm an cdv ct) ⟨us, []⟩ = Pure.pure (ps.zip us)) : Def K mg x ps st :=
  ⟨f, _, fun_mk l c k, (fun_mk l c k).binds b, PySem.W.mg_of X G a⟩
def FnG (P : Program) (w : World) (K : PySem.W.Frag) (mg : Str → Option Value) (base : Heap) (c : Cl) (k : Nat) (x : Str) (ps : List Str) (sp : FL) : Prop :=
  ∃ f fd, FnD P w K mg base c k f fd ps sp ∧ mg x = some (.ref f) ∧ PySem.W.keepIn K (.ref f) = true ∧ Binds K fd ps []
theorem FnG.imp {P : Program} {w : World} {K : PySem.W.Frag} {mg : Str → Option Value} {base : Heap} {c : Cl} {k : Nat} {x : Str} {ps : List Str} {sp sp' : FL} (F : FnG P w K mg base c k x ps sp) (h : Refines sp sp') : FnG P w K mg base c k x ps sp' := by
  obtain ⟨f, fd, F, r⟩ := F
  exact ⟨f, fd, F.imp h, r⟩
theorem fnG_of {P : Program} {w : World} {K : PySem.W.Frag} {mg : Str → Option Value} {base : Heap} {c : Cl} {x : Str} {st : Stmt} {N ps : List Str} {k : Nat} {m : MS} (T : Def K mg x ps st) (S : FnScope N ps (defScope st))
    (hbody : ∀ (f : Addr) (cdv : Value) (A : Around) (outer : List Env) (s : Shared) (H : Hp) (E : XK), Room k (A.deeper (envOfC x (defScope st) s.heap.objs.size f cdv)) →
      Takes (cxOf (L2.CX P w) P w K mg base N x (defScope st) f cdv A outer s H E) (fun cls d _ H' => E cls d H') → PassesOwn (model P w) (A.deeper (envOfC x (defScope st) s.heap.objs.size f cdv)) (envOfC x (defScope st) s.heap.objs.size f cdv) (cxOf (L2.CX P w) P w K mg base N x (defScope st) f cdv A outer s H E).xe →
      DSs (cxOf (L2.CX P w) P w K mg base N x (defScope st) f cdv A outer s H E) c (fun cls d _ H' => E cls d H') (defBody st) m) : FnG P w K mg base c (k + 1) x ps (body N.length m) := by
  obtain ⟨f, fd, F, b, g⟩ := T
  exact ⟨f, fd, fnD_of F S (hbody f), g, F.kp, b⟩
theorem de_callG {X : Cx} {c : Cl} {W : WX} {k j : Nat} {ps : List Str} {sp : FL} {x : Str} {p pos : Pos} {e : Expr} {es : List Expr} {ml : ML} (F : FnG X.prog X.w X.K X.mg X.base c j x ps sp) (hr : Room k X.A) (hj : j ≤ k) (hg : Gl X x) (tk : Takes X W)
    (ha : DA X c W (e :: es) ml) (hlen : ps.length = (e :: es).length) (hl : ∀ ρ S ds S', ml ρ S = .ok ds S' → ds.length = ps.length) (hdb : (x == ("__debug__" : Str)) = false := by decide) (he : starEach (e :: es) X.env = (false, eval e X.env) :: starEach es X.env := by rfl) (hpl : (backTo pos (starEach es X.env)).any (·.1) = false := by rfl) :
    DE X c W (.Call (.Name x p) (e :: es) [] pos) (eCall sp ml) := by
  obtain ⟨f, fd, F, g, kp, b⟩ := F
  exact de_call F (hr.mono hj) hg g kp b tk ha hlen hl hdb he hpl
theorem de_callC {X : Cx} {c : Cl} {W : WX} {k j : Nat} {ps : List Str} {sp : FL} {x : Str} {p pos : Pos} {e : Expr} {es : List Expr} {ml : ML} (F : FnG X.prog X.w X.K X.mg X.base c j x ps sp) (hr : Room k X.A) (hj : j ≤ k) (hg : Gl X x) (tk : Takes X W)
    (ha : DA X c W (e :: es) ml) (hlen : ps.length = (e :: es).length) (hl : ∀ ρ S ds S', ml ρ S = .ok ds S' → ds.length = ps.length) (hdb : (x == ("__debug__" : Str)) = false := by decide) (he : starEach (e :: es) X.env = (false, eval e X.env) :: starEach es X.env := by rfl) (hpl : (backTo pos (starEach es X.env)).any (·.1) = false := by rfl) :
    DE X c W (.Call (.Name x p) (e :: es) [] pos) (eCall (gcF sp) ml) := by
  obtain ⟨f, fd, F, g, kp, b⟩ := F
  exact de_callGc F (hr.mono hj) hg g kp b tk ha hlen hl hdb he hpl
end MM
namespace MM
open PySem PySem.Spec PyProof.Rows L2
theorem cx_never {P : Program} {w : World} {H : Hp} {s : Shared} {e : Value} {s' : Shared} (h : L2.CX P w [] H s (fun _ _ _ => False) e s') : False := by
  obtain ⟨_, _, _, _, _, _, _, _, _, _, _, _, z⟩ := h
  exact z
end MM

namespace MM
open PySem PySem.Spec PyProof.Rows L2
section
variable {X : Cx} {c : Cl} {W : WX} {ml : ML} {pos : Pos}
end
end MM

namespace MM
open PySem PySem.Spec PyProof.Rows L2

section
variable {α β : Type} {a b : ME} {ρ : Fr} {S S' : Sto} {d x y : D} {i j : Int} {t : MT} {m n : MS} {f : F2} {l : ML}
@[simp] theorem bind_ok {a : α} {f : α → Sto → R β} : (R.ok a S).bind f = f a S := rfl
@[simp] theorem bind_no {f : α → Sto → R β} : (R.no : R α).bind f = .no := rfl
@[simp] theorem bind_ex {k : Nat} {f : α → Sto → R β} : (R.ex k S : R α).bind f = .ex k S := rfl
@[simp] theorem cut_ok {a : α} : (R.ok a S).cut = .ok a S := rfl
@[simp] theorem of_ok {a : α} {k : α → Sto → RS} : RS.of ρ (.ok a S) k = k a S := rfl
@[simp] theorem of_ex {c : Nat} {k : α → Sto → RS} : RS.of ρ (.ex c S : R α) k = .ex c ρ S := rfl
@[simp] theorem then_nx {k : Fr → Sto → RS} : (RS.nx ρ S).then k = k ρ S := rfl
@[simp] theorem then_rt {k : Fr → Sto → RS} : (RS.rt d S).then k = .rt d S := rfl
@[simp] theorem then_bk {k : Fr → Sto → RS} : (RS.bk ρ S).then k = .bk ρ S := rfl
@[simp] theorem then_ct {k : Fr → Sto → RS} : (RS.ct ρ S).then k = .ct ρ S := rfl
@[simp] theorem end_nx : (RS.nx ρ S).end = .ok .non S := rfl
@[simp] theorem end_rt : (RS.rt d S).end = .ok d S := rfl
@[simp] theorem end_ex {k : Nat} : (RS.ex k ρ S).end = .ex k S := rfl
@[simp] theorem eC_ev : eC d ρ S = .ok d S := rfl
@[simp] theorem eVar_ev {k : Nat} : eVar k ρ S = (match ρ[k]? with | some (some d) => .ok d S | _ => .no) := rfl
@[simp] theorem eBin_ev : eBin f a b ρ S = (a ρ S).bind fun x S1 => (b ρ S1).bind fun y S2 => f x y S2 := rfl
@[simp] theorem eUn_ev {f : F1} : eUn f a ρ S = (a ρ S).bind f := rfl
@[simp] theorem eCall_ev {f : FL} : eCall f l ρ S = (l ρ S).bind f := rfl
@[simp] theorem eLs_ev {f : FS} : eLs f l ρ S = (l ρ S).bind f := rfl
@[simp] theorem aNil_ev : aNil ρ S = .ok [] S := rfl
@[simp] theorem aCons_ev : aCons a l ρ S = (a ρ S).bind fun x S1 => (l ρ S1).bind fun xs S2 => .ok (x :: xs) S2 := rfl
@[simp] theorem eNew_ev : eNew l ρ S = (l ρ S).bind fun xs S1 => .ok (.ref S1.length) (S1 ++ [.lst false xs]) := rfl
@[simp] theorem ePl_ev : ePl l ρ S = (l ρ S).bind fun xs S1 => .ok (.pl xs) S1 := rfl
@[simp] theorem tV_ev : tV a ρ S = (a ρ S).bind fun d S1 => match d with | .bl b => .ok b S1 | _ => .no := rfl
@[simp] theorem tNt_ev : tNt t ρ S = (t ρ S).bind fun b S1 => .ok (!b) S1 := rfl
@[simp] theorem tAn_ev {u : MT} : tAn t u ρ S = (t ρ S).bind fun x S1 => if x = true then u ρ S1 else .ok false S1 := rfl
@[simp] theorem tOo_ev {u : MT} : tOo t u ρ S = (t ρ S).bind fun x S1 => if x = true then .ok true S1 else u ρ S1 := rfl
@[simp] theorem tYs_ev : tYs ρ S = .ok true S := rfl
@[simp] theorem eAn_ev : eAn a b ρ S = (a ρ S).bind fun x S1 => match x with | .bl true => b ρ S1 | .bl false => .ok (.bl false) S1 | _ => .no := rfl
@[simp] theorem oN_ev : oN ρ S = .ok none S := rfl
@[simp] theorem oS_ev : oS a ρ S = (a ρ S).bind fun d S1 => match d with | .int i => .ok (some i) S1 | _ => .no := rfl
@[simp] theorem eSlM_ev {lo hi : MO} : eSlM a lo hi ρ S = (a ρ S).bind fun x S1 => (lo ρ S1).bind fun l S2 => (hi ρ S2).bind fun h S3 => slM x l h S3 := rfl
@[simp] theorem eSl_ev {lo hi : MO} : eSl a lo hi ρ S = (a ρ S).bind fun x S1 => (lo ρ S1).bind fun l S2 => (hi ρ S2).bind fun h S3 => slD x l h S3 := rfl
@[simp] theorem eMeth_ev {ok : D → Sto → Bool} {f : FM} : eMeth ok f a l ρ S = (a ρ S).bind fun x S1 => if ok x S1 = true then (l ρ S1).bind fun ys S2 => f x ys S2 else .no := rfl
@[simp] theorem sPass_ev : sPass ρ S = .nx ρ S := rfl
@[simp] theorem sSeq_ev : sSeq m n ρ S = (m ρ S).then n := rfl
@[simp] theorem sRet_ev : sRet a ρ S = RS.of ρ (a ρ S) fun d S1 => .rt d S1 := rfl
@[simp] theorem sExpr_ev : sExpr a ρ S = RS.of ρ (a ρ S) fun _ S1 => .nx ρ S1 := rfl
@[simp] theorem sIf_ev : sIf t m n ρ S = RS.of ρ (t ρ S) fun x S1 => if x = true then m ρ S1 else n ρ S1 := rfl
@[simp] theorem sSet_ev {k : Nat} : sSet k a ρ S = RS.of ρ (a ρ S) fun d S1 => .nx (ρ.set k (some d)) S1 := rfl
@[simp] theorem sSetIx_ev {o i : ME} : sSetIx o i a ρ S = RS.of ρ (a ρ S) fun d S1 => RS.of ρ (o ρ S1) fun x S2 => RS.of ρ (i ρ S2) fun k S3 => match setIx x k d S3 with | some S4 => .nx ρ S4 | none => .no := rfl
@[simp] theorem sFor_ev {i : MI} {g : MG} : sFor i g m ρ S = RS.of ρ (i ρ S) fun x S1 => forD x.2 g m x.1 ρ S1 := rfl
@[simp] theorem tN_ev {k : Nat} : tN k d ρ = some (ρ.set k (some d)) := rfl
@[simp] theorem tTp_ev {k : Nat} {r : List D → Fr → Option Fr} {l : List D} : tTp k r (.tup l) ρ = if l.length = k then r l ρ else none := rfl
@[simp] theorem tsNil_ev : tsNil [] ρ = some ρ := rfl
@[simp] theorem tsCons_ev {a : MG} {r : List D → Fr → Option Fr} {ds : List D} : tsCons a r (d :: ds) ρ = (a d ρ).bind fun ρ' => r ds ρ' := rfl
@[simp] theorem body_ev {k : Nat} {ds : List D} : body k m ds S = (m (startF k ds) S).end := rfl
@[simp] theorem startF_ev {k : Nat} {ds : List D} : startF k ds = ds.map some ++ List.replicate (k - ds.length) none := rfl
@[simp] theorem srcOf_pl {l : List D} : srcOf S (.pl l) = some (l, noG) := rfl
@[simp] theorem srcOf_ref {n : Nat} : srcOf S (.ref n) = (match S[n]? with | some (.lst _ l) => some (l, inStore n l) | _ => none) := rfl
@[simp] theorem srcOf_str {x : Str} : srcOf S (.str x) = none := rfl
@[simp] theorem srcOf_tup {x : List D} : srcOf S (.tup x) = none := rfl
@[simp] theorem lstOf_pl {l : List D} : lstOf S (.pl l) = some l := rfl
@[simp] theorem lstOf_ref {n : Nat} : lstOf S (.ref n) = (match S[n]? with | some (.lst _ l) => some l | _ => none) := rfl
@[simp] theorem iA_ev : iA a ρ S = (a ρ S).bind fun d S1 => match d with | .tup l => .ok (l, noG) S1 | .str x => .ok (signsD x, noG) S1 | d => (match srcOf S1 d with | some x => .ok x S1 | none => .no) := rfl
@[simp] theorem iEA_ev : iEA a ρ S = (a ρ S).bind fun d S1 => match d with | .tup l => .ok (enumD l, noG) S1 | d => (match srcOf S1 d with | some x => .ok (enumD x.1, x.2) S1 | none => .no) := rfl
theorem ite_any {α : Type _} {p q : Prop} (h : p = q) (i : Decidable p) (j : Decidable q) (a b : α) : @ite α p i a b = @ite α q j a b := by
  subst h
  cases Subsingleton.elim i j
  rfl
/-- a machine-word range bound -/
def Wd (j : Int) : Prop := -(2 ^ 62) ≤ j ∧ j < 2 ^ 62
def WdL (n : Int) : Prop := n ≤ 16777216 ∧ -(2 ^ 62) ≤ n
theorem wd_of {j : Int} (h : -1000000000 ≤ j) (h2 : j ≤ 1000000000) : Wd j := by unfold Wd; omega
theorem wdl_of {n : Int} (h : -1000000000 ≤ n) (h2 : n ≤ 16777216) : WdL n := by unfold WdL; omega
open Classical in
@[simp] theorem iR1_ev : iR1 l ρ S = (l ρ S).bind fun ds S1 => match ds with | [.int j] => if Wd j then .ok (rangeD 0 j.toNat, noG) S1 else .no | _ => .no := by
  show R.bind _ _ = R.bind _ _
  congr 1
  funext ds S1
  match ds with
  | [] => rfl
  | [.int j] => exact ite_any rfl _ _ _ _
  | [.non] => rfl
  | [.bl _] => rfl
  | [.str _] => rfl
  | [.tup _] => rfl
  | [.ref _] => rfl
  | [.scr _] => rfl
  | [.pl _] => rfl
  | a :: _ :: _ => cases a <;> rfl
@[simp] theorem tupleA_tup {l : List D} : tupleA [.tup l] S = .ok (.tup l) S := rfl
@[simp] theorem tupleA_pl {l : List D} : tupleA [.pl l] S = .ok (.tup l) S := rfl
@[simp] theorem tupleA_ref {n : Nat} : tupleA [.ref n] S = (match S[n]? with | some (.lst _ l) => .ok (.tup l) S | _ => .no) := by
  show (match lstOf S (.ref n) with | some l => R.ok (D.tup l) S | _ => R.no) = _
  rw [lstOf_ref]
  cases S[n]? with
  | none => rfl
  | some o => cases o <;> rfl
open Classical in
@[simp] theorem lR1_ev : lR1 a ρ S = (a ρ S).bind fun d S1 => match d with | .int n => if WdL n then .ok (rangeD 0 n.toNat) S1 else .no | _ => .no := by
  show R.bind _ _ = R.bind _ _
  congr 1
  funext d S1
  cases d with
  | int n => exact ite_any rfl _ _ _ _
  | _ => rfl
@[simp] theorem lComp_ev {i : MI} {vs : List Nat} {g : MG} {m : ME} : lComp i vs g t m ρ S = (i ρ S).bind fun x S1 => if x.1.length ≤ sizeLine then lcD x.2 g t m (wipeF ρ vs) x.1 S1 else .no := rfl
@[simp] theorem wipeF_nil : wipeF ρ [] = ρ := rfl
@[simp] theorem wipeF_cons {v : Nat} {vs : List Nat} : wipeF ρ (v :: vs) = (wipeF ρ vs).set v none := rfl
@[simp] theorem lNew_ev : lNew l ρ S = (l ρ S).bind fun xs S1 => if xs.length ≤ sizeLine then .ok xs S1 else .no := rfl
@[simp] theorem eTup_ev : eTup l ρ S = (l ρ S).bind fun xs S1 => if xs.length ≤ sizeLine then .ok (.tup xs) S1 else .no := rfl
@[simp] theorem addD_int : addD (.int i) (.int j) S = .ok (.int (i + j)) S := rfl
@[simp] theorem subD_int : subD (.int i) (.int j) S = .ok (.int (i - j)) S := rfl
@[simp] theorem negD_int : negD (.int i) S = .ok (.int (-i)) S := rfl
@[simp] theorem notD_bl {k : Bool} : notD (.bl k) S = .ok (.bl (!k)) S := rfl
theorem addD_str {u v : Str} (h : u.length + v.length ≤ sizeLine) : addD (.str u) (.str v) S = .ok (.str (u ++ v)) S := by
  unfold addD
  exact if_pos h
@[simp] theorem slD_tup {u : List D} {lo hi : Option Int} : slD (.tup u) lo hi S = .ok (.tup (MM.cutD u lo hi)) S := rfl
@[simp] theorem slD_pl {u : List D} {lo hi : Option Int} : slD (.pl u) lo hi S = .ok (.pl (MM.cutD u lo hi)) S := rfl
theorem mulD_l (h : -(2 ^ 64) < i ∧ i < 2 ^ 64) : mulD (.int i) (.int j) S = .ok (.int (i * j)) S := by
  unfold mulD
  exact if_pos (.inl h)
theorem mulD_r (h : -(2 ^ 64) < j ∧ j < 2 ^ 64) : mulD (.int i) (.int j) S = .ok (.int (i * j)) S := by
  unfold mulD
  exact if_pos (.inr h)
theorem modD_pos (h : 0 < j) : modD (.int i) (.int j) S = .ok (.int (i % j)) S := by
  unfold modD
  exact if_pos h
theorem fdivD_pos (h : 0 < j) (h2 : j < 2 ^ 200) : fdivD (.int i) (.int j) S = .ok (.int (i / j)) S := by
  unfold fdivD
  have hw : CDivW i j := wide_div (b := 200) h (by omega) (by decide) (by decide)
  exact if_pos hw
theorem powD_pos (h : 0 ≤ j) (h1 : j ≤ 1000000) (h2 : i.natAbs < 2 ^ 64) : powD (.int i) (.int j) S = .ok (.int (i ^ j.toNat)) S := by
  unfold powD
  exact if_pos ⟨h, h1, h2⟩
@[simp] theorem ltD_int : ltD (.int i) (.int j) S = .ok (.bl (decide (i < j))) S := rfl
@[simp] theorem gtD_int : gtD (.int i) (.int j) S = .ok (.bl (decide (j < i))) S := rfl
@[simp] theorem eqD_int : eqD (.int i) (.int j) S = .ok (.bl (decide (i = j))) S := rfl
@[simp] theorem neD_int : neD (.int i) (.int j) S = .ok (.bl (!decide (i = j))) S := rfl
@[simp] theorem eqD_bl {u v : Bool} : eqD (.bl u) (.bl v) S = .ok (.bl (decide (u = v))) S := rfl
@[simp] theorem neD_bl {u v : Bool} : neD (.bl u) (.bl v) S = .ok (.bl (!decide (u = v))) S := rfl
@[simp] theorem eqD_str {u v : Str} : eqD (.str u) (.str v) S = .ok (.bl (decide (u = v))) S := rfl
@[simp] theorem neD_str {u v : Str} : neD (.str u) (.str v) S = .ok (.bl (!decide (u = v))) S := rfl
@[simp] theorem absD_int : absD [.int i] S = .ok (.int (if i < 0 then -i else i)) S := rfl
@[simp] theorem maxD_int : maxD [.int i, .int j] S = .ok (.int (if j > i then j else i)) S := rfl
@[simp] theorem minD_int : minD [.int i, .int j] S = .ok (.int (if j < i then j else i)) S := rfl
@[simp] theorem lenD_tup {u : List D} : lenD [.tup u] S = .ok (.int u.length) S := rfl
@[simp] theorem lenD_scr {u : List Int} : lenD [.scr u] S = .ok (.int u.length) S := rfl
theorem lenD_str {u : Str} (h : u.length ≤ sizeLine) : lenD [.str u] S = .ok (.int u.length) S := by
  unfold lenD
  exact if_pos h
@[simp] theorem ixD_tup {u : List D} : ixD (.tup u) (.int i) S = (match atI u i with | some d => .ok d S | none => .no) := rfl
@[simp] theorem ixD_pl {u : List D} : ixD (.pl u) (.int i) S = (match atI u i with | some d => .ok d S | none => .no) := rfl
@[simp] theorem lenD_pl {u : List D} : lenD [.pl u] S = .ok (.int u.length) S := rfl
@[simp] theorem isiD_pl {t : Ty} {u : List D} : isiD t (.pl u) S = .ok (.bl (match t with | .list => true | _ => false)) S := rfl
@[simp] theorem ixD_scr {u : List Int} : ixD (.scr u) (.int i) S = (match atI u i with | some d => .ok (.int d) S | none => .no) := rfl
theorem ixD_ref {k : Nat} {fz : Bool} {u : List D} (h : S[k]? = some (.lst fz u)) : ixD (.ref k) (.int i) S = (match atI u i with | some d => .ok d S | none => .no) := by
  unfold ixD
  simp only [h]
  all_goals (cases atI u i <;> rfl)
@[simp] theorem isiD_int {t : Ty} : isiD t (.int i) S = .ok (.bl (match t with | .int => true | _ => false)) S := rfl
@[simp] theorem isiD_bl {t : Ty} {k : Bool} : isiD t (.bl k) S = .ok (.bl (match t with | .int => true | .bool => true | _ => false)) S := rfl
@[simp] theorem isiD_str {t : Ty} {u : Str} : isiD t (.str u) S = .ok (.bl (match t with | .str => true | _ => false)) S := rfl
@[simp] theorem isiD_tup {t : Ty} {u : List D} : isiD t (.tup u) S = .ok (.bl (match t with | .tuple => true | _ => false)) S := rfl
@[simp] theorem isiD_non {t : Ty} : isiD t .non S = .ok (.bl false) S := rfl
end
/-- str(i) -/
def strI (i : Int) : Str := Str.ofString (toString i)
theorem strD_int {i : Int} {S : Sto} (h : i.natAbs.log2 < 1920) : strD [.int i] S = .ok (.str (strI i)) S := by
  unfold strD
  exact if_pos h
/-- ints, texts as data; simp leaves them as they are -/
def iD (l : List Int) : List D := l.map D.int
@[simp] theorem iD_length (l : List Int) : (iD l).length = l.length := by simp [iD]
@[simp] theorem iD_nil : iD [] = [] := rfl
theorem sizeL : sizeLine = 16777216 := sizeLine_eq

/-- a for: what holds between the turns; what is wanted behind it -/
theorem for_post {g : Sto → Prop} {tg : MG} {b : MS} {Post : RS → Prop} (Inv : Nat → Fr → Sto → Prop) : ∀ (items : List D) (k : Nat) (ρ : Fr) (S : Sto), Inv k ρ S → (∀ i ρ S, Inv i ρ S → g S) →
    (∀ ρ S, Inv (k + items.length) ρ S → Post (.nx ρ S)) →
    (∀ (i : Nat) d ρ S, items[i]? = some d → Inv (k + i) ρ S → ∃ ρ1, tg d ρ = some ρ1 ∧ match b ρ1 S with
      | .nx ρ' S' => Inv (k + i + 1) ρ' S'
      | .ct ρ' S' => Inv (k + i + 1) ρ' S'
      | .bk ρ' S' => Post (.nx ρ' S')
      | .rt d S' => Post (.rt d S')
      | .ex c ρ' S' => Post (.ex c ρ' S')
      | .no => False) → Post (forD g tg b items ρ S)
  | [], k, ρ, S, h0, hg, he, hs => by
    unfold forD
    rw [if_pos (hg k ρ S h0)]
    exact he ρ S (by simpa using h0)
  | d :: ds, k, ρ, S, h0, hg, he, hs => by
    unfold forD
    rw [if_pos (hg k ρ S h0)]
    obtain ⟨ρ1, e1, h1⟩ := hs 0 d ρ S rfl h0
    rw [e1]
    dsimp only
    have next : ∀ ρ' S', Inv (k + 1) ρ' S' → Post (forD g tg b ds ρ' S') := fun ρ' S' h' =>
      for_post Inv ds (k + 1) ρ' S' h' hg (fun ρ S h => he ρ S (by rw [List.length_cons, Nat.add_comm ds.length 1, ← Nat.add_assoc]; exact h)) fun i d ρ S hi hI => by
        have := hs (i + 1) d ρ S (by simpa using hi) (by rw [show k + (i + 1) = k + 1 + i by omega]; exact hI)
        rw [show k + (i + 1) + 1 = k + 1 + i + 1 by omega] at this
        exact this
    cases hb : b ρ1 S with
    | nx ρ' S' => rw [hb] at h1; exact next ρ' S' h1
    | ct ρ' S' => rw [hb] at h1; exact next ρ' S' h1
    | bk ρ' S' => rw [hb] at h1; exact h1
    | rt d S' => rw [hb] at h1; exact h1
    | ex c ρ' S' => rw [hb] at h1; exact h1
    | no => rw [hb] at h1; exact h1.elim
/-- a for that runs through -/
theorem for_run {g : Sto → Prop} {tg : MG} {b : MS} (Inv : Nat → Fr → Sto → Prop) {items : List D} {ρ : Fr} {S : Sto} (h0 : Inv 0 ρ S) (hg : ∀ i ρ S, Inv i ρ S → g S)
    (hs : ∀ (i : Nat) d ρ S, items[i]? = some d → Inv i ρ S → ∃ ρ1, tg d ρ = some ρ1 ∧ ∃ ρ' S', b ρ1 S = .nx ρ' S' ∧ Inv (i + 1) ρ' S') : ∃ ρ' S', forD g tg b items ρ S = .nx ρ' S' ∧ Inv items.length ρ' S' := by
  refine for_post (Post := fun r => ∃ ρ' S', r = .nx ρ' S' ∧ Inv items.length ρ' S') Inv items 0 ρ S h0 hg (fun ρ S h => ⟨ρ, S, rfl, by simpa using h⟩) fun i d ρ S hd hI => ?_
  rw [Nat.zero_add] at hI ⊢
  obtain ⟨ρ1, e1, ρ', S', e2, h2⟩ := hs i d ρ S hd hI
  exact ⟨ρ1, e1, by rw [e2]; exact h2⟩
/-- a while -/
theorem wh_post {t : MT} {b : MS} {Post : RS → Prop} (Inv : Fr → Sto → Prop) (μ : Fr → Sto → Nat)
    (hs : ∀ ρ S, Inv ρ S → ∃ x S1, t ρ S = .ok x S1 ∧ if x = true then (match b ρ S1 with
      | .nx ρ' S' => Inv ρ' S' ∧ μ ρ' S' < μ ρ S
      | .ct ρ' S' => Inv ρ' S' ∧ μ ρ' S' < μ ρ S
      | .bk ρ' S' => Post (.nx ρ' S')
      | .rt d S' => Post (.rt d S')
      | .ex c ρ' S' => Post (.ex c ρ' S')
      | .no => False) else Post (.nx ρ S1)) : ∀ (n : Nat) (ρ : Fr) (S : Sto), Inv ρ S → μ ρ S < n → Post (whN t b n ρ S)
  | 0, ρ, S, _, hm => absurd hm (Nat.not_lt_zero _)
  | n + 1, ρ, S, hI, hm => by
    obtain ⟨x, S1, e, h⟩ := hs ρ S hI
    unfold whN
    rw [e, of_ok]
    cases x with
    | false => simpa using h
    | true =>
      simp only [if_true] at h ⊢
      cases hb : b ρ S1 with
      | nx ρ' S' => rw [hb] at h; exact wh_post Inv μ hs n ρ' S' h.1 (by omega)
      | ct ρ' S' => rw [hb] at h; exact wh_post Inv μ hs n ρ' S' h.1 (by omega)
      | bk ρ' S' => rw [hb] at h; exact h
      | rt d S' => rw [hb] at h; exact h
      | ex c ρ' S' => rw [hb] at h; exact h
      | no => rw [hb] at h; exact h.elim
theorem while_post {t : MT} {b : MS} {Post : RS → Prop} (Inv : Fr → Sto → Prop) (μ : Fr → Sto → Nat)
    (hs : ∀ ρ S, Inv ρ S → ∃ x S1, t ρ S = .ok x S1 ∧ if x = true then (match b ρ S1 with
      | .nx ρ' S' => Inv ρ' S' ∧ μ ρ' S' < μ ρ S
      | .ct ρ' S' => Inv ρ' S' ∧ μ ρ' S' < μ ρ S
      | .bk ρ' S' => Post (.nx ρ' S')
      | .rt d S' => Post (.rt d S')
      | .ex c ρ' S' => Post (.ex c ρ' S')
      | .no => False) else Post (.nx ρ S1)) {ρ : Fr} {S : Sto} (h0 : Inv ρ S) (hm : μ ρ S < 2 ^ 64) : Post (sWhile t b ρ S) := by
  unfold sWhile
  exact wh_post Inv μ hs fuel ρ S h0 hm
theorem txts_map {α : Type} (f : α → Str) : ∀ l : List α, txts (l.map fun x => D.str (f x)) = some (l.map f)
  | [] => rfl
  | x :: r => by simp [txts, txts_map f r]
@[simp] theorem get_last (S : Sto) (o : O) : (S ++ [o])[S.length]? = some o := by simp
@[simp] theorem set_last (S : Sto) (o o' : O) : (S ++ [o]).set S.length o' = S ++ [o'] := by simp
theorem append_ev {S : Sto} {n : Nat} {xs : List D} {d : D} (h : S[n]? = some (.lst false xs)) (hl : xs.length < sizeLine) : appendD (.ref n) [d] S = .ok .non (S.set n (.lst false (xs ++ [d]))) := by
  unfold appendD
  simp [h, hl]
theorem isLst_ev {S : Sto} {n : Nat} {fz : Bool} {xs : List D} (h : S[n]? = some (.lst fz xs)) : isLstD (.ref n) S = true := by
  unfold isLstD
  simp [h]
@[simp] theorem isStr_ev {S : Sto} {z : Str} : isStrD (.str z) S = true := rfl
theorem setIx_ev {S : Sto} {n : Nat} {xs : List D} {d : D} {i : Int} {j : Nat} (h : S[n]? = some (.lst false xs)) (hj : ixN xs.length i = some j) : setIx (.ref n) (.int i) d S = some (S.set n (.lst false (xs.set j d))) := by
  unfold setIx
  simp [h, hj]
theorem atI_of {α : Type} {xs : List α} {i : Int} {j : Nat} {v : α} (e : i = (j : Int)) (h : xs[j]? = some v) : atI xs i = some v := by
  subst e
  exact atI_nat h
theorem bdL_iff {n : Nat} : ∀ {l : List D}, bdL n l ↔ ∀ d ∈ l, bdD n d
  | [] => by unfold bdL; simp
  | d :: r => by
    unfold bdL
    rw [bdL_iff]
    simp
@[simp] theorem bdD_int {n : Nat} {i : Int} : bdD n (.int i) := by unfold bdD; trivial
@[simp] theorem bdD_bl {n : Nat} {i : Bool} : bdD n (.bl i) := by unfold bdD; trivial
@[simp] theorem bdD_str {n : Nat} {i : Str} : bdD n (.str i) := by unfold bdD; trivial
@[simp] theorem bdD_non {n : Nat} : bdD n .non := by unfold bdD; trivial
@[simp] theorem bdD_scr {n : Nat} {i : List Int} : bdD n (.scr i) := by unfold bdD; trivial
@[simp] theorem bdD_tup {n : Nat} {l : List D} : bdD n (.tup l) ↔ bdL n l := by
  constructor
  · intro h; unfold bdD at h; exact h
  · intro h; unfold bdD; exact h
@[simp] theorem bdD_pl {n : Nat} {l : List D} : bdD n (.pl l) ↔ bdL n l := by
  constructor
  · intro h; unfold bdD at h; exact h
  · intro h; unfold bdD; exact h
@[simp] theorem bdD_ref {n m : Nat} : bdD n (.ref m) ↔ m < n := by
  constructor
  · intro h; unfold bdD at h; exact h
  · intro h; unfold bdD; exact h
@[simp] theorem bdL_nil {n : Nat} : bdL n [] := by unfold bdL; trivial
@[simp] theorem bdL_cons {n : Nat} {d : D} {l : List D} : bdL n (d :: l) ↔ bdD n d ∧ bdL n l := by
  constructor
  · intro h; unfold bdL at h; exact h
  · intro h; unfold bdL; exact h
@[simp] theorem bdL_iD {n : Nat} {l : List Int} : bdL n (iD l) := by
  rw [bdL_iff]
  intro d hd
  obtain ⟨i, _, rfl⟩ := List.mem_map.mp hd
  simp
mutual
theorem mapR_bd {g : Nat → Option D} {k : Nat} (hg : ∀ n, n < k → g n = some (.ref n)) : ∀ d, bdD k d → mapR g d = some d
  | .ref n, h => by unfold mapR; exact hg n (bdD_ref.mp h)
  | .tup l, h => by unfold mapR; rw [mapRL_bd hg l (bdD_tup.mp h)]; rfl
  | .pl l, h => by unfold mapR; rw [mapRL_bd hg l (bdD_pl.mp h)]; rfl
  | .non, _ => by unfold mapR; rfl
  | .bl _, _ => by unfold mapR; rfl
  | .int _, _ => by unfold mapR; rfl
  | .str _, _ => by unfold mapR; rfl
  | .scr _, _ => by unfold mapR; rfl
theorem mapRL_bd {g : Nat → Option D} {k : Nat} (hg : ∀ n, n < k → g n = some (.ref n)) : ∀ l, bdL k l → mapRL g l = some l
  | [], _ => by unfold mapRL; rfl
  | d :: r, h => by
    unfold mapRL
    rw [mapR_bd hg d (bdL_cons.mp h).1, mapRL_bd hg r (bdL_cons.mp h).2]
end
theorem rfz_low {T : Sto} {k f n : Nat} (h : n < k) : rfz T k f n = some (.ref n) := by
  cases f <;> (unfold rfz; exact if_pos h)
theorem rfzD_bd {T : Sto} {k : Nat} {d : D} (h : bdD k d) : rfzD T k d = some d := mapR_bd (fun _ h => rfz_low h) d h
theorem Kept.refl {S : Sto} : Kept S S := fun _ _ h => .inl h
theorem Kept.trans {S S1 S2 : Sto} (h : Kept S S1) (g : Kept S1 S2) (hl : S1.length = S.length) : Kept S S2 := fun n o e => by
  rcases g n o e with q | q
  · exact h n o q
  · rw [hl] at q; exact .inr q
theorem Kept.set {S : Sto} {b : Nat} {fz : Bool} {l : List D} (h : bdL S.length l) : Kept S (S.set b (.lst fz l)) := fun n o e => by
  by_cases hb : b = n
  · subst hb
    have hl : b < S.length := by
      have := (List.getElem?_eq_some_iff.mp e).1
      simpa using this
    rw [List.getElem?_set_self hl] at e
    cases e
    exact .inr (show bdL S.length l from h)
  · rw [List.getElem?_set_ne hb] at e
    exact .inl e
theorem gc_ok {S S1 T : Sto} {d d' : D} (hl : S1.length = S.length) (hk : Kept S S1) (hr : rfzD T S.length d = some d') : gc S (.ok d (S1 ++ T)) = .ok d' S1 := by
  have h1 : (S1 ++ T).take S.length = S1 := by rw [← hl, List.take_left]
  have h2 : (S1 ++ T).drop S.length = T := by rw [← hl, List.drop_left]
  simp only [gc, h1, h2, hr]
  rw [if_pos ⟨by rw [h1]; exact hk, by simp; omega⟩]
@[simp] theorem gcF_ev {sp : FL} {ds : List D} {S : Sto} : gcF sp ds S = gc S (sp ds S) := rfl
def Nx (r : RS) (P : Fr → Sto → Prop) : Prop := ∃ ρ' S', r = .nx ρ' S' ∧ P ρ' S'
@[simp] theorem nx_nx {ρ : Fr} {S : Sto} {P : Fr → Sto → Prop} : Nx (.nx ρ S) P ↔ P ρ S := ⟨fun ⟨_, _, e, h⟩ => by cases e; exact h, fun h => ⟨_, _, rfl, h⟩⟩
/-- a for that runs through -/
theorem for_nx {g : Sto → Prop} {tg : MG} {b : MS} (Inv : Nat → Fr → Sto → Prop) {items : List D} {ρ : Fr} {S : Sto} (h0 : Inv 0 ρ S) (hg : ∀ i ρ S, Inv i ρ S → g S)
    (hs : ∀ (i : Nat) d ρ S, items[i]? = some d → Inv i ρ S → ∃ ρ1, tg d ρ = some ρ1 ∧ Nx (b ρ1 S) (Inv (i + 1))) : ∃ ρ' S', forD g tg b items ρ S = .nx ρ' S' ∧ Inv items.length ρ' S' :=
  for_run Inv h0 hg fun i d ρ S hd hI => hs i d ρ S hd hI
theorem rangeD_len {lo : Int} {n : Nat} : (rangeD lo n).length = n := by simp [rangeD]
theorem nx_of {r : RS} {P : Fr → Sto → Prop} (h : ∀ Q : Fr → Sto → Prop, (∀ ρ S, P ρ S → Q ρ S) → Nx r Q) : Nx r P := h P fun _ _ x => x
@[simp] theorem ite_okB {p : Prop} [Decidable p] {a b : Bool} {S : Sto} : (if p then (R.ok a S : R Bool) else R.ok b S) = R.ok (if p then a else b) S := by split <;> rfl
section
variable {α : Type} {x0 x1 x2 x3 x4 x5 : α} {l : List α}
@[simp] theorem atI_0 : atI (x0 :: l) 0 = some x0 := atI_nat (j := 0) rfl
@[simp] theorem atI_1 : atI (x0 :: x1 :: l) 1 = some x1 := atI_nat (j := 1) rfl
@[simp] theorem atI_2 : atI (x0 :: x1 :: x2 :: l) 2 = some x2 := atI_nat (j := 2) rfl
@[simp] theorem atI_3 : atI (x0 :: x1 :: x2 :: x3 :: l) 3 = some x3 := atI_nat (j := 3) rfl
@[simp] theorem atI_4 : atI (x0 :: x1 :: x2 :: x3 :: x4 :: l) 4 = some x4 := atI_nat (j := 4) rfl
@[simp] theorem atI_5 : atI (x0 :: x1 :: x2 :: x3 :: x4 :: x5 :: l) 5 = some x5 := atI_nat (j := 5) rfl
end
end MM

namespace MM
open PySem PySem.Spec PyProof.Rows L2
section
variable {X : Cx} {c : Cl} {W : WX} {o e : Expr} {mo me : ME} {pos apos : Pos}
end
end MM

namespace MM
open PySem PySem.Spec PyProof.Rows L2

theorem PE.or {X : Cx} {e : Expr} {t u : TE} (h : PE X e t) (g : PE X e u) : PE X e (fun σ H Q => t σ H Q ∨ u σ H Q) :=
  ⟨fun pins s σ H Q I q => q.elim (h.run pins s σ H Q I) (g.run pins s σ H Q I)⟩
theorem PS.or {X : Cx} {st : Stmt} {t u : TS} (h : PS X st t) (g : PS X st u) : PS X st (fun E σ H => t E σ H ∨ u E σ H) :=
  ⟨fun pins s σ H D I q => q.elim (h.run pins s σ H D I) (g.run pins s σ H D I)⟩
section
variable {X : Cx} {c : Cl} {W : WX} {e : Expr} {st : Stmt}
theorem ds_either {m1 m2 m : MS} (h1 : DS X c W st m1) (h2 : DS X c W st m2) (h : ∀ ρ S, m ρ S = m1 ρ S ∨ m ρ S = m2 ρ S ∨ m ρ S = .no) : DS X c W st m := by
  obtain ⟨t1, p1, h1⟩ := h1
  obtain ⟨t2, p2, h2⟩ := h2
  refine ⟨_, PS.or p1 p2, fun φ σ H ρ S E r f p => ?_⟩
  rcases h ρ S with q | q | q
  · rw [q] at p; exact .inl (h1 φ σ H ρ S E r f p)
  · rw [q] at p; exact .inr (h2 φ σ H ρ S E r f p)
  · rw [q] at p; exact False.elim p
theorem bin_either {f g h : F2} {a b : ME} (hs : ∀ x y S, h x y S = f x y S ∨ h x y S = g x y S) (ρ : Fr) (S : Sto) : eBin h a b ρ S = eBin f a b ρ S ∨ eBin h a b ρ S = eBin g a b ρ S ∨ eBin h a b ρ S = .no := by
  unfold eBin
  cases a ρ S with
  | ok x S1 =>
    dsimp only [R.bind]
    cases b ρ S1 with
    | ok y S2 =>
      dsimp only [R.bind]
      rcases hs x y S2 with q | q
      · exact .inl q
      · exact .inr (.inl q)
    | ex k S2 => exact .inl rfl
    | no => exact .inl rfl
  | ex k S1 => exact .inl rfl
  | no => exact .inl rfl
end

def keyD : D → Option Key
  | .int i => some (.inl i)
  | .str x => some (.inr x)
  | _ => none
def valD (l : List (Key × D)) (k : Key) : Option D := (l.find? fun kv => decide (kv.1 = k)).map (·.2)
def putD (l : List (Key × D)) (k : Key) (v : D) : List (Key × D) :=
  if (l.any fun kv => decide (kv.1 = k)) = true then l.map (fun kv => if kv.1 = k then (kv.1, v) else kv) else l ++ [(k, v)]
def dropD (l : List (Key × D)) (k : Key) : List (Key × D) := l.filter fun kv => decide (kv.1 ≠ k)
section
variable {K : PySem.W.Frag} {c : Cl} {φ : List Addr} {H : Hp} {S : Sto}
theorem key_rep {d : D} {v : V} {k : Key} (h : Rep K φ H d v) (e : keyD d = some k) : v = kV k := by
  cases d <;> first | (cases e; done) | skip
  · cases e; rw [h.int_]; rfl
  · cases e; rw [h.str_]; rfl
theorem RepKV.nil {κ : Type} : RepKV (κ := κ) K φ H [] [] := rfl
theorem RepKV.cons {κ : Type} {k : κ} {d : D} {v : V} {l : List (κ × D)} {vs : List (κ × V)} (h : Rep K φ H d v) (g : RepKV K φ H l vs) : RepKV K φ H ((k, d) :: l) ((k, v) :: vs) := ⟨v, vs, rfl, h, g⟩
theorem RepKV.length {κ : Type} : ∀ {l : List (κ × D)} {vs : List (κ × V)}, RepKV K φ H l vs → l.length = vs.length
  | [], _, h => by rw [show _ = [] from h]; rfl
  | d :: l, vs, h => by
    obtain ⟨v, r, rfl, _, g⟩ := h
    simp [RepKV.length g]
theorem RepKV.val {l : List (Key × D)} {vs : List (Key × V)} (g : RepKV K φ H l vs) (k : Key) : (∀ d, valD l k = some d → ∃ v, valV vs k = some v ∧ Rep K φ H d v) ∧ (valD l k = none → valV vs k = none) := by
  induction l generalizing vs with
  | nil => rw [show vs = [] from g]; exact ⟨fun d h => (nomatch h), fun _ => rfl⟩
  | cons d l ih =>
    obtain ⟨v, r, rfl, h1, h2⟩ := g
    obtain ⟨k', d'⟩ := d
    by_cases hk : k' = k
    · rw [valV_pos (p := (k', v)) hk]
      have : valD ((k', d') :: l) k = some d' := by simp [valD, List.find?_cons, hk]
      rw [this]
      exact ⟨fun d h => ⟨v, rfl, by cases h; exact h1⟩, fun h => (nomatch h)⟩
    · rw [valV_neg (p := (k', v)) hk]
      have : valD ((k', d') :: l) k = valD l k := by simp [valD, List.find?_cons, hk]
      rw [this]
      exact ih h2
theorem RepKV.any {l : List (Key × D)} {vs : List (Key × V)} (g : RepKV K φ H l vs) (k : Key) : (l.any fun kv => decide (kv.1 = k)) = vs.any fun kv => decide (kv.1 = k) := by
  induction l generalizing vs with
  | nil => rw [show vs = [] from g]; rfl
  | cons d l ih =>
    obtain ⟨v, r, rfl, h1, h2⟩ := g
    simp only [List.any_cons, ih h2]
theorem RepKV.put {l : List (Key × D)} {vs : List (Key × V)} {d : D} {v : V} (g : RepKV K φ H l vs) (k : Key) (h : Rep K φ H d v) : RepKV K φ H (putD l k d) (putK vs k v) := by
  unfold putD putK
  rw [g.any k]
  split
  · rename_i hany_
    clear hany_
    induction l generalizing vs with
    | nil => rw [show vs = [] from g]; exact RepKV.nil
    | cons x l ih =>
      obtain ⟨w, r, rfl, h1, h2⟩ := g
      obtain ⟨k', d'⟩ := x
      simp only [List.map_cons]
      by_cases hk : k' = k
      · rw [if_pos hk, if_pos hk]; exact RepKV.cons h (ih h2)
      · rw [if_neg hk, if_neg hk]; exact RepKV.cons h1 (ih h2)
  · rename_i hany_
    clear hany_
    induction l generalizing vs with
    | nil => rw [show vs = [] from g]; exact RepKV.cons h RepKV.nil
    | cons x l ih =>
      obtain ⟨w, r, rfl, h1, h2⟩ := g
      exact RepKV.cons h1 (ih h2)
theorem RepKV.drop {l : List (Key × D)} {vs : List (Key × V)} (g : RepKV K φ H l vs) (k : Key) : RepKV K φ H (dropD l k) (dropK vs k) := by
  unfold dropD dropK
  induction l generalizing vs with
  | nil => rw [show vs = [] from g]; exact RepKV.nil
  | cons x l ih =>
    obtain ⟨w, r, rfl, h1, h2⟩ := g
    obtain ⟨k', d'⟩ := x
    by_cases hk : k' = k
    · simp only [List.filter_cons, hk, ne_eq, not_true_eq_false, decide_false, Bool.false_eq_true, if_false]; exact ih h2
    · simp only [List.filter_cons, hk, ne_eq, not_false_eq_true, decide_true, if_true]; exact RepKV.cons h1 (ih h2)
/-- a dict of the store -/
theorem Rel.dct (r : Rel K c φ S H) {n : Nat} {a : Addr} {fz : Bool} {l : List (Key × D)} (h1 : φ[n]? = some a) (h2 : S[n]? = some (.dct fz l)) : ∃ vs, RepKV K φ H l vs ∧ Rd H a (.dK vs) ∧ (fz = false → H a = some (.dK vs)) ∧ (fz = true → ∃ ob, H a = some (.frz ob (.dK vs))) := by
  obtain ⟨vs, g, h⟩ := r.obj n a _ h1 h2
  refine ⟨vs, g, ?_, fun e => ?_, fun e => ?_⟩
  · split at h
    · exact .inr h
    · exact .inl h
  · subst e
    simpa using h
  · subst e
    simpa using h
theorem dget_of {a : Addr} {vs : List (Key × V)} {k : Key} (h : Rd H a (.dK vs)) : DGet H a (kV k) (valV vs k) := .inl ⟨vs, k, h, rfl, rfl⟩
end

section
variable {X : Cx} {c : Cl} {W : WX} {e o i : Expr} {st : Stmt} {me mo mi : ME} {pos apos cpos tpos : Pos}
def eDNew : ME := fun _ S => .ok (.ref S.length) (S ++ [.dct false []])
theorem de_dnew : DE X c W (.Dict [] [] pos) eDNew := by
  refine ⟨_, pe_dnewK, fun φ σ H ρ S Q r f p => fun q hq => ?_⟩
  obtain ⟨e, r'⟩ := r.alloc (u := .dK []) (o := .dct false []) hq ⟨[], rfl, by simp [upd_same]⟩
  exact p _ _ e r' _ (rep_ref (by rw [← r.len]; simp))
def isDR (x : D) (S : Sto) : Bool := match x with
  | .ref n => match S[n]? with
    | some (.dct _ _) => true
    | _ => false
  | _ => false
def dinB (x y : D) (S : Sto) : Option Bool := match keyD x, y with
  | some k, .ref n => match S[n]? with
    | some (.dct _ l) => some (valD l k).isSome
    | _ => none
  | _, _ => none
def dnotInD : F2 := fun x y S => match dinB x y S with
  | some b => .ok (.bl (!b)) S
  | none => .no
theorem din_of {K : PySem.W.Frag} {c : Cl} {φ : List Addr} {S : Sto} {H : Hp} {x y : D} {u v : V} {b : Bool} (r : Rel K c φ S H) (hx : Rep K φ H x u) (hy : Rep K φ H y v) (h : dinB x y S = some b) : ∃ a w, v = .ref a ∧ DGet H a u w ∧ w.isSome = b := by
  unfold dinB at h
  split at h
  · rename_i k n hk
    split at h
    · rename_i hl
      cases h
      obtain ⟨a, i1, rfl⟩ := hy.ref_
      obtain ⟨vs, g, rd, _⟩ := r.dct i1 hl
      rw [key_rep hx hk]
      refine ⟨a, _, rfl, dget_of rd, ?_⟩
      cases hv : valD _ k with
      | none => rw [(g.val k).2 hv]; rfl
      | some d =>
        obtain ⟨w, hw, _⟩ := (g.val k).1 d hv
        rw [hw]
        rfl
    · cases h
  · cases h
def notInAD : F2 := fun x y S => if isDR y S = true then dnotInD x y S else notInD x y S
def setKey (x i v : D) (S : Sto) : Option Sto := match x, keyD i with
  | .ref n, some k => match S[n]? with
    | some (.dct false l) => if l.length < sizeLine then some (S.set n (.dct false (putD l k v))) else none
    | _ => none
  | _, _ => none
def sDPutD (o i a : ME) : MS := fun ρ S => RS.of ρ (a ρ S) fun d S1 => RS.of ρ (o ρ S1) fun x S2 => RS.of ρ (i ρ S2) fun k S3 => match setKey x k d S3 with
  | some S4 => .nx ρ S4
  | none => .no
theorem ds_dput (hu : X.A.units + 1 < cLine) (he : DE X c W e me) (ho : DE X c W o mo) (hi : DE X c W i mi) (hs : swapsWith e (some (.Subscript o i tpos)) pos.line X.env = pure false := by rfl) : DS X c W (.Assign [.Subscript o i tpos] e pos) (sDPutD mo mi me) := by
  obtain ⟨t, p, h⟩ := he
  obtain ⟨to, po, ho⟩ := ho
  obtain ⟨ti, pi, hi⟩ := hi
  refine ⟨_, ps_dput hu po pi p hs, fun φ σ H ρ S E r f p => ?_⟩
  refine h φ σ H ρ S _ r f (PostS.expr r f p fun d S1 φ1 H1 e1 r1 f1 p1 => fun v hv => ?_)
  refine ho φ1 σ H1 ρ S1 _ r1 f1 (PostS.expr r1 f1 p1 fun x S2 φ2 H2 e2 r2 f2 p2 => fun xv hx => ?_)
  refine hi φ2 σ H2 ρ S2 _ r2 f2 (PostS.expr r2 f2 p2 fun k S3 φ3 H3 e3 r3 f3 p3 => fun kv hk => ?_)
  have hv3 := (hv.stay (e2.stays r1)).stay (e3.stays r2)
  have hx3 := hx.stay (e3.stays r2)
  unfold setKey at p3
  split at p3
  · rename_i S4 h4
    split at h4
    · rename_i n k' hk'
      split at h4
      · rename_i l hl
        split at h4
        · rename_i hz
          cases h4
          obtain ⟨a, i1, rfl⟩ := hx3.ref_
          obtain ⟨vs, g, _, s, _⟩ := r3.dct i1 hl
          rw [key_rep hk hk']
          refine ⟨a, _, rfl, DPut.k (s rfl) (by rw [← g.length]; exact hz), ?_⟩
          have st := stays_write (u := .dK (putK vs k' v)) r3 i1
          obtain ⟨e4, r4⟩ := r3.write (u := .dK (putK vs k' v)) i1 (o := .dct false (putD l k' d)) ⟨_, (g.put k' hv3).stay st, by simp [upd_same]⟩ (fun ob w q => by rw [s rfl] at q; cases q)
          exact p3 _ _ _ e4 r4 (f3.stay st)
        · cases h4
      · cases h4
    · cases h4
  · exact False.elim p3
def setAny (x i v : D) (S : Sto) : Option Sto := if isDR x S = true then setKey x i v S else setIx x i v S
def sSetA (o i a : ME) : MS := fun ρ S => RS.of ρ (a ρ S) fun d S1 => RS.of ρ (o ρ S1) fun x S2 => RS.of ρ (i ρ S2) fun k S3 => match setAny x k d S3 with
  | some S4 => .nx ρ S4
  | none => .no
theorem ds_setA (h1 : DS X c W st (sSetIx mo mi me)) (h2 : DS X c W st (sDPutD mo mi me)) : DS X c W st (sSetA mo mi me) := by
  refine ds_either h1 h2 fun ρ S => ?_
  unfold sSetA sSetIx sDPutD setAny
  cases me ρ S with
  | ok d S1 =>
    dsimp only [RS.of]
    cases mo ρ S1 with
    | ok x S2 =>
      dsimp only [RS.of]
      cases mi ρ S2 with
      | ok k S3 =>
        dsimp only [RS.of]
        by_cases hd : isDR x S3 = true
        · exact .inr (.inl (by rw [if_pos hd]))
        · exact .inl (by rw [if_neg hd] <;> rfl)
      | ex k S3 => exact .inl rfl
      | no => exact .inl rfl
    | ex k S2 => exact .inl rfl
    | no => exact .inl rfl
  | ex k S1 => exact .inl rfl
  | no => exact .inl rfl
def dgetOr (d k z : D) (S : Sto) : R D := match d, keyD k with
  | .ref n, some k => match S[n]? with
    | some (.dct _ l) => .ok ((valD l k).getD z) S
    | _ => .no
  | _, _ => .no
def eDGet1 (o i : ME) : ME := fun ρ S => (o ρ S).bind fun d S1 => if isDR d S1 = true then (i ρ S1).bind fun k S2 => dgetOr d k .non S2 else .no
theorem isDR_of {K : PySem.W.Frag} {φ : List Addr} {S : Sto} {H : Hp} {d : D} {v : V} (r : Rel K c φ S H) (h : Rep K φ H d v) (hd : isDR d S = true) : ∃ a, v = .ref a ∧ IsD H a := by
  unfold isDR at hd
  split at hd
  · split at hd
    · rename_i hl
      obtain ⟨a, i1, rfl⟩ := h.ref_
      obtain ⟨vs, g, rd, _⟩ := r.dct i1 hl
      exact ⟨a, rfl, .inl ⟨vs, rd⟩⟩
    · cases hd
  · cases hd
theorem getOr_of {K : PySem.W.Frag} {φ : List Addr} {S : Sto} {H : Hp} {σ : L2.St} {Q : VK} {d k z : D} {a : Addr} {y w : V} (r : Rel K c φ S H) (hd : Rep K φ H d (.ref a)) (hk : Rep K φ H k y) (hz : Rep K φ H z w) (p : PostW K c W σ φ H (gE K Q) (dgetOr d k z S)) : ∃ o, DGet H a y o ∧ Q (o.getD w) H := by
  unfold dgetOr at p
  split at p
  · rename_i n k' hk'
    split at p
    · rename_i hl
      obtain ⟨b, i1, e⟩ := hd.ref_
      cases e
      obtain ⟨vs, g, rd, _⟩ := r.dct i1 hl
      rw [key_rep hk hk']
      refine ⟨_, dget_of rd, PostW.here r p _ ?_⟩
      cases hv : valD _ k' with
      | none => rw [(g.val k').2 hv]; exact hz
      | some d =>
        obtain ⟨w', hw, rw'⟩ := (g.val k').1 d hv
        rw [hw]
        exact rw'
    · exact False.elim p
  · exact False.elim p
theorem de_dget1 (hu : X.A.units + 1 < cLine) (ho : DE X c W o mo) (hi : DE X c W i mi) (m : M1 X o "get" apos i cpos) : DE X c W (.Call (.Attribute o "get" apos) [i] [] cpos) (eDGet1 mo mi) := by
  obtain ⟨to, po, ho⟩ := ho
  obtain ⟨ti, pi, hi⟩ := hi
  refine ⟨_, pe_dget1 hu po pi m, fun φ σ H ρ S Q r f p => ?_⟩
  refine ho φ σ H ρ S _ r f (PostW.elim p fun d S1 φ1 H1 e1 r1 p1 => fun x hx => ?_)
  split at p1
  · rename_i hd
    obtain ⟨a, rfl, g⟩ := isDR_of r1 hx hd
    refine ⟨a, rfl, g, ?_⟩
    refine hi φ1 σ H1 ρ S1 _ r1 (f.stay (e1.stays r)) (PostW.elim p1 fun d2 S2 φ2 H2 e2 r2 p2 => fun y hy => ?_)
    exact getOr_of r2 (hx.stay (e2.stays r1)) hy rep_non p2
  · exact False.elim p1
theorem RepKV.get {κ : Type} {K : PySem.W.Frag} {φ : List Addr} {H : Hp} : ∀ {l : List (κ × D)} {vs : List (κ × V)}, RepKV K φ H l vs → ∀ {i : Nat} {k : κ} {d : D}, l[i]? = some (k, d) → ∃ v, vs[i]? = some (k, v) ∧ Rep K φ H d v
  | [], _, _, i, k, d, h => by simp at h
  | x :: l, vs, g, i, k, d, h => by
    obtain ⟨v, r, rfl, h1, h2⟩ := g
    cases i with
    | zero =>
      simp at h
      subst h
      exact ⟨v, rfl, h1⟩
    | succ i =>
      have h' : l[i]? = some (k, d) := by simpa using h
      obtain ⟨w, hw, rw'⟩ := RepKV.get h2 h'
      exact ⟨w, by simpa using hw, rw'⟩
section
variable {K : PySem.W.Frag} {φ0 : List Addr} {H0 : Hp} {S0 : Sto} {a : Addr} {od : Obj} {vs : List (Key × V)} {l : List (Key × D)}
end
end
end MM

namespace MM
open PySem PySem.Spec PyProof.Rows L2

section
variable {K : PySem.W.Frag} {c : Cl} {φ : List Addr} {H : Hp} {S : Sto}
theorem Rel.ins (r : Rel K c φ S H) {n : Nat} {a : Addr} {k : Nat} {fs : List (Str × D)} (h1 : φ[n]? = some a) (h2 : S[n]? = some (.ins k fs)) : ∃ dx vs, RepKV K φ H fs vs ∧ H a = some (.ins (c.cl k) dx vs) := r.obj n a _ h1 h2
end
section
variable {X : Cx} {c : Cl} {W : WX} {e o : Expr} {es : List Expr} {me mo : ME} {ml : ML} {pos apos tpos : Pos} {f : Str} {k : Nat}
end
section
variable {X : Cx} {CX : CXT} {k : Nat} {f C : Addr} {fd : FuncData} {ps : List Str} {sp : Sp} {E : L2.St → XK} {x m : Str} {p pos apos : Pos} {e o : Expr} {es : List Expr} {ta : TE} {t : TA}
end
section
variable {X : Cx} {c : Cl} {W : WX} {e o : Expr} {es : List Expr} {me mo : ME} {ml : ML} {pos apos p : Pos} {m x : Str} {k : Nat}
theorem PSs.imp {b : List Stmt} {t t' : TS} (h : PSs X b t) (hi : ∀ E σ H, t' E σ H → t E σ H) : PSs X b t' := ⟨fun pins s σ H D I q => h.run pins s σ H D I (hi D σ H q)⟩
end
end MM

namespace MM
open PySem PySem.Spec PyProof.Rows L2
section
variable {prog : Program} {w : World} {A : Around} {R : Result → Shared → Prop} {I : Addr} {fp wr : List Addr} {G : Array GenState → Array GenState → Prop} {n : Nat} {P : Nat → Value → Prop} {St : Nat → Shared → Prop}
end
section
variable {prog : Program} {w : World} {A : Around} {E : Value → Shared → Prop} {s : Shared}
end
end MM

namespace MM
open PySem PySem.Spec PyProof.Rows L2
end MM

namespace MM
open PySem PySem.Spec PyProof.Rows L2
section
variable {X : Cx} {c : Cl} {W : WX} {e o i : Expr} {me mo mi : ME} {pos tpos : Pos}
end
section
variable {X : Cx} {c : Cl} {W : WX}
end
end MM

namespace MM
open PySem PySem.Spec PyProof.Rows L2
open PySem.Sem (wp)
def SubIt (t : Bool) (h : Heap) (a l : Addr) (i : Nat) : Prop := match t with
  | true => h.IsTupleIter a l i
  | false => h.IsListIter a l i
def SubSq (t : Bool) (h : Heap) (l : Addr) (xs : Array Value) : Prop := match t with
  | true => h.IsTuple l xs
  | false => h.IsList l xs
theorem SubIt.ob {t : Bool} {h : Heap} {a l : Addr} {i : Nat} (x : SubIt t h a l i) : ∃ o, h.get? a = some o ∧ ∀ v, o.data ≠ .cell v := by
  cases t
  · obtain ⟨o, ho, _, d⟩ := x; exact ⟨o, ho, fun v q => by rw [d] at q; cases q⟩
  · obtain ⟨o, ho, _, d⟩ := x; exact ⟨o, ho, fun v q => by rw [d] at q; cases q⟩
theorem SubSq.lt {t : Bool} {h : Heap} {l : Addr} {xs : Array Value} (x : SubSq t h l xs) : l < h.objs.size := by
  cases t
  · obtain ⟨o, ho, r⟩ := x; exact Heap.lt_size ho
  · obtain ⟨o, ho, r⟩ := x; exact Heap.lt_size ho
section
variable {prog : Program} {w : World} {A : Around} {E : Value → Shared → Prop} {s : Shared}
end
def SqX (K : PySem.W.Frag) (t : Bool) (H : Hp) (a : Addr) (xs : List V) : Prop := match t with
  | true => SqT K H a xs
  | false => SqL K H a xs
theorem SqX.sub {X : Cx} {pins : List (Addr × Obj)} {s : Shared} {σ : L2.St} {H : Hp} (I : Inv X pins σ H s) {t : Bool} {a : Addr} {xs : List V} (h : SqX X.K t H a xs) : ∃ its : List Value, Vals xs its ∧ SubSq t s.heap a its.toArray := by
  cases t
  · obtain ⟨its, r, p, _⟩ := I.list h; exact ⟨its, r, p.isList⟩
  · obtain ⟨its, r, p, _⟩ := I.tuple h; exact ⟨its, r, p⟩
theorem SqX.inj {X : Cx} {pins : List (Addr × Obj)} {s : Shared} {σ : L2.St} {H : Hp} (I : Inv X pins σ H s) {t : Bool} {a : Addr} {xs ys : List V} (h : SqX X.K t H a xs) (g : SqX X.K t H a ys) : xs = ys := by
  cases t
  · exact I.list_inj h g
  · exact I.tuple_inj h g
theorem SubSq.pu {t : Bool} {h : Heap} {l : Addr} {xs : Array Value} (x : SubSq t h l xs) (o : Obj) : SubSq t (h.push o) l xs := by
  cases t
  · exact Heap.IsList.push x o
  · exact Heap.IsTuple.push x o
section
variable {prog : Program} {w : World} {A : Around} {E : Value → Shared → Prop} {s : Shared}
end
section
variable {prog : Program} {w : World} {A : Around} {E : Value → Shared → Prop} {s : Shared}
end
section
variable {K : PySem.W.Frag} {c : Cl} {φ0 : List Addr} {S0 : Sto} {H0 : Hp}
end

section
variable {K : PySem.W.Frag} {c : Cl} {φ0 : List Addr} {S0 : Sto} {H0 : Hp}
end
section
variable {K : PySem.W.Frag} {c : Cl} {φ0 : List Addr} {S0 : Sto} {H0 : Hp}
end
end MM

namespace MM
open PySem PySem.Spec PyProof.Rows L2
section
variable {prog : Program} {w : World} {A : Around} {E : Value → Shared → Prop} {s : Shared}
end
end MM

namespace MM
open PySem PySem.Spec PyProof.Rows L2
theorem PT.or {X : Cx} {e : Expr} {t u : TT} (h : PT X e t) (g : PT X e u) : PT X e (fun σ H Q => t σ H Q ∨ u σ H Q) :=
  ⟨fun pins s σ H Q I q => q.elim (h.run pins s σ H Q I) (g.run pins s σ H Q I)⟩
section
variable {X : Cx} {c : Cl} {W : WX} {e i o : Expr} {mi mo : ME}
theorem dt_either {m1 m2 m : MT} (h1 : DT X c W e m1) (h2 : DT X c W e m2) (h : ∀ ρ S, m ρ S = m1 ρ S ∨ m ρ S = m2 ρ S ∨ m ρ S = .no) : DT X c W e m := by
  obtain ⟨t1, p1, h1⟩ := h1
  obtain ⟨t2, p2, h2⟩ := h2
  refine ⟨_, PT.or p1 p2, fun φ σ H ρ S Q r f p => ?_⟩
  rcases h ρ S with q | q | q
  · rw [q] at p; exact .inl (h1 φ σ H ρ S Q r f p)
  · rw [q] at p; exact .inr (h2 φ σ H ρ S Q r f p)
  · rw [q] at p; exact False.elim p
theorem dt_dnotin (hu : X.A.units + 1 < cLine) (hi : DE X c W i mi) (ho : DE X c W o mo) (hm : behindInMarks .NotIn o = false := by rfl) : DT X c W (.Compare i [.NotIn] [o] pos) (tV (eBin dnotInD mi mo)) := by
  obtain ⟨to, po, ho⟩ := ho
  obtain ⟨ti, pi, hi⟩ := hi
  refine dt_of (pt_cmp (pc_dnotin hu pi po) hm) fun φ σ H ρ S Q r f p => ?_
  refine hi φ σ H ρ S _ r f (PostW.elim p fun d S1 φ1 H1 e1 r1 p1 => fun x hx => ?_)
  refine ho φ1 σ H1 ρ S1 _ r1 (f.stay (e1.stays r)) (PostW.elim p1 fun d2 S2 φ2 H2 e2 r2 p2 => fun y hy => ?_)
  unfold dnotInD at p2
  split at p2
  · rename_i b hb
    obtain ⟨a, w, rfl, g, hw⟩ := din_of r2 (hx.stay (e2.stays r1)) hy hb
    exact ⟨a, w, rfl, g, PostW.here r2 p2 _ (by rw [hw]; exact rep_bl)⟩
  · exact False.elim p2
theorem tV_either {m1 m2 m : ME} (h : ∀ ρ S, m ρ S = m1 ρ S ∨ m ρ S = m2 ρ S ∨ m ρ S = .no) (ρ : Fr) (S : Sto) : tV m ρ S = tV m1 ρ S ∨ tV m ρ S = tV m2 ρ S ∨ tV m ρ S = .no := by
  unfold tV
  rcases h ρ S with q | q | q
  · left; rw [q]
  · right; left; rw [q]
  · right; right; rw [q]; rfl
theorem dt_notInA (h1 : DT X c W (.Compare i [.NotIn] [o] pos) (tV (eBin notInD mi mo))) (h2 : DT X c W (.Compare i [.NotIn] [o] pos) (tV (eBin dnotInD mi mo))) : DT X c W (.Compare i [.NotIn] [o] pos) (tV (eBin notInAD mi mo)) :=
  dt_either h1 h2 fun ρ S => tV_either (fun ρ S => bin_either (fun x y S => by unfold notInAD; split <;> simp) ρ S) ρ S
end
end MM

namespace MM
open PySem PySem.Spec PyProof.Rows L2
section
variable {prog : Program} {w : World} {A : Around} {E : Value → Shared → Prop} {s : Shared}
end
end MM

namespace MM
open PySem PySem.Spec PyProof.Rows L2
end MM

namespace MM
open PySem PySem.Spec PyProof.Rows L2
end MM

namespace MM
open PySem PySem.Spec PyProof.Rows L2
section
variable {prog : Program} {w : World} {A : Around} {E : Value → Shared → Prop} {s : Shared}
end
section
variable {X : Cx}
end
end MM

namespace MM
open PySem PySem.Spec PyProof.Rows L2
section
variable {X : Cx} {c : Cl} {W : WX} {a : Expr} {ma : ME} {p2 pos : Pos}
end
end MM

namespace MM
open PySem PySem.Spec PyProof.Rows L2
section
variable {X : Cx} {o e : Expr} {es : List Expr} {to : TE} {t : TA} {name : Str} {apos cpos : Pos} {id : String} {r : V → List V → Hp → VK → Prop}
def tBMT (r : V → List V → Hp → VK → Prop) (to : TE) (t : TA) : TE := fun σ H Q => to σ H fun x H1 => (∃ a, x = .ref a ∧ NoD H1 a) ∧ t σ H1 fun xs H2 => r x xs H2 Q
theorem pe_bmT (slot : Slot "tuple" name id) (hty : typeOf (.builtin id) = pure (.type "method_descriptor")) (hm : MtR X id r) (ho : PE X o to) (ha : PA X (e :: es) t)
    (hbase : attributeBase o name X.env (eval o X.env) = eval o X.env := by rfl)
    (hfew : ((backTo cpos (starEach (e :: es) X.env)).all (fun x => !x.1) && (backToKw cpos (keywordEach [] X.env)).all (fun x => x.1.isSome) && decide ((e :: es).length + ([] : List Keyword).length + (if ([] : List Keyword).isEmpty then 0 else 1) < 30)) = true := by rfl)
    (hline : (apos.endLine == cpos.line) = true := by rfl) (hs : starEach (e :: es) X.env = (false, eval e X.env) :: starEach es X.env := by rfl) (hplain : (backTo cpos (starEach es X.env)).any (·.1) = false := by rfl) :
    PE X (.Call (.Attribute o name apos) (e :: es) [] cpos) (tBMT r to t) := ⟨fun pins s σ H Q I h => by
  refine wpAny_Call_method_late hbase hfew hline rfl (thn (ho.run pins s σ H _ I h) fun v s1 ⟨x, H1, I1, r1, ⟨a, ex, ob, xs, hh, hd⟩, q1⟩ => ?_)
  subst ex
  obtain rfl : v = Value.ref a := r1
  obtain ⟨hg, _, its, _, ht⟩ := I1.hok a _ hh
  refine ⟨"tuple", id, PySem.F.plainAttrs_tuple, slot, hty, ht.typeIs, fun b eb => ?_, ?_⟩
  · cases eb; exact ⟨ob, hg, hd⟩
  · have hA := ha.run cpos pins s1 σ H1 _ I1 q1; rw [hs] at hA ⊢
    refine Calls.callWith_builtin (by show (false || (backTo cpos (starEach es X.env)).any (·.1)) = false; rw [hplain] <;> rfl) (Calls.evalArgs_plain (thn hA fun us s2 ⟨vs, H2, I2, r2, q2⟩ => ?_))
    exact hm pins s2 σ H2 (.ref a) vs _ us Q I2 rfl r2 q2⟩
end
def rTIdx (K : PySem.W.Frag) : V → List V → Hp → VK → Prop := fun x xs H Q => ∃ p, ∃ ys : List Str, ∃ z j, x = .ref p ∧ xs = [.str z] ∧ SqT K H p (ys.map V.str) ∧ ys[j]? = some z ∧ (∀ m, m < j → ys[m]? ≠ some z) ∧ Q (.int (j : Nat)) H
def indexTD : FM := fun x l S => match x, l with
  | .tup xs, [.str y] => match txts xs with
    | some ys => if y ∈ ys then .ok (.int ((ys.idxOf y : Nat) : Int)) S else .no
    | none => .no
  | _, _ => .no
theorem fits_indexT {K : PySem.W.Frag} {c : Cl} : FitsM K c (rTIdx K) indexTD := by
  intro W σ φ H S x d vs ds Q r hx hv p
  unfold indexTD at p
  split at p
  · split at p
    · rename_i e
      split at p
      · rename_i hm
        rename_i xs y _ ys
        obtain ⟨a, us, rfl, s, g⟩ := hx.tup_
        have eu := txts_of g e
        subst eu
        simp only [RepL] at hv
        obtain ⟨v, w, rfl, hv1, rfl⟩ := hv
        have ey := hv1.str_
        subst ey
        have hi := List.idxOf_lt_length_of_mem hm
        refine ⟨a, ys, y, ys.idxOf y, rfl, rfl, s, ?_, ?_, PostW.here r p _ rep_int⟩
        · rw [List.getElem?_eq_getElem hi, List.getElem_idxOf]
        · intro m hm2 hz
          have hl := (List.getElem?_eq_some_iff.mp hz)
          have q2 := List.not_of_lt_findIdx (p := (· == y)) (xs := ys) (i := m) hm2
          rw [hl.2] at q2
          simp at q2
      · exact False.elim p
    · exact False.elim p
  · exact False.elim p
def eIdxT (o : ME) (l : ML) : ME := eMeth (fun d _ => txD d) indexTD o l
theorem de_indexT {X : Cx} {c : Cl} {W : WX} {o e : Expr} {mo me : ME} {apos cpos : Pos} (ho : DE X c W o mo) (he : DE X c W e me)
    (hbase : attributeBase o "index" X.env (eval o X.env) = eval o X.env := by rfl)
    (hfew : ((backTo cpos (starEach [e] X.env)).all (fun x => !x.1) && (backToKw cpos (keywordEach [] X.env)).all (fun x => x.1.isSome) && decide (([e] : List Expr).length + ([] : List Keyword).length + (if ([] : List Keyword).isEmpty then 0 else 1) < 30)) = true := by rfl)
    (hline : (apos.endLine == cpos.line) = true := by rfl) (hs : starEach [e] X.env = (false, eval e X.env) :: starEach [] X.env := by rfl) (hplain : (backTo cpos (starEach [] X.env)).any (·.1) = false := by rfl) :
    DE X c W (.Call (.Attribute o "index" apos) [e] [] cpos) (eIdxT mo (aCons me aNil)) := by
  obtain ⟨to, po, ho⟩ := ho
  obtain ⟨ta, pa, ha⟩ := da_cons he da_nil hs
  refine ⟨_, pe_bmT PySem.F.slot_tuple_index PySem.F.type_tuple_index mt_tup_index po pa hbase hfew hline hs hplain, fun φ σ H ρ S Q r f p => ?_⟩
  refine ho φ σ H ρ S _ r f (PostW.elim p fun d S1 φ1 H1 e1 r1 p1 => fun x hx => ?_)
  split at p1
  · rename_i hk
    refine ⟨?_, ha φ1 σ H1 ρ S1 _ r1 (f.stay (e1.stays r)) (PostW.elim p1 fun ds S2 φ2 H2 e2 r2 p2 => fun vs hv => ?_)⟩
    · cases d <;> first | (cases hk; done) | skip
      obtain ⟨a, us, rfl, s, g⟩ := hx.tup_
      exact ⟨a, rfl, hx.nod hk⟩
    · exact fits_indexT W σ φ2 H2 S2 x d vs ds Q r2 (hx.stay (e2.stays r1)) hv p2
  · exact False.elim p1
theorem isTx_txts : ∀ {l : List D} {ys : List Str}, txts l = some ys → l ≠ [] → isTx l = true := by
  have key : ∀ {l : List D} {ys : List Str}, txts l = some ys → l.all isSt = true := by
    intro l
    induction l with
    | nil => intro ys _; rfl
    | cons d l ih =>
      intro ys h
      cases d <;> first | (cases h; done) | skip
      obtain ⟨q, e1, rfl⟩ := Option.map_eq_some_iff.mp h
      rw [List.all_cons, ih e1]; rfl
  intro l ys h hn
  unfold isTx
  rw [key h]
  cases l with
  | nil => exact absurd rfl hn
  | cons => rfl
end MM

namespace CW
open PySem PySem.Spec PyProof.Rows L2 MM
@[simp] theorem isSt_int {i : Int} : isSt (.int i) = false := rfl
@[simp] theorem isSt_bl {i : Bool} : isSt (.bl i) = false := rfl
@[simp] theorem isSt_non : isSt .non = false := rfl
@[simp] theorem isSt_str {i : Str} : isSt (.str i) = true := rfl
@[simp] theorem isSt_tup {l : List D} : isSt (.tup l) = false := rfl
@[simp] theorem isSt_ref {n : Nat} : isSt (.ref n) = false := rfl
@[simp] theorem isSt_pl {l : List D} : isSt (.pl l) = false := rfl
/-- is_whole(thing); slots 0 thing -/
noncomputable def m_is_whole : MS :=
  sRet (eAn (eUn (isiD .int) (eVar 0)) (eUn notD (eUn (isiD .bool) (eVar 0))))
noncomputable def sp_is_whole : FL := body 1 m_is_whole
def numS (ds : List Nat) : Str := ⟨(ds.map (· + 48)).toArray⟩
structure GoodN (ds : List Nat) : Prop where
  pos : 1 ≤ ds.length
  len : ds.length ≤ 4
  fig : ∀ d ∈ ds, 1 ≤ d ∧ d ≤ 9
  sum : ds.sum ≤ 24
def strokes (d : Nat) : List Int := (List.replicate d [1, 0]).flatten
def figR (d : Nat) : List Int := strokes d ++ [0, 0]
def figsR (ds : List Nat) : List Int := (ds.map figR).flatten
def rowN (ds : List Nat) : List Int := figsR ds ++ [0, 0]
@[simp] theorem numS_cps (ds : List Nat) : (numS ds).cps.toList = ds.map (· + 48) := rfl
@[simp] theorem numS_length (ds : List Nat) : (numS ds).length = ds.length := by
  unfold numS Str.length
  simp
theorem numS_inj {a b : List Nat} (h : numS a = numS b) : a = b := by
  have e : (numS a).cps.toList = (numS b).cps.toList := by rw [h]
  simp only [numS_cps] at e
  have : (a.map (· + 48)).map (· - 48) = (b.map (· + 48)).map (· - 48) := by rw [e]
  simpa [List.map_map, Function.comp_def] using this
end CW

namespace CW
open PySem PySem.Spec PyProof.Rows L2 MM
/-- things that may be asked of: no script, no odd object, texts of some length -/
def okT (S : Sto) : D → Prop
  | .scr _ => False
  | .ref n => (∃ fz l, S[n]? = some (.lst fz l)) ∨ ∃ fz l, S[n]? = some (.dct fz l)
  | .str z => z.length ≤ sizeLine
  | _ => True
theorem str_ext {x y : Str} (h : x.cps.toList = y.cps.toList) : x = y := Str.ext' (Array.toList_inj.mp h)
theorem isi_of (S : Sto) (x : D) (h : okT S x) (hs : ∀ z, x ≠ .str z) : isiD .str x S = .ok (.bl false) S := by
  cases x with
  | str z => exact absurd rfl (hs z)
  | scr n => exact h.elim
  | ref n =>
    unfold isiD isOf
    rcases h with ⟨fz, l, h⟩ | ⟨fz, l, h⟩ <;> simp [h]
  | _ => rfl
end CW

namespace CW
open PySem PySem.Spec PyProof.Rows L2 MM
def fig : Int → Int → List Int → List Int → List Int × Int
  | _, k, cs, [] => (cs, k)
  | p, k, cs, b :: r => if b = 1 then fig b (k + 1) cs r else if 0 < k ∧ p = 0 then fig b 0 (cs ++ [k]) r else fig b k cs r
theorem is_whole_ev {x : D} {S : Sto} (h : okT S x) : sp_is_whole [x] S = .ok (.bl (match x with | .int _ => true | _ => false)) S := by
  unfold sp_is_whole m_is_whole
  cases x with
  | scr n => exact h.elim
  | ref n =>
    have e : isiD .int (.ref n) S = .ok (.bl false) S := by
      unfold isiD isOf
      rcases h with ⟨fz, l, h⟩ | ⟨fz, l, h⟩ <;> simp [h]
    simp [e]
  | _ => simp
theorem joinL_nil : ∀ l : List (List Nat), TL.joinL [] l = l.flatten
  | [] => rfl
  | [p] => by simp [TL.joinL]
  | p :: q :: r => by
    show p ++ ([] ++ TL.joinL [] (q :: r)) = _
    rw [joinL_nil (q :: r)]
    simp
theorem join_empty (l : List Str) : (Txt.join (Str.ofString "") l).cps.toList = (l.map fun x => x.cps.toList).flatten := by
  rw [TL.join_eq]
  have e := TL.tl_join (Str.ofString "") l
  have e2 : TL.tl (Str.ofString "") = [] := by decide +kernel
  rw [e2, joinL_nil] at e
  exact e
theorem toString_fig {d : Nat} (h1 : 1 ≤ d) (h9 : d ≤ 9) : strI (d : Int) = numS [d] := by
  have : d = 1 ∨ d = 2 ∨ d = 3 ∨ d = 4 ∨ d = 5 ∨ d = 6 ∨ d = 7 ∨ d = 8 ∨ d = 9 := by omega
  rcases this with rfl | rfl | rfl | rfl | rfl | rfl | rfl | rfl | rfl <;> decide +kernel
theorem log_small {c : Int} (h : 1 ≤ c ∧ c ≤ 58) : c.natAbs.log2 < 1920 := by
  have h1 : c.natAbs < 2 ^ 6 := by omega
  have := Nat.log2_lt (n := c.natAbs) (k := 6) (by omega)
  have h2 := this.mpr h1
  omega
end CW

namespace CW
open PySem PySem.Spec PyProof.Rows L2 MM
/-- _law_bag(_law_script, _law_at); slots 0 _law_script, 1 _law_at, 2 _law_cell, 3 _law_mix, 4 _law_k -/
noncomputable def m_law_bag : MS :=
  sSeq (sSet 2 (eC (.int 0)))
  (sSeq (sIf (tV (eBin ltD (eVar 1) (eCall lenD (aCons (eVar 0) (aNil))))) (sSet 2 (eCall absD (aCons (eBin ixD (eVar 0) (eVar 1)) (aNil)))) (sPass))
  (sSeq (sSet 3 (eBin addD (eC (.int 7919)) (eBin mulD (eC (.int 31)) (eVar 1))))
  (sSeq (sFor (iR1 (aCons (eCall minD (aCons (eCall lenD (aCons (eVar 0) (aNil))) (aCons (eC (.int 40)) (aNil)))) (aNil))) (tN 4) (sSet 3 (eBin modD (eBin addD (eBin addD (eBin powD (eVar 3) (eC (.int 3))) (eBin modD (eBin ixD (eVar 0) (eVar 4)) (eC (.int 1000000007)))) (eVar 4)) (eC (.int 2147483629)))))
  (sSeq (sIf (tV (eBin ltD (eVar 2) (eBin powD (eC (.int 10)) (eC (.int 18))))) (sSet 2 (eBin powD (eC (.int 10)) (eC (.int 18)))) (sPass))
  (sRet (eNew (lNew (aCons (eBin subD (eVar 2) (eBin powD (eC (.int 10)) (eC (.int 18)))) (aCons (eVar 3) (aCons (eBin modD (eVar 1) (eC (.int 11))) (aNil)))))))))))
noncomputable def sp_law_bag : FL := body 5 m_law_bag
/-- _law_draw(_law_bag_here, _law_many_here); slots 0 _law_bag_here, 1 _law_many_here, 2 _law_digit, 3 _law_primes, 4 _law_found, 5 _law_room -/
noncomputable def m_law_draw : MS :=
  sSeq (sIf (tV (eBin gtD (eBin ixD (eVar 0) (eC (.int 0))) (eC (.int 0)))) (sSeq (sSet 2 (eBin modD (eBin ixD (eVar 0) (eC (.int 0))) (eVar 1)))
  (sSeq (sSetIx (eVar 0) (eC (.int 0)) (eBin fdivD (eBin ixD (eVar 0) (eC (.int 0))) (eVar 1)))
  (sRet (eVar 2)))) (sPass))
  (sSeq (sSet 3 (eTup (aCons (eC (.int 99991)) (aCons (eC (.int 99989)) (aCons (eC (.int 99971)) (aCons (eC (.int 99961)) (aCons (eC (.int 99929)) (aCons (eC (.int 99923)) (aCons (eC (.int 99907)) (aCons (eC (.int 99901)) (aCons (eC (.int 99881)) (aCons (eC (.int 99877)) (aCons (eC (.int 99871)) (aNil))))))))))))))
  (sSeq (sSet 4 (eC (.int 0)))
  (sSeq (sSet 5 (eC (.int 1)))
  (sSeq (sWhile (tV (eBin ltD (eVar 5) (eBin mulD (eVar 1) (eC (.int 100))))) (sSeq (sSetIx (eVar 0) (eC (.int 1)) (eBin modD (eBin addD (eBin mulD (eBin ixD (eVar 0) (eC (.int 1))) (eC (.int 48271))) (eC (.int 12345))) (eC (.int 2147483629))))
  (sSeq (sSetIx (eVar 0) (eC (.int 2)) (eBin modD (eBin addD (eBin ixD (eVar 0) (eC (.int 2))) (eC (.int 1))) (eC (.int 11))))
  (sSeq (sSet 4 (eBin addD (eBin mulD (eVar 4) (eC (.int 99000))) (eBin modD (eBin powD (eBin ixD (eVar 0) (eC (.int 1))) (eC (.int 5))) (eBin ixD (eVar 3) (eBin ixD (eVar 0) (eC (.int 2)))))))
  (sSet 5 (eBin mulD (eVar 5) (eC (.int 99000))))))))
  (sRet (eBin modD (eVar 4) (eVar 1)))))))
noncomputable def sp_law_draw : FL := body 6 m_law_draw
/-- _law_many(_law_script, _law_least, _law_most); slots 0 _law_script, 1 _law_least, 2 _law_most -/
noncomputable def m_law_many : MS :=
  sRet (ePl (lR1 (eCall maxD (aCons (eVar 1) (aCons (eCall minD (aCons (eVar 2) (aCons (eCall lenD (aCons (eVar 0) (aNil))) (aNil)))) (aNil))))))
noncomputable def sp_law_many : FL := body 3 m_law_many
/-- _law_whole(_law_thing); slots 0 _law_thing -/
noncomputable def m_law_whole : MS :=
  sRet (eAn (eUn (isiD .int) (eVar 0)) (eUn notD (eUn (isiD .bool) (eVar 0))))
noncomputable def sp_law_whole : FL := body 1 m_law_whole
/-- _law_figures(_law_bag_here); slots 0 _law_bag_here, 1 _law_many_here, 2 _law_great, 3 _law_left, 4 _law_found, 5 _law_place, 6 _law_more -/
noncomputable def m_law_figures : MS :=
  sSeq (sSet 1 (eBin addD (eC (.int 1)) (eCall sp_law_draw (aCons (eVar 0) (aCons (eC (.int 4)) (aNil))))))
  (sSeq (sSet 2 (eCall sp_law_draw (aCons (eVar 0) (aCons (eC (.int 4)) (aNil)))))
  (sSeq (sSet 3 (eBin subD (eC (.int 24)) (eVar 1)))
  (sSeq (sSet 4 (eC (.str "")))
  (sSeq (sFor (iR1 (aCons (eVar 1) (aNil))) (tN 5) (sSeq (sSet 6 (eCall sp_law_draw (aCons (eVar 0) (aCons (eBin addD (eCall minD (aCons (eVar 3) (aCons (eBin ixD (eTup (aCons (eC (.int 2)) (aCons (eC (.int 2)) (aCons (eC (.int 3)) (aCons (eC (.int 8)) (aNil)))))) (eVar 2)) (aNil)))) (eC (.int 1))) (aNil)))))
  (sSeq (sSet 3 (eBin subD (eVar 3) (eVar 6)))
  (sSet 4 (eBin addD (eVar 4) (eCall strD (aCons (eBin addD (eC (.int 1)) (eVar 6)) (aNil))))))))
  (sRet (eVar 4))))))
noncomputable def sp_law_figures : FL := body 7 m_law_figures
/-- a bag stands at b -/
def BagAt (S : Sto) (b : Nat) : Prop := ∃ a m k : Int, S[b]? = some (.lst false [.int a, .int m, .int k]) ∧ 0 ≤ a ∧ 0 ≤ m ∧ m < 2147483629 ∧ 0 ≤ k ∧ k < 11
/-- nothing but the bag at b was changed -/
def Drew (b : Nat) (S S' : Sto) : Prop := BagAt S' b ∧ ∃ l, S' = S.set b (.lst false l)
theorem BagAt.lt {S : Sto} {b : Nat} (h : BagAt S b) : b < S.length := by
  obtain ⟨a, m, k, h, _⟩ := h
  exact (List.getElem?_eq_some_iff.mp h).1
theorem Drew.trans {b : Nat} {S S1 S2 : Sto} (h : Drew b S S1) (g : Drew b S1 S2) : Drew b S S2 := by
  obtain ⟨_, l, rfl⟩ := h
  obtain ⟨g, m, rfl⟩ := g
  exact ⟨g, m, by rw [List.set_set]⟩
theorem Drew.refl {b : Nat} {S : Sto} (h : BagAt S b) : Drew b S S := by
  refine ⟨h, ?_⟩
  obtain ⟨a, m, k, e, _⟩ := h
  refine ⟨[.int a, .int m, .int k], ?_⟩
  apply List.ext_getElem?
  intro i
  by_cases hi : b = i
  · subst hi
    rw [List.getElem?_set_self (List.getElem?_eq_some_iff.mp e).1, e]
  · rw [List.getElem?_set_ne hi]
theorem Drew.get {b n : Nat} {S S' : Sto} (h : Drew b S S') (hn : n ≠ b) : S'[n]? = S[n]? := by
  obtain ⟨_, l, rfl⟩ := h
  rw [List.getElem?_set_ne (Ne.symm hn)]
theorem Drew.len {b : Nat} {S S' : Sto} (h : Drew b S S') : S'.length = S.length := by
  obtain ⟨_, l, rfl⟩ := h
  simp
def primesD : List D := [.int 99991, .int 99989, .int 99971, .int 99961, .int 99929, .int 99923, .int 99907, .int 99901, .int 99881, .int 99877, .int 99871]
theorem prime_at {k : Int} (h0 : 0 ≤ k) (h1 : k < 11) : ∃ p : Int, atI primesD k = some (.int p) ∧ 0 < p := by
  have : k = 0 ∨ k = 1 ∨ k = 2 ∨ k = 3 ∨ k = 4 ∨ k = 5 ∨ k = 6 ∨ k = 7 ∨ k = 8 ∨ k = 9 ∨ k = 10 := by omega
  rcases this with rfl | rfl | rfl | rfl | rfl | rfl | rfl | rfl | rfl | rfl | rfl <;> exact ⟨_, rfl, by decide⟩
theorem draw_ev {b : Nat} {S : Sto} {n : Int} (hb : BagAt S b) (h1 : 1 ≤ n) (h2 : n < 2 ^ 120) : ∃ d S', sp_law_draw [.ref b, .int n] S = .ok (.int d) S' ∧ 0 ≤ d ∧ d < n ∧ Drew b S S' := by
  have hlt := hb.lt
  obtain ⟨a, m, k, hs, ha, hm0, hm1, hk0, hk1⟩ := hb
  have g0 : ∀ (S : Sto) (x y z : D), S[b]? = some (.lst false [x, y, z]) → ixD (.ref b) (.int 0) S = .ok x S := fun S x y z h => by rw [ixD_ref h]; rfl
  have g1 : ∀ (S : Sto) (x y z : D), S[b]? = some (.lst false [x, y, z]) → ixD (.ref b) (.int 1) S = .ok y S := fun S x y z h => by rw [ixD_ref h]; rfl
  have g2 : ∀ (S : Sto) (x y z : D), S[b]? = some (.lst false [x, y, z]) → ixD (.ref b) (.int 2) S = .ok z S := fun S x y z h => by rw [ixD_ref h]; rfl
  have p0 : ∀ (S : Sto) (x y z v : D), S[b]? = some (.lst false [x, y, z]) → setIx (.ref b) (.int 0) v S = some (S.set b (.lst false [v, y, z])) := fun S x y z v h => setIx_ev (j := 0) h rfl
  have p1 : ∀ (S : Sto) (x y z v : D), S[b]? = some (.lst false [x, y, z]) → setIx (.ref b) (.int 1) v S = some (S.set b (.lst false [x, v, z])) := fun S x y z v h => setIx_ev (j := 1) h rfl
  have p2 : ∀ (S : Sto) (x y z v : D), S[b]? = some (.lst false [x, y, z]) → setIx (.ref b) (.int 2) v S = some (S.set b (.lst false [x, y, v])) := fun S x y z v h => setIx_ev (j := 2) h rfl
  unfold sp_law_draw m_law_draw
  by_cases hp : 0 < a
  · refine ⟨a % n, S.set b (.lst false [.int (a / n), .int m, .int k]), ?_, Int.emod_nonneg _ (by omega), Int.emod_lt_of_pos _ (by omega), ⟨a / n, m, k, List.getElem?_set_self hlt, Int.ediv_nonneg ha (by omega), hm0, hm1, hk0, hk1⟩, _, rfl⟩
    simp [g0 S _ _ _ hs, hp, modD_pos (show 0 < n by omega), fdivD_pos (show 0 < n by omega) (by omega), p0 S _ _ _ _ hs]
  · simp [g0 S _ _ _ hs, hp, sizeL]
    rw [show [D.int 99991, D.int 99989, D.int 99971, D.int 99961, D.int 99929, D.int 99923, D.int 99907, D.int 99901, D.int 99881, D.int 99877, D.int 99871] = primesD from rfl]
    generalize hB : sSeq (sSetIx (eVar 0) (eC (.int 1)) _) _ = B
    refine while_post (Post := fun r => ∃ d S', ((r.then (sRet (eBin modD (eVar 4) (eVar 1)))).end) = .ok (.int d) S' ∧ 0 ≤ d ∧ d < n ∧ Drew b S S')
      (fun ρ S' => ∃ f r, ρ = [some (.ref b), some (.int n), none, some (.tup primesD), some (.int f), some (.int r)] ∧ 1 ≤ r ∧ Drew b S S')
      (fun ρ S' => match ρ with | [_, _, _, _, _, some (.int r)] => 200 - r.toNat.log2 | _ => 0) ?_ ⟨0, 1, rfl, by omega, Drew.refl ⟨a, m, k, hs, ha, hm0, hm1, hk0, hk1⟩⟩ (by dsimp only; omega)
    rintro ρ S' ⟨f, r, rfl, hr, hd⟩
    refine ⟨decide (r < n * 100), S', by simp [mulD_r (i := n) (j := 100) (S := S') (by decide)], ?_⟩
    by_cases hrn : r < n * 100
    · simp only [hrn, decide_true, if_true]
      obtain ⟨⟨a', m', k', hs', ha', hm0', hm1', hk0', hk1'⟩, l, hl⟩ := hd
      have hlt' : b < S'.length := (List.getElem?_eq_some_iff.mp hs').1
      obtain ⟨p, hp, hp0⟩ := prime_at (k := (k' + 1) % 11) (Int.emod_nonneg _ (by decide)) (Int.emod_lt_of_pos _ (by decide))
      have hm2 : 0 ≤ (m' * 48271 + 12345) % 2147483629 := Int.emod_nonneg _ (by decide)
      have hm3 : (m' * 48271 + 12345) % 2147483629 < 2147483629 := Int.emod_lt_of_pos _ (by decide)
      have hk2 : 0 ≤ (k' + 1) % 11 := Int.emod_nonneg _ (by decide)
      have hk3 : (k' + 1) % 11 < 11 := Int.emod_lt_of_pos _ (by decide)
      generalize hm1 : (m' * 48271 + 12345) % 2147483629 = m1 at *
      generalize hk1 : (k' + 1) % 11 = k1 at *
      have s1 : (S'.set b (.lst false [.int a', .int m1, .int k']))[b]? = some (.lst false [.int a', .int m1, .int k']) := List.getElem?_set_self hlt'
      have s2 : (S'.set b (.lst false [.int a', .int m1, .int k1]))[b]? = some (.lst false [.int a', .int m1, .int k1]) := List.getElem?_set_self hlt'
      have e : B [some (.ref b), some (.int n), none, some (.tup primesD), some (.int f), some (.int r)] S' = .nx [some (.ref b), some (.int n), none, some (.tup primesD), some (.int (f * 99000 + m1 ^ 5 % p)), some (.int (r * 99000))] (S'.set b (.lst false [.int a', .int m1, .int k1])) := by
        subst hB
        have c1 : mulD (.int m') (.int 48271) S' = .ok (.int (m' * 48271)) S' := mulD_r (by decide)
        have c2 : modD (.int (m' * 48271 + 12345)) (.int 2147483629) S' = .ok (.int m1) S' := by rw [modD_pos (by decide), hm1]
        have c3 : modD (.int (k' + 1)) (.int 11) (S'.set b (.lst false [.int a', .int m1, .int k'])) = .ok (.int k1) (S'.set b (.lst false [.int a', .int m1, .int k'])) := by rw [modD_pos (by decide), hk1]
        have c4 : mulD (.int f) (.int 99000) (S'.set b (.lst false [.int a', .int m1, .int k1])) = .ok (.int (f * 99000)) (S'.set b (.lst false [.int a', .int m1, .int k1])) := mulD_r (by decide)
        have c5 : mulD (.int r) (.int 99000) (S'.set b (.lst false [.int a', .int m1, .int k1])) = .ok (.int (r * 99000)) (S'.set b (.lst false [.int a', .int m1, .int k1])) := mulD_r (by decide)
        have c6 : powD (.int m1) (.int 5) (S'.set b (.lst false [.int a', .int m1, .int k1])) = .ok (.int (m1 ^ 5)) (S'.set b (.lst false [.int a', .int m1, .int k1])) := powD_pos (by decide) (by decide) (by omega)
        simp [g1 _ _ _ _ hs', c1, c2, p1 _ _ _ _ _ hs', g2 _ _ _ _ s1, c3, p2 _ _ _ _ _ s1, c4, g1 _ _ _ _ s2, c6, g2 _ _ _ _ s2, hp, modD_pos hp0, c5]
      rw [e]
      refine ⟨⟨_, _, rfl, by omega, ⟨a', m1, k1, s2, ha', hm2, hm3, hk2, hk3⟩, [.int a', .int m1, .int k1], by rw [hl, List.set_set]⟩, ?_⟩
      dsimp only
      have h0 : r.toNat ≠ 0 := by omega
      have h0' : (r * 99000).toNat ≠ 0 := by omega
      have q1 : r.toNat.log2 < 130 := (Nat.log2_lt h0).mpr (by omega)
      have q2 : r.toNat.log2 + 1 ≤ (r * 99000).toNat.log2 := (Nat.le_log2 h0').mpr (by
        have := Nat.log2_self_le h0
        rw [Nat.pow_succ]
        omega)
      omega
    · simp only [hrn, decide_false, Bool.false_eq_true, if_false]
      refine ⟨f % n, S', by simp [modD_pos (show 0 < n by omega)], Int.emod_nonneg _ (by omega), Int.emod_lt_of_pos _ (by omega), hd⟩

theorem emod_bounds (x : Int) {n : Int} (h : 0 < n) : 0 ≤ x % n ∧ x % n < n := ⟨Int.emod_nonneg _ (by omega), Int.emod_lt_of_pos _ h⟩
theorem bag_ev {ns : List Int} {at_ : Int} {S : Sto} (h0 : 0 ≤ at_) (h1 : at_ ≤ 1000) (hl : ns.length ≤ 63) : ∃ l, sp_law_bag [.scr ns, .int at_] S = .ok (.ref S.length) (S ++ [.lst false l]) ∧ BagAt (S ++ [.lst false l]) S.length := by
  have hc : ∃ cell : Int, 0 ≤ cell ∧ ∀ (k : Fr → Sto → RS), (sIf (tV (eBin ltD (eVar 1) (eCall lenD (aCons (eVar 0) (aNil))))) (sSet 2 (eCall absD (aCons (eBin ixD (eVar 0) (eVar 1)) (aNil)))) (sPass) [some (.scr ns), some (.int at_), some (.int 0), none, none] S).then k = k [some (.scr ns), some (.int at_), some (.int cell), none, none] S := by
    by_cases hlt : at_ < (ns.length : Int)
    · have hx : atI ns at_ = some (ns[at_.toNat]'(by omega)) := atI_of (j := at_.toNat) (by omega) (List.getElem?_eq_getElem (by omega))
      refine ⟨if ns[at_.toNat]'(by omega) < 0 then -ns[at_.toNat]'(by omega) else ns[at_.toNat]'(by omega), by split <;> omega, fun k => ?_⟩
      simp [hlt, hx]
    · exact ⟨0, by omega, fun k => by simp [hlt]⟩
  obtain ⟨cell, hc0, hc⟩ := hc
  have c1 : mulD (.int 31) (.int at_) S = .ok (.int (31 * at_)) S := mulD_l (by decide)
  unfold sp_law_bag m_law_bag
  rw [body_ev, sSeq_ev]
  simp only [startF_ev, List.map_cons, List.map_nil, List.length_cons, List.length_nil, sSet_ev, eC_ev, of_ok, then_nx]
  rw [show ([some (D.scr ns), some (D.int at_)] ++ List.replicate (5 - (0 + 1 + 1)) (none : Option D)).set 2 (some (D.int 0)) = [some (.scr ns), some (.int at_), some (.int 0), none, none] from rfl]
  rw [sSeq_ev, hc]
  simp [c1]
  generalize hB : sSet 3 (eBin modD _ (eC (.int 2147483629))) = B
  have loop := for_run (g := noG) (tg := tN 4) (b := B) (items := rangeD 0 (if 40 < (ns.length : Int) then 40 else (ns.length : Int)).toNat) (ρ := [some (.scr ns), some (.int at_), some (.int cell), some (.int (7919 + 31 * at_)), none]) (S := S)
    (fun i ρ S' => S' = S ∧ ∃ m x, ρ = [some (.scr ns), some (.int at_), some (.int cell), some (.int m), x] ∧ 0 ≤ m ∧ m < 2147483629) ⟨rfl, _, _, rfl, by omega, by omega⟩ (fun _ _ _ _ => trivial) (by
      rintro i d ρ S' hd ⟨rfl, m, x, rfl, hm0, hm1⟩
      unfold rangeD at hd
      rw [List.getElem?_map] at hd
      obtain ⟨j, hj, rfl⟩ := Option.map_eq_some_iff.mp hd
      have hi : i < (if 40 < (ns.length : Int) then 40 else (ns.length : Int)).toNat := by
        have := (List.getElem?_eq_some_iff.mp hj).1
        simpa using this
      have hji : j = i := by simpa [List.getElem?_range hi] using hj.symm
      subst hji
      have hjn : j < ns.length := by
        split at hi <;> omega
      have hx : atI ns (j : Int) = some ns[j] := atI_nat (List.getElem?_eq_getElem hjn)
      subst hB
      have c2 : powD (.int m) (.int 3) S' = .ok (.int (m ^ 3)) S' := powD_pos (by decide) (by decide) (by omega)
      have b1 := emod_bounds (m ^ 3 + ns[j] % 1000000007 + (j : Int)) (n := 2147483629) (by decide)
      refine ⟨_, rfl, [some (.scr ns), some (.int at_), some (.int cell), some (.int ((m ^ 3 + ns[j] % 1000000007 + (j : Int)) % 2147483629)), some (.int j)], S', ?_, rfl, _, _, rfl, b1.1, b1.2⟩
      simp [c2, hx, modD_pos])
  obtain ⟨ρ', S', e, rfl, m, x, rfl, hm0, hm1⟩ := loop
  have hcond : Wd (if 40 < (ns.length : Int) then 40 else (ns.length : Int)) := by
    apply wd_of <;> split <;> omega
  have c3 : powD (.int 10) (.int 18) S' = .ok (.int (10 ^ 18)) S' := rfl
  have c4 : modD (.int at_) (.int 11) S' = .ok (.int (at_ % 11)) S' := modD_pos (by decide)
  have b2 := emod_bounds at_ (n := 11) (by decide)
  have hA : ∃ A : Int, 0 ≤ A ∧ A = (if cell < 1000000000000000000 then 1000000000000000000 else cell) - 1000000000000000000 := ⟨_, by split <;> omega, rfl⟩
  obtain ⟨A, hA0, hA⟩ := hA
  refine ⟨[.int A, .int m, .int (at_ % 11)], ?_, A, m, at_ % 11, by simp, hA0, hm0, hm1, b2.1, b2.2⟩
  simp only [hcond, if_true, of_ok, e, then_nx]
  by_cases hcell : cell < 1000000000000000000
  · rw [if_pos hcell] at hA
    simp [c3, c4, hcell, sizeL, hA]
  · rw [if_neg hcell] at hA
    simp [c3, c4, hcell, sizeL, hA]

def manyN (least most : Int) (n : Nat) : Int := if (if (n : Int) < most then (n : Int) else most) > least then (if (n : Int) < most then (n : Int) else most) else least
theorem many_ev {ns : List Int} {a b : Int} {S : Sto} (h1 : -1000 ≤ a) (h2 : a ≤ 1000) (h3 : b ≤ 1000) : sp_law_many [.scr ns, .int a, .int b] S = .ok (.pl (rangeD 0 (manyN a b ns.length).toNat)) S := by
  have hc : WdL (manyN a b ns.length) := by
    unfold manyN
    apply wdl_of <;> split <;> (try split) <;> omega
  unfold sp_law_many m_law_many
  have e : (if (if (ns.length : Int) < b then (ns.length : Int) else b) > a then (if (ns.length : Int) < b then (ns.length : Int) else b) else a) = manyN a b ns.length := rfl
  simp only [body_ev, startF_ev, sRet_ev, ePl_ev, lR1_ev, eCall_ev, aCons_ev, aNil_ev, eVar_ev, List.map_cons, List.map_nil, List.length_cons, List.length_nil, List.cons_append, List.getElem?_cons_zero, List.getElem?_cons_succ, bind_ok, lenD_scr, minD_int, maxD_int, e]
  simp [hc]

theorem cap_at {g : Int} (h0 : 0 ≤ g) (h1 : g < 4) : ∃ c : Int, atI [D.int 2, D.int 2, D.int 3, D.int 8] g = some (.int c) ∧ 2 ≤ c ∧ c ≤ 8 := by
  have : g = 0 ∨ g = 1 ∨ g = 2 ∨ g = 3 := by omega
  rcases this with rfl | rfl | rfl | rfl <;> exact ⟨_, rfl, by decide, by decide⟩
theorem strI_fig {d : Nat} (h1 : 1 ≤ d) (h9 : d ≤ 9) : strI (d : Int) = numS [d] := toString_fig h1 h9
theorem numS_app (a b : List Nat) : numS a ++ numS b = numS (a ++ b) := by
  apply str_ext
  show (numS a ++ numS b).cps.toList = _
  rw [show (numS a ++ numS b).cps.toList = (numS a).cps.toList ++ (numS b).cps.toList from TL.tl_append _ _, numS_cps, numS_cps, numS_cps, List.map_append]
theorem figures_ev {b : Nat} {S : Sto} (hb : BagAt S b) : ∃ ds S', sp_law_figures [.ref b] S = .ok (.str (numS ds)) S' ∧ GoodN ds ∧ Drew b S S' := by
  obtain ⟨d1, S1, e1, h10, h11, w1⟩ := draw_ev (n := 4) hb (by decide) (by decide)
  obtain ⟨d2, S2, e2, h20, h21, w2⟩ := draw_ev (n := 4) w1.1 (by decide) (by decide)
  have w12 := w1.trans w2
  obtain ⟨c, hc, hc1, hc2⟩ := cap_at h20 h21
  unfold sp_law_figures m_law_figures
  simp [e1, e2]
  have hcond : Wd (1 + d1) := wd_of (by omega) (by omega)
  simp [hcond]
  generalize hB : sSeq (sSet 6 (eCall sp_law_draw _)) _ = B
  have loop := for_run (g := noG) (tg := tN 5) (b := B) (items := rangeD 0 (1 + d1).toNat) (ρ := [some (.ref b), some (.int (1 + d1)), some (.int d2), some (.int (24 - (1 + d1))), some (.str (Str.ofString "")), none, none]) (S := S2)
    (fun i ρ S' => Drew b S S' ∧ ∃ (ds : List Nat) (left : Int) (x5 x6 : Option D), ρ = [some (.ref b), some (.int (1 + d1)), some (.int d2), some (.int left), some (.str (numS ds)), x5, x6] ∧ ds.length = i ∧ (∀ d ∈ ds, 1 ≤ d ∧ d ≤ 9) ∧ 0 ≤ left ∧ left = 24 - (1 + d1) - ((ds.sum : Int) - (i : Int)))
    ⟨w12, [], _, none, none, rfl, rfl, by simp, by omega, by simp⟩ (fun _ _ _ _ => trivial) (by
      rintro i d ρ S' hd ⟨w, ds, left, x5, x6, rfl, hlen, hfig, hl0, hl⟩
      have hi : i < (1 + d1).toNat := by
        have := (List.getElem?_eq_some_iff.mp hd).1
        simpa [rangeD] using this
      have hcap : 1 ≤ (if c < left then c else left) + 1 := by split <;> omega
      obtain ⟨more, S3, e3, h30, h31, w3⟩ := draw_ev (n := (if c < left then c else left) + 1) w.1 hcap (by split <;> omega)
      have hm9 : more ≤ 8 := by
        have : more < (if c < left then c else left) + 1 := h31
        split at this <;> omega
      have hml : more ≤ left := by
        have : more < (if c < left then c else left) + 1 := h31
        split at this <;> omega
      have hs : strD [.int (1 + more)] S3 = .ok (.str (numS [(1 + more).toNat])) S3 := by
        have hsI := strI_fig (d := (1 + more).toNat) (by omega) (by omega)
        rw [show (((1 + more).toNat : Nat) : Int) = 1 + more by omega] at hsI
        rw [strD_int (log_small (by omega)), hsI]
      have ha : addD (.str (numS ds)) (.str (numS [(1 + more).toNat])) S3 = .ok (.str (numS (ds ++ [(1 + more).toNat]))) S3 := by
        rw [addD_str (by simp [sizeL]; omega), numS_app]
      refine ⟨_, rfl, [some (.ref b), some (.int (1 + d1)), some (.int d2), some (.int (left - more)), some (.str (numS (ds ++ [(1 + more).toNat]))), some d, some (.int more)], S3, ?_, w.trans w3, ds ++ [(1 + more).toNat], left - more, _, _, rfl, by simp [hlen], ?_, by omega, ?_⟩
      · subst hB
        simp [hc, e3, hs, ha, sizeL]
      · intro x hx
        rcases List.mem_append.mp hx with hx | hx
        · exact hfig x hx
        · simp at hx
          omega
      · simp
        omega)
  obtain ⟨ρ', S', e, w, ds, left, x5, x6, rfl, hlen, hfig, hl0, hl⟩ := loop
  have e' : numS [] = Str.ofString "" := by decide +kernel
  have hlen' : ds.length = (1 + d1).toNat := by simpa [rangeD] using hlen
  refine ⟨ds, S', ?_, ⟨by omega, by omega, hfig, ?_⟩, w⟩
  · rw [e]
    simp
  · have : (rangeD 0 (1 + d1).toNat).length = (1 + d1).toNat := by simp [rangeD]
    rw [this] at hl
    omega
end CW

namespace CW
open PySem PySem.Spec PyProof.Rows L2 MM
theorem range_get {lo : Int} {n i : Nat} {d : D} (h : (rangeD lo n)[i]? = some d) : i < n ∧ d = .int (lo + (i : Int)) := by
  unfold rangeD at h
  rw [List.getElem?_map] at h
  obtain ⟨j, hj, rfl⟩ := Option.map_eq_some_iff.mp h
  have hi : i < n := by
    have := (List.getElem?_eq_some_iff.mp hj).1
    simpa using this
  have hji : j = i := by simpa [List.getElem?_range hi] using hj.symm
  subst hji
  exact ⟨hi, rfl⟩
end CW

namespace CW
open PySem PySem.Spec PyProof.Rows L2 MM
theorem manyN_bd {a b : Int} {n : Nat} (h : a ≤ b) (h0 : 0 ≤ a) : a ≤ manyN a b n ∧ manyN a b n ≤ b := by
  unfold manyN
  split <;> split at * <;> omega
def nD (l : List (List Nat)) : List D := l.map fun ds => .str (numS ds)
@[simp] theorem nD_length (l : List (List Nat)) : (nD l).length = l.length := by simp [nD]
theorem law_whole_ev {x : D} {S : Sto} (h : okT S x) : sp_law_whole [x] S = .ok (.bl (match x with | .int _ => true | _ => false)) S := is_whole_ev h
theorem cut_to {l : List D} {n : Nat} : MM.cutD l none (some (n : Int)) = l.take n := by
  unfold MM.cutD
  rw [HT.sIx_none, HT.sIx_nat, List.drop_zero, Nat.sub_zero]
  exact (List.take_eq_take_min).symm
def Uni (z : Str) : Prop := ∀ c ∈ z.cps.toList, c < 1114112
theorem Uni.ok {z : Str} (h : Uni z) : PyData.strOk z = true := by
  unfold PyData.strOk
  rw [Array.all_eq_true']
  intro c hc
  have := h c (Array.mem_toList_iff.mpr hc)
  simpa using this
theorem toPl_strs : ∀ F : List D, (∀ d ∈ F, ∃ z, d = .str z ∧ PyData.strOk z = true) → ∃ ps, toPl F = some ps ∧ ps.length = F.length ∧ PyData.depthAll ps = 0
  | [], _ => ⟨[], by simp [toPl], rfl, by simp [PyData.depthAll]⟩
  | d :: F, h => by
    obtain ⟨z, rfl, hz⟩ := h d List.mem_cons_self
    obtain ⟨ps, e1, e2, e3⟩ := toPl_strs F fun d hd => h d (List.mem_cons_of_mem _ hd)
    exact ⟨.str z :: ps, by simp [toPl, toP, hz, e1], by simp [e2], by simp [PyData.depthAll, PyData.depth, e3]⟩
structure Fine (n : Nat) (z : Str) : Prop where
  len : z.length ≤ n
  uni : Uni z
theorem len_list (z : Str) : z.length = z.cps.toList.length := by simp [Str.length]
theorem app_list (x y : Str) : (x ++ y).cps.toList = x.cps.toList ++ y.cps.toList := TL.tl_append _ _
theorem app_len (x y : Str) : (x ++ y).length = x.length + y.length := by rw [len_list, len_list, len_list, app_list, List.length_append]
theorem Fine.app {a b : Nat} {x y : Str} (hx : Fine a x) (hy : Fine b y) : Fine (a + b) (x ++ y) := ⟨by rw [app_len]; have := hx.len; have := hy.len; omega, fun c hc => by
  rw [app_list] at hc
  rcases List.mem_append.mp hc with hc | hc
  · exact hx.uni c hc
  · exact hy.uni c hc⟩
theorem Fine.mono {a b : Nat} {x : Str} (h : Fine a x) (hab : a ≤ b) : Fine b x := ⟨Nat.le_trans h.len hab, h.uni⟩
theorem cut_list (z : Str) (lo hi : Option Int) : (cutS z lo hi).cps.toList = (z.cps.toList.drop (HT.sIx z.length 0 lo)).take (HT.sIx z.length z.length hi - HT.sIx z.length 0 lo) := by simp [cutS]
theorem Fine.cut {a : Nat} {x : Str} (h : Fine a x) (lo hi : Option Int) : Fine a (cutS x lo hi) := ⟨by
  rw [len_list, cut_list]
  have := h.len
  rw [len_list] at this
  exact Nat.le_trans (List.length_take_le' _ _) (Nat.le_trans (by rw [List.length_drop]; omega) this), fun c hc => by
  rw [cut_list] at hc
  exact h.uni c (List.mem_of_mem_drop (List.mem_of_mem_take hc))⟩
theorem fine_num {ds : List Nat} (h : ∀ d ∈ ds, 1 ≤ d ∧ d ≤ 9) : Fine ds.length (numS ds) := ⟨by rw [len_list, numS_cps, List.length_map]; exact Nat.le_refl _, fun c hc => by
  rw [numS_cps] at hc
  obtain ⟨d, hd, rfl⟩ := List.mem_map.mp hc
  have := h d hd
  omega⟩
theorem sl_str {z : Str} {lo hi : Option Int} {S : Sto} (h : z.length ≤ 1000) : slD (.str z) lo hi S = .ok (.str (cutS z lo hi)) S := by
  unfold slD
  exact if_pos (by rw [sizeL]; omega)
theorem add_str {x y : Str} {S : Sto} (h : x.length + y.length ≤ 1000000) : addD (.str x) (.str y) S = .ok (.str (x ++ y)) S := by
  unfold addD
  exact if_pos (by rw [sizeL]; omega)
theorem lc_run {g : Sto → Prop} {tg : MG} {m : ME} {ρ : Fr} (Inv : Nat → List D → Sto → Prop) (hg : ∀ i l S, Inv i l S → g S) : ∀ {items : List D} {k : Nat} {acc : List D} {S : Sto},
    (∀ (i : Nat) d l S, items[i]? = some d → Inv (k + i) l S → ∃ ρ1 x S', tg d ρ = some ρ1 ∧ m ρ1 S = .ok x S' ∧ Inv (k + i + 1) (l ++ [x]) S') → Inv k acc S →
    ∃ out S', lcD g tg tYs m ρ items S = .ok out S' ∧ Inv (k + items.length) (acc ++ out) S'
  | [], k, acc, S, _, h0 => ⟨[], S, by unfold lcD; rw [if_pos (hg _ _ _ h0)], by simpa using h0⟩
  | d :: ds, k, acc, S, hs, h0 => by
    obtain ⟨ρ1, x, S1, e1, e2, h1⟩ := hs 0 d acc S rfl h0
    obtain ⟨out, S', e3, h3⟩ := lc_run Inv hg (items := ds) (k := k + 1) (acc := acc ++ [x]) (S := S1) (fun i d l S hd hI => by
      have := hs (i + 1) d l S (by simpa using hd) (by rw [show k + (i + 1) = k + 1 + i by omega]; exact hI)
      rw [show k + (i + 1) + 1 = k + 1 + i + 1 by omega] at this
      exact this) h1
    refine ⟨x :: out, S', ?_, ?_⟩
    · unfold lcD
      rw [if_pos (hg _ _ _ h0)]
      simp [e1, e2, e3]
    · rw [List.length_cons, show k + (ds.length + 1) = k + 1 + ds.length by omega]
      simpa using h3
theorem join_fine : ∀ {out : List D} {k : Nat}, (∀ d ∈ out, ∃ z, d = .str z ∧ Fine k z) → ∃ ys : List Str, out = ys.map .str ∧ ∀ z ∈ ys, Fine k z
  | [], _, _ => ⟨[], rfl, by simp⟩
  | d :: out, k, h => by
    obtain ⟨z, rfl, hz⟩ := h d List.mem_cons_self
    obtain ⟨ys, rfl, hy⟩ := join_fine fun d hd => h d (List.mem_cons_of_mem _ hd)
    exact ⟨z :: ys, rfl, by
      intro y hy'
      rcases List.mem_cons.mp hy' with rfl | h'
      · exact hz
      · exact hy y h'⟩
theorem sum_fine : ∀ {ys : List Str} {k : Nat}, (∀ z ∈ ys, Fine k z) → (ys.map (·.length)).sum ≤ k * ys.length
  | [], _, _ => by simp
  | y :: ys, k, h => by
    have h1 := (h y List.mem_cons_self).len
    have h2 := sum_fine fun z hz => h z (List.mem_cons_of_mem _ hz)
    simp [Nat.mul_add]
    omega
theorem flatU_len : ∀ {ys : List Str}, ((ys.map fun x => x.cps.toList).flatten).length = (ys.map (·.length)).sum
  | [] => rfl
  | y :: ys => by
    simp only [List.map_cons, List.flatten_cons, List.length_append, List.sum_cons, flatU_len (ys := ys), len_list]
theorem join_ev {out : List D} {k n : Nat} {S : Sto} (h : ∀ d ∈ out, ∃ z, d = .str z ∧ Fine k z) (hn : out.length ≤ n) (hk : k * n ≤ 100000) : ∃ z, joinD (.str (Str.ofString "")) out S = .ok (.str z) S ∧ Fine (k * n) z := by
  obtain ⟨ys, rfl, hy⟩ := join_fine h
  rw [List.length_map] at hn
  have hs := sum_fine hy
  have hkn : k * ys.length ≤ k * n := Nat.mul_le_mul_left k hn
  refine ⟨Txt.join (Str.ofString "") ys, ?_, ?_, ?_⟩
  · unfold joinD
    have e0 : (Str.ofString "").length = 0 := by decide +kernel
    have := txts_map (fun z : Str => z) ys
    simp only [List.map_id'] at this
    simp only [this, e0]
    rw [if_pos (by omega)]
  · rw [len_list, join_empty, flatU_len]
    omega
  · intro c hc
    rw [join_empty] at hc
    obtain ⟨l, hl, hc⟩ := List.mem_flatten.mp hc
    obtain ⟨z, hz, rfl⟩ := List.mem_map.mp hl
    exact (hy z hz).uni c hc
theorem atI_mem {l : List D} {i : Int} (h0 : 0 ≤ i) (h1 : i < l.length) : ∃ x, x ∈ l ∧ atI l i = some x := by
  have hi : i.toNat < l.length := by omega
  exact ⟨l[i.toNat], List.getElem_mem hi, atI_of (j := i.toNat) (by omega) (List.getElem?_eq_getElem hi)⟩
def Ran (Shape : Fr → Prop) (r : RS) : Prop := ∃ ρ' S', r = .nx ρ' S' ∧ Shape ρ'
theorem cells_range {M : Nat} {b : MS} {v : Nat} {ρ : Fr} {S : Sto} (tail : MS) (Shape : Fr → Prop) (h0 : Shape ρ)
    (hs : ∀ (i : Nat) ρ S', i < M → Shape ρ → Ran Shape (b (ρ.set v (some (.int (i : Int)))) S'))
    (ht : ∀ ρ S, Shape ρ → ∃ S', (tail ρ S).end = .ok (.bl true) S') : ∃ S', ((forD noG (tN v) b (rangeD 0 M) ρ S).then tail).end = .ok (.bl true) S' := by
  have L := for_run (g := noG) (tg := tN v) (b := b) (items := rangeD 0 M) (ρ := ρ) (S := S)
    (fun _ ρ S' => Shape ρ) h0 (fun _ _ _ h => trivial) (by
      rintro i d ρ S' hd hsh
      obtain ⟨hi, rfl⟩ := range_get hd
      obtain ⟨ρ', S'', e, h1⟩ := hs i ρ S' hi hsh
      refine ⟨_, rfl, ρ', S'', ?_, h1⟩
      rw [Int.zero_add]
      exact e)
  obtain ⟨ρ', S', e, h1⟩ := L
  rw [e]
  exact ht ρ' S' h1
theorem Fine.okT {n : Nat} {z : Str} {S : Sto} (h : Fine n z) (hn : n ≤ 1000000) : okT S (.str z) := by
  show Str.length _ ≤ sizeLine
  rw [sizeL]
  have := h.len
  omega
end CW

namespace CW
open PySem PySem.Spec PyProof.Rows L2 MM
def Bag2 (S : Sto) (b : Nat) : Prop := ∃ a m : Int, S[b]? = some (.lst false [.int a, .int m]) ∧ 0 ≤ a ∧ 0 ≤ m ∧ m ≤ 2147483647
def Took (b : Nat) (S S' : Sto) : Prop := Bag2 S' b ∧ ∃ l, S' = S.set b (.lst false l)
def Grown (b : Nat) (S S' : Sto) : Prop := Bag2 S' b ∧ S.length ≤ S'.length ∧ ∀ n, n < S.length → n ≠ b → S'[n]? = S[n]?
theorem Bag2.lt {S : Sto} {b : Nat} (h : Bag2 S b) : b < S.length := by
  obtain ⟨a, m, h, _⟩ := h
  exact (List.getElem?_eq_some_iff.mp h).1
theorem Took.trans {b : Nat} {S S1 S2 : Sto} (h : Took b S S1) (g : Took b S1 S2) : Took b S S2 := by
  obtain ⟨_, l, rfl⟩ := h
  obtain ⟨g, m, rfl⟩ := g
  exact ⟨g, m, by rw [List.set_set]⟩
theorem Took.refl {b : Nat} {S : Sto} (h : Bag2 S b) : Took b S S := by
  refine ⟨h, ?_⟩
  obtain ⟨a, m, e, _⟩ := h
  obtain ⟨hl, e⟩ := List.getElem?_eq_some_iff.mp e
  exact ⟨[.int a, .int m], by rw [← e]; simp⟩
theorem Took.get {b n : Nat} {S S' : Sto} (h : Took b S S') (hn : n ≠ b) : S'[n]? = S[n]? := by
  obtain ⟨_, l, rfl⟩ := h
  rw [List.getElem?_set_ne (Ne.symm hn)]
theorem Took.len {b : Nat} {S S' : Sto} (h : Took b S S') : S'.length = S.length := by
  obtain ⟨_, l, rfl⟩ := h
  simp
theorem Grown.refl {b : Nat} {S : Sto} (h : Bag2 S b) : Grown b S S := ⟨h, Nat.le_refl _, fun _ _ _ => rfl⟩
theorem Grown.trans {b : Nat} {S S1 S2 : Sto} (h : Grown b S S1) (g : Grown b S1 S2) : Grown b S S2 := ⟨g.1, Nat.le_trans h.2.1 g.2.1, fun n hn hb => by rw [g.2.2 n (by have := h.2.1; omega) hb, h.2.2 n hn hb]⟩
theorem Bag2.app {b : Nat} {S : Sto} (h : Bag2 S b) (T : Sto) : Bag2 (S ++ T) b := by
  have := h.lt
  obtain ⟨a, m, e, r⟩ := h
  exact ⟨a, m, by rw [List.getElem?_append_left this, e], r⟩
theorem Grown.app {b : Nat} {S S' : Sto} (h : Grown b S S') (T : Sto) : Grown b S (S' ++ T) := ⟨h.1.app T, by have := h.2.1; simp; omega, fun n hn hb => by rw [List.getElem?_append_left (by have := h.2.1; omega), h.2.2 n hn hb]⟩
section
variable {b : Nat} {S : Sto} {n : Int}
end
end CW

namespace CW
open PySem PySem.Spec PyProof.Rows L2 MM
end CW

namespace CW
open PySem PySem.Spec PyProof.Rows L2 MM
theorem Took.split {b : Nat} {S T S2 : Sto} (h : Took b (S ++ T) S2) (hb : b < S.length) : ∃ S1, S2 = S1 ++ T ∧ Took b S S1 ∧ Bag2 S1 b := by
  obtain ⟨⟨a, m, g, r⟩, l, rfl⟩ := h
  rw [List.set_append_left _ _ hb] at g ⊢
  rw [List.getElem?_append_left (by simpa using hb)] at g
  exact ⟨_, rfl, ⟨⟨a, m, g, r⟩, l, rfl⟩, ⟨a, m, g, r⟩⟩
theorem Took.lt {b : Nat} {S S' : Sto} (h : Took b S S') : b < S.length := by
  have := h.1.lt
  rw [h.len] at this
  exact this
theorem Took.kept {b : Nat} {S S' : Sto} (h : Took b S S') : Kept S S' := by
  have hlt := h.lt
  obtain ⟨⟨a, m, g, r⟩, l, rfl⟩ := h
  rw [List.getElem?_set_self hlt] at g
  cases g
  exact Kept.set (by simp)
theorem flat_nD {l : List (List Nat)} : (nD l).all flatD = true := by
  rw [List.all_eq_true]
  intro d hd
  obtain ⟨e, _, rfl⟩ := List.mem_map.mp hd
  rfl
theorem bdL_nD {n : Nat} {l : List (List Nat)} : bdL n (nD l) := by
  rw [bdL_iff]
  intro d hd
  obtain ⟨e, _, rfl⟩ := List.mem_map.mp hd
  simp
end CW

namespace CW
open PySem PySem.Spec PyProof.Rows L2 MM
end CW

namespace CW
open PySem PySem.Spec PyProof.Rows L2 MM
inductive Pc where
  | rnd (ds : List Nat) | odd (n : Nat) | spoilt (n : Nat) | begun (n : Nat) | quiet (n : Nat) | key (n : Nat)
def Pc.d : Pc → D
  | .rnd ds => .tup [.str (Str.ofString "round"), .str (numS ds)]
  | .odd n => .tup [.str (Str.ofString "odd"), .int n]
  | .spoilt n => .tup [.str (Str.ofString "spoilt"), .int n]
  | .begun n => .tup [.str (Str.ofString "begun"), .int n]
  | .quiet n => .tup [.str (Str.ofString "quiet"), .int n]
  | .key n => .tup [.str (Str.ofString "key"), .int n]
def Pc.ticks : Pc → Nat
  | .rnd ds => (rowN ds).length
  | .odd n => n
  | .spoilt n => n
  | .begun n => n
  | .quiet n => n
  | .key n => n
/-- like signs from here on -/
def runL (x : Int) : List Int → Nat
  | [] => 0
  | y :: r => if y = x then runL x r + 1 else 0
/-- a piece that begins with a break: how long, how many quiet ticks at its end -/
def brk : Nat → List Int → Nat × Nat
  | q, [] => (0, q)
  | q, x :: r => if x ≠ 2 ∧ q < 5 then ((brk (if x = 0 then q + 1 else 0) r).1 + 1, (brk (if x = 0 then q + 1 else 0) r).2) else (0, q)
open Classical in
noncomputable def numR (bits : List Int) : Option (List Nat) := if h : ∃ ds, GoodN ds ∧ bits = rowN ds then some (Classical.choose h) else none
/-- the first piece of a tape -/
noncomputable def piece1 (t : List Int) : Pc := match t with
  | [] => .quiet 0
  | x :: _ => if x = 1 then (if (brk 0 t).2 < 5 then (if (brk 0 t).1 < t.length then .spoilt (brk 0 t).1 else .begun (brk 0 t).1) else (match numR (t.take (brk 0 t).1) with | some ds => .rnd ds | none => .odd (brk 0 t).1))
    else if x = 2 then .key (runL x t) else .quiet (runL x t)
def len1 (t : List Int) : Nat := match t with
  | [] => 0
  | x :: _ => if x = 1 then (brk 0 t).1 else runL x t
noncomputable def ptF : Nat → List Int → List Pc
  | 0, _ => []
  | n + 1, t => match t with
    | [] => []
    | x :: r => piece1 (x :: r) :: ptF n ((x :: r).drop (len1 (x :: r)))
noncomputable def pt (t : List Int) : List Pc := ptF t.length t
@[simp] theorem pt_nil : pt [] = [] := rfl
def Pc.Ok (p : Pc) : Prop := ∀ ds, p = .rnd ds → GoodN ds
end CW

namespace CW
open PySem PySem.Spec PyProof.Rows L2 MM
mutual
def plD : Nat → D → Prop
  | _, .non => True
  | _, .bl _ => True
  | _, .int _ => True
  | _, .str x => PyData.strOk x = true
  | _, .ref _ => False
  | _, .scr _ => False
  | 0, .tup _ => False
  | 0, .pl _ => False
  | n + 1, .tup l => plL n l
  | n + 1, .pl l => plL n l
def plL : Nat → List D → Prop
  | _, [] => True
  | n, d :: ds => plD n d ∧ plL n ds
end
theorem plL_iff {n : Nat} : ∀ {l : List D}, plL n l ↔ ∀ d ∈ l, plD n d
  | [] => by unfold plL; simp
  | d :: r => by
    unfold plL
    rw [plL_iff]
    simp
mutual
theorem plD_toP : ∀ (n : Nat) (d : D), plD n d → ∃ p, toP d = some p ∧ p.depth ≤ n ∧ p.canLay0 = true
  | n, .non, h => ⟨_, by unfold toP; rfl, by simp [PyData.depth], by simp [PyData.canLay0]⟩
  | n, .bl _, h => ⟨_, by unfold toP; rfl, by simp [PyData.depth], by simp [PyData.canLay0]⟩
  | n, .int _, h => ⟨_, by unfold toP; rfl, by simp [PyData.depth], by simp [PyData.canLay0]⟩
  | n, .str x, h => by
    unfold plD at h
    exact ⟨_, by unfold toP; rw [if_pos h], by simp [PyData.depth], by simpa [PyData.canLay0] using h⟩
  | n, .ref _, h => by unfold plD at h; exact h.elim
  | n, .scr _, h => by unfold plD at h; exact h.elim
  | 0, .tup _, h => by unfold plD at h; exact h.elim
  | 0, .pl _, h => by unfold plD at h; exact h.elim
  | n + 1, .tup l, h => by
    unfold plD at h
    obtain ⟨ps, e, hd, hc⟩ := plL_toP n l h
    exact ⟨.tuple ps, by unfold toP; rw [e]; rfl, by simp [PyData.depth]; omega, by simpa [PyData.canLay0] using hc⟩
  | n + 1, .pl l, h => by
    unfold plD at h
    obtain ⟨ps, e, hd, hc⟩ := plL_toP n l h
    exact ⟨.list ps, by unfold toP; rw [e]; rfl, by simp [PyData.depth]; omega, by simpa [PyData.canLay0] using hc⟩
theorem plL_toP : ∀ (n : Nat) (l : List D), plL n l → ∃ ps, toPl l = some ps ∧ PyData.depthAll ps ≤ n ∧ PyData.canLayAll0 ps = true
  | n, [], h => ⟨[], by unfold toPl; rfl, by simp [PyData.depthAll], by simp [PyData.canLayAll0]⟩
  | n, d :: ds, h => by
    unfold plL at h
    obtain ⟨p, e1, d1, c1⟩ := plD_toP n d h.1
    obtain ⟨ps, e2, d2, c2⟩ := plL_toP n ds h.2
    exact ⟨p :: ps, by unfold toPl; rw [e1, e2], by simp [PyData.depthAll]; omega, by simp [PyData.canLayAll0, c1, c2]⟩
end
theorem view_pl {S : Sto} {d : D} (h : ∀ n, d ≠ .ref n) : view S d = toP d := by
  cases d <;> first | rfl | exact absurd rfl (h _)
/-- a thing is like itself -/
theorem eqB_same {S : Sto} {d : D} {n : Nat} (h : plD n d) (hn : n ≤ 64) : eqB S d d = some true := by
  obtain ⟨p, e, hd, hc⟩ := plD_toP n d h
  have hr := PySem.SeqAt.eqv_refl p hc
  unfold eqB
  split
  · cases d <;> first | (simp [sameD]; done) | (simp [scalD] at *; done)
  · rw [view_pl (fun k q => by rw [q] at h; unfold plD at h; exact h), e]
    simp only
    rw [if_pos ⟨by omega, by omega⟩, hr]
theorem ne_same {S : Sto} {d : D} {n : Nat} (h : plD n d) (hn : n ≤ 64) : neD d d S = .ok (.bl false) S := by
  unfold neD
  rw [eqB_same h hn]
  rfl
theorem strOk_num (ds : List Nat) (h : ∀ d ∈ ds, d ≤ 9) : PyData.strOk (numS ds) = true := Uni.ok fun c hc => by
  rw [numS_cps] at hc
  obtain ⟨d, hd, rfl⟩ := List.mem_map.mp hc
  have := h d hd
  omega
theorem GoodN.strOk {ds : List Nat} (h : GoodN ds) : PyData.strOk (numS ds) = true := strOk_num ds fun d hd => (h.fig d hd).2
end CW

namespace CW
open PySem PySem.Spec PyProof.Rows L2 MM
def qaft : Nat → List Int → Nat
  | q, [] => q
  | q, x :: r => qaft (if x = 0 then q + 1 else 0) r
def calm : Nat → List Int → Prop
  | _, [] => True
  | q, x :: r => x ≠ 2 ∧ q < 5 ∧ calm (if x = 0 then q + 1 else 0) r
instance (ds : List Nat) : Decidable (GoodN ds) := if h : 1 ≤ ds.length ∧ ds.length ≤ 4 ∧ (∀ d ∈ ds, 1 ≤ d ∧ d ≤ 9) ∧ ds.sum ≤ 24 then .isTrue ⟨h.1, h.2.1, h.2.2.1, h.2.2.2⟩ else .isFalse fun g => h ⟨g.pos, g.len, g.fig, g.sum⟩
inductive Sg : Pc → List Int → Prop
  | rnd {ds : List Nat} (h : GoodN ds) : Sg (.rnd ds) (rowN ds)
  | quiet {n : Nat} (h : 1 ≤ n) : Sg (.quiet n) (List.replicate n 0)
  | key {n : Nat} (h : 1 ≤ n) : Sg (.key n) (List.replicate n 2)
  | spoilt {ds : List Nat} {n : Nat} (h : GoodN ds) (h1 : 1 ≤ n) (hn : n < (rowN ds).length) : Sg (.spoilt n) ((rowN ds).take n)
  | begun {ds : List Nat} {n : Nat} (h : GoodN ds) (h1 : 1 ≤ n) (hn : n < (rowN ds).length) : Sg (.begun n) ((rowN ds).take n)
  | odd {s : List Int} (h : calm 0 s) (hq : qaft 0 s = 5) (h1 : ∃ r, s = 1 :: r) (hn : numR s = none) : Sg (.odd s.length) s
theorem Sg.ticks {p : Pc} {s : List Int} (h : Sg p s) : p.ticks = s.length := by
  cases h <;> simp [Pc.ticks] <;> omega
theorem Sg.ok {p : Pc} {s : List Int} (h : Sg p s) : p.Ok := by
  intro ds e
  cases h <;> cases e
  assumption
abbrev LP := Pc × List Int
end CW

namespace CW
open PySem PySem.Spec PyProof.Rows L2 MM
def Pc.w : Pc → Str
  | .rnd _ => Str.ofString "round"
  | .odd _ => Str.ofString "odd"
  | .spoilt _ => Str.ofString "spoilt"
  | .begun _ => Str.ofString "begun"
  | .quiet _ => Str.ofString "quiet"
  | .key _ => Str.ofString "key"
def Pc.h : Pc → D
  | .rnd ds => .str (numS ds)
  | .odd n => .int n
  | .spoilt n => .int n
  | .begun n => .int n
  | .quiet n => .int n
  | .key n => .int n
def lpD (x : LP) : D := .tup [.str x.1.w, x.1.h, .pl (iD x.2)]
instance calmDec : ∀ (q : Nat) (l : List Int), Decidable (calm q l)
  | _, [] => .isTrue trivial
  | q, x :: r => match calmDec (if x = 0 then q + 1 else 0) r with
    | .isTrue h => if h2 : x ≠ 2 ∧ q < 5 then .isTrue ⟨h2.1, h2.2, h⟩ else .isFalse fun g => h2 ⟨g.1, g.2.1⟩
    | .isFalse h => .isFalse fun g => h g.2.2
end CW

namespace CW
open PySem PySem.Spec PyProof.Rows L2 MM
theorem set_right {S T : Sto} {n : Nat} {o : O} (h : S.length ≤ n) : (S ++ T).set n o = S ++ T.set (n - S.length) o := List.set_append_right _ _ h
theorem get_right {S T : Sto} {n : Nat} (h : S.length ≤ n) : (S ++ T)[n]? = T[n - S.length]? := List.getElem?_append_right h
/-- the list of pieces stands at n, behind the first k objects -/
structure At (b : Nat) (S : Sto) (l : List LP) (n : Nat) (S' : Sto) : Prop where
  ex : ∃ S1 T, S' = S1 ++ T ∧ Took b S S1 ∧ T[n - S.length]? = some (.lst false (l.map lpD))
  le : S.length ≤ n
  bd : ∀ x ∈ l, x.2.length ≤ 100
theorem At.get {b : Nat} {S : Sto} {l : List LP} {n : Nat} {S' : Sto} (h : At b S l n S') : S'[n]? = some (.lst false (l.map lpD)) := by
  obtain ⟨⟨S1, T, rfl, w, e⟩, hl, hbd⟩ := h
  rw [get_right (by rw [w.len]; exact hl), w.len, e]
theorem At.bag {b : Nat} {S : Sto} {l : List LP} {n : Nat} {S' : Sto} (h : At b S l n S') : Bag2 S' b := by
  obtain ⟨⟨S1, T, rfl, w, e⟩, hl, hbd⟩ := h
  exact w.1.app _
theorem bd_app {l m : List LP} (h : ∀ x ∈ l, x.2.length ≤ 100) (g : ∀ x ∈ m, x.2.length ≤ 100) : ∀ x ∈ l ++ m, x.2.length ≤ 100 := fun x hx => (List.mem_append.mp hx).elim (h x) (g x)
theorem At.app {b : Nat} {S : Sto} {l m : List LP} {n : Nat} {S' : Sto} (h : At b S l n S') (hm : ∀ x ∈ m, x.2.length ≤ 100) : At b S (l ++ m) n (S'.set n (.lst false (l.map lpD ++ m.map lpD))) := by
  obtain ⟨⟨S1, T, rfl, w1, e⟩, hl, hbd⟩ := h
  refine ⟨⟨S1, T.set (n - S.length) (.lst false (l.map lpD ++ m.map lpD)), by rw [set_right (by rw [w1.len]; exact hl), w1.len], w1, ?_⟩, hl, bd_app hbd hm⟩
  rw [List.getElem?_set_self (List.getElem?_eq_some_iff.mp e).1]
  simp
theorem At.new {b : Nat} {S : Sto} {l m : List LP} {n : Nat} {S' : Sto} (h : At b S l n S') (hm : ∀ x ∈ m, x.2.length ≤ 100) : At b S (l ++ m) S'.length (S' ++ [.lst false (l.map lpD ++ m.map lpD)]) := by
  obtain ⟨⟨S1, T, rfl, w1, e⟩, hl, hbd⟩ := h
  have := w1.len
  refine ⟨⟨S1, T ++ [.lst false (l.map lpD ++ m.map lpD)], by simp, w1, ?_⟩, by simp; omega, bd_app hbd hm⟩
  rw [List.length_append, w1.len, Nat.add_sub_cancel_left, List.getElem?_append_right (Nat.le_refl _)]
  simp
end CW

namespace CW
open PySem PySem.Spec PyProof.Rows L2 MM
end CW

namespace CW
open PySem PySem.Spec PyProof.Rows L2 MM
/-- only the bag at b was changed; things were made -/
def Grew (b : Nat) (S S' : Sto) : Prop := BagAt S' b ∧ S.length ≤ S'.length ∧ ∀ n, n < S.length → n ≠ b → S'[n]? = S[n]?
theorem Drew.grew {b : Nat} {S S' : Sto} (h : Drew b S S') : Grew b S S' := ⟨h.1, by rw [h.len]; exact Nat.le_refl _, fun n _ hb => h.get hb⟩
theorem Grew.refl {b : Nat} {S : Sto} (h : BagAt S b) : Grew b S S := ⟨h, Nat.le_refl _, fun _ _ _ => rfl⟩
theorem Grew.trans {b : Nat} {S S1 S2 : Sto} (h : Grew b S S1) (g : Grew b S1 S2) : Grew b S S2 := ⟨g.1, Nat.le_trans h.2.1 g.2.1, fun n hn hb => by rw [g.2.2 n (by have := h.2.1; omega) hb, h.2.2 n hn hb]⟩
theorem BagAt.app {b : Nat} {S : Sto} (h : BagAt S b) (T : Sto) : BagAt (S ++ T) b := by
  have := h.lt
  obtain ⟨a, m, k, e, r⟩ := h
  exact ⟨a, m, k, by rw [List.getElem?_append_left this, e], r⟩
theorem Grew.app {b : Nat} {S S' : Sto} (h : Grew b S S') (T : Sto) : Grew b S (S' ++ T) := ⟨h.1.app T, by have := h.2.1; simp; omega, fun n hn hb => by rw [List.getElem?_append_left (by have := h.2.1; omega), h.2.2 n hn hb]⟩
theorem draw_of {b : Nat} {S : Sto} {n : Int} {r : R D} (hr : sp_law_draw [.ref b, .int n] S = r) (hb : BagAt S b) (h1 : 1 ≤ n) (h2 : n < 2 ^ 120) : ∃ d S', r = .ok (.int d) S' ∧ 0 ≤ d ∧ d < n ∧ Drew b S S' ∧ BagAt S' b := by
  obtain ⟨d, S', e, h0, h1, w⟩ := draw_ev hb h1 h2
  exact ⟨d, S', hr ▸ e, h0, h1, w, w.1⟩
theorem figures_of {b : Nat} {S : Sto} {r : R D} (hr : sp_law_figures [.ref b] S = r) (hb : BagAt S b) : ∃ ds S', r = .ok (.str (numS ds)) S' ∧ GoodN ds ∧ Drew b S S' ∧ BagAt S' b := by
  obtain ⟨ds, S', e, hg, w⟩ := figures_ev hb
  exact ⟨ds, S', hr ▸ e, hg, w, w.1⟩
end CW

namespace CW
open PySem PySem.Spec PyProof.Rows L2 MM
end CW

namespace CW
open PySem PySem.Spec PyProof.Rows L2 MM
end CW

namespace CW
open PySem PySem.Spec PyProof.Rows L2 MM
end CW

namespace CW
open PySem PySem.Spec PyProof.Rows L2 MM
/-- _law_odd(_law_bag_here); slots 0 _law_bag_here, 1 _law_signs, 2 _law_some, 3 _law_at, 4 _law_turn -/
noncomputable def m_law_odd : MS :=
  sSeq (sSet 1 (eC (.str " !#$&()*+-./0123456789:;<=>?@AMZ[]^_azx{|}~")))
  (sSeq (sSet 2 (ePl (lNew (aCons (eC .non) (aCons (eC (.bl true)) (aCons (eC (.bl false)) (aCons (eC (.int 0)) (aCons (eC (.int 1)) (aCons (eUn negD (eC (.int 1))) (aCons (eCall sp_law_draw (aCons (eVar 0) (aCons (eBin powD (eC (.int 10)) (eC (.int 30))) (aNil)))) (aCons (eC (.str "")) (aCons (eTup (aNil)) (aCons (ePl (lNew (aCons (eC (.str "1")) (aNil)))) (aCons (eTup (aCons (eC (.str "1")) (aNil))) (aCons (eC (.str "0")) (aCons (eC (.str "10")) (aCons (eC (.str "25")) (aCons (eC (.str "12345")) (aCons (eC (.str "99")) (aCons (eC (.str "997")) (aCons (eC (.str "9996")) (aCons (eTup (aCons (eC (.int 1)) (aCons (eC (.int 0)) (aCons (eC (.int 0)) (aCons (eC (.int 0)) (aCons (eC (.int 0)) (aCons (eC (.int 0)) (aNil)))))))) (aCons (ePl (lNew (aCons (eC (.int 1)) (aCons (eC (.int 0)) (aCons (eC (.int 0)) (aCons (eC (.int 0)) (aCons (eC (.int 0)) (aCons (eC (.int 0)) (aNil))))))))) (aCons (eTup (aCons (eC (.bl true)) (aCons (eC (.int 0)) (aCons (eC (.int 0)) (aCons (eC (.int 0)) (aCons (eC (.int 0)) (aCons (eC (.int 0)) (aNil)))))))) (aCons (eC (.str "1 ")) (aCons (eC (.str "-1")) (aNil)))))))))))))))))))))))))))
  (sSeq (sSet 3 (eCall sp_law_draw (aCons (eVar 0) (aCons (eBin addD (eCall lenD (aCons (eVar 2) (aNil))) (eC (.int 9))) (aNil)))))
  (sSeq (sIf (tV (eBin ltD (eVar 3) (eCall lenD (aCons (eVar 2) (aNil))))) (sRet (eBin ixD (eVar 2) (eVar 3))) (sPass))
  (sRet (eMeth isStrD joinD (eC (.str "")) (lComp (iR1 (aCons (eCall sp_law_draw (aCons (eVar 0) (aCons (eC (.int 6)) (aNil)))) (aNil))) [4] (tN 4) tYs (eBin ixD (eVar 1) (eCall sp_law_draw (aCons (eVar 0) (aCons (eCall lenD (aCons (eVar 1) (aNil))) (aNil)))))))))))
noncomputable def sp_law_odd : FL := body 5 m_law_odd
theorem lc_draws {n : Nat} {tg : MG} {m : ME} {ρ : Fr} {b : Nat} (P : D → Prop) {S : Sto} (hb : BagAt S b) (htg : ∀ d, ∃ ρ1, tg d ρ = some ρ1 ∧ ∀ S', BagAt S' b → ∃ x S'', m ρ1 S' = .ok x S'' ∧ P x ∧ Drew b S' S'') :
    ∃ out S', lcD noG tg tYs m ρ (rangeD 0 n) S = .ok out S' ∧ out.length = n ∧ (∀ d ∈ out, P d) ∧ Drew b S S' := by
  obtain ⟨out, S', e, h1, h2, h3⟩ := lc_run (g := noG) (tg := tg) (m := m) (ρ := ρ) (fun i l S' => l.length = i ∧ (∀ d ∈ l, P d) ∧ Drew b S S') (fun _ _ _ _ => trivial) (items := rangeD 0 n) (k := 0) (acc := []) (S := S) (by
    rintro i d l S1 hd ⟨h1, h2, h3⟩
    obtain ⟨ρ1, e1, h⟩ := htg d
    obtain ⟨x, S2, e2, hp, w⟩ := h S1 h3.1
    refine ⟨ρ1, x, S2, e1, e2, by simp [h1], ?_, h3.trans w⟩
    intro y hy
    rcases List.mem_append.mp hy with hy | hy
    · exact h2 y hy
    · rw [List.mem_singleton.mp hy]; exact hp) ⟨rfl, by simp, Drew.refl hb⟩
  refine ⟨out, S', e, ?_, by simpa using h2, h3⟩
  have : (rangeD 0 n).length = n := by simp [rangeD]
  simp [this] at h1
  exact h1
theorem sign_at {z : Str} {i : Int} {S : Sto} {n : Nat} (hz : Fine n z) (hn : n ≤ 1000) (h0 : 0 ≤ i) (h1 : i < z.length) : ∃ y, ixD (.str z) (.int i) S = .ok (.str y) S ∧ Fine 1 y := by
  have hl := hz.len
  have hi : i.toNat < z.cps.toList.length := by rw [← len_list]; omega
  refine ⟨⟨#[z.cps.toList[i.toNat]]⟩, ?_, ⟨by simp [Str.length], ?_⟩⟩
  · unfold ixD
    have := atI_of (xs := z.cps.toList) (i := i) (j := i.toNat) (by omega) (List.getElem?_eq_getElem hi)
    dsimp only
    rw [if_pos (by rw [sizeL]; omega), this]
  · intro c hc
    simp at hc
    subst hc
    exact hz.uni _ (by simp)
def signsK : Str := Str.ofString " !#$&()*+-./0123456789:;<=>?@AMZ[]^_azx{|}~"
theorem signsK_fine : Fine 43 signsK := ⟨by decide +kernel, by unfold Uni signsK; decide +kernel⟩
theorem signsK_len : signsK.length = 43 := by decide +kernel
theorem odd_ev2 {b : Nat} {S : Sto} (hb : BagAt S b) : ∃ x S', sp_law_odd [.ref b] S = .ok x S' ∧ Drew b S S' ∧ okT S' x ∧ (∀ z, x = .str z → Fine 10 z) ∧ ∀ l, x = .tup l → l.length ≤ 10 ∧ ∀ d ∈ l, okT S' d := by
  unfold sp_law_odd m_law_odd
  rw [show (Str.ofString " !#$&()*+-./0123456789:;<=>?@AMZ[]^_azx{|}~") = signsK from rfl]
  have p30 : ∀ S, powD (.int 10) (.int 30) S = .ok (.int 1000000000000000000000000000000) S := fun S => rfl
  simp [p30, sizeL]
  generalize hr_ : sp_law_draw [D.ref _, D.int _] _ = r_
  obtain ⟨big, S1, hq_, a1, b1, w1, hb1⟩ := draw_of hr_ (by assumption) (by omega) (by omega)
  clear hr_
  subst hq_
  simp [sizeL]
  generalize hL : [D.non, D.bl true, D.bl false, D.int 0, D.int 1, D.int (-1), D.int big, D.str (Str.ofString ""), D.tup [], D.pl [D.str (Str.ofString "1")], D.tup [D.str (Str.ofString "1")], D.str (Str.ofString "0"), D.str (Str.ofString "10"), D.str (Str.ofString "25"), D.str (Str.ofString "12345"), D.str (Str.ofString "99"), D.str (Str.ofString "997"), D.str (Str.ofString "9996"), D.tup [D.int 1, D.int 0, D.int 0, D.int 0, D.int 0, D.int 0], D.pl [D.int 1, D.int 0, D.int 0, D.int 0, D.int 0, D.int 0], D.tup [D.bl true, D.int 0, D.int 0, D.int 0, D.int 0, D.int 0], D.str (Str.ofString "1 "), D.str (Str.ofString "-1")] = L
  have hLl : L.length = 23 := by rw [← hL]; rfl
  generalize hr_ : sp_law_draw [D.ref _, D.int _] _ = r_
  obtain ⟨at_, S3, hq_, a3, b3, w3, hb3⟩ := draw_of hr_ (by assumption) (by omega) (by omega)
  clear hr_
  subst hq_
  by_cases h : at_ < 23
  · obtain ⟨x, hx, e⟩ := atI_mem (l := L) a3 (by rw [hLl]; exact h)
    refine ⟨x, S3, by simp [hLl, h, e], w1.trans w3, ?_, ?_, ?_⟩
    · rw [← hL] at hx
      simp only [List.mem_cons, List.not_mem_nil, or_false] at hx
      rcases hx with rfl | rfl | rfl | rfl | rfl | rfl | rfl | rfl | rfl | rfl | rfl | rfl | rfl | rfl | rfl | rfl | rfl | rfl | rfl | rfl | rfl | rfl | rfl
      all_goals first | trivial | (show Str.length _ ≤ sizeLine; rw [sizeL]; decide +kernel) | simp [okT]
    · intro z hz
      subst hz
      rw [← hL] at hx
      simp only [List.mem_cons, List.not_mem_nil, or_false, reduceCtorEq, false_or, D.str.injEq] at hx
      rcases hx with rfl | rfl | rfl | rfl | rfl | rfl | rfl | rfl | rfl | rfl
      all_goals exact ⟨by decide +kernel, by unfold Uni; decide +kernel⟩
    · intro l hz
      subst hz
      rw [← hL] at hx
      simp only [List.mem_cons, List.not_mem_nil, or_false, reduceCtorEq, false_or, D.tup.injEq] at hx
      have one : okT S3 (.str (Str.ofString "1")) := by
        show Str.length _ ≤ sizeLine
        rw [sizeL]
        decide +kernel
      rcases hx with rfl | rfl | rfl | rfl
      · simp
      · simp [one]
      · simp [okT]
      · simp [okT]
  · simp [hLl, h]
    generalize hr_ : sp_law_draw [D.ref _, D.int _] _ = r_
    obtain ⟨m, S4, hq_, a4, b4, w4, hb4⟩ := draw_of hr_ (by assumption) (by omega) (by omega)
    clear hr_
    subst hq_
    have hl43 : ∀ S, lenD [.str signsK] S = .ok (.int 43) S := fun S => by rw [lenD_str (by rw [sizeL, signsK_len]; decide), signsK_len]; rfl
    obtain ⟨out, S5, e5, h51, h52, w5⟩ := lc_draws (n := m.toNat) (tg := tN 4) (m := (eBin ixD (eVar 1) (eCall sp_law_draw (aCons (eVar 0) (aCons (eCall lenD (aCons (eVar 1) aNil)) aNil))))) (ρ := [some (.ref b), some (.str signsK), some (.pl L), some (.int at_), none]) (b := b) (S := S4) (fun d => ∃ z, d = .str z ∧ Fine 1 z) hb4 (fun d => ⟨_, rfl, fun S' hb' => by
      simp [hl43]
      generalize hr_ : sp_law_draw [D.ref _, D.int _] _ = r_
      obtain ⟨j, S6, hq_, a6, b6, w6, hb6⟩ := draw_of hr_ (by assumption) (by omega) (by omega)
      clear hr_
      subst hq_
      obtain ⟨y, e, hy⟩ := sign_at (S := S6) signsK_fine (by decide) a6 (by rw [signsK_len]; exact b6)
      exact ⟨_, _, by simp [e], ⟨y, rfl, hy⟩, w6⟩⟩)
    obtain ⟨z, e6, hz⟩ := join_ev (S := S5) (n := 10) h52 (by omega) (by decide)
    have hwd : Wd m := wd_of (by omega) (by omega)
    have hrl : (rangeD 0 m.toNat).length ≤ 16777216 := by simp [rangeD]; omega
    refine ⟨.str z, S5, by simp [hwd, e5, e6, hrl, sizeL], (w1.trans w3).trans (w4.trans w5), ?_, (fun y hy => by cases hy; exact hz), fun l hl => nomatch hl⟩
    show z.length ≤ sizeLine
    rw [sizeL]
    have := hz.len
    omega
theorem odd_ev {b : Nat} {S : Sto} (hb : BagAt S b) : ∃ x S', sp_law_odd [.ref b] S = .ok x S' ∧ Drew b S S' ∧ okT S' x ∧ ∀ z, x = .str z → Fine 10 z := by
  obtain ⟨x, S', h1, h2, h3, h4, _⟩ := odd_ev2 hb
  exact ⟨x, S', h1, h2, h3, h4⟩
end CW

namespace CW
open PySem PySem.Spec PyProof.Rows L2 MM
section
variable {ρ : Fr} {S : Sto} {a b o i e x : ME} {l : ML} {m n : MS} {k : Nat} {f : Str}
@[simp] theorem eDNew_ev : eDNew ρ S = .ok (.ref S.length) (S ++ [.dct false []]) := rfl
@[simp] theorem eDGet1_ev : eDGet1 o i ρ S = (o ρ S).bind fun d S1 => if isDR d S1 = true then (i ρ S1).bind fun k S2 => dgetOr d k .non S2 else .no := rfl
@[simp] theorem sSetA_ev : sSetA o i a ρ S = RS.of ρ (a ρ S) fun d S1 => RS.of ρ (o ρ S1) fun x S2 => RS.of ρ (i ρ S2) fun k S3 => match setAny x k d S3 with | some S4 => .nx ρ S4 | none => .no := rfl
@[simp] theorem then_ex {c : Nat} {q : Fr → Sto → RS} : (RS.ex c ρ S).then q = .ex c ρ S := rfl
end
theorem isDR_ev {S : Sto} {n : Nat} {fz : Bool} {l : List (Key × D)} (h : S[n]? = some (.dct fz l)) : isDR (.ref n) S = true := by simp [isDR, h]
theorem getOr_ev {S : Sto} {n : Nat} {fz : Bool} {l : List (Key × D)} {z : Str} {d : D} (h : S[n]? = some (.dct fz l)) : dgetOr (.ref n) (.str z) d S = .ok ((valD l (.inr z)).getD d) S := by simp [dgetOr, keyD, h]
theorem setA_ev {S : Sto} {n : Nat} {l : List (Key × D)} {z : Str} {v : D} (h : S[n]? = some (.dct false l)) (hl : l.length ≤ 100000) : setAny (.ref n) (.str z) v S = some (S.set n (.dct false (putD l (.inr z) v))) := by
  have : l.length < sizeLine := by rw [sizeL]; omega
  simp [setAny, isDR_ev h, setKey, keyD, h, this]
theorem valD_nil (k : Key) : valD [] k = none := rfl
theorem valD_cons (k j : Key) (d : D) (l : List (Key × D)) : valD ((k, d) :: l) j = if k = j then some d else valD l j := by
  unfold valD
  rw [List.find?_cons]
  by_cases h : k = j <;> simp [h]
theorem valD_any (l : List (Key × D)) (k : Key) : (l.any fun kv => decide (kv.1 = k)) = (valD l k).isSome := by
  induction l with
  | nil => rfl
  | cons x l ih =>
    obtain ⟨j, d⟩ := x
    rw [List.any_cons, valD_cons, ih]
    by_cases h : j = k <;> simp [h]
theorem valD_put (l : List (Key × D)) (k j : Key) (v : D) : valD (putD l k v) j = if k = j then some v else valD l j := by
  unfold putD
  rw [valD_any]
  cases hv : valD l k with
  | none =>
    simp only [Option.isSome_none, Bool.false_eq_true, if_false]
    have : ∀ (l : List (Key × D)), valD l k = none → valD (l ++ [(k, v)]) j = if k = j then some v else valD l j := by
      intro l
      induction l with
      | nil => intro _; rw [List.nil_append, valD_cons]
      | cons x l ih =>
        obtain ⟨i, d⟩ := x
        intro h
        rw [valD_cons] at h
        by_cases hi : i = k
        · rw [if_pos hi] at h; cases h
        · rw [if_neg hi] at h
          rw [List.cons_append, valD_cons, ih h, valD_cons]
          by_cases hij : i = j
          · rw [if_pos hij, if_pos hij, if_neg (fun e => hi (hij.trans e.symm))]
          · rw [if_neg hij, if_neg hij]
    exact this l hv
  | some d0 =>
    simp only [Option.isSome_some, if_true]
    have : ∀ (l : List (Key × D)) d0, valD l k = some d0 → valD (l.map fun kv => if kv.1 = k then (kv.1, v) else kv) j = if k = j then some v else valD l j := by
      intro l
      induction l with
      | nil => intro d0 h; cases h
      | cons x l ih =>
        obtain ⟨i, d⟩ := x
        intro d0 h
        rw [List.map_cons, valD_cons i j]
        by_cases hi : i = k
        · subst hi
          simp only [if_true]
          rw [valD_cons]
          by_cases hij : i = j
          · rw [if_pos hij, if_pos hij]
          · rw [if_neg hij, if_neg hij, if_neg hij]
            have : ∀ (l : List (Key × D)), valD (l.map fun kv => if kv.1 = i then (kv.1, v) else kv) j = valD l j := by
              intro l
              induction l with
              | nil => rfl
              | cons y l ih2 =>
                obtain ⟨i2, d2⟩ := y
                rw [List.map_cons, valD_cons i2 j]
                by_cases h2 : i2 = i
                · simp only [h2, if_true]
                  rw [valD_cons, if_neg hij, if_neg hij, ih2]
                · simp only [h2, if_false]
                  rw [valD_cons, ih2]
            exact this l
        · simp only [hi, if_false]
          rw [valD_cons] at h
          rw [if_neg hi] at h
          rw [valD_cons, ih d0 h]
          by_cases hij : i = j
          · rw [if_pos hij, if_pos hij, if_neg (fun e => hi (hij.trans e.symm))]
          · rw [if_neg hij, if_neg hij]
    exact this l d0 hv
theorem putD_len (l : List (Key × D)) (k : Key) (v : D) : (putD l k v).length ≤ l.length + 1 := by unfold putD; split <;> simp
theorem lcOf {α : Type} {g : Sto → Prop} {tg : MG} {m : ME} {ρ : Fr} {S : Sto} (r f : α → D) (hg : g S) : ∀ {l : List α}, (∀ x ∈ l, ∃ ρ1, tg (r x) ρ = some ρ1 ∧ m ρ1 S = .ok (f x) S) → lcD g tg tYs m ρ (l.map r) S = .ok (l.map f) S
  | [], _ => by rw [List.map_nil]; unfold lcD; rw [if_pos hg]; rfl
  | d :: ds, h => by
    rw [List.map_cons]
    unfold lcD
    rw [if_pos hg]
    obtain ⟨ρ1, e1, e2⟩ := h d List.mem_cons_self
    rw [e1]
    simp [e2, lcOf r f hg (l := ds) fun d hd => h d (List.mem_cons_of_mem _ hd)]
/-- a dict that counts texts -/
structure Cnt (l : List (Key × D)) (f : Str → Int) (b : Nat) : Prop where
  get : ∀ z, (valD l (.inr z)).getD (.int 0) = .int (f z)
  len : l.length ≤ b
def setN (f : Str → Int) (z : Str) (v : Int) : Str → Int := fun y => if y = z then v else f y
@[simp] theorem setN_same (f : Str → Int) (z : Str) (v : Int) : setN f z v z = v := if_pos rfl
theorem Cnt.nil {b : Nat} : Cnt [] (fun _ => 0) b := ⟨fun _ => rfl, Nat.zero_le _⟩
theorem Cnt.put {l : List (Key × D)} {f : Str → Int} {b : Nat} (h : Cnt l f b) (z : Str) (v : Int) : Cnt (putD l (.inr z) (.int v)) (setN f z v) (b + 1) := by
  refine ⟨fun y => ?_, Nat.le_trans (putD_len _ _ _) (by have := h.len; omega)⟩
  rw [valD_put]
  unfold setN
  by_cases hy : y = z
  · subst hy; simp
  · have : ¬ (Sum.inr z : Key) = Sum.inr y := fun e => hy (by cases e; rfl)
    rw [if_neg this, if_neg hy]
    exact h.get y
end CW

namespace CW
open PySem PySem.Spec PyProof.Rows L2 MM
theorem sz {n : Nat} (h : n ≤ 1000) : (n ≤ sizeLine) = True := eq_true (by rw [sizeL]; omega)
/-- more pigeons than holes -/
theorem pigeon {α : Type} [DecidableEq α] : ∀ {A l : List α}, A.Nodup → (∀ x ∈ A, x ∈ l) → A.length ≤ l.length
  | [], _, _, _ => Nat.zero_le _
  | a :: A, l, nd, h => by
    have ha := h a List.mem_cons_self
    have h2 := List.nodup_cons.mp nd
    have := pigeon (A := A) (l := l.erase a) h2.2 fun x hx => (List.mem_erase_of_ne (fun e : x = a => h2.1 (by rw [← e]; exact hx))).mpr (h x (List.mem_cons_of_mem _ hx))
    rw [List.length_erase_of_mem ha] at this
    have hp : 0 < l.length := List.length_pos_of_mem ha
    simp only [List.length_cons]
    omega
theorem lc_ofF {α : Type} {g : Sto → Prop} {tg : MG} {t : MT} {m : ME} {ρ : Fr} {S : Sto} (r : α → D) (q : α → Bool) (f : α → D) (hg : g S) : ∀ {l : List α}, (∀ x ∈ l, ∃ ρ1, tg (r x) ρ = some ρ1 ∧ t ρ1 S = .ok (q x) S ∧ (q x = true → m ρ1 S = .ok (f x) S)) → lcD g tg t m ρ (l.map r) S = .ok ((l.filter q).map f) S
  | [], _ => by rw [List.map_nil]; unfold lcD; rw [if_pos hg]; rfl
  | d :: ds, h => by
    rw [List.map_cons]
    unfold lcD
    rw [if_pos hg]
    obtain ⟨ρ1, e1, e2, e3⟩ := h d List.mem_cons_self
    have ih := lc_ofF r q f hg (l := ds) fun d hd => h d (List.mem_cons_of_mem _ hd)
    rw [e1]
    cases hq : q d with
    | true => simp [e2, e3 hq, hq, ih]
    | false => simp [e2, hq, ih]
def two (n : Nat) : List Nat := [n / 10, n % 10]
def free (l : List (List Nat)) (n : Nat) : Bool := decide (0 < n % 10) && !decide (two n ∈ l)
def ixsD (l : List Nat) : List D := l.map fun (k : Nat) => D.int (k : Int)
@[simp] theorem ixsD_length (l : List Nat) : (ixsD l).length = l.length := by simp [ixsD]
structure GoodR (n : Nat) (r : List Nat) : Prop where
  nd : r.Nodup
  lt : ∀ k ∈ r, k < n
theorem GoodR.len {n : Nat} {r : List Nat} (h : GoodR n r) : r.length ≤ n := by
  have := pigeon (A := r) (l := List.range n) h.nd fun x hx => List.mem_range.mpr (h.lt x hx)
  simpa using this
structure Crd where
  order : List Nat
  counts : List Int
  covers : List (Nat × Int)
def covD (p : Nat × Int) : D := .tup [.int (p.1 : Nat), .int p.2]
def crdL (c : Crd) : List D := [.tup (ixsD c.order), .tup (iD c.counts), .tup (c.covers.map covD)]
def crdD (c : Crd) : D := .tup (crdL c)
def cardD (ds : List Nat) (c : Crd) : D := .tup (.str (numS ds) :: crdL c)
/-- a card by the houses hs -/
structure GoodC (hs : List Int) (c : Crd) : Prop where
  order : GoodR hs.length c.order
  cnt : c.counts.length = 3
  cnt9 : ∀ v ∈ c.counts, 0 ≤ v ∧ v ≤ 9
  cov : ∀ p ∈ c.covers, p.1 < hs.length ∧ p.2 ∈ hs
  few : c.covers.length ≤ 9
end CW

namespace CW
open PySem PySem.Spec PyProof.Rows L2 MM
structure GoodCs (hs : List Int) (cs : List (List Nat × Crd)) : Prop where
  num : ∀ x ∈ cs, GoodN x.1
  card : ∀ x ∈ cs, GoodC hs x.2
  nd : (cs.map (·.1)).Nodup
  len : cs.length ≤ 20
def cardsD (cs : List (List Nat × Crd)) : List D := cs.map fun x => cardD x.1 x.2
end CW

namespace CW
open PySem PySem.Spec PyProof.Rows L2 MM
inductive Std where
  | at_ (h : Int) | out (z : Str)
deriving DecidableEq
def inS : Str := Str.ofString "in"
def outS : Str := Str.ofString "out"
def stdD : Std → D
  | .at_ h => .tup [.str inS, .int h]
  | .out z => .tup [.str outS, .str z]
structure WSt where
  often : Int
  own : List Int
  cards : Str → Option Crd
  st : List Std
  rn : Str → Int
  cl : Str → Int
def fW (o : Int) (own : List Int) (n : Nat) : List (Str × D) := [("often", .int o), ("own", .tup (iD own)), ("by_number", .ref (n + 1)), ("stands", .ref (n + 2)), ("rounds_of", .ref (n + 3)), ("calls_of", .ref (n + 4))]
section
variable {o : Int} {own : List Int} {n : Nat}
end
structure WatchAt (S : Sto) (n : Nat) (w : WSt) (b : Nat) : Prop where
  ob : S[n]? = some (.ins 1 (fW w.often w.own n))
  by_ : ∃ l, S[n + 1]? = some (.dct false l) ∧ ∀ z, valD l (.inr z) = (w.cards z).map crdD
  st : S[n + 2]? = some (.lst false (w.st.map stdD))
  rn : ∃ l, S[n + 3]? = some (.dct false l) ∧ Cnt l w.rn b
  cl : ∃ l, S[n + 4]? = some (.dct false l) ∧ Cnt l w.cl b
  pos : 1 ≤ w.often
  len : w.st.length = w.own.length
  few : w.own.length ≤ 9
  good : ∀ z c, w.cards z = some c → GoodC w.own c
  txt : ∀ z, Std.out z ∈ w.st → PyData.strOk z = true
  bd : b ≤ 50000
/-- nothing but the watch at n was changed; things were made -/
def Wch (n : Nat) (S S' : Sto) : Prop := S.length ≤ S'.length ∧ ∀ i, i < S.length → (i < n ∨ n + 4 < i) → S'[i]? = S[i]?
theorem Wch.refl {n : Nat} {S : Sto} : Wch n S S := ⟨Nat.le_refl _, fun _ _ _ => rfl⟩
theorem Wch.trans {n : Nat} {S S1 S2 : Sto} (h : Wch n S S1) (g : Wch n S1 S2) : Wch n S S2 := ⟨Nat.le_trans h.1 g.1, fun i hi hn => by rw [g.2 i (by have := h.1; omega) hn, h.2 i hi hn]⟩
theorem Wch.app {n : Nat} {S S' : Sto} (h : Wch n S S') (T : Sto) : Wch n S (S' ++ T) := ⟨by have := h.1; simp; omega, fun i hi hn => by rw [List.getElem?_append_left (by have := h.1; omega), h.2 i hi hn]⟩
theorem Wch.set {n j : Nat} {S S' : Sto} {o : O} (h : Wch n S S') (hj : n ≤ j ∧ j ≤ n + 4 ∨ S.length ≤ j) : Wch n S (S'.set j o) := ⟨by rw [List.length_set]; exact h.1, fun i hi hn => by rw [List.getElem?_set_ne (by omega), h.2 i hi hn]⟩
theorem get_of {α : Type} {S : List α} {i : Nat} {o : α} (h : S[i]? = some o) : i < S.length := (List.getElem?_eq_some_iff.mp h).1
theorem WatchAt.lt {S : Sto} {n b : Nat} {w : WSt} (h : WatchAt S n w b) : n + 4 < S.length := by
  obtain ⟨l, e, _⟩ := h.cl
  exact get_of e
/-- other places may change -/
theorem WatchAt.other {S S' : Sto} {n b : Nat} {w : WSt} (h : WatchAt S n w b) (g : ∀ i, n ≤ i → i ≤ n + 4 → S'[i]? = S[i]?) : WatchAt S' n w b := by
  obtain ⟨h1, ⟨l2, h2, h2'⟩, h3, ⟨l4, h4, h4'⟩, ⟨l5, h5, h5'⟩, r1, r2, r3, r4, r5, r6⟩ := h
  exact ⟨by rw [g n (by omega) (by omega)]; exact h1, ⟨l2, by rw [g (n + 1) (by omega) (by omega)]; exact h2, h2'⟩, by rw [g (n + 2) (by omega) (by omega)]; exact h3, ⟨l4, by rw [g (n + 3) (by omega) (by omega)]; exact h4, h4'⟩, ⟨l5, by rw [g (n + 4) (by omega) (by omega)]; exact h5, h5'⟩, r1, r2, r3, r4, r5, r6⟩
theorem WatchAt.app {S : Sto} {n b : Nat} {w : WSt} (h : WatchAt S n w b) (T : Sto) : WatchAt (S ++ T) n w b := h.other fun i _ h2 => List.getElem?_append_left (by have := h.lt; omega)
theorem Cnt.mono {l : List (Key × D)} {f : Str → Int} {a b : Nat} (h : Cnt l f a) (hab : a ≤ b) : Cnt l f b := ⟨h.get, Nat.le_trans h.len hab⟩
theorem WatchAt.mono {S : Sto} {n a b : Nat} {w : WSt} (h : WatchAt S n w a) (hab : a ≤ b) (hb : b ≤ 50000) : WatchAt S n w b := by
  obtain ⟨h1, h2, h3, ⟨l4, h4, h4'⟩, ⟨l5, h5, h5'⟩, r1, r2, r3, r4, r5, _⟩ := h
  exact ⟨h1, h2, h3, ⟨l4, h4, h4'.mono hab⟩, ⟨l5, h5, h5'.mono hab⟩, r1, r2, r3, r4, r5, hb⟩
/-- the stands are put otherwise -/
theorem WatchAt.stands {S : Sto} {n b : Nat} {w : WSt} (h : WatchAt S n w b) {st : List Std} (hl : st.length = w.st.length) (ht : ∀ z, Std.out z ∈ st → PyData.strOk z = true) : WatchAt (S.set (n + 2) (.lst false (st.map stdD))) n { w with st := st } b := by
  have hlt := h.lt
  obtain ⟨h1, ⟨l2, h2, h2'⟩, h3, ⟨l4, h4, h4'⟩, ⟨l5, h5, h5'⟩, r1, r2, r3, r4, r5, r6⟩ := h
  exact ⟨by rw [List.getElem?_set_ne (by omega)]; exact h1, ⟨l2, by rw [List.getElem?_set_ne (by omega)]; exact h2, h2'⟩, List.getElem?_set_self (by omega), ⟨l4, by rw [List.getElem?_set_ne (by omega)]; exact h4, h4'⟩, ⟨l5, by rw [List.getElem?_set_ne (by omega)]; exact h5, h5'⟩, r1, hl.trans r2, r3, r4, ht, r6⟩
def cardOf (cs : List (List Nat × Crd)) (z : Str) : Option Crd := (cs.find? fun x => decide (numS x.1 = z)).map (·.2)
theorem mem_set {st : List Std} {k : Nat} {s x : Std} (h : x ∈ st.set k s) : x ∈ st ∨ x = s := List.mem_or_eq_of_mem_set h
end CW

namespace CW
open PySem PySem.Spec PyProof.Rows L2 MM
def noCard : Crd := ⟨[], [0, 0, 0], []⟩
def cardZ (w : WSt) (z : Str) : Crd := (w.cards z).getD noCard
theorem goodNo (hs : List Int) : GoodC hs noCard := ⟨⟨by simp [noCard], by simp [noCard]⟩, rfl, by simp [noCard], by simp [noCard], by simp [noCard]⟩
theorem WatchAt.card {S : Sto} {n b : Nat} {w : WSt} (h : WatchAt S n w b) (z : Str) : GoodC w.own (cardZ w z) := by
  unfold cardZ
  cases hc : w.cards z with
  | none => exact goodNo _
  | some c => exact h.good z c hc
end CW

namespace CW
open PySem PySem.Spec PyProof.Rows L2 MM
def emp : Str := Str.ofString ""
def goneS : Std → Str
  | .at_ _ => emp
  | .out z => z
def goneD (st : List Std) : List D := st.map fun s => D.str (goneS s)
def plF (o : Int) (own : List Int) (cs : List (List Nat × Crd)) (m : Nat) : List (Key × D) := [(.inr "often", .int o), (.inr "own", .tup (iD own)), (.inr "cards", .tup (cardsD cs)), (.inr "at", .ref (m + 1)), (.inr "gone", .ref (m + 2)), (.inr "many", .ref (m + 3)), (.inr "calls", .ref (m + 4))]
structure PlV (S : Sto) (m : Nat) (o : Int) (own : List Int) (cs : List (List Nat × Crd)) (st : List Std) (la : List Int) : Prop where
  ob : S[m]? = some (.dct false (plF o own cs m))
  at_ : S[m + 1]? = some (.lst false (iD la))
  gone : S[m + 2]? = some (.lst false (goneD st))
  ok : ∀ (k : Nat) h, st[k]? = some (.at_ h) → la[k]? = some h
  ll : la.length = st.length
  len : st.length = own.length
  few : own.length ≤ 9
  ne : ∀ z, Std.out z ∈ st → ¬ z = emp
section
variable {S S' : Sto} {m : Nat} {o : Int} {own : List Int} {cs : List (List Nat × Crd)} {st : List Std} {la : List Int}
theorem PlV.other (h : PlV S m o own cs st la) (g : ∀ i, m ≤ i → i ≤ m + 2 → S'[i]? = S[i]?) : PlV S' m o own cs st la :=
  ⟨by rw [g m (by omega) (by omega)]; exact h.ob, by rw [g (m + 1) (by omega) (by omega)]; exact h.at_, by rw [g (m + 2) (by omega) (by omega)]; exact h.gone, h.ok, h.ll, h.len, h.few, h.ne⟩
theorem PlV.lt (h : PlV S m o own cs st la) : m + 2 < S.length := get_of h.gone
/-- a crew goes out -/
theorem PlV.out (h : PlV S m o own cs st la) {z : Str} (hz : ¬ z = emp) (k : Nat) : PlV (S.set (m + 2) (.lst false (goneD (st.set k (.out z))))) m o own cs (st.set k (.out z)) la := by
  have hlt := h.lt
  refine ⟨by rw [List.getElem?_set_ne (by omega)]; exact h.ob, by rw [List.getElem?_set_ne (by omega)]; exact h.at_, List.getElem?_set_self hlt, fun j v hj => ?_, by rw [List.length_set]; exact h.ll, by rw [List.length_set]; exact h.len, h.few, fun y hy => ?_⟩
  · rw [List.getElem?_set] at hj
    split at hj
    · split at hj <;> cases hj
    · exact h.ok j v hj
  · rcases mem_set hy with h1 | h1
    · exact h.ne y h1
    · cases h1; exact hz
end
structure PlAt (S : Sto) (m : Nat) (w : WSt) (cs : List (List Nat × Crd)) (b : Nat) : Prop where
  v : ∃ la, PlV S m w.often w.own cs w.st la
  mn : ∃ l, S[m + 3]? = some (.dct false l) ∧ Cnt l w.rn b
  cl : ∃ l, S[m + 4]? = some (.dct false l) ∧ Cnt l w.cl b
  crd : w.cards = cardOf cs
  good : GoodCs w.own cs
  pos : 1 ≤ w.often
  bd : b ≤ 50000
/-- nothing but the plain watch at m was changed -/
def Plc (m : Nat) (S S' : Sto) : Prop := S'.length = S.length ∧ ∀ i, (i < m ∨ m + 4 < i) → S'[i]? = S[i]?
theorem Plc.refl {m : Nat} {S : Sto} : Plc m S S := ⟨rfl, fun _ _ => rfl⟩
theorem Plc.trans {m : Nat} {S S1 S2 : Sto} (h : Plc m S S1) (g : Plc m S1 S2) : Plc m S S2 := ⟨g.1.trans h.1, fun i hi => by rw [g.2 i hi, h.2 i hi]⟩
theorem Plc.set {m j : Nat} {S S' : Sto} {o : O} (h : Plc m S S') (h1 : m ≤ j) (h2 : j ≤ m + 4) : Plc m S (S'.set j o) := ⟨by rw [List.length_set]; exact h.1, fun i hi => by rw [List.getElem?_set_ne (by omega), h.2 i hi]⟩
section
variable {S S' : Sto} {m b : Nat} {w : WSt} {cs : List (List Nat × Crd)}
theorem PlAt.lt (h : PlAt S m w cs b) : m + 4 < S.length := by
  obtain ⟨l, e, _⟩ := h.cl
  exact get_of e
theorem PlAt.other (h : PlAt S m w cs b) (g : ∀ i, m ≤ i → i ≤ m + 4 → S'[i]? = S[i]?) : PlAt S' m w cs b := by
  obtain ⟨⟨la, h1⟩, ⟨l2, h2, h2'⟩, ⟨l3, h3, h3'⟩, r1, r2, r3, r4⟩ := h
  exact ⟨⟨la, h1.other fun i h1 h2 => g i h1 (by omega)⟩, ⟨l2, by rw [g _ (by omega) (by omega)]; exact h2, h2'⟩, ⟨l3, by rw [g _ (by omega) (by omega)]; exact h3, h3'⟩, r1, r2, r3, r4⟩
theorem PlAt.mono {a : Nat} (h : PlAt S m w cs a) (hab : a ≤ b) (hb : b ≤ 50000) : PlAt S m w cs b := by
  obtain ⟨h1, ⟨l2, h2, h2'⟩, ⟨l3, h3, h3'⟩, r1, r2, r3, _⟩ := h
  exact ⟨h1, ⟨l2, h2, h2'.mono hab⟩, ⟨l3, h3, h3'.mono hab⟩, r1, r2, r3, hb⟩
end
end CW

namespace CW
open PySem PySem.Spec PyProof.Rows L2 MM
section
variable {a b c : ME} {ρ : Fr} {S : Sto}
end
theorem PlV.back {S : Sto} {m : Nat} {o : Int} {own : List Int} {cs : List (List Nat × Crd)} {st : List Std} {la : List Int} (h : PlV S m o own cs st la) {k : Nat} (hk : k < st.length) (x : Int) : PlV ((S.set (m + 2) (.lst false (goneD (st.set k (.at_ x))))).set (m + 1) (.lst false (iD (la.set k x)))) m o own cs (st.set k (.at_ x)) (la.set k x) := by
  have hlt := h.lt
  refine ⟨by rw [List.getElem?_set_ne (by omega), List.getElem?_set_ne (by omega)]; exact h.ob, List.getElem?_set_self (by rw [List.length_set]; omega), by rw [List.getElem?_set_ne (by omega), List.getElem?_set_self (by omega)], fun j u hj => ?_, by simp [h.ll], by rw [List.length_set]; exact h.len, h.few, fun y hy => ?_⟩
  · rw [List.getElem?_set] at hj ⊢
    split at hj
    · rename_i e
      subst e
      rw [if_pos rfl, if_pos (by rw [h.ll]; exact hk)]
      cases hj
      rfl
    · rename_i e
      rw [if_neg e]
      exact h.ok j u hj
  · rcases mem_set hy with h1 | h1
    · exact h.ne y h1
    · cases h1
end CW

namespace CW
open PySem PySem.Spec PyProof.Rows L2 MM
/-- _law_town(_law_bag_here, _law_most); slots 0 _law_bag_here, 1 _law_most, 2 _law_loops, 3 _law_met, 4 _law_loop, 5 _law_numbers, 6 _law_place, 7 _law_number, 8 _law_texts, 9 _law_spare, 10 _law_k, 11 _law_text -/
noncomputable def m_law_town : MS :=
  sSeq (sSet 2 (eNew (lNew (aNil))))
  (sSeq (sSet 3 (eDNew))
  (sSeq (sFor (iR1 (aCons (eBin addD (eC (.int 1)) (eBin mulD (eCall sp_law_draw (aCons (eVar 0) (aCons (eC (.int 4)) (aNil)))) (eCall sp_law_draw (aCons (eVar 0) (aCons (eC (.int 2)) (aNil)))))) (aNil))) (tN 4) (sSeq (sSet 5 (eNew (lNew (aNil))))
  (sSeq (sFor (iR1 (aCons (eBin addD (eC (.int 1)) (eCall sp_law_draw (aCons (eVar 0) (aCons (eVar 1) (aNil))))) (aNil))) (tN 6) (sSeq (sSet 7 (eCall sp_law_figures (aCons (eVar 0) (aNil))))
  (sIf (tV (eBin notInAD (eVar 7) (eVar 3))) (sSeq (sSetA (eVar 3) (eVar 7) (eC (.bl true)))
  (sExpr (eMeth isLstD appendD (eVar 5) (aCons (eVar 7) (aNil))))) (sPass))))
  (sSeq (sIf (tV (eBin eqD (eVar 5) (ePl (lNew (aNil))))) (sSeq (sSet 8 (ePl (lComp (iR1 (aCons (eC (.int 81)) (aNil))) [10] (tN 10) tYs (eCall strD (aCons (eBin addD (eBin addD (eC (.int 11)) (eVar 10)) (eBin fdivD (eVar 10) (eC (.int 9)))) (aNil))))))
  (sSeq (sSet 9 (ePl (lComp (iA (eVar 8)) [11] (tN 11) (tV (eBin notInAD (eVar 11) (eVar 3))) (eVar 11))))
  (sSeq (sSetA (eVar 3) (eBin ixD (eVar 9) (eC (.int 0))) (eC (.bl true)))
  (sSet 5 (eSlM (eVar 9) (oN) (oS (eC (.int 1)))))))) (sPass))
  (sExpr (eMeth isLstD appendD (eVar 2) (aCons (eCall tupleA (aCons (eVar 5) (aNil))) (aNil))))))))
  (sRet (eTup (aCons (eCall tupleA (aCons (eVar 2) (aNil))) (aCons (eBin addD (eC (.int 1)) (eCall sp_law_draw (aCons (eVar 0) (aCons (eC (.int 4)) (aNil))))) (aCons (eBin addD (eC (.int 1)) (eCall sp_law_draw (aCons (eVar 0) (aCons (eC (.int 50)) (aNil))))) (aNil))))))))
noncomputable def sp_law_town : FL := gcF (body 12 m_law_town)
theorem get_last {c : List Nat} {a : Nat} (h : c.getLast? = some a) : atI (ixsD c) (-1) = some (.int (a : Int)) := by
  obtain ⟨ys, rfl⟩ := List.getLast?_eq_some_iff.mp h
  unfold ixsD
  rw [List.map_append]
  exact atI_last _ _
theorem notInA_ev {S : Sto} {n : Nat} {fz : Bool} {M : List (Key × D)} {z : Str} (h : S[n]? = some (.dct fz M)) : notInAD (.str z) (.ref n) S = .ok (.bl (!(valD M (.inr z)).isSome)) S := by
  simp [notInAD, isDR_ev h, dnotInD, dinB, keyD, h]
theorem numS_mem {ds : List Nat} {l : List (List Nat)} : numS ds ∈ l.map numS ↔ ds ∈ l := by
  constructor
  · intro h
    obtain ⟨e, he, q⟩ := List.mem_map.mp h
    rw [← numS_inj q]; exact he
  · exact fun h => List.mem_map.mpr ⟨ds, h, rfl⟩
def loopD (l : List (List Nat)) : D := .tup (nD l)
theorem eq_nilS {S : Sto} {q : Nat} {fz : Bool} {l : List (List Nat)} (hg : ∀ ds ∈ l, GoodN ds) (h : S[q]? = some (.lst fz (nD l))) : eqD (.ref q) (.pl []) S = .ok (.bl l.isEmpty) S := by
  obtain ⟨ps, e1, e2, e3⟩ := toPl_strs (nD l) (fun d hd => by
    obtain ⟨ds, hds, rfl⟩ := List.mem_map.mp hd
    exact ⟨_, rfl, (fine_num (hg ds hds).fig).uni.ok⟩)
  unfold eqD eqB
  simp only [scalD, Bool.false_eq_true, if_false, view, h, toP, toPl, e1, Option.map_some]
  have he : l.isEmpty = ps.isEmpty := by
    rw [nD_length] at e2
    cases l <;> cases ps <;> simp at e2 ⊢
  rw [he]
  have hd1 : (PyData.list ps).depth ≤ 64 := by simp only [PyData.depth, e3]; decide
  have hd2 : (PyData.list []).depth ≤ 64 := by simp [PyData.depth, PyData.depthAll]
  rw [if_pos ⟨hd1, hd2⟩]
  cases ps <;> simp [PyData.eqv, PyData.eqvAll]
/-- how it stands while a town is drawn -/
structure Tw (b B : Nat) (S S' : Sto) (ls : List (List (List Nat))) (cur : List (List Nat)) : Prop where
  grew : Grew b S S'
  lt : b < S.length
  loops : S'[S.length]? = some (.lst false (ls.map loopD))
  met : ∃ M, S'[S.length + 1]? = some (.dct false M) ∧ (∀ z, (valD M (.inr z)).isSome = decide (z ∈ (ls.flatten ++ cur).map numS)) ∧ M.length ≤ (ls.flatten ++ cur).length
  nd : (ls.flatten ++ cur).Nodup
  good : ∀ ds ∈ ls.flatten ++ cur, GoodN ds
  sz : ∀ l ∈ ls, 1 ≤ l.length ∧ l.length ≤ B
theorem Tw.bag {b B : Nat} {S S' : Sto} {ls : List (List (List Nat))} {cur : List (List Nat)} (h : Tw b B S S' ls cur) : BagAt S' b := h.grew.1
theorem Tw.drew {b B : Nat} {S S' S2 : Sto} {ls : List (List (List Nat))} {cur : List (List Nat)} (h : Tw b B S S' ls cur) (w : Drew b S' S2) : Tw b B S S2 ls cur := by
  have hlt := h.lt
  refine ⟨h.grew.trans w.grew, h.lt, by rw [w.get (by omega)]; exact h.loops, ?_, h.nd, h.good, h.sz⟩
  obtain ⟨M, h1, h2⟩ := h.met
  exact ⟨M, by rw [w.get (by omega)]; exact h1, h2⟩
theorem Tw.app {b B : Nat} {S S' : Sto} {ls : List (List (List Nat))} {cur : List (List Nat)} (h : Tw b B S S' ls cur) (T : Sto) : Tw b B S (S' ++ T) ls cur := by
  have e : ∀ {n : Nat} {o : O}, S'[n]? = some o → (S' ++ T)[n]? = some o := fun e => by rw [List.getElem?_append_left (List.getElem?_eq_some_iff.mp e).1, e]
  refine ⟨h.grew.app T, h.lt, e h.loops, ?_, h.nd, h.good, h.sz⟩
  obtain ⟨M, h1, h2⟩ := h.met
  exact ⟨M, e h1, h2⟩
theorem Grew.set {b q : Nat} {S S' : Sto} {o : O} (h : Grew b S S') (hq : S.length ≤ q) (hb : b < S.length) : Grew b S (S'.set q o) := by
  refine ⟨?_, by rw [List.length_set]; exact h.2.1, fun n hn hb' => by rw [List.getElem?_set_ne (by omega)]; exact h.2.2 n hn hb'⟩
  obtain ⟨a, m, k, e, r⟩ := h.1
  exact ⟨a, m, k, by rw [List.getElem?_set_ne (by omega)]; exact e, r⟩
theorem Tw.set {b B q : Nat} {S S' : Sto} {ls : List (List (List Nat))} {cur : List (List Nat)} {o : O} (h : Tw b B S S' ls cur) (hq : S.length + 2 ≤ q) : Tw b B S (S'.set q o) ls cur := by
  refine ⟨h.grew.set (by omega) h.lt, h.lt, by rw [List.getElem?_set_ne (by omega)]; exact h.loops, ?_, h.nd, h.good, h.sz⟩
  obtain ⟨M, h1, h2⟩ := h.met
  exact ⟨M, by rw [List.getElem?_set_ne (by omega)]; exact h1, h2⟩
theorem Tw.put {b B : Nat} {S S' : Sto} {ls : List (List (List Nat))} {cur : List (List Nat)} {M : List (Key × D)} {ds : List Nat} (h : Tw b B S S' ls cur) (hM : S'[S.length + 1]? = some (.dct false M)) (hn : ds ∉ ls.flatten ++ cur) (hg : GoodN ds) :
    Tw b B S (S'.set (S.length + 1) (.dct false (putD M (.inr (numS ds)) (.bl true)))) ls (cur ++ [ds]) := by
  obtain ⟨M', h1, h2, h3⟩ := h.met
  rw [hM] at h1
  cases h1
  have hlt := (List.getElem?_eq_some_iff.mp hM).1
  refine ⟨h.grew.set (by omega) h.lt, h.lt, by rw [List.getElem?_set_ne (by omega)]; exact h.loops, ⟨_, List.getElem?_set_self hlt, fun z => ?_, ?_⟩, ?_, ?_, h.sz⟩
  · rw [valD_put]
    by_cases hz : z = numS ds
    · subst hz
      simp
    · have : ¬ (Sum.inr (numS ds) : Key) = Sum.inr z := fun e => hz (by cases e; rfl)
      rw [if_neg this, h2]
      simp only [List.map_append, List.mem_append, List.map_cons, List.map_nil, List.mem_singleton]
      simp [hz]
  · have := putD_len M (.inr (numS ds)) (.bl true)
    simp only [List.length_append, List.length_cons, List.length_nil] at *
    omega
  · rw [← List.append_assoc, List.nodup_append]
    refine ⟨h.nd, by simp, fun x hx y hy e => ?_⟩
    rw [List.mem_singleton.mp hy] at e
    exact hn (e ▸ hx)
  · intro x hx
    rw [← List.append_assoc] at hx
    rcases List.mem_append.mp hx with hx | hx
    · exact h.good x hx
    · rw [List.mem_singleton.mp hx]; exact hg
theorem Tw.next {b B : Nat} {S S' : Sto} {ls : List (List (List Nat))} {cur : List (List Nat)} (h : Tw b B S S' ls cur) (h1 : 1 ≤ cur.length) (h2 : cur.length ≤ B) : Tw b B S (S'.set S.length (.lst false ((ls ++ [cur]).map loopD))) (ls ++ [cur]) [] := by
  have hlt := (List.getElem?_eq_some_iff.mp h.loops).1
  have e : (ls ++ [cur]).flatten ++ [] = ls.flatten ++ cur := by simp
  refine ⟨h.grew.set (Nat.le_refl _) h.lt, h.lt, List.getElem?_set_self hlt, ?_, by rw [e]; exact h.nd, by rw [e]; exact h.good, fun l hl => ?_⟩
  · obtain ⟨M, q1, q2⟩ := h.met
    exact ⟨M, by rw [List.getElem?_set_ne (by omega)]; exact q1, by rw [e]; exact q2⟩
  · rcases List.mem_append.mp hl with hl | hl
    · exact h.sz l hl
    · rw [List.mem_singleton.mp hl]; exact ⟨h1, h2⟩
/-- two figures, no nought -/
def spareN : List (List Nat) := (List.range 81).map fun k => [1 + k / 9, 1 + k % 9]
theorem spare_text : ∀ k : Nat, k < 81 → strI (11 + (k : Int) + (k : Int) / 9) = numS [1 + k / 9, 1 + k % 9] := by decide +kernel
theorem spare_good : ∀ ds ∈ spareN, GoodN ds := by
  intro ds hd
  obtain ⟨k, hk, rfl⟩ := List.mem_map.mp hd
  have hk := List.mem_range.mp hk
  exact ⟨by simp, by simp, fun d hd => by simp at hd; omega, by simp; omega⟩
theorem spare_nd : spareN.Nodup := by decide +kernel
theorem spare_len : spareN.length = 81 := by simp [spareN]
/-- a list that is not all of it -/
theorem filter_pos {l m : List (List Nat)} (hn : l.Nodup) (hl : m.length < l.length) : ∃ x r, l.filter (fun ds => !decide (ds ∈ m)) = x :: r := by
  cases e : l.filter (fun ds => !decide (ds ∈ m)) with
  | cons x r => exact ⟨x, r, rfl⟩
  | nil =>
    exfalso
    rw [List.filter_eq_nil_iff] at e
    have hs : l ⊆ m := fun x hx => by
      have := e x hx
      simpa using this
    have := List.Nodup.length_le_of_subset hn hs
    omega

structure GoodT (B : Nat) (ls : List (List (List Nat))) : Prop where
  pos : 1 ≤ ls.length
  len : ls.length ≤ 4
  nd : ls.flatten.Nodup
  good : ∀ ds ∈ ls.flatten, GoodN ds
  sz : ∀ l ∈ ls, 1 ≤ l.length ∧ l.length ≤ B
noncomputable def townIn : MS := sSeq (sSet 7 (eCall sp_law_figures (aCons (eVar 0) (aNil))))
  (sIf (tV (eBin notInAD (eVar 7) (eVar 3))) (sSeq (sSetA (eVar 3) (eVar 7) (eC (.bl true)))
  (sExpr (eMeth isLstD appendD (eVar 5) (aCons (eVar 7) (aNil))))) (sPass))
theorem flatB_len {B : Nat} : ∀ {ls : List (List (List Nat))}, (∀ l ∈ ls, l.length ≤ B) → ls.flatten.length ≤ B * ls.length
  | [], _ => by simp
  | l :: ls, h => by
    have h1 := h l List.mem_cons_self
    have h2 := flatB_len (ls := ls) fun x hx => h x (List.mem_cons_of_mem _ hx)
    rw [List.flatten_cons, List.length_append, List.length_cons, Nat.mul_add]
    omega
theorem town_inner {b B q : Nat} {S S0 : Sto} {ls : List (List (List Nat))} {n : Nat} {r1 x4 x6 x7 x8 x9 x10 x11 : Option D} (hq : S.length + 2 ≤ q) (hl : ls.length ≤ 4) (hB : B ≤ 20) (hn : n ≤ B)
    (h : Tw b B S S0 ls []) (h0 : S0[q]? = some (.lst false [])) :
    ∃ cur S' y6 y7, forD noG (tN 6) townIn (rangeD 0 n) [some (.ref b), r1, some (.ref S.length), some (.ref (S.length + 1)), x4, some (.ref q), x6, x7, x8, x9, x10, x11] S0 =
      .nx [some (.ref b), r1, some (.ref S.length), some (.ref (S.length + 1)), x4, some (.ref q), y6, y7, x8, x9, x10, x11] S' ∧ Tw b B S S' ls cur ∧ S'[q]? = some (.lst false (nD cur)) ∧ cur.length ≤ n := by
  have L := for_nx (g := noG) (tg := tN 6) (b := townIn) (items := rangeD 0 n) (ρ := [some (.ref b), r1, some (.ref S.length), some (.ref (S.length + 1)), x4, some (.ref q), x6, x7, x8, x9, x10, x11]) (S := S0)
    (fun j ρ S' => ∃ cur y6 y7, ρ = [some (.ref b), r1, some (.ref S.length), some (.ref (S.length + 1)), x4, some (.ref q), y6, y7, x8, x9, x10, x11] ∧ Tw b B S S' ls cur ∧ S'[q]? = some (.lst false (nD cur)) ∧ cur.length ≤ j)
    ⟨[], x6, x7, rfl, h, h0, Nat.zero_le _⟩ (fun _ _ _ _ => trivial) (by
      rintro j d ρ S' hd ⟨cur, y6, y7, rfl, hT, hq', hc⟩
      obtain ⟨hj, rfl⟩ := range_get hd
      have hb := hT.bag
      have hlt := hT.lt
      unfold townIn
      refine ⟨_, rfl, nx_of fun Q hQ => ?_⟩
      simp
      generalize hr_ : sp_law_figures [D.ref _] _ = r_
      obtain ⟨ds, S2, hq_, hg, w2, hb2⟩ := figures_of hr_ (by assumption)
      clear hr_
      subst hq_
      have hT2 := hT.drew w2
      have hq2 : S2[q]? = some (.lst false (nD cur)) := by rw [w2.get (by omega)]; exact hq'
      obtain ⟨M, hM, hM2, hM3⟩ := hT2.met
      have hfl := flatB_len (B := B) (ls := ls) fun l hl => (hT2.sz l hl).2
      have hml : B * ls.length ≤ 20 * 4 := Nat.mul_le_mul hB hl
      rw [List.length_append] at hM3
      have e1 := notInA_ev (z := numS ds) hM
      rw [hM2] at e1
      by_cases hin : numS ds ∈ (ls.flatten ++ cur).map numS
      · rw [decide_eq_true hin] at e1
        simp [e1]
        exact hQ _ _ ⟨cur, _, _, rfl, hT2, hq2, by omega⟩
      · have hin' : ds ∉ ls.flatten ++ cur := fun h => hin (numS_mem.mpr h)
        rw [decide_eq_false hin] at e1
        have e2 := setA_ev (z := numS ds) (v := .bl true) hM (by omega)
        have hT3 := hT2.put hM hin' hg
        have hq3 : (S2.set (S.length + 1) (.dct false (putD M (.inr (numS ds)) (.bl true))))[q]? = some (.lst false (nD cur)) := by rw [List.getElem?_set_ne (by omega)]; exact hq2
        generalize S2.set (S.length + 1) (.dct false (putD M (.inr (numS ds)) (.bl true))) = S3 at e2 hT3 hq3
        have e3 := append_ev (d := .str (numS ds)) hq3 (by rw [nD_length, sizeL]; omega)
        have e4 := isLst_ev hq3
        have e5 : nD cur ++ [D.str (numS ds)] = nD (cur ++ [ds]) := by simp [nD]
        rw [e5] at e3
        simp [e1, e2, e3, e4]
        exact hQ _ _ ⟨cur ++ [ds], _, _, rfl, hT3.set hq, List.getElem?_set_self (List.getElem?_eq_some_iff.mp hq3).1, by simp; omega⟩)
  obtain ⟨ρ', S', e, cur, y6, y7, rfl, hT, hq', hc⟩ := L
  rw [rangeD_len] at hc
  exact ⟨cur, S', y6, y7, e, hT, hq', hc⟩

noncomputable def townOut : MS := sSeq (sSet 5 (eNew (lNew (aNil))))
  (sSeq (sFor (iR1 (aCons (eBin addD (eC (.int 1)) (eCall sp_law_draw (aCons (eVar 0) (aCons (eVar 1) (aNil))))) (aNil))) (tN 6) townIn)
  (sSeq (sIf (tV (eBin eqD (eVar 5) (ePl (lNew (aNil))))) (sSeq (sSet 8 (ePl (lComp (iR1 (aCons (eC (.int 81)) (aNil))) [10] (tN 10) tYs (eCall strD (aCons (eBin addD (eBin addD (eC (.int 11)) (eVar 10)) (eBin fdivD (eVar 10) (eC (.int 9)))) (aNil))))))
  (sSeq (sSet 9 (ePl (lComp (iA (eVar 8)) [11] (tN 11) (tV (eBin notInAD (eVar 11) (eVar 3))) (eVar 11))))
  (sSeq (sSetA (eVar 3) (eBin ixD (eVar 9) (eC (.int 0))) (eC (.bl true)))
  (sSet 5 (eSlM (eVar 9) (oN) (oS (eC (.int 1)))))))) (sPass))
  (sExpr (eMeth isLstD appendD (eVar 2) (aCons (eCall tupleA (aCons (eVar 5) (aNil))) (aNil))))))
theorem town_out {b B : Nat} {most : Int} {S S0 : Sto} {ls : List (List (List Nat))} {x4 x5 x6 x7 x8 x9 x10 x11 : Option D} (hm : most = B) (hB1 : 1 ≤ B) (hB : B ≤ 20) (hl : ls.length < 4) (h : Tw b B S S0 ls []) :
    Nx (townOut [some (.ref b), some (.int most), some (.ref S.length), some (.ref (S.length + 1)), x4, x5, x6, x7, x8, x9, x10, x11] S0)
      fun ρ S' => ∃ cur y5 y6 y7 y8 y9 y10 y11, ρ = [some (.ref b), some (.int most), some (.ref S.length), some (.ref (S.length + 1)), x4, y5, y6, y7, y8, y9, y10, y11] ∧ Tw b B S S' (ls ++ [cur]) [] := by
  refine nx_of fun Q hQ => ?_
  obtain ⟨M0, hM0, _, _⟩ := h.met
  have hq : S.length + 2 ≤ S0.length := by have := (List.getElem?_eq_some_iff.mp hM0).1; omega
  have hlt := h.lt
  have h0 := h.app [.lst false []]
  have hb0 := h0.bag
  have g0 : (S0 ++ [O.lst false []])[S0.length]? = some (.lst false []) := by simp
  unfold townOut
  simp [sizeL]
  generalize hr_ : sp_law_draw [D.ref _, D.int _] _ = r_
  obtain ⟨d, S1, hq_, a1, b1, w1, hb1⟩ := draw_of hr_ (by assumption) (by omega) (by omega)
  clear hr_
  subst hq_
  have h1 := h0.drew w1
  have g1 : S1[S0.length]? = some (.lst false []) := by rw [w1.get (by omega)]; exact g0
  have hwd : Wd (1 + d) := wd_of (by omega) (by omega)
  obtain ⟨cur, S2, y6, y7, e2, h2, g2, hc⟩ := town_inner (n := (1 + d).toNat) (r1 := some (.int most)) (x4 := x4) (x6 := x6) (x7 := x7) (x8 := x8) (x9 := x9) (x10 := x10) (x11 := x11) hq (by omega) hB (by omega) h1 g1
  have e3 := eq_nilS (fun ds hd => h2.good ds (List.mem_append_right _ hd)) g2
  simp [hwd, e2, e3, sizeL]
  cases cur with
  | cons c cs =>
    have e4 := isLst_ev h2.loops
    have e5 := append_ev (d := loopD (c :: cs)) h2.loops (by rw [List.length_map, sizeL]; omega)
    rw [show (ls.map loopD ++ [loopD (c :: cs)]) = (ls ++ [c :: cs]).map loopD by simp] at e5
    unfold loopD at e5
    simp [e4, g2, e5]
    have h3 := h2.next (by simp) (by omega)
    unfold loopD at h3
    simp at h3
    exact hQ _ _ ⟨c :: cs, _, _, _, _, _, _, _, rfl, h3⟩
  | nil =>
    have w81 : Wd 81 := wd_of (by decide) (by decide)
    obtain ⟨M, hM, hM2, hM3⟩ := h2.met
    simp only [List.append_nil] at hM2 hM3
    have hfl := flatB_len (B := B) (ls := ls) fun l hl => (h2.sz l hl).2
    have hml : B * ls.length ≤ 20 * 3 := Nat.mul_le_mul hB (by omega)
    have c1 : ∀ ρ : Fr, ρ.length = 12 → lcD noG (tN 10) tYs (eCall strD (aCons (eBin addD (eBin addD (eC (.int 11)) (eVar 10)) (eBin fdivD (eVar 10) (eC (.int 9)))) (aNil))) ρ (rangeD 0 81) S2 = .ok (nD spareN) S2 := fun ρ hρ => by
      have := lcOf (g := noG) (tg := tN 10) (m := (eCall strD (aCons (eBin addD (eBin addD (eC (.int 11)) (eVar 10)) (eBin fdivD (eVar 10) (eC (.int 9)))) (aNil)))) (ρ := ρ) (S := S2) (fun (i : Nat) => D.int (0 + (i : Int))) (fun k => D.str (numS [1 + k / 9, 1 + k % 9])) trivial (l := List.range 81) (fun k hk => ⟨_, rfl, by
        have hk := List.mem_range.mp hk
        have hg : (ρ.set 10 (some (D.int (0 + (k : Int)))))[10]? = some (some (D.int (k : Int))) := by rw [List.getElem?_set_self (by omega), Int.zero_add]
        have hlog : (11 + (k : Int) + (k : Int) / 9).natAbs.log2 < 1920 := by
          have : (11 + (k : Int) + (k : Int) / 9).natAbs.log2 ≤ 9 := by
            rw [← Nat.lt_succ_iff]
            exact (Nat.log2_lt (by omega)).mpr (by omega)
          omega
        simp only [eCall_ev, aCons_ev, eBin_ev, eC_ev, bind_ok, eVar_ev, hg, addD_int, aNil_ev, fdivD_pos (show (0 : Int) < 9 by decide) (by decide), strD_int hlog, spare_text k hk]⟩)
      rw [show nD spareN = (List.range 81).map (fun k => D.str (numS [1 + k / 9, 1 + k % 9])) by simp [nD, spareN]]
      exact this
    have c2 : ∀ ρ : Fr, ρ.length = 12 → ρ[3]? = some (some (.ref (S.length + 1))) → lcD noG (tN 11) (tV (eBin notInAD (eVar 11) (eVar 3))) (eVar 11) ρ (nD spareN) S2 = .ok (nD (spareN.filter fun ds => !decide (ds ∈ ls.flatten))) S2 := fun ρ hρ h3 => by
      refine lc_ofF (g := noG) (fun ds => D.str (numS ds)) (fun ds => !decide (ds ∈ ls.flatten)) (fun ds => D.str (numS ds)) trivial (l := spareN) (fun ds _ => ⟨_, rfl, ?_, fun _ => ?_⟩)
      · have hg : (ρ.set 11 (some (D.str (numS ds))))[11]? = some (some (D.str (numS ds))) := List.getElem?_set_self (by omega)
        have hg3 : (ρ.set 11 (some (D.str (numS ds))))[3]? = some (some (.ref (S.length + 1))) := by rw [List.getElem?_set_ne (by decide)]; exact h3
        have e := notInA_ev (z := numS ds) hM
        rw [hM2] at e
        simp only [tV_ev, eBin_ev, eVar_ev, hg, hg3, bind_ok, e]
        simp only [numS_mem]
      · have hg : (ρ.set 11 (some (D.str (numS ds))))[11]? = some (some (D.str (numS ds))) := List.getElem?_set_self (by omega)
        simp only [eVar_ev, hg]
    obtain ⟨x, r, hf⟩ := filter_pos spare_nd (m := ls.flatten) (by rw [spare_len]; omega)
    have c3 : ∀ ρ : Fr, ρ.length = 12 → ρ[3]? = some (some (.ref (S.length + 1))) → lcD noG (tN 11) (tV (eBin notInAD (eVar 11) (eVar 3))) (eVar 11) ρ (nD spareN) S2 = .ok (nD (x :: r)) S2 := fun ρ a b => by rw [c2 ρ a b, hf]
    have hx : x ∈ spareN ∧ x ∉ ls.flatten := by
      have : x ∈ spareN.filter (fun ds => !decide (ds ∈ ls.flatten)) := by rw [hf]; exact List.mem_cons_self
      simpa using this
    have e6 := setA_ev (z := numS x) (v := .bl true) hM (by omega)
    have h3 := h2.put hM (by simpa using hx.2) (spare_good x hx.1)
    generalize S2.set (S.length + 1) (.dct false (putD M (.inr (numS x)) (.bl true))) = S3 at e6 h3
    rw [List.nil_append] at h3
    have h4 := h3.app [.lst false (nD [x])]
    have e4 := isLst_ev h4.loops
    have e5 := append_ev (d := loopD [x]) h4.loops (by rw [List.length_map, sizeL]; omega)
    rw [show (ls.map loopD ++ [loopD [x]]) = (ls ++ [[x]]).map loopD by simp] at e5
    have h5 := h4.next (by simp) (by simpa using hB1)
    have e7 : (S3 ++ [O.lst false (nD [x])])[S3.length]? = some (.lst false (nD [x])) := by simp
    have e8 : slM (.pl (nD (x :: r))) none (some 1) S3 = .ok (.ref S3.length) (S3 ++ [.lst false (nD [x])]) := by
      show R.ok _ (S3 ++ [.lst false (MM.cutD (nD (x :: r)) none (some ((1 : Nat) : Int)))]) = _
      rw [cut_to]
      rfl
    have e9 : atI (nD (x :: r)) 0 = some (.str (numS x)) := atI_nat (j := 0) rfl
    simp [w81, c1, c3, rangeD_len, spare_len, sizeL, e6, e9, e8, e4, e7]
    rw [show D.tup (nD [x]) = loopD [x] from rfl, e5]
    simp
    simp only [List.map_append, List.map_cons, List.map_nil] at h5
    exact hQ _ _ ⟨[x], _, _, _, _, _, _, _, rfl, h5⟩

/-- what an answer is -/
def Rt (r : R D) (P : D → Sto → Prop) : Prop := ∃ d S', r = .ok d S' ∧ P d S'
@[simp] theorem rt_ok {d : D} {S : Sto} {P : D → Sto → Prop} : Rt (.ok d S) P ↔ P d S := ⟨fun ⟨_, _, e, h⟩ => by cases e; exact h, fun h => ⟨_, _, rfl, h⟩⟩
theorem rt_of {r : R D} {P : D → Sto → Prop} (h : ∀ Q : D → Sto → Prop, (∀ d S, P d S → Q d S) → Rt r Q) : Rt r P := h P fun _ _ x => x
theorem Drew.kept {b : Nat} {S S' : Sto} (h : Drew b S S') : Kept S S' := by
  have hlt := h.1.lt
  rw [h.len] at hlt
  obtain ⟨⟨a, m, k, g, r⟩, l, rfl⟩ := h
  rw [List.getElem?_set_self hlt] at g
  cases g
  exact Kept.set (by simp)
/-- what grew, cut back -/
theorem Grew.cut {b : Nat} {S S' : Sto} (h : Grew b S S') (hb : b < S.length) : Drew b S (S'.take S.length) := by
  obtain ⟨⟨a, m, k, e, r⟩, h2, h3⟩ := h
  have e' : (S'.take S.length)[b]? = some (.lst false [.int a, .int m, .int k]) := by rw [List.getElem?_take_of_lt hb]; exact e
  refine ⟨⟨a, m, k, e', r⟩, [.int a, .int m, .int k], ?_⟩
  apply List.ext_getElem?
  intro n
  by_cases hn : n < S.length
  · by_cases hnb : n = b
    · subst hnb
      rw [e', List.getElem?_set_self hb]
    · rw [List.getElem?_take_of_lt hn, h3 n hn hnb, List.getElem?_set_ne (Ne.symm hnb)]
  · rw [List.getElem?_eq_none (by rw [List.length_take]; omega), List.getElem?_eq_none (by rw [List.length_set]; omega)]
/-- what is made meanwhile is thrown away -/
theorem gc_grew {b : Nat} {S S' : Sto} {d : D} (h : Grew b S S') (hb : b < S.length) (hd : bdD S.length d) : gc S (.ok d S') = .ok d (S'.take S.length) ∧ Drew b S (S'.take S.length) := by
  have w := h.cut hb
  refine ⟨?_, w⟩
  have := gc_ok (S := S) (S1 := S'.take S.length) (T := S'.drop S.length) w.len w.kept (rfzD_bd hd)
  rwa [List.take_append_drop] at this
theorem bdL_loops {n : Nat} {ls : List (List (List Nat))} : bdL n (ls.map loopD) := by
  rw [bdL_iff]
  intro d hd
  obtain ⟨l, _, rfl⟩ := List.mem_map.mp hd
  simp [loopD, bdL_nD]
theorem town_ev {b : Nat} {S : Sto} {most : Int} (hb : BagAt S b) (h1 : 1 ≤ most) (h2 : most ≤ 20) : ∃ ls r s S', sp_law_town [.ref b, .int most] S = .ok (.tup [.tup (ls.map loopD), .int r, .int s]) S' ∧ GoodT most.toNat ls ∧ 1 ≤ r ∧ r ≤ 4 ∧ 1 ≤ s ∧ s ≤ 50 ∧ Drew b S S' := by
  have hlt := hb.lt
  have raw : Rt (body 12 m_law_town [.ref b, .int most] S) fun d S' => ∃ ls r s, d = .tup [.tup (ls.map loopD), .int r, .int s] ∧ GoodT most.toNat ls ∧ 1 ≤ r ∧ r ≤ 4 ∧ 1 ≤ s ∧ s ≤ 50 ∧ Grew b S S' := by
    refine rt_of fun Q hQ => ?_
    have em : m_law_town = sSeq (sSet 2 (eNew (lNew (aNil))))
      (sSeq (sSet 3 (eDNew))
      (sSeq (sFor (iR1 (aCons (eBin addD (eC (.int 1)) (eBin mulD (eCall sp_law_draw (aCons (eVar 0) (aCons (eC (.int 4)) (aNil)))) (eCall sp_law_draw (aCons (eVar 0) (aCons (eC (.int 2)) (aNil)))))) (aNil))) (tN 4) townOut)
      (sRet (eTup (aCons (eCall tupleA (aCons (eVar 2) (aNil))) (aCons (eBin addD (eC (.int 1)) (eCall sp_law_draw (aCons (eVar 0) (aCons (eC (.int 4)) (aNil))))) (aCons (eBin addD (eC (.int 1)) (eCall sp_law_draw (aCons (eVar 0) (aCons (eC (.int 50)) (aNil))))) (aNil)))))))) := rfl
    have h0 : Tw b most.toNat S (S ++ [.lst false [], .dct false []]) [] [] := by
      refine ⟨(Grew.refl hb).app _, hlt, by simp, ⟨[], by simp, by simp [valD_nil], by simp⟩, by simp, by simp, by simp⟩
    have hb0 := h0.bag
    rw [em]
    simp [sizeL]
    generalize hr_ : sp_law_draw [D.ref _, D.int _] _ = r_
    obtain ⟨d1, S1, hq_, a1, b1, w1, hb1⟩ := draw_of hr_ (by assumption) (by omega) (by omega)
    clear hr_
    subst hq_
    simp
    generalize hr_ : sp_law_draw [D.ref _, D.int _] _ = r_
    obtain ⟨d2, S2, hq_, a2, b2, w2, hb2⟩ := draw_of hr_ (by assumption) (by omega) (by omega)
    clear hr_
    subst hq_
    have h3 := (h0.drew w1).drew w2
    have hm : ∀ S, mulD (.int d1) (.int d2) S = .ok (.int (d1 * d2)) S := fun S => mulD_l (by omega)
    have hd : 0 ≤ d1 * d2 ∧ d1 * d2 ≤ 3 := by
      have : d2 = 0 ∨ d2 = 1 := by omega
      rcases this with rfl | rfl <;> omega
    have hwd : Wd (1 + d1 * d2) := wd_of (by omega) (by omega)
    have L := for_nx (g := noG) (tg := tN 4) (b := townOut) (items := rangeD 0 (1 + d1 * d2).toNat) (ρ := [some (.ref b), some (.int most), some (.ref S.length), some (.ref (S.length + 1)), none, none, none, none, none, none, none, none]) (S := S2)
      (fun i ρ S' => ∃ ls x4 x5 x6 x7 x8 x9 x10 x11, ρ = [some (.ref b), some (.int most), some (.ref S.length), some (.ref (S.length + 1)), x4, x5, x6, x7, x8, x9, x10, x11] ∧ Tw b most.toNat S S' ls [] ∧ ls.length = i)
      ⟨[], none, none, none, none, none, none, none, none, rfl, h3, rfl⟩ (fun _ _ _ _ => trivial) (by
        rintro i d ρ S' hd' ⟨ls, x4, x5, x6, x7, x8, x9, x10, x11, rfl, hT, hl⟩
        obtain ⟨hi, rfl⟩ := range_get hd'
        refine ⟨_, rfl, ?_⟩
        obtain ⟨ρ2, S3, e, cur, y5, y6, y7, y8, y9, y10, y11, rfl, h4⟩ := town_out (most := most) (x4 := some (.int (0 + (i : Int)))) (x5 := x5) (x6 := x6) (x7 := x7) (x8 := x8) (x9 := x9) (x10 := x10) (x11 := x11) (by omega) (by omega) (by omega) (by omega) hT
        exact ⟨_, S3, e, ls ++ [cur], _, _, _, _, _, _, _, _, rfl, h4, by simp [hl]⟩)
    obtain ⟨ρ', S', e, ls, x4, x5, x6, x7, x8, x9, x10, x11, rfl, hT, hl⟩ := L
    rw [rangeD_len] at hl
    have hb' := hT.bag
    have e1 := hT.loops
    simp [hm, hwd, e, e1]
    generalize hr_ : sp_law_draw [D.ref _, D.int _] _ = r_
    obtain ⟨d3, S3, hq_, a3, b3, w3, hb3⟩ := draw_of hr_ (by assumption) (by omega) (by omega)
    clear hr_
    subst hq_
    simp
    generalize hr_ : sp_law_draw [D.ref _, D.int _] _ = r_
    obtain ⟨d4, S4, hq_, a4, b4, w4, hb4⟩ := draw_of hr_ (by assumption) (by omega) (by omega)
    clear hr_
    subst hq_
    simp [sizeL]
    have hT2 := (hT.drew w3).drew w4
    exact hQ _ _ ⟨ls, _, _, rfl, ⟨by omega, by omega, by simpa using hT2.nd, by simpa using hT2.good, hT2.sz⟩, by omega, by omega, by omega, by omega, hT2.grew⟩
  obtain ⟨_, S', e, ls, r, s, rfl, hg, r1, r2, s1, s2, w⟩ := raw
  obtain ⟨q1, q2⟩ := gc_grew (d := .tup [.tup (ls.map loopD), .int r, .int s]) w hlt (by simp [bdL_loops])
  refine ⟨ls, r, s, S'.take S.length, ?_, hg, r1, r2, s1, s2, q2⟩
  show gc S _ = _
  rw [e]
  exact q1

end CW

namespace CW
open PySem PySem.Spec PyProof.Rows L2 MM
end CW

namespace CW
open PySem PySem.Spec PyProof.Rows L2 MM
def ahead : List Int → List Int → Bool
  | a :: r, b :: t => if a = b then ahead r t else decide (a = 1)
  | _, _ => false
theorem ahead_app : ∀ P X Y : List Int, ahead (P ++ X) (P ++ Y) = ahead X Y
  | [], _, _ => rfl
  | p :: P, X, Y => by simp [ahead, ahead_app P X Y]
theorem rowN_cons (d : Nat) (ds : List Nat) : rowN (d :: ds) = strokes d ++ ([0, 0] ++ rowN ds) := by simp [rowN, figsR, figR]
theorem strokes_add (a b : Nat) : strokes (a + b) = strokes a ++ strokes b := by
  unfold strokes
  rw [← List.flatten_append, List.replicate_append_replicate]
theorem strokes_one (a : Nat) : strokes (a + 1) = 1 :: 0 :: strokes a := by
  unfold strokes
  rw [List.replicate_succ]
  rfl
theorem ahead_lex : ∀ ds es : List Nat, (∀ d ∈ ds, 1 ≤ d) → (∀ d ∈ es, 1 ≤ d) → ahead (rowN ds) (rowN es) = decide (es < ds)
  | [], [], _, _ => by simp [rowN, figsR, ahead]
  | [], e :: es, _, he => by
    have h1 := he e List.mem_cons_self
    obtain ⟨k, rfl⟩ : ∃ k, e = k + 1 := ⟨e - 1, by omega⟩
    rw [rowN_cons, strokes_one]
    simp [rowN, figsR, ahead]
  | d :: ds, [], hd, _ => by
    have h1 := hd d List.mem_cons_self
    obtain ⟨k, rfl⟩ : ∃ k, d = k + 1 := ⟨d - 1, by omega⟩
    rw [rowN_cons, strokes_one]
    simp [rowN, figsR, ahead]
  | d :: ds, e :: es, hd, he => by
    rw [rowN_cons, rowN_cons]
    rcases Nat.lt_trichotomy d e with h | h | h
    · obtain ⟨k, rfl⟩ : ∃ k, e = d + (k + 1) := ⟨e - d - 1, by omega⟩
      rw [strokes_add, List.append_assoc, ahead_app, strokes_one]
      have : ¬ ((d + (k + 1)) :: es < d :: ds) := by
        rw [List.cons_lt_cons_iff]
        omega
      simp [ahead, this]
    · subst h
      rw [ahead_app, ahead_app, ahead_lex ds es (fun x hx => hd x (List.mem_cons_of_mem _ hx)) fun x hx => he x (List.mem_cons_of_mem _ hx)]
      simp [List.cons_lt_cons_iff]
    · obtain ⟨k, rfl⟩ : ∃ k, d = e + (k + 1) := ⟨d - e - 1, by omega⟩
      rw [strokes_add, List.append_assoc, ahead_app, strokes_one]
      have : e :: es < (e + (k + 1)) :: ds := by
        rw [List.cons_lt_cons_iff]
        omega
      simp [ahead, this]
/-- the first place at which two rows differ -/
def diffAt : List Int → List Int → Option Nat
  | a :: r, b :: t => if a = b then (diffAt r t).map (· + 1) else some 0
  | _, _ => none
theorem diffAt_self : ∀ A : List Int, diffAt A A = none
  | [] => rfl
  | a :: r => by simp [diffAt, diffAt_self r]
theorem diffAt_some : ∀ {A B : List Int} {k : Nat}, diffAt A B = some k → ∃ x y, A[k]? = some x ∧ B[k]? = some y ∧ x ≠ y ∧ ∀ i, i < k → A[i]? = B[i]?
  | [], B, k, h => by cases B <;> simp [diffAt] at h
  | a :: r, [], k, h => by simp [diffAt] at h
  | a :: r, b :: t, k, h => by
    unfold diffAt at h
    split at h
    · rename_i hab
      obtain ⟨j, hj, rfl⟩ := Option.map_eq_some_iff.mp h
      obtain ⟨x, y, h1, h2, h3, h4⟩ := diffAt_some hj
      refine ⟨x, y, by simpa using h1, by simpa using h2, h3, fun i hi => ?_⟩
      cases i with
      | zero => simp [hab]
      | succ i => simpa using h4 i (by omega)
    · rename_i hab
      cases h
      exact ⟨a, b, rfl, rfl, hab, fun i hi => absurd hi (Nat.not_lt_zero _)⟩
theorem ahead_diff : ∀ {A B : List Int}, ahead A B = true → ∃ k, diffAt A B = some k ∧ A[k]? = some 1
  | [], B, h => by cases B <;> simp [ahead] at h
  | a :: r, [], h => by simp [ahead] at h
  | a :: r, b :: t, h => by
    unfold ahead at h
    unfold diffAt
    split at h
    · rename_i hab
      obtain ⟨k, h1, h2⟩ := ahead_diff h
      exact ⟨k + 1, by simp [hab, h1], by simpa using h2⟩
    · rename_i hab
      have : a = 1 := by simpa using h
      exact ⟨0, by simp [hab], by simp [this]⟩
theorem lt_diff {ds es : List Nat} (hd : GoodN ds) (he : GoodN es) (h : es < ds) : ∃ k, diffAt (rowN ds) (rowN es) = some k ∧ (rowN ds)[k]? = some 1 :=
  ahead_diff (by rw [ahead_lex ds es (fun d h => (hd.fig d h).1) (fun d h => (he.fig d h).1)]; simpa using h)
end CW

namespace CW
open PySem PySem.Spec PyProof.Rows L2 MM
theorem row01 {ds : List Nat} : ∀ x ∈ rowN ds, x = 0 ∨ x = 1 := by
  intro x hx
  unfold rowN figsR figR at hx
  rcases List.mem_append.mp hx with hx | hx
  · obtain ⟨l, hl, hx⟩ := List.mem_flatten.mp hx
    obtain ⟨d, _, rfl⟩ := List.mem_map.mp hl
    rcases List.mem_append.mp hx with hx | hx
    · unfold strokes at hx
      obtain ⟨l, hl, hx⟩ := List.mem_flatten.mp hx
      rw [(List.mem_replicate.mp hl).2] at hx
      simp at hx
      omega
    · simp at hx
      omega
  · simp at hx
    omega
/-- the number at k, its row -/
def nK (l : List (List Nat)) (k : Nat) : List Nat := l.getD k []
def rowK (l : List (List Nat)) (k : Nat) : List Int := rowN (nK l k)
theorem nK_at {l : List (List Nat)} {k : Nat} {n : List Nat} (h : l[k]? = some n) : nK l k = n := by unfold nK; rw [List.getD_eq_getElem?_getD, h]; rfl
section
variable (l : List (List Nat)) (m : List Nat)
/-- where the number at k steps back -/
def dAt (k : Nat) : Option Nat := diffAt (rowN m) (rowK l k)
end
/-- the greatest of them stands at im -/
structure Mx (l : List (List Nat)) (m : List Nat) (im : Nat) : Prop where
  good : ∀ n ∈ l, GoodN n
  nd : l.Nodup
  at_ : l[im]? = some m
  ge : ∀ n ∈ l, n ≤ m
section
variable {l : List (List Nat)} {m : List Nat} {im : Nat}
theorem Mx.lt (h : Mx l m im) : im < l.length := (List.getElem?_eq_some_iff.mp h.at_).1
theorem Mx.gm (h : Mx l m im) : GoodN m := h.good m (List.mem_of_getElem? h.at_)
theorem Mx.row (h : Mx l m im) : rowK l im = rowN m := by unfold rowK; rw [nK_at h.at_]
theorem Mx.self (h : Mx l m im) : dAt l m im = none := by
  unfold dAt
  rw [h.row]
  exact diffAt_self _
theorem Mx.gk (h : Mx l m im) {k : Nat} (hk : k < l.length) : GoodN (nK l k) := by
  rw [nK_at (List.getElem?_eq_getElem hk)]
  exact h.good _ (List.getElem_mem hk)
theorem Mx.eq_iff (h : Mx l m im) {k : Nat} (hk : k < l.length) : nK l k = m ↔ k = im := by
  have h2 := List.getElem?_eq_some_iff.mp h.at_
  rw [nK_at (List.getElem?_eq_getElem hk)]
  constructor
  · intro q
    exact (List.getElem_inj h.nd).mp (q.trans h2.2.symm)
  · rintro rfl
    exact h2.2
theorem Mx.other (h : Mx l m im) {k : Nat} (hk : k < l.length) (hne : k ≠ im) : ∃ d, dAt l m k = some d ∧ (rowN m)[d]? = some 1 ∧ (rowK l k)[d]? = some 0 ∧ ∀ i, i < d → (rowN m)[i]? = (rowK l k)[i]? := by
  have hg := h.gk hk
  have hm : nK l k ∈ l := by rw [nK_at (List.getElem?_eq_getElem hk)]; exact List.getElem_mem hk
  have hlt : nK l k < m := by
    rcases List.le_iff_lt_or_eq.mp (h.ge _ hm) with q | q
    · exact q
    · exact absurd ((h.eq_iff hk).mp q) hne
  obtain ⟨d, h1, h2⟩ := lt_diff h.gm hg hlt
  obtain ⟨x, y, q1, q2, q3, q4⟩ := diffAt_some h1
  refine ⟨d, h1, h2, ?_, q4⟩
  show (rowN (nK l k))[d]? = some 0
  rw [q2]
  rw [h2] at q1
  cases q1
  rcases row01 y (List.mem_of_getElem? q2) with rfl | rfl
  · rfl
  · exact absurd rfl q3
end
end CW

namespace CW
open PySem PySem.Spec PyProof.Rows L2 MM
inductive Th : Nat → Nat → D → Prop
  | non {n m : Nat} : Th n m .non
  | bl {n m : Nat} (b : Bool) : Th n m (.bl b)
  | int {n m : Nat} (i : Int) : Th n m (.int i)
  | str {n m : Nat} {z : Str} (h : Fine 10 z) : Th n m (.str z)
  | tup {n m : Nat} {l : List D} (h : l.length ≤ m) (g : ∀ d ∈ l, Th n m d) : Th (n + 1) m (.tup l)
  | pl {n m : Nat} {l : List D} (h : l.length ≤ m) (g : ∀ d ∈ l, Th n m d) : Th (n + 1) m (.pl l)
theorem Th.mono {n m : Nat} {d : D} (h : Th n m d) : ∀ {n' m' : Nat}, n ≤ n' → m ≤ m' → Th n' m' d := by
  induction h with
  | non => intro _ _ _ _; exact .non
  | bl b => intro _ _ _ _; exact .bl b
  | int i => intro _ _ _ _; exact .int i
  | str h => intro _ _ _ _; exact .str h
  | tup h g ih =>
    intro n' m' h1 h2
    obtain ⟨k, rfl⟩ : ∃ k, n' = k + 1 := ⟨n' - 1, by omega⟩
    exact .tup (by omega) fun d hd => ih d hd (by omega) h2
  | pl h g ih =>
    intro n' m' h1 h2
    obtain ⟨k, rfl⟩ : ∃ k, n' = k + 1 := ⟨n' - 1, by omega⟩
    exact .pl (by omega) fun d hd => ih d hd (by omega) h2
theorem Th.plain {n m : Nat} {d : D} (h : Th n m d) : plD n d := by
  induction h with
  | non => unfold plD; trivial
  | bl b => unfold plD; trivial
  | int i => unfold plD; trivial
  | str h => unfold plD; exact h.uni.ok
  | tup h g ih => unfold plD; exact plL_iff.mpr ih
  | pl h g ih => unfold plD; exact plL_iff.mpr ih
theorem Th.ok {n m : Nat} {d : D} {S : Sto} (h : Th n m d) : okT S d := by
  cases h with
  | str h =>
    show Str.length _ ≤ sizeLine
    rw [sizeL]
    have := h.len
    omega
  | _ => trivial
theorem Th.uni {n m : Nat} {d : D} (h : Th n m d) : ∀ z, d = .str z → Uni z := by
  intro z e
  subst e
  cases h with
  | str h => exact h.uni
end CW

namespace CW
open PySem PySem.Spec PyProof.Rows L2 MM
noncomputable def m_spot_of : MS :=
  sSeq (sFor (iEA (eBin ixD (eVar 0) (eC (.int 0)))) (tTp 2 (tsCons (tN 2) (tsCons (tN 3) (tsNil)))) (sIf (tAn (tV (eUn (isiD .str) (eVar 1))) (tV (eBin inD (eVar 1) (eVar 3)))) (sRet (eTup (aCons (eVar 2) (aCons (eIdxT (eVar 3) (aCons (eVar 1) aNil)) (aNil))))) (sPass)))
  (sRet (eC .non))
noncomputable def sp_spot_of : FL := body 4 m_spot_of
structure Lps (x : D) (Ls : List (List (List Nat))) : Prop where
  eq : x = .tup (Ls.map loopD)
  pos : 1 ≤ Ls.length
  len : Ls.length ≤ 4
  sz : ∀ l ∈ Ls, 1 ≤ l.length ∧ l.length ≤ 12
  good : ∀ l ∈ Ls, ∀ ds ∈ l, GoodN ds
theorem Lps.inj {x : D} {A B : List (List (List Nat))} (h : Lps x A) (g : Lps x B) : A = B := by
  have e := h.eq.symm.trans g.eq
  injection e with e
  have li : ∀ {a b : List (List Nat)}, nD a = nD b → a = b := by
    intro a
    induction a with
    | nil => intro b h; cases b with | nil => rfl | cons x r => cases h
    | cons x r ih =>
      intro b h
      cases b with
      | nil => cases h
      | cons y t =>
        simp only [nD, List.map_cons, List.cons.injEq, D.str.injEq] at h
        rw [numS_inj h.1, ih (b := t) h.2]
  clear h g
  induction A generalizing B with
  | nil => cases B with | nil => rfl | cons x r => cases e
  | cons x r ih =>
    cases B with
    | nil => cases e
    | cons y t =>
      simp only [List.map_cons, List.cons.injEq, loopD, D.tup.injEq] at e
      rw [li e.1, ih (B := t) e.2]
def spotS (z : Str) : List (List (List Nat)) → Option (Nat × Nat)
  | [] => none
  | l :: r => if z ∈ l.map numS then some (0, (l.map numS).idxOf z) else (spotS z r).map fun p => (p.1 + 1, p.2)
theorem spotS_cons {z : Str} {l : List (List Nat)} {r : List (List (List Nat))} : spotS z (l :: r) = if z ∈ l.map numS then some (0, (l.map numS).idxOf z) else (spotS z r).map fun p => (p.1 + 1, p.2) := rfl
def spotD : Option (Nat × Nat) → D
  | none => .non
  | some p => .tup [.int (p.1 : Int), .int (p.2 : Int)]
theorem txts_nD : ∀ l : List (List Nat), txts (nD l) = some (l.map numS)
  | [] => rfl
  | a :: l => by
    show (txts (nD l)).map (numS a :: ·) = _
    rw [txts_nD l]
    rfl
theorem inL_str {z : Str} : ∀ {l : List (List Nat)}, inL (.str z) (nD l) = decide (z ∈ l.map numS)
  | [] => by simp [nD, inL]
  | a :: l => by
    have ih := inL_str (z := z) (l := l)
    unfold inL nD at ih ⊢
    rw [List.map_cons, List.any_cons, ih]
    by_cases h : z = numS a
    · subst h
      simp [eqF]
    · have h2 : ¬ (numS a = z) := fun e => h e.symm
      simp [h, h2, eqF]
theorem in_tupS {z : Str} {l : List (List Nat)} {S : Sto} : inD (.str z) (.tup (nD l)) S = .ok (.bl (decide (z ∈ l.map numS))) S := by
  have : MM.inB S (.str z) (.tup (nD l)) = some (decide (z ∈ l.map numS)) := by
    unfold MM.inB
    simp only [flat_nD, flatD, and_self, if_true, inL_str]
  unfold inD
  rw [this]
theorem index_ev {z : Str} {l : List (List Nat)} {S : Sto} (h : z ∈ l.map numS) : indexTD (.tup (nD l)) [.str z] S = .ok (.int ((l.map numS).idxOf z : Nat)) S := by
  unfold indexTD
  simp only [txts_nD, if_pos h]
theorem isTx_nD {l : List (List Nat)} (h : l ≠ []) : isTx (nD l) = true := isTx_txts (txts_nD l) (by unfold nD; simpa using h)
theorem spot_ev {ls : List (List (List Nat))} {t : List D} {z : Str} {S : Sto} : sp_spot_of [.tup (.tup (ls.map loopD) :: t), .str z] S = .ok (spotD (spotS z ls)) S := by
  unfold sp_spot_of m_spot_of
  have t0 : atI (.tup (ls.map loopD) :: t) 0 = some (.tup (ls.map loopD)) := atI_nat (j := 0) rfl
  simp -implicitDefEqProofs [t0]
  generalize hB : sIf _ _ _ = B
  refine for_post (g := noG) (Post := fun r => (r.then (sRet (eC .non))).end = .ok (spotD (spotS z ls)) S)
    (fun k ρ S' => S' = S ∧ (∃ x y, ρ = [some (.tup (.tup (ls.map loopD) :: t)), some (.str z), x, y]) ∧ spotS z ls = (spotS z (ls.drop k)).map fun p => (p.1 + k, p.2)) _ 0 _ _ ⟨rfl, ⟨none, none, rfl⟩, by rw [List.drop_zero]; generalize spotS z ls = o; cases o <;> rfl⟩ (fun _ _ _ _ => trivial) ?_ ?_
  · rintro ρ S' ⟨rfl, ⟨x, y, rfl⟩, h⟩
    rw [enumD_len, List.length_map, Nat.zero_add, List.drop_length] at h
    simp [h, spotS, spotD]
  · rintro i d ρ S' hd ⟨rfl, ⟨x, y, rfl⟩, h⟩
    obtain ⟨l', hx, rfl⟩ := enumD_get hd
    rw [List.getElem?_map] at hx
    obtain ⟨l, hl, rfl⟩ := Option.map_eq_some_iff.mp hx
    rw [Nat.zero_add] at h
    have hdr : ls.drop i = l :: ls.drop (i + 1) := by
      obtain ⟨h1, h2⟩ := List.getElem?_eq_some_iff.mp hl
      rw [List.drop_eq_getElem_cons h1, h2]
    rw [hdr, spotS_cons] at h
    refine ⟨[some (.tup (.tup (ls.map loopD) :: t)), some (.str z), some (.int (i : Int)), some (loopD l)], by simp, ?_⟩
    have e1 := in_tupS (z := z) (l := l) (S := S')
    subst hB
    by_cases hz : z ∈ l.map numS
    · rw [if_pos hz] at h
      have e2 := index_ev (S := S') hz
      have hn : l ≠ [] := fun e => by rw [e] at hz; cases hz
      have e3 : txD (loopD l) = true := isTx_nD hn
      rw [decide_eq_true hz] at e1
      unfold loopD at e3 ⊢
      generalize nD l = L at *
      simp -implicitDefEqProofs [e1, eIdxT, eMeth, e2, e3, sizeL, h, spotD]
    · rw [if_neg hz] at h
      rw [decide_eq_false hz] at e1
      unfold loopD
      generalize nD l = L at *
      simp -implicitDefEqProofs [e1]
      rw [h]
      cases spotS z (ls.drop (i + 1)) with
      | none => rfl
      | some p => simp; omega
/-- what is no text stands nowhere -/
theorem spot_no {ls : List (List (List Nat))} {t : List D} {d : D} {S : Sto} (hd : isiD .str d S = .ok (.bl false) S) : sp_spot_of [.tup (.tup (ls.map loopD) :: t), d] S = .ok .non S := by
  unfold sp_spot_of m_spot_of
  have t0 : atI (.tup (ls.map loopD) :: t) 0 = some (.tup (ls.map loopD)) := atI_nat (j := 0) rfl
  simp -implicitDefEqProofs [t0]
  generalize hB : sIf _ _ _ = B
  have L := for_nx (g := noG) (tg := tTp 2 (tsCons (tN 2) (tsCons (tN 3) tsNil))) (b := B) (items := enumD (ls.map loopD)) (ρ := [some (.tup (.tup (ls.map loopD) :: t)), some d, none, none]) (S := S)
    (fun i ρ S' => S' = S ∧ ∃ x y, ρ = [some (.tup (.tup (ls.map loopD) :: t)), some d, x, y]) ⟨rfl, _, _, rfl⟩ (fun _ _ _ _ => trivial) (by
      rintro i e ρ S' he ⟨rfl, x, y, rfl⟩
      obtain ⟨l', hx, rfl⟩ := enumD_get he
      refine ⟨[some (.tup (.tup (ls.map loopD) :: t)), some d, some (.int (i : Int)), some l'], by simp, nx_of fun Q hQ => ?_⟩
      subst hB
      simp -implicitDefEqProofs [hd]
      exact hQ _ _ ⟨rfl, _, _, rfl⟩)
  obtain ⟨ρ', S', e, rfl, x, y, rfl⟩ := L
  rw [e]
  simp
theorem spot_none {z : Str} : ∀ {ls : List (List (List Nat))}, (∀ l ∈ ls, z ∉ l.map numS) → spotS z ls = none
  | [], _ => rfl
  | l :: r, h => by
    unfold spotS
    rw [if_neg (h l (by simp)), spot_none fun m hm => h m (by simp [hm])]
    rfl
/-- where a number of the town stands -/
theorem spot_at : ∀ {ls : List (List (List Nat))} {i j : Nat} {l : List (List Nat)} {ds : List Nat}, ls.flatten.Nodup → ls[i]? = some l → l[j]? = some ds → spotS (numS ds) ls = some (i, j)
  | [], i, j, l, ds, _, h, _ => by simp at h
  | m :: r, i, j, l, ds, hn, h, hj => by
    rw [List.flatten_cons, List.nodup_append] at hn
    unfold spotS
    cases i with
    | zero =>
      simp at h
      subst h
      rw [if_pos (numS_mem.mpr (List.mem_of_getElem? hj))]
      congr 2
      obtain ⟨h1, h2⟩ := List.getElem?_eq_some_iff.mp hj
      have hnd : (m.map numS).Nodup := List.Pairwise.map _ (fun a b hab e => hab (numS_inj e)) hn.1
      have e1 : (m.map numS)[j]'(by simpa using h1) = numS ds := by simp [h2]
      rw [← e1]
      exact List.Nodup.idxOf_getElem hnd j _
    | succ i =>
      have h' : r[i]? = some l := by simpa using h
      have hne : ¬ (numS ds ∈ m.map numS) := fun q => by
        have q := numS_mem.mp q
        exact hn.2.2 ds q ds (List.mem_flatten.mpr ⟨l, List.mem_of_getElem? h', List.mem_of_getElem? hj⟩) rfl
      rw [if_neg hne, spot_at hn.2.1 h' hj]
      rfl
end CW

namespace CW
open PySem PySem.Spec PyProof.Rows L2 MM
end CW

namespace LK07
open PySem PySem.Spec PyProof.Rows L2 MM CW
/-- law(_law_script); slots 0 _law_script, 1 _law_k, 2 _law_bag_here, 3 _law_odd_here, 4 _law_town_here, 5 _law_spots, 6 _law_loop, 7 _law_numbers, 8 _law_place, 9 _law_number, 10 _law_told, 11 _law_one -/
noncomputable def m_law : MS :=
  sSeq (sFor (iA (eCall CW.sp_law_many (aCons (eVar 0) (aCons (eC (.int 2)) (aCons (eC (.int 6)) (aNil)))))) (tN 1) (sSeq (sSet 2 (eCall CW.sp_law_bag (aCons (eVar 0) (aCons (eVar 1) (aNil)))))
  (sSeq (sSet 3 (eCall CW.sp_law_odd (aCons (eVar 2) (aNil))))
  (sSeq (sSet 4 (eCall CW.sp_law_town (aCons (eVar 2) (aCons (eBin ixD (eTup (aCons (eC (.int 3)) (aCons (eC (.int 6)) (aCons (eC (.int 12)) (aNil))))) (eCall CW.sp_law_draw (aCons (eVar 2) (aCons (eC (.int 3)) (aNil))))) (aNil)))))
  (sSeq (sSet 5 (eDNew))
  (sSeq (sFor (iEA (eBin ixD (eVar 4) (eC (.int 0)))) (tTp 2 (tsCons (tN 6) (tsCons (tN 7) (tsNil)))) (sFor (iEA (eVar 7)) (tTp 2 (tsCons (tN 8) (tsCons (tN 9) (tsNil)))) (sSeq (sSetA (eVar 5) (eVar 9) (eTup (aCons (eVar 6) (aCons (eVar 8) (aNil)))))
  (sSeq (sSet 10 (eCall CW.sp_spot_of (aCons (eVar 4) (aCons (eVar 9) (aNil)))))
  (sIf (tOo (tV (eBin neD (eVar 10) (eTup (aCons (eVar 6) (aCons (eVar 8) (aNil)))))) (tOo (tNt (tV (eUn (isiD .tuple) (eVar 10)))) (tNt (tV (eLs allD (lComp (iA (eVar 10)) [11] (tN 11) tYs (eCall CW.sp_law_whole (aCons (eVar 11) (aNil))))))))) (sRet (eC (.bl false))) (sPass))))))
  (sSeq (sFor (iA (eTup (aCons (eCall CW.sp_law_figures (aCons (eVar 2) (aNil))) (aCons (eCall CW.sp_law_figures (aCons (eVar 2) (aNil))) (aCons (eBin addD (eBin ixD (eBin ixD (eBin ixD (eVar 4) (eC (.int 0))) (eC (.int 0))) (eC (.int 0))) (eC (.str "1"))) (aCons (eSl (eBin ixD (eBin ixD (eBin ixD (eVar 4) (eC (.int 0))) (eC (.int 0))) (eC (.int 0))) (oN) (oS (eUn negD (eC (.int 1))))) (aNil))))))) (tN 9) (sIf (tV (eBin neD (eCall CW.sp_spot_of (aCons (eVar 4) (aCons (eVar 9) (aNil)))) (eDGet1 (eVar 5) (eVar 9)))) (sRet (eC (.bl false))) (sPass)))
  (sSeq (sIf (tAn (tNt (tV (eUn (isiD .str) (eVar 3)))) (tV (eBin notND (eCall CW.sp_spot_of (aCons (eVar 4) (aCons (eVar 3) (aNil)))) (eC .non)))) (sRet (eC (.bl false))) (sPass))
  (sIf (tOo (tV (eBin notND (eCall CW.sp_spot_of (aCons (eVar 4) (aCons (eBin ixD (eBin ixD (eVar 4) (eC (.int 0))) (eC (.int 0))) (aNil)))) (eC .non))) (tV (eBin notND (eCall CW.sp_spot_of (aCons (eVar 4) (aCons (eTup (aCons (eBin ixD (eBin ixD (eBin ixD (eVar 4) (eC (.int 0))) (eC (.int 0))) (eC (.int 0))) (aNil))) (aNil)))) (eC .non)))) (sRet (eC (.bl false))) (sPass))))))))))
  (sRet (eC (.bl true)))
noncomputable def sp_law : FL := body 12 m_law
/-! ### the law's own book of places -/
def entL (i k : Nat) (l : List (List Nat)) : List (Key × D) := (l.zipIdx k).map fun p => ((.inr (numS p.1) : Key), D.tup [.int (i : Int), .int (p.2 : Int)])
def entT (k : Nat) : List (List (List Nat)) → List (Key × D)
  | [] => []
  | l :: r => entL k 0 l ++ entT (k + 1) r
theorem valD_append (A B : List (Key × D)) (k : Key) : valD (A ++ B) k = (valD A k).or (valD B k) := by
  induction A with
  | nil => simp [valD_nil]
  | cons x A ih =>
    obtain ⟨j, d⟩ := x
    rw [List.cons_append, valD_cons, valD_cons, ih]
    by_cases h : j = k <;> simp [h]
theorem valL {z : Str} {i : Nat} : ∀ {l : List (List Nat)} {k : Nat}, valD (entL i k l) (.inr z) = if z ∈ l.map numS then some (.tup [.int (i : Int), .int ((k + (l.map numS).idxOf z : Nat) : Int)]) else none
  | [], k => by simp [entL, valD_nil]
  | a :: l, k => by
    have ih := valL (z := z) (i := i) (l := l) (k := k + 1)
    have e : entL i k (a :: l) = ((.inr (numS a) : Key), D.tup [.int (i : Int), .int (k : Int)]) :: entL i (k + 1) l := rfl
    rw [e, valD_cons, ih]
    by_cases h : numS a = z
    · subst h
      rw [if_pos rfl]
      simp [List.idxOf_cons]
    · have h2 : ¬ ((.inr (numS a) : Key) = .inr z) := fun q => h (by injection q)
      have h3 : ¬ (z = numS a) := fun q => h q.symm
      rw [if_neg h2, List.map_cons]
      by_cases hm : z ∈ l.map numS
      · rw [if_pos hm, if_pos (List.mem_cons_of_mem _ hm), List.idxOf_cons]
        have hb : (numS a == z) = false := by simpa using h
        rw [hb]
        simp only [cond_false]
        congr 5
        omega
      · have : ¬ (z ∈ numS a :: l.map numS) := fun q => (List.mem_cons.mp q).elim h3 hm
        rw [if_neg hm, if_neg this]
theorem valT {z : Str} : ∀ {ls : List (List (List Nat))} {k : Nat}, valD (entT k ls) (.inr z) = (spotS z ls).map fun p => D.tup [.int ((p.1 + k : Nat) : Int), .int (p.2 : Int)]
  | [], k => by simp [entT, spotS, valD_nil]
  | l :: r, k => by
    unfold entT
    rw [valD_append, valL, valT (ls := r) (k := k + 1), spotS_cons]
    by_cases h : z ∈ l.map numS
    · rw [if_pos h, if_pos h]
      simp
    · rw [if_neg h, if_neg h]
      cases spotS z r with
      | none => rfl
      | some p =>
        simp
        omega
theorem entT_snoc : ∀ (A : List (List (List Nat))) (l : List (List Nat)) (k : Nat), entT k (A ++ [l]) = entT k A ++ entL (k + A.length) 0 l
  | [], l, k => by simp [entT]
  | a :: A, l, k => by
    rw [List.cons_append]
    unfold entT
    rw [entT_snoc A l (k + 1), List.append_assoc, List.length_cons]
    congr 3
    omega
theorem entL_len (i k : Nat) (l : List (List Nat)) : (entL i k l).length = l.length := by simp [entL]
theorem entT_len : ∀ (A : List (List (List Nat))) (k : Nat), (entT k A).length = A.flatten.length
  | [], k => rfl
  | a :: A, k => by
    unfold entT
    rw [List.length_append, entL_len, entT_len A (k + 1), List.flatten_cons, List.length_append]
theorem getOut_ev {ls : List (List (List Nat))} {z : Str} : ((valD (entT 0 ls) (.inr z)).getD .non) = spotD (spotS z ls) := by
  rw [valT]
  cases spotS z ls with
  | none => rfl
  | some p => rfl
theorem plSpot (o : Option (Nat × Nat)) : plD 2 (spotD o) := by
  cases o with
  | none => simp [spotD, plD]
  | some p => simp [spotD, plD, plL]
/-! ### one number, one loop -/
noncomputable def numB : MS := sSeq (sSetA (eVar 5) (eVar 9) (eTup (aCons (eVar 6) (aCons (eVar 8) (aNil)))))
  (sSeq (sSet 10 (eCall CW.sp_spot_of (aCons (eVar 4) (aCons (eVar 9) (aNil)))))
  (sIf (tOo (tV (eBin neD (eVar 10) (eTup (aCons (eVar 6) (aCons (eVar 8) (aNil)))))) (tOo (tNt (tV (eUn (isiD .tuple) (eVar 10)))) (tNt (tV (eLs allD (lComp (iA (eVar 10)) [11] (tN 11) tYs (eCall CW.sp_law_whole (aCons (eVar 11) (aNil))))))))) (sRet (eC (.bl false))) (sPass)))
theorem num_turn {ls : List (List (List Nat))} (hn : ls.flatten.Nodup) (hz : ls.flatten.length ≤ 1000) {i j : Nat} {l : List (List Nat)} {ds : List Nat} (hl : ls[i]? = some l) (hj : l[j]? = some ds) {S : Sto} {r s : D} {x0 x1 x2 x3 x7 x10 x11 : Option D} :
    numB [x0, x1, x2, x3, some (.tup [.tup (ls.map loopD), r, s]), some (.ref S.length), some (.int (i : Int)), x7, some (.int (j : Int)), some (.str (numS ds)), x10, x11] (S ++ [.dct false (entT 0 (ls.take i) ++ entL i 0 (l.take j))]) =
    .nx [x0, x1, x2, x3, some (.tup [.tup (ls.map loopD), r, s]), some (.ref S.length), some (.int (i : Int)), x7, some (.int (j : Int)), some (.str (numS ds)), some (.tup [.int (i : Int), .int (j : Int)]), x11] (S ++ [.dct false (entT 0 (ls.take i) ++ entL i 0 (l.take (j + 1)))]) := by
  have hi := (List.getElem?_eq_some_iff.mp hl).1
  have hjl := (List.getElem?_eq_some_iff.mp hj).1
  have hli : (ls.take i).length = i := by rw [List.length_take]; omega
  have hlj : (l.take j).length = j := by rw [List.length_take]; omega
  have hsn : entT 0 (ls.take i) ++ entL i 0 (l.take j) = entT 0 (ls.take i ++ [l.take j]) := by rw [entT_snoc, hli, Nat.zero_add]
  have hg : (S ++ [O.dct false (entT 0 (ls.take i) ++ entL i 0 (l.take j))])[S.length]? = some (.dct false (entT 0 (ls.take i) ++ entL i 0 (l.take j))) := by simp
  have hlen : (entT 0 (ls.take i) ++ entL i 0 (l.take j)).length ≤ 1000 := by
    rw [List.length_append, entT_len, entL_len, hlj]
    have h1 := congrArg (fun q : List (List (List Nat)) => q.flatten.length) (List.take_append_drop i ls)
    have h2 : ls.drop i = l :: ls.drop (i + 1) := by
      obtain ⟨a, b⟩ := List.getElem?_eq_some_iff.mp hl
      rw [List.drop_eq_getElem_cons a, b]
    rw [h2] at h1
    simp only [List.flatten_append, List.flatten_cons, List.length_append] at h1
    omega
  have hno : valD (entT 0 (ls.take i) ++ entL i 0 (l.take j)) (.inr (numS ds)) = none := by
    rw [hsn, valT, spot_none]
    · rfl
    · have hsp : ls.flatten = (ls.take i).flatten ++ (l.take j ++ (ds :: (l.drop (j + 1) ++ (ls.drop (i + 1)).flatten))) := by
        have h1 : ls = ls.take i ++ l :: ls.drop (i + 1) := by
          obtain ⟨a, b⟩ := List.getElem?_eq_some_iff.mp hl
          conv => lhs; rw [← List.take_append_drop i ls, List.drop_eq_getElem_cons a, b]
        have h2 : l = l.take j ++ ds :: l.drop (j + 1) := by
          obtain ⟨a, b⟩ := List.getElem?_eq_some_iff.mp hj
          conv => lhs; rw [← List.take_append_drop j l, List.drop_eq_getElem_cons a, b]
        conv => lhs; rw [h1, List.flatten_append, List.flatten_cons]
        conv => lhs; rw [h2]
        simp
      rw [hsp, List.nodup_append] at hn
      obtain ⟨n1, n2, n3⟩ := hn
      rw [List.nodup_append] at n2
      intro m hm q
      have q := numS_mem.mp q
      rcases List.mem_append.mp hm with hm | hm
      · exact n3 ds (List.mem_flatten.mpr ⟨m, hm, q⟩) ds (by simp) rfl
      · rw [List.mem_singleton.mp hm] at q
        exact n2.2.2 ds q ds (by simp) rfl
  have hput : putD (entT 0 (ls.take i) ++ entL i 0 (l.take j)) (.inr (numS ds)) (.tup [.int (i : Int), .int (j : Int)]) = entT 0 (ls.take i) ++ entL i 0 (l.take (j + 1)) := by
    unfold putD
    rw [valD_any, hno]
    have e1 : l.take (j + 1) = l.take j ++ [ds] := by rw [List.take_add_one, hj]; rfl
    rw [e1]
    have e2 : entL i 0 (l.take j ++ [ds]) = entL i 0 (l.take j) ++ [((.inr (numS ds) : Key), D.tup [.int (i : Int), .int (j : Int)])] := by
      unfold entL
      rw [List.zipIdx_append, List.map_append, hlj]
      simp
    rw [e2]
    simp
  have e1 := setA_ev (z := numS ds) (v := .tup [.int (i : Int), .int (j : Int)]) hg (by omega)
  rw [hput] at e1
  have hst : (S ++ [O.dct false (entT 0 (ls.take i) ++ entL i 0 (l.take j))]).set S.length (.dct false (entT 0 (ls.take i) ++ entL i 0 (l.take (j + 1)))) = S ++ [.dct false (entT 0 (ls.take i) ++ entL i 0 (l.take (j + 1)))] := by
    rw [List.set_append_right _ _ (Nat.le_refl _), Nat.sub_self]
    rfl
  rw [hst] at e1
  generalize S ++ [O.dct false (entT 0 (ls.take i) ++ entL i 0 (l.take j))] = T at *
  generalize S ++ [O.dct false (entT 0 (ls.take i) ++ entL i 0 (l.take (j + 1)))] = T' at *
  have e2 := spot_ev (ls := ls) (t := [r, s]) (z := numS ds) (S := T')
  rw [spot_at hn hl hj] at e2
  have e3 := ne_same (S := T') (d := .tup [.int (i : Int), .int (j : Int)]) (n := 2) (by simp [plD, plL]) (by decide)
  have e4 := lcOf (g := noG) (tg := tN 11) (m := eCall CW.sp_law_whole (aCons (eVar 11) aNil)) (ρ := [x0, x1, x2, x3, some (.tup [.tup (ls.map loopD), r, s]), some (.ref S.length), some (.int (i : Int)), x7, some (.int (j : Int)), some (.str (numS ds)), some (.tup [.int (i : Int), .int (j : Int)]), none]) (S := T') (fun (k : Int) => D.int k) (fun _ => D.bl true) trivial (l := [(i : Int), (j : Int)]) (fun k _ => ⟨_, rfl, by
    have := law_whole_ev (x := .int k) (S := T') trivial
    simp [this]⟩)
  rw [show [(i : Int), (j : Int)].map (fun (k : Int) => D.int k) = [.int (i : Int), .int (j : Int)] from rfl, show [(i : Int), (j : Int)].map (fun _ => D.bl true) = [.bl true, .bl true] from rfl] at e4
  have e5 : allD [.bl true, .bl true] T' = .ok (.bl true) T' := rfl
  unfold numB
  generalize ls.map loopD = LL at *
  simp -implicitDefEqProofs [e1, e2, e3, e4, e5, spotD, sizeL]
theorem loop_turn {ls : List (List (List Nat))} (hn : ls.flatten.Nodup) (hz : ls.flatten.length ≤ 1000) {i : Nat} {l : List (List Nat)} (hl : ls[i]? = some l) {S : Sto} {r s : D} {x0 x1 x2 x3 x8 x9 x10 x11 : Option D} :
    ∃ y8 y9 y10, sFor (iEA (eVar 7)) (tTp 2 (tsCons (tN 8) (tsCons (tN 9) (tsNil)))) numB [x0, x1, x2, x3, some (.tup [.tup (ls.map loopD), r, s]), some (.ref S.length), some (.int (i : Int)), some (loopD l), x8, x9, x10, x11] (S ++ [.dct false (entT 0 (ls.take i))]) =
    .nx [x0, x1, x2, x3, some (.tup [.tup (ls.map loopD), r, s]), some (.ref S.length), some (.int (i : Int)), some (loopD l), y8, y9, y10, x11] (S ++ [.dct false (entT 0 (ls.take (i + 1)))]) := by
  have hi := (List.getElem?_eq_some_iff.mp hl).1
  have hli : (ls.take i).length = i := by rw [List.length_take]; omega
  have L := for_nx (g := noG) (tg := tTp 2 (tsCons (tN 8) (tsCons (tN 9) tsNil))) (b := numB) (items := enumD (nD l)) (ρ := [x0, x1, x2, x3, some (.tup [.tup (ls.map loopD), r, s]), some (.ref S.length), some (.int (i : Int)), some (loopD l), x8, x9, x10, x11]) (S := S ++ [.dct false (entT 0 (ls.take i))])
    (fun j ρ S' => S' = S ++ [.dct false (entT 0 (ls.take i) ++ entL i 0 (l.take j))] ∧ ∃ y8 y9 y10, ρ = [x0, x1, x2, x3, some (.tup [.tup (ls.map loopD), r, s]), some (.ref S.length), some (.int (i : Int)), some (loopD l), y8, y9, y10, x11])
    ⟨by simp [entL], _, _, _, rfl⟩ (fun _ _ _ _ => trivial) (by
      rintro j d ρ S' hd ⟨rfl, y8, y9, y10, rfl⟩
      obtain ⟨x, hx, rfl⟩ := enumD_get hd
      unfold nD at hx
      rw [List.getElem?_map] at hx
      obtain ⟨ds, hds, rfl⟩ := Option.map_eq_some_iff.mp hx
      refine ⟨[x0, x1, x2, x3, some (.tup [.tup (ls.map loopD), r, s]), some (.ref S.length), some (.int (i : Int)), some (loopD l), some (.int (j : Int)), some (.str (numS ds)), y10, x11], by simp, ?_⟩
      rw [num_turn hn hz hl hds]
      exact ⟨_, _, rfl, rfl, _, _, _, rfl⟩)
  obtain ⟨ρ', S', e, rfl, y8, y9, y10, rfl⟩ := L
  rw [enumD_len, nD_length, List.take_length] at e
  refine ⟨y8, y9, y10, ?_⟩
  have e1 : ls.take (i + 1) = ls.take i ++ [l] := by rw [List.take_add_one, hl]; rfl
  rw [e1, entT_snoc, hli, Nat.zero_add]
  unfold loopD at e ⊢
  simp -implicitDefEqProofs [e]
/-! ### what else is asked -/
noncomputable def askB : MS := sIf (tV (eBin neD (eCall CW.sp_spot_of (aCons (eVar 4) (aCons (eVar 9) (aNil)))) (eDGet1 (eVar 5) (eVar 9)))) (sRet (eC (.bl false))) (sPass)
theorem ask_ev {ls : List (List (List Nat))} {r s : D} {S : Sto} {q : Nat} {zs : List Str} (hq : S[q]? = some (.dct false (entT 0 ls))) {x0 x1 x2 x3 x6 x7 x8 x9 x10 x11 : Option D} :
    ∃ y9, forD noG (tN 9) askB (zs.map D.str) [x0, x1, x2, x3, some (.tup [.tup (ls.map loopD), r, s]), some (.ref q), x6, x7, x8, x9, x10, x11] S = .nx [x0, x1, x2, x3, some (.tup [.tup (ls.map loopD), r, s]), some (.ref q), x6, x7, x8, y9, x10, x11] S := by
  have L := for_nx (g := noG) (tg := tN 9) (b := askB) (items := zs.map D.str) (ρ := [x0, x1, x2, x3, some (.tup [.tup (ls.map loopD), r, s]), some (.ref q), x6, x7, x8, x9, x10, x11]) (S := S)
    (fun j ρ S' => S' = S ∧ ∃ y9, ρ = [x0, x1, x2, x3, some (.tup [.tup (ls.map loopD), r, s]), some (.ref q), x6, x7, x8, y9, x10, x11])
    ⟨rfl, _, rfl⟩ (fun _ _ _ _ => trivial) (by
      rintro j d ρ S' hd ⟨rfl, y9, rfl⟩
      rw [List.getElem?_map] at hd
      obtain ⟨z, hz, rfl⟩ := Option.map_eq_some_iff.mp hd
      have e1 := spot_ev (ls := ls) (t := [r, s]) (z := z) (S := S')
      have e2 := getOr_ev (z := z) (d := .non) hq
      rw [getOut_ev] at e2
      have e3 := ne_same (S := S') (plSpot (spotS z ls)) (by decide)
      refine ⟨_, rfl, nx_of fun Q hQ => ?_⟩
      unfold askB
      generalize spotD (spotS z ls) = V at *
      generalize ls.map loopD = LL at *
      simp -implicitDefEqProofs [e1, e2, e3, isDR_ev hq]
      exact hQ _ _ ⟨rfl, _, rfl⟩)
  obtain ⟨ρ', S', e, rfl, y9, rfl⟩ := L
  exact ⟨y9, e⟩
noncomputable def lastB : MS := sSeq (sIf (tAn (tNt (tV (eUn (isiD .str) (eVar 3)))) (tV (eBin notND (eCall CW.sp_spot_of (aCons (eVar 4) (aCons (eVar 3) (aNil)))) (eC .non)))) (sRet (eC (.bl false))) (sPass))
  (sIf (tOo (tV (eBin notND (eCall CW.sp_spot_of (aCons (eVar 4) (aCons (eBin ixD (eBin ixD (eVar 4) (eC (.int 0))) (eC (.int 0))) (aNil)))) (eC .non))) (tV (eBin notND (eCall CW.sp_spot_of (aCons (eVar 4) (aCons (eTup (aCons (eBin ixD (eBin ixD (eBin ixD (eVar 4) (eC (.int 0))) (eC (.int 0))) (eC (.int 0))) (aNil))) (aNil)))) (eC .non)))) (sRet (eC (.bl false))) (sPass))
theorem last_ev {l : List (List Nat)} {ls : List (List (List Nat))} {ds : List Nat} {r s d : D} {S : Sto} (hd : okT S d) {x0 x1 x2 x5 x6 x7 x8 x9 x10 x11 : Option D} :
    lastB [x0, x1, x2, some d, some (.tup [.tup ((((ds :: l)) :: ls).map loopD), r, s]), x5, x6, x7, x8, x9, x10, x11] S = .nx [x0, x1, x2, some d, some (.tup [.tup ((((ds :: l)) :: ls).map loopD), r, s]), x5, x6, x7, x8, x9, x10, x11] S := by
  generalize hL : ((ds :: l) :: ls) = LS
  have t0 : atI [D.tup (LS.map loopD), r, s] 0 = some (.tup (LS.map loopD)) := atI_nat (j := 0) rfl
  have t1 : atI (LS.map loopD) 0 = some (.tup (nD (ds :: l))) := by subst hL; exact atI_nat (j := 0) rfl
  have t2 : atI (nD (ds :: l)) 0 = some (.str (numS ds)) := atI_nat (j := 0) rfl
  have e1 := spot_no (ls := LS) (t := [r, s]) (d := .tup (nD (ds :: l))) (S := S) (isi_of S _ trivial (fun z e => by cases e))
  have e2 := spot_no (ls := LS) (t := [r, s]) (d := .tup [.str (numS ds)]) (S := S) (isi_of S _ trivial (fun z e => by cases e))
  unfold lastB
  have n0 : notND .non .non S = .ok (.bl false) S := rfl
  by_cases hs : ∃ z, d = .str z
  · obtain ⟨z, rfl⟩ := hs
    generalize LS.map loopD = LL at *
    generalize nD (ds :: l) = NL at *
    simp -implicitDefEqProofs [t0, t1, t2, e1, e2, n0, sizeL]
  · have h1 := isi_of S d hd (fun z e => hs ⟨z, e⟩)
    have e3 := spot_no (ls := LS) (t := [r, s]) (d := d) (S := S) h1
    generalize LS.map loopD = LL at *
    generalize nD (ds :: l) = NL at *
    simp -implicitDefEqProofs [t0, t1, t2, e1, e2, e3, h1, n0, sizeL]
theorem law_turn {ns : List Int} (hns : ns.length ≤ 63) {i : Nat} (hi : i < 7) {S : Sto} {x2 x3 x4 x5 x6 x7 x8 x9 x10 x11 : Option D} :
    Ran (fun ρ => ∃ x1 x2 x3 x4 x5 x6 x7 x8 x9 x10 x11, ρ = [some (.scr ns), x1, x2, x3, x4, x5, x6, x7, x8, x9, x10, x11]) ((sSeq (sSet 2 (eCall CW.sp_law_bag (aCons (eVar 0) (aCons (eVar 1) (aNil)))))
  (sSeq (sSet 3 (eCall CW.sp_law_odd (aCons (eVar 2) (aNil))))
  (sSeq (sSet 4 (eCall CW.sp_law_town (aCons (eVar 2) (aCons (eBin ixD (eTup (aCons (eC (.int 3)) (aCons (eC (.int 6)) (aCons (eC (.int 12)) (aNil))))) (eCall CW.sp_law_draw (aCons (eVar 2) (aCons (eC (.int 3)) (aNil))))) (aNil)))))
  (sSeq (sSet 5 (eDNew))
  (sSeq (sFor (iEA (eBin ixD (eVar 4) (eC (.int 0)))) (tTp 2 (tsCons (tN 6) (tsCons (tN 7) (tsNil)))) (sFor (iEA (eVar 7)) (tTp 2 (tsCons (tN 8) (tsCons (tN 9) (tsNil)))) numB))
  (sSeq (sFor (iA (eTup (aCons (eCall CW.sp_law_figures (aCons (eVar 2) (aNil))) (aCons (eCall CW.sp_law_figures (aCons (eVar 2) (aNil))) (aCons (eBin addD (eBin ixD (eBin ixD (eBin ixD (eVar 4) (eC (.int 0))) (eC (.int 0))) (eC (.int 0))) (eC (.str "1"))) (aCons (eSl (eBin ixD (eBin ixD (eBin ixD (eVar 4) (eC (.int 0))) (eC (.int 0))) (eC (.int 0))) (oN) (oS (eUn negD (eC (.int 1))))) (aNil))))))) (tN 9) askB) lastB)))))) [some (.scr ns), some (.int (i : Int)), x2, x3, x4, x5, x6, x7, x8, x9, x10, x11] S) := by
  show Nx _ (fun ρ _ => _)
  refine nx_of fun Q hQ => ?_
  obtain ⟨l, e1, hb1⟩ := bag_ev (ns := ns) (at_ := (i : Int)) (S := S) (by omega) (by omega) hns
  obtain ⟨x, S1, eo, wo, ho, _⟩ := odd_ev hb1
  have hbo := wo.1
  simp [e1, eo, sizeL]
  generalize hr_ : sp_law_draw [D.ref _, D.int _] _ = r_
  obtain ⟨k, S2, hq_, a2, b2, w2, hb2⟩ := draw_of hr_ (by assumption) (by omega) (by omega)
  clear hr_
  subst hq_
  have hm : ∃ most : Int, atI [D.int 3, D.int 6, D.int 12] k = some (.int most) ∧ 1 ≤ most ∧ most ≤ 20 := by
    have : k = 0 ∨ k = 1 ∨ k = 2 := by omega
    rcases this with rfl | rfl | rfl <;> exact ⟨_, rfl, by decide, by decide⟩
  obtain ⟨most, hm, m1, m2⟩ := hm
  obtain ⟨ls, r, s, S3, e3, hg, _, _, _, _, w3⟩ := town_ev hb2 m1 m2
  have h1 := flatB_len (B := most.toNat) (ls := ls) (fun l hl => (hg.sz l hl).2)
  have hz : ls.flatten.length ≤ 1000 := by
    have h4 := hg.len
    have : most.toNat * ls.length ≤ 20 * 4 := Nat.mul_le_mul (by omega) h4
    omega
  have t0 : atI [D.tup (ls.map loopD), .int r, .int s] 0 = some (.tup (ls.map loopD)) := atI_nat (j := 0) rfl
  have L := for_nx (g := noG) (tg := tTp 2 (tsCons (tN 6) (tsCons (tN 7) tsNil))) (b := sFor (iEA (eVar 7)) (tTp 2 (tsCons (tN 8) (tsCons (tN 9) (tsNil)))) numB) (items := enumD (ls.map loopD)) (ρ := [some (.scr ns), some (.int (i : Int)), some (.ref S.length), some x, some (.tup [.tup (ls.map loopD), .int r, .int s]), some (.ref S3.length), x6, x7, x8, x9, x10, x11]) (S := S3 ++ [.dct false []])
    (fun j ρ S' => S' = S3 ++ [.dct false (entT 0 (ls.take j))] ∧ ∃ y6 y7 y8 y9 y10, ρ = [some (.scr ns), some (.int (i : Int)), some (.ref S.length), some x, some (.tup [.tup (ls.map loopD), .int r, .int s]), some (.ref S3.length), y6, y7, y8, y9, y10, x11])
    ⟨rfl, _, _, _, _, _, rfl⟩ (fun _ _ _ _ => trivial) (by
      rintro j d ρ S' hd ⟨rfl, y6, y7, y8, y9, y10, rfl⟩
      obtain ⟨l', hx, rfl⟩ := enumD_get hd
      rw [List.getElem?_map] at hx
      obtain ⟨l, hl, rfl⟩ := Option.map_eq_some_iff.mp hx
      obtain ⟨z8, z9, z10, e⟩ := loop_turn hg.nd hz hl (S := S3) (r := .int r) (s := .int s) (x0 := some (.scr ns)) (x1 := some (.int (i : Int))) (x2 := some (.ref S.length)) (x3 := some x) (x8 := y8) (x9 := y9) (x10 := y10) (x11 := x11)
      refine ⟨[some (.scr ns), some (.int (i : Int)), some (.ref S.length), some x, some (.tup [.tup (ls.map loopD), .int r, .int s]), some (.ref S3.length), some (.int (j : Int)), some (loopD l), y8, y9, y10, x11], by simp, ?_⟩
      rw [e]
      exact ⟨_, _, rfl, rfl, _, _, _, _, _, rfl⟩)
  obtain ⟨ρ2, S4, e4, rfl, y6, y7, y8, y9, y10, rfl⟩ := L
  rw [enumD_len, List.length_map, List.take_length] at e4
  have hbl : S.length < S3.length := by
    have := w3.1.lt
    exact this
  have hb4 : BagAt (S3 ++ [O.dct false (entT 0 ls)]) S.length := w3.1.app _
  obtain ⟨d1, S5, e5, hd1, w5⟩ := figures_ev hb4
  obtain ⟨d2, S6, e6, hd2, w6⟩ := figures_ev w5.1
  have hq : S6[S3.length]? = some (.dct false (entT 0 ls)) := by
    rw [w6.get (by omega), w5.get (by omega)]
    simp
  have hok : okT S6 x := by
    have hw := ((w2.trans w3))
    cases x with
    | scr _ => exact ho
    | ref n =>
      have keep : ∀ {n : Nat} {o : O}, S1[n]? = some o → n ≠ S.length → S6[n]? = some o := fun {n o} h hne => by
        have hlt : n < S1.length := (List.getElem?_eq_some_iff.mp h).1
        have hl3 : S3.length = S1.length := hw.len
        rw [w6.get hne, w5.get hne, List.getElem?_append_left (by omega), hw.get hne, h]
      by_cases hne : n = S.length
      · left
        subst hne
        obtain ⟨a, m, k, h, _⟩ := w6.1
        exact ⟨_, _, h⟩
      · rcases ho with ⟨fz, l, h⟩ | ⟨fz, l, h⟩
        · exact .inl ⟨fz, l, keep h hne⟩
        · exact .inr ⟨fz, l, keep h hne⟩
    | str z => exact ho
    | _ => exact trivial
  have hpos := hg.pos
  cases ls with
  | nil => simp at hpos
  | cons l0 lr =>
    have h0 := (hg.sz l0 (by simp)).1
    cases l0 with
    | nil => simp at h0
    | cons ds l0 =>
      have hgd := hg.good ds (by simp)
      have hln : (numS ds).length ≤ 10 := by rw [numS_length]; have := hgd.len; omega
      have t1 : atI ((((ds :: l0) :: lr)).map loopD) 0 = some (.tup (nD (ds :: l0))) := atI_nat (j := 0) rfl
      have t2 : atI (nD (ds :: l0)) 0 = some (.str (numS ds)) := atI_nat (j := 0) rfl
      have ea := add_str (x := numS ds) (y := "1") (S := S6) (by have : ("1" : Str).length = 1 := rfl; omega)
      have ec := sl_str (z := numS ds) (lo := none) (hi := some (-1)) (S := S6) (by omega)
      obtain ⟨z9, e7⟩ := ask_ev (ls := (ds :: l0) :: lr) (r := .int r) (s := .int s) (zs := [numS d1, numS d2, numS ds ++ "1", cutS (numS ds) none (some (-1))]) hq (x0 := some (.scr ns)) (x1 := some (.int (i : Int))) (x2 := some (.ref S.length)) (x3 := some x) (x6 := y6) (x7 := y7) (x8 := y8) (x9 := y9) (x10 := y10) (x11 := x11)
      rw [show [numS d1, numS d2, numS ds ++ "1", cutS (numS ds) none (some (-1))].map D.str = [.str (numS d1), .str (numS d2), .str (numS ds ++ "1"), .str (cutS (numS ds) none (some (-1)))] from rfl] at e7
      have e8 := last_ev (l := l0) (ls := lr) (ds := ds) (r := .int r) (s := .int s) (S := S6) hok (x0 := some (.scr ns)) (x1 := some (.int (i : Int))) (x2 := some (.ref S.length)) (x5 := some (.ref S3.length)) (x6 := y6) (x7 := y7) (x8 := y8) (x9 := z9) (x10 := y10) (x11 := x11)
      generalize (((ds :: l0) :: lr).map loopD) = LL at *
      generalize nD (ds :: l0) = NL at *
      simp -implicitDefEqProofs [hm, e3, t0, e4, e5, e6, t1, t2, ea, ec, sizeL, e7, e8]
      exact hQ _ _ ⟨_, _, _, _, _, _, _, _, _, _, _, rfl⟩
theorem law_true : ∀ ns : List Int, ns.length ≤ 63 → ∃ S, sp_law [.scr ns] [] = .ok (.bl true) S := by
  intro ns hl
  have e := many_ev (ns := ns) (a := 2) (b := 6) (S := []) (by decide) (by decide) (by decide)
  have hb := manyN_bd (a := 2) (b := 6) (n := ns.length) (by decide) (by decide)
  unfold sp_law m_law
  simp [e]
  refine cells_range (v := 1) _ (fun ρ => ∃ x1 x2 x3 x4 x5 x6 x7 x8 x9 x10 x11, ρ = [some (.scr ns), x1, x2, x3, x4, x5, x6, x7, x8, x9, x10, x11]) ⟨_, _, _, _, _, _, _, _, _, _, _, rfl⟩ ?_ ?_
  · rintro i ρ S' hi ⟨x1, x2, x3, x4, x5, x6, x7, x8, x9, x10, x11, rfl⟩
    exact law_turn hl (by omega)
  · rintro ρ S ⟨x1, x2, x3, x4, x5, x6, x7, x8, x9, x10, x11, rfl⟩
    exact ⟨S, by simp⟩
end LK07

namespace LK07
open PySem PySem.Spec PyProof.Rows L2 MM CW
def topS (i : Nat) : Stmt := PySem.Challenge.pw_callwheel_k07_where_boxes_stand.main.body.getD i (.Pass ⟨0, 0, 0, 0⟩)
abbrev s__law_many : Stmt := topS 5
abbrev N__law_many : List Str := ["_law_script", "_law_least", "_law_most"]
theorem sc__law_many : FnScope N__law_many ["_law_script", "_law_least", "_law_most"] (defScope s__law_many) := ⟨rfl, rfl, rfl, by decide +kernel, rfl, by decide +kernel, by decide +kernel⟩
abbrev s__law_bag : Stmt := topS 3
abbrev N__law_bag : List Str := ["_law_script", "_law_at", "_law_cell", "_law_mix", "_law_k"]
theorem sc__law_bag : FnScope N__law_bag ["_law_script", "_law_at"] (defScope s__law_bag) := ⟨rfl, rfl, rfl, by decide +kernel, rfl, by decide +kernel, by decide +kernel⟩
abbrev s__law_draw : Stmt := topS 4
abbrev N__law_draw : List Str := ["_law_bag_here", "_law_many_here", "_law_digit", "_law_primes", "_law_found", "_law_room"]
theorem sc__law_draw : FnScope N__law_draw ["_law_bag_here", "_law_many_here"] (defScope s__law_draw) := ⟨rfl, rfl, rfl, by decide +kernel, rfl, by decide +kernel, by decide +kernel⟩
abbrev s__law_odd : Stmt := topS 9
abbrev N__law_odd : List Str := ["_law_bag_here", "_law_signs", "_law_some", "_law_at", "_law_turn"]
theorem sc__law_odd : FnScope N__law_odd ["_law_bag_here"] (defScope s__law_odd) := ⟨rfl, rfl, rfl, by decide +kernel, rfl, by decide +kernel, by decide +kernel⟩
abbrev s__law_figures : Stmt := topS 7
abbrev N__law_figures : List Str := ["_law_bag_here", "_law_many_here", "_law_great", "_law_left", "_law_found", "_law_place", "_law_more"]
theorem sc__law_figures : FnScope N__law_figures ["_law_bag_here"] (defScope s__law_figures) := ⟨rfl, rfl, rfl, by decide +kernel, rfl, by decide +kernel, by decide +kernel⟩
abbrev s__law_town : Stmt := topS 8
abbrev N__law_town : List Str := ["_law_bag_here", "_law_most", "_law_loops", "_law_met", "_law_loop", "_law_numbers", "_law_place", "_law_number", "_law_texts", "_law_spare", "_law_k", "_law_text"]
theorem sc__law_town : FnScope N__law_town ["_law_bag_here", "_law_most"] (defScope s__law_town) := ⟨rfl, rfl, rfl, by decide +kernel, rfl, by decide +kernel, by decide +kernel⟩
abbrev s_spot_of : Stmt := topS 1
abbrev N_spot_of : List Str := ["town", "thing", "place", "loop"]
theorem sc_spot_of : FnScope N_spot_of ["town", "thing"] (defScope s_spot_of) := ⟨rfl, rfl, rfl, by decide +kernel, rfl, by decide +kernel, by decide +kernel⟩
abbrev s__law_whole : Stmt := topS 6
abbrev N__law_whole : List Str := ["_law_thing"]
theorem sc__law_whole : FnScope N__law_whole ["_law_thing"] (defScope s__law_whole) := ⟨rfl, rfl, rfl, by decide +kernel, rfl, by decide +kernel, by decide +kernel⟩
abbrev s_law : Stmt := topS 10
abbrev N_law : List Str := ["_law_script", "_law_k", "_law_bag_here", "_law_odd_here", "_law_town_here", "_law_spots", "_law_loop", "_law_numbers", "_law_place", "_law_number", "_law_told", "_law_one"]
theorem sc_law : FnScope N_law ["_law_script"] (defScope s_law) := ⟨rfl, rfl, rfl, by decide +kernel, rfl, by decide +kernel, by decide +kernel⟩
structure Txt (K : PySem.W.Frag) (mg : Str → Option Value) (c : Cl) : Prop where
  d__law_many : Def K mg "_law_many" ["_law_script", "_law_least", "_law_most"] s__law_many
  d__law_bag : Def K mg "_law_bag" ["_law_script", "_law_at"] s__law_bag
  d__law_draw : Def K mg "_law_draw" ["_law_bag_here", "_law_many_here"] s__law_draw
  d__law_odd : Def K mg "_law_odd" ["_law_bag_here"] s__law_odd
  d__law_figures : Def K mg "_law_figures" ["_law_bag_here"] s__law_figures
  d__law_town : Def K mg "_law_town" ["_law_bag_here", "_law_most"] s__law_town
  d_spot_of : Def K mg "spot_of" ["town", "thing"] s_spot_of
  d__law_whole : Def K mg "_law_whole" ["_law_thing"] s__law_whole
  d_law : Def K mg "law" ["_law_script"] s_law
  n_abs : mg "abs" = none
  n_all : mg "all" = none
  n_bool : mg "bool" = none
  n_enumerate : mg "enumerate" = none
  n_int : mg "int" = none
  n_isinstance : mg "isinstance" = none
  n_len : mg "len" = none
  n_list : mg "list" = none
  n_max : mg "max" = none
  n_min : mg "min" = none
  n_range : mg "range" = none
  n_str : mg "str" = none
  n_tuple : mg "tuple" = none
section
variable {P : Program} {w : World} {K : PySem.W.Frag} {mg : Str → Option Value} {base : Heap} {c : Cl}
set_option maxHeartbeats 4000000 in
theorem ok__law_many (T : Txt K mg c) : FnG P w K mg base c 1 "_law_many" ["_law_script", "_law_least", "_law_most"] CW.sp_law_many :=
  fnG_of (k := 0) (N := N__law_many) T.d__law_many sc__law_many fun f cdv A outer s H E hr tk hp => dss_one (ds_ret (de_pl (dn_range1 rfl rfl T.n_list rfl T.n_range (de_callB (call_max2 rfl) fits_max rfl T.n_max boot_max (da_cons (de_var (pv 1)) (da_cons (de_callB (call_min2 rfl) fits_min rfl T.n_min boot_min (da_cons (de_var (pv 2)) (da_cons (de_callB call_len fits_len rfl T.n_len boot_len (da_cons (de_var (pv 0)) (da_nil))) (da_nil)))) (da_nil)))))))
set_option maxHeartbeats 4000000 in
theorem ok__law_bag (T : Txt K mg c) : FnG P w K mg base c 1 "_law_bag" ["_law_script", "_law_at"] CW.sp_law_bag :=
  fnG_of (k := 0) (N := N__law_bag) T.d__law_bag sc__law_bag fun f cdv A outer s H E hr tk hp => dss_cons (ds_set (i := 2) sc__law_bag.nd rfl (Or.inl rfl) (de_int))
    (dss_cons (ds_if (dt_cmp op_ltA fits_ord (de_var (pv 1)) (de_callB call_len fits_len rfl T.n_len boot_len (da_cons (de_var (pv 0)) (da_nil))) (nomark _)) (dss_one (ds_set (i := 2) sc__law_bag.nd rfl (Or.inl rfl) (de_callB call_abs fits_abs rfl T.n_abs boot_abs (da_cons (de_ix (de_var (pv 0)) (de_var (pv 1))) (da_nil))))) (dss_nil))
    (dss_cons (ds_set (i := 3) sc__law_bag.nd rfl (Or.inl rfl) (de_binF op_addA fits_add (de_int) (de_binF op_mulA fits_mul (de_int) (de_var (pv 1)))))
    (dss_cons (ds_for hp rfl (di_range1 rfl T.n_range (da_cons (de_callB (call_min2 rfl) fits_min rfl T.n_min boot_min (da_cons (de_callB call_len fits_len rfl T.n_len boot_len (da_cons (de_var (pv 0)) (da_nil))) (da_cons (de_int) (da_nil)))) (da_nil))) (dg_name (pg_name (i := 4) sc__law_bag.nd rfl (Or.inl rfl))) (dss_one (ds_set (i := 3) sc__law_bag.nd rfl (Or.inl rfl) (de_bin op_mod fits_mod (de_binF op_addA fits_add (de_binF op_addA fits_add (de_bin op_pow fits_pow (de_var (pv 3)) (de_int)) (de_bin op_mod fits_mod (de_ix (de_var (pv 0)) (de_var (pv 4))) (de_int))) (de_var (pv 4))) (de_int)))))
    (dss_cons (ds_if (dt_cmp op_ltA fits_ord (de_var (pv 2)) (de_bin op_pow fits_pow (de_int) (de_int)) (nomark _)) (dss_one (ds_set (i := 2) sc__law_bag.nd rfl (Or.inl rfl) (de_bin op_pow fits_pow (de_int) (de_int)))) (dss_nil))
    (dss_one (ds_ret (de_new (dn_lst (da_cons (de_bin op_sub fits_sub (de_var (pv 2)) (de_bin op_pow fits_pow (de_int) (de_int))) (da_cons (de_var (pv 3)) (da_cons (de_bin op_mod fits_mod (de_var (pv 1)) (de_int)) (da_nil))))))))))))
set_option maxHeartbeats 4000000 in
theorem ok__law_draw (T : Txt K mg c) : FnG P w K mg base c 1 "_law_draw" ["_law_bag_here", "_law_many_here"] CW.sp_law_draw :=
  fnG_of (k := 0) (N := N__law_draw) T.d__law_draw sc__law_draw fun f cdv A outer s H E hr tk hp => dss_cons (ds_if (dt_cmp op_gtA fits_ord (de_ix (de_var (pv 0)) (de_int)) (de_int) (nomark _)) (dss_cons (ds_set (i := 2) sc__law_draw.nd rfl (Or.inl rfl) (de_bin op_mod fits_mod (de_ix (de_var (pv 0)) (de_int)) (de_var (pv 1))))
    (dss_cons (ds_setIx (de_bin op_fdivW fits_fdiv (de_ix (de_var (pv 0)) (de_int)) (de_var (pv 1))) (de_var (pv 0)) (de_int))
    (dss_one (ds_ret (de_var (pv 2)))))) (dss_nil))
    (dss_cons (ds_set (i := 3) sc__law_draw.nd rfl (Or.inl rfl) (de_tup (da_cons (de_int) (da_cons (de_int) (da_cons (de_int) (da_cons (de_int) (da_cons (de_int) (da_cons (de_int) (da_cons (de_int) (da_cons (de_int) (da_cons (de_int) (da_cons (de_int) (da_cons (de_int) (da_nil))))))))))))))
    (dss_cons (ds_set (i := 4) sc__law_draw.nd rfl (Or.inl rfl) (de_int))
    (dss_cons (ds_set (i := 5) sc__law_draw.nd rfl (Or.inl rfl) (de_int))
    (dss_cons (ds_while hp (dt_cmp op_ltA fits_ord (de_var (pv 5)) (de_binF op_mulA fits_mul (de_var (pv 1)) (de_int)) (nomark _)) (dss_cons (ds_setIx (de_bin op_mod fits_mod (de_binF op_addA fits_add (de_binF op_mulA fits_mul (de_ix (de_var (pv 0)) (de_int)) (de_int)) (de_int)) (de_int)) (de_var (pv 0)) (de_int))
    (dss_cons (ds_setIx (de_bin op_mod fits_mod (de_binF op_addA fits_add (de_ix (de_var (pv 0)) (de_int)) (de_int)) (de_int)) (de_var (pv 0)) (de_int))
    (dss_cons (ds_set (i := 4) sc__law_draw.nd rfl (Or.inl rfl) (de_binF op_addA fits_add (de_binF op_mulA fits_mul (de_var (pv 4)) (de_int)) (de_bin op_mod fits_mod (de_bin op_pow fits_pow (de_ix (de_var (pv 0)) (de_int)) (de_int)) (de_ix (de_var (pv 3)) (de_ix (de_var (pv 0)) (de_int))))))
    (dss_one (ds_set (i := 5) sc__law_draw.nd rfl (Or.inl rfl) (de_binF op_mulA fits_mul (de_var (pv 5)) (de_int))))))))
    (dss_one (ds_ret (de_bin op_mod fits_mod (de_var (pv 4)) (de_var (pv 1)))))))))
set_option maxHeartbeats 4000000 in
theorem ok__law_odd (T : Txt K mg c) : FnG P w K mg base c 2 "_law_odd" ["_law_bag_here"] CW.sp_law_odd :=
  fnG_of (k := 1) (N := N__law_odd) T.d__law_odd sc__law_odd fun f cdv A outer s H E hr tk hp => dss_cons (ds_set (i := 1) sc__law_odd.nd rfl (Or.inr rfl) (de_str))
    (dss_cons (ds_set (i := 2) sc__law_odd.nd rfl (Or.inl rfl) (de_pl (dn_lst (da_cons (de_non) (da_cons (de_bl) (da_cons (de_bl) (da_cons (de_int) (da_cons (de_int) (da_cons (de_neg (de_int)) (da_cons (de_callG (ok__law_draw T) hr (by decide) rfl tk (da_cons (de_var (pv 0)) (da_cons (de_bin op_pow fits_pow (de_int) (de_int)) (da_nil))) rfl (aCons_len (aCons_len aNil_len))) (da_cons (de_str) (da_cons (de_tup (da_nil)) (da_cons (de_pl (dn_lst (da_cons (de_str) (da_nil)))) (da_cons (de_tup (da_cons (de_str) (da_nil))) (da_cons (de_str) (da_cons (de_str) (da_cons (de_str) (da_cons (de_str) (da_cons (de_str) (da_cons (de_str) (da_cons (de_str) (da_cons (de_tup (da_cons (de_int) (da_cons (de_int) (da_cons (de_int) (da_cons (de_int) (da_cons (de_int) (da_cons (de_int) (da_nil)))))))) (da_cons (de_pl (dn_lst (da_cons (de_int) (da_cons (de_int) (da_cons (de_int) (da_cons (de_int) (da_cons (de_int) (da_cons (de_int) (da_nil))))))))) (da_cons (de_tup (da_cons (de_bl) (da_cons (de_int) (da_cons (de_int) (da_cons (de_int) (da_cons (de_int) (da_cons (de_int) (da_nil)))))))) (da_cons (de_str) (da_cons (de_str) (da_nil)))))))))))))))))))))))))))
    (dss_cons (ds_set (i := 3) sc__law_odd.nd rfl (Or.inl rfl) (de_callG (ok__law_draw T) hr (by decide) rfl tk (da_cons (de_var (pv 0)) (da_cons (de_binF op_addA fits_add (de_callB call_len fits_len rfl T.n_len boot_len (da_cons (de_var (pv 2)) (da_nil))) (de_int)) (da_nil))) rfl (aCons_len (aCons_len aNil_len))))
    (dss_cons (ds_if (dt_cmp op_ltA fits_ord (de_var (pv 3)) (de_callB call_len fits_len rfl T.n_len boot_len (da_cons (de_var (pv 2)) (da_nil))) (nomark _)) (dss_one (ds_ret (de_ix (de_var (pv 2)) (de_var (pv 3))))) (dss_nil))
    (dss_one (ds_ret (de_bmL PySem.F.plainAttrs_str PySem.F.slot_str_join PySem.F.type_str_join mt_join fits_join typed_str (de_str) (dl_new (dn_lc (own := [("_law_turn", 4)]) rfl sc__law_odd.nd (di_range1 rfl T.n_range (da_cons (de_callG (ok__law_draw T) hr (by decide) rfl tk (da_cons (de_var (pv 0)) (da_cons (de_int) (da_nil))) rfl (aCons_len (aCons_len aNil_len))) (da_nil))) (blkOk_by (own := [("_law_turn", 4)]) (N := N__law_odd) (sc := defScope s__law_odd) (by decide +kernel)) (fun _ _ _ _ _ => dgo_name (pg_name (i := 4) sc__law_odd.nd rfl (Or.inl rfl)) (by decide)) (fun _ _ _ _ _ => de_ix (de_var (pv 1)) (de_callG (ok__law_draw T) hr (by decide) rfl takes0 (da_cons (de_var (pv 0)) (da_cons (de_callB call_len fits_len rfl T.n_len boot_len (da_cons (de_var (pv 1)) (da_nil))) (da_nil))) rfl (aCons_len (aCons_len aNil_len))))))))))))
set_option maxHeartbeats 4000000 in
theorem ok__law_figures (T : Txt K mg c) : FnG P w K mg base c 2 "_law_figures" ["_law_bag_here"] CW.sp_law_figures :=
  fnG_of (k := 1) (N := N__law_figures) T.d__law_figures sc__law_figures fun f cdv A outer s H E hr tk hp => dss_cons (ds_set (i := 1) sc__law_figures.nd rfl (Or.inl rfl) (de_binF op_addA fits_add (de_int) (de_callG (ok__law_draw T) hr (by decide) rfl tk (da_cons (de_var (pv 0)) (da_cons (de_int) (da_nil))) rfl (aCons_len (aCons_len aNil_len)))))
    (dss_cons (ds_set (i := 2) sc__law_figures.nd rfl (Or.inl rfl) (de_callG (ok__law_draw T) hr (by decide) rfl tk (da_cons (de_var (pv 0)) (da_cons (de_int) (da_nil))) rfl (aCons_len (aCons_len aNil_len))))
    (dss_cons (ds_set (i := 3) sc__law_figures.nd rfl (Or.inl rfl) (de_bin op_sub fits_sub (de_int) (de_var (pv 1))))
    (dss_cons (ds_set (i := 4) sc__law_figures.nd rfl (Or.inl rfl) (de_str))
    (dss_cons (ds_for hp rfl (di_range1 rfl T.n_range (da_cons (de_var (pv 1)) (da_nil))) (dg_name (pg_name (i := 5) sc__law_figures.nd rfl (Or.inl rfl))) (dss_cons (ds_set (i := 6) sc__law_figures.nd rfl (Or.inl rfl) (de_callG (ok__law_draw T) hr (by decide) rfl tk (da_cons (de_var (pv 0)) (da_cons (de_binF op_addA fits_add (de_callB (call_min2 rfl) fits_min rfl T.n_min boot_min (da_cons (de_var (pv 3)) (da_cons (de_ix (de_tup (da_cons (de_int) (da_cons (de_int) (da_cons (de_int) (da_cons (de_int) (da_nil)))))) (de_var (pv 2))) (da_nil)))) (de_int)) (da_nil))) rfl (aCons_len (aCons_len aNil_len))))
    (dss_cons (ds_set (i := 3) sc__law_figures.nd rfl (Or.inl rfl) (de_bin op_sub fits_sub (de_var (pv 3)) (de_var (pv 6))))
    (dss_one (ds_set (i := 4) sc__law_figures.nd rfl (Or.inl rfl) (de_binF op_addA fits_add (de_var (pv 4)) (de_callTy call_str_int fits_str rfl T.n_str boot_str (da_cons (de_binF op_addA fits_add (de_int) (de_var (pv 6))) (da_nil)))))))))
    (dss_one (ds_ret (de_var (pv 4))))))))
set_option maxHeartbeats 4000000 in
theorem ok__law_town (T : Txt K mg c) : FnG P w K mg base c 3 "_law_town" ["_law_bag_here", "_law_most"] (body 12 CW.m_law_town) :=
  fnG_of (k := 2) (N := N__law_town) T.d__law_town sc__law_town fun f cdv A outer s H E hr tk hp => dss_cons (ds_set (i := 2) sc__law_town.nd rfl (Or.inl rfl) (de_new (dn_lst (da_nil))))
    (dss_cons (ds_set (i := 3) sc__law_town.nd rfl (Or.inr rfl) (de_dnew))
    (dss_cons (ds_for hp rfl (di_range1 rfl T.n_range (da_cons (de_binF op_addA fits_add (de_int) (de_binF op_mulA fits_mul (de_callG (ok__law_draw T) hr (by decide) rfl tk (da_cons (de_var (pv 0)) (da_cons (de_int) (da_nil))) rfl (aCons_len (aCons_len aNil_len))) (de_callG (ok__law_draw T) hr (by decide) rfl tk (da_cons (de_var (pv 0)) (da_cons (de_int) (da_nil))) rfl (aCons_len (aCons_len aNil_len))))) (da_nil))) (dg_name (pg_name (i := 4) sc__law_town.nd rfl (Or.inl rfl))) (dss_cons (ds_set (i := 5) sc__law_town.nd rfl (Or.inl rfl) (de_new (dn_lst (da_nil))))
    (dss_cons (ds_for hp rfl (di_range1 rfl T.n_range (da_cons (de_binF op_addA fits_add (de_int) (de_callG (ok__law_draw T) hr (by decide) rfl tk (da_cons (de_var (pv 0)) (da_cons (de_var (pv 1)) (da_nil))) rfl (aCons_len (aCons_len aNil_len)))) (da_nil))) (dg_name (pg_name (i := 6) sc__law_town.nd rfl (Or.inl rfl))) (dss_cons (ds_set (i := 7) sc__law_town.nd rfl (Or.inl rfl) (de_callG (ok__law_figures T) hr (by decide) rfl tk (da_cons (de_var (pv 0)) (da_nil)) rfl (aCons_len aNil_len)))
    (dss_one (ds_if (dt_notInA (dt_cmp (op_notInA hr.units) fits_notIn (de_var (pv 7)) (de_var (pv 3)) (by rfl)) (dt_dnotin (hu_of hr) (de_var (pv 7)) (de_var (pv 3)))) (dss_cons (ds_setA (ds_setIx (de_bl) (de_var (pv 3)) (de_var (pv 7))) (ds_dput (hu_of hr) (de_bl) (de_var (pv 3)) (de_var (pv 7))))
    (dss_one (ds_expr (de_bm PySem.F.plainAttrs_list PySem.F.slot_list_append PySem.F.type_list_append mt_append fits_append typed_lst (de_var (pv 5)) (da_cons (de_var (pv 7)) (da_nil)))))) (dss_nil)))))
    (dss_cons (ds_if (dt_cmp (op_eqA hr.units) fits_eq (de_var (pv 5)) (de_pl (dn_lst (da_nil))) (nomark _)) (dss_cons (ds_setLcQ (i := 8) (own := [("_law_k", 10)]) rfl sc__law_town.nd rfl rfl (sw_true rfl rfl rfl (by decide +kernel)) (di_range1 rfl T.n_range (da_cons (de_int) (da_nil))) (blkOk_by (own := [("_law_k", 10)]) (N := N__law_town) (sc := defScope s__law_town) (by decide +kernel)) (fun _ _ _ _ _ => dgo_name (pg_name (i := 10) sc__law_town.nd rfl (Or.inl rfl)) (by decide)) (fun _ _ _ _ _ => de_callTy call_str_int fits_str rfl T.n_str boot_str (da_cons (de_binF op_addA fits_add (de_binF op_addA fits_add (de_int) (de_var (pv 10))) (de_bin op_fdivW fits_fdiv (de_var (pv 10)) (de_int))) (da_nil))))
    (dss_cons (ds_setLcIfQ (i := 9) (own := [("_law_text", 11)]) rfl sc__law_town.nd rfl rfl (sw_true rfl rfl rfl (by decide +kernel)) (di_any (de_var (pv 8))) (blkOk_by (own := [("_law_text", 11)]) (N := N__law_town) (sc := defScope s__law_town) (by decide +kernel)) (fun _ _ _ _ _ => dgo_name (pg_name (i := 11) sc__law_town.nd rfl (Or.inl rfl)) (by decide)) (fun _ _ _ _ _ => dt_notInA (dt_cmp (op_notInA hr.units) fits_notIn (de_var (pv 11)) (de_var (pv 3)) (by rfl)) (dt_dnotin (hu_of hr) (de_var (pv 11)) (de_var (pv 3)))) (fun _ _ _ _ _ => de_var (pv 11)))
    (dss_cons (ds_setA (ds_setIx (de_bl) (de_var (pv 3)) (de_ix (de_var (pv 9)) (de_int))) (ds_dput (hu_of hr) (de_bl) (de_var (pv 3)) (de_ix (de_var (pv 9)) (de_int))))
    (dss_one (ds_set (i := 5) sc__law_town.nd rfl (Or.inl rfl) (de_slM (de_var (pv 9)) (do_none) (do_some (de_int)))))))) (dss_nil))
    (dss_one (ds_expr (de_bm PySem.F.plainAttrs_list PySem.F.slot_list_append PySem.F.type_list_append mt_append fits_append typed_lst (de_var (pv 2)) (da_cons (de_callTy call_tupleF fits_tupleA rfl T.n_tuple boot_tuple (da_cons (de_var (pv 5)) (da_nil))) (da_nil)))))))))
    (dss_one (ds_ret (de_tup (da_cons (de_callTy call_tupleF fits_tupleA rfl T.n_tuple boot_tuple (da_cons (de_var (pv 2)) (da_nil))) (da_cons (de_binF op_addA fits_add (de_int) (de_callG (ok__law_draw T) hr (by decide) rfl tk (da_cons (de_var (pv 0)) (da_cons (de_int) (da_nil))) rfl (aCons_len (aCons_len aNil_len)))) (da_cons (de_binF op_addA fits_add (de_int) (de_callG (ok__law_draw T) hr (by decide) rfl tk (da_cons (de_var (pv 0)) (da_cons (de_int) (da_nil))) rfl (aCons_len (aCons_len aNil_len)))) (da_nil)))))))))
set_option maxHeartbeats 4000000 in
theorem ok_spot_of (T : Txt K mg c) : FnG P w K mg base c 1 "spot_of" ["town", "thing"] CW.sp_spot_of :=
  fnG_of (k := 0) (N := N_spot_of) T.d_spot_of sc_spot_of fun f cdv A outer s H E hr tk hp => dss_cons (ds_for hp rfl (di_enumA rfl T.n_enumerate (de_ix (de_var (pv 0)) (de_int))) (dg_tup rfl (dgs_cons (dg_name (pg_name (i := 2) sc_spot_of.nd rfl (Or.inl rfl))) (dgs_cons (dg_name (pg_name (i := 3) sc_spot_of.nd rfl (Or.inl rfl))) (dgs_nil)))) (dss_one (ds_if (dt_w (dw_and (dt_val (de_isi .str rfl T.n_isinstance rfl T.n_str boot_str (de_var (pv 1)))) (dw_and1 (dt_cmp (op_inA hr.units) fits_in (de_var (pv 1)) (de_var (pv 3)) (by rfl))))) (dss_one (ds_ret (de_tup (da_cons (de_var (pv 2)) (da_cons (de_indexT (de_var (pv 3)) (de_var (pv 1))) (da_nil)))))) (dss_nil))))
    (dss_one (ds_ret (de_non)))
set_option maxHeartbeats 4000000 in
theorem ok__law_whole (T : Txt K mg c) : FnG P w K mg base c 1 "_law_whole" ["_law_thing"] CW.sp_law_whole :=
  fnG_of (k := 0) (N := N__law_whole) T.d__law_whole sc__law_whole fun f cdv A outer s H E hr tk hp => dss_one (ds_ret (de_and (de_isi .int rfl T.n_isinstance rfl T.n_int boot_int (de_var (pv 0))) (de_one (de_not (de_isi .bool rfl T.n_isinstance rfl T.n_bool boot_bool (de_var (pv 0)))))))
set_option maxHeartbeats 4000000 in
theorem ok_law (T : Txt K mg c) {f : Addr} {fd : FuncData} (F : Fun K "law" "law" s_law f fd) : FnD P w K mg base c 4 f fd ["_law_script"] sp_law :=
  fnD_of (k := 3) (N := N_law) F sc_law fun cdv A outer s H E hr tk hp => dss_cons (ds_for hp rfl (di_any (de_callG (ok__law_many T) hr (by decide) rfl tk (da_cons (de_var (pv 0)) (da_cons (de_int) (da_cons (de_int) (da_nil)))) rfl (aCons_len (aCons_len (aCons_len aNil_len))))) (dg_name (pg_name (i := 1) sc_law.nd rfl (Or.inl rfl))) (dss_cons (ds_set (i := 2) sc_law.nd rfl (Or.inl rfl) (de_callG (ok__law_bag T) hr (by decide) rfl tk (da_cons (de_var (pv 0)) (da_cons (de_var (pv 1)) (da_nil))) rfl (aCons_len (aCons_len aNil_len))))
    (dss_cons (ds_set (i := 3) sc_law.nd rfl (Or.inl rfl) (de_callG (ok__law_odd T) hr (by decide) rfl tk (da_cons (de_var (pv 2)) (da_nil)) rfl (aCons_len aNil_len)))
    (dss_cons (ds_set (i := 4) sc_law.nd rfl (Or.inl rfl) (de_callC (ok__law_town T) hr (by decide) rfl tk (da_cons (de_var (pv 2)) (da_cons (de_ix (de_tup (da_cons (de_int) (da_cons (de_int) (da_cons (de_int) (da_nil))))) (de_callG (ok__law_draw T) hr (by decide) rfl tk (da_cons (de_var (pv 2)) (da_cons (de_int) (da_nil))) rfl (aCons_len (aCons_len aNil_len)))) (da_nil))) rfl (aCons_len (aCons_len aNil_len))))
    (dss_cons (ds_set (i := 5) sc_law.nd rfl (Or.inl rfl) (de_dnew))
    (dss_cons (ds_for hp rfl (di_enumA rfl T.n_enumerate (de_ix (de_var (pv 4)) (de_int))) (dg_tup rfl (dgs_cons (dg_name (pg_name (i := 6) sc_law.nd rfl (Or.inl rfl))) (dgs_cons (dg_name (pg_name (i := 7) sc_law.nd rfl (Or.inl rfl))) (dgs_nil)))) (dss_one (ds_for hp rfl (di_enumA rfl T.n_enumerate (de_var (pv 7))) (dg_tup rfl (dgs_cons (dg_name (pg_name (i := 8) sc_law.nd rfl (Or.inl rfl))) (dgs_cons (dg_name (pg_name (i := 9) sc_law.nd rfl (Or.inl rfl))) (dgs_nil)))) (dss_cons (ds_setA (ds_setIx (de_tup (da_cons (de_var (pv 6)) (da_cons (de_var (pv 8)) (da_nil)))) (de_var (pv 5)) (de_var (pv 9))) (ds_dput (hu_of hr) (de_tup (da_cons (de_var (pv 6)) (da_cons (de_var (pv 8)) (da_nil)))) (de_var (pv 5)) (de_var (pv 9))))
    (dss_cons (ds_set (i := 10) sc_law.nd rfl (Or.inl rfl) (de_callG (ok_spot_of T) hr (by decide) rfl tk (da_cons (de_var (pv 4)) (da_cons (de_var (pv 9)) (da_nil))) rfl (aCons_len (aCons_len aNil_len))))
    (dss_one (ds_if (dt_w (dw_or (dt_cmp (op_neA hr.units) fits_ne (de_var (pv 10)) (de_tup (da_cons (de_var (pv 6)) (da_cons (de_var (pv 8)) (da_nil)))) (nomark _)) (dw_or (dt_not (dt_val (de_isi .tuple rfl T.n_isinstance rfl T.n_tuple boot_tuple (de_var (pv 10))))) (dw_or1 (dt_not (dt_val (de_lsB (cr_all rfl) fits_all rfl T.n_all boot_all (dl_new (dn_lc (own := [("_law_one", 11)]) rfl sc_law.nd (di_any (de_var (pv 10))) (blkOk_by (own := [("_law_one", 11)]) (N := N_law) (sc := defScope s_law) (by decide +kernel)) (fun _ _ _ _ _ => dgo_name (pg_name (i := 11) sc_law.nd rfl (Or.inl rfl)) (by decide)) (fun _ _ _ _ _ => de_callG (ok__law_whole T) hr (by decide) rfl takes0 (da_cons (de_var (pv 11)) (da_nil)) rfl (aCons_len aNil_len))))))))))) (dss_one (ds_ret (de_bl))) (dss_nil))))))))
    (dss_cons (ds_for hp rfl (di_any (de_tup (da_cons (de_callG (ok__law_figures T) hr (by decide) rfl tk (da_cons (de_var (pv 2)) (da_nil)) rfl (aCons_len aNil_len)) (da_cons (de_callG (ok__law_figures T) hr (by decide) rfl tk (da_cons (de_var (pv 2)) (da_nil)) rfl (aCons_len aNil_len)) (da_cons (de_binF op_addA fits_add (de_ix (de_ix (de_ix (de_var (pv 4)) (de_int)) (de_int)) (de_int)) (de_str)) (da_cons (de_sl (de_ix (de_ix (de_ix (de_var (pv 4)) (de_int)) (de_int)) (de_int)) (do_none) (do_some (de_neg (de_int)))) (da_nil))))))) (dg_name (pg_name (i := 9) sc_law.nd rfl (Or.inl rfl))) (dss_one (ds_if (dt_cmp (op_neA hr.units) fits_ne (de_callG (ok_spot_of T) hr (by decide) rfl tk (da_cons (de_var (pv 4)) (da_cons (de_var (pv 9)) (da_nil))) rfl (aCons_len (aCons_len aNil_len))) (de_dget1 (hu_of hr) (de_var (pv 5)) (de_var (pv 9)) ⟨rfl, rfl, rfl, rfl⟩) (nomark _)) (dss_one (ds_ret (de_bl))) (dss_nil))))
    (dss_cons (ds_if (dt_w (dw_and (dt_not (dt_val (de_isi .str rfl T.n_isinstance rfl T.n_str boot_str (de_var (pv 3))))) (dw_and1 (dt_cmp op_notN fits_notN (de_callG (ok_spot_of T) hr (by decide) rfl tk (da_cons (de_var (pv 4)) (da_cons (de_var (pv 3)) (da_nil))) rfl (aCons_len (aCons_len aNil_len))) (de_non) (nomark _))))) (dss_one (ds_ret (de_bl))) (dss_nil))
    (dss_one (ds_if (dt_w (dw_or (dt_cmp op_notN fits_notN (de_callG (ok_spot_of T) hr (by decide) rfl tk (da_cons (de_var (pv 4)) (da_cons (de_ix (de_ix (de_var (pv 4)) (de_int)) (de_int)) (da_nil))) rfl (aCons_len (aCons_len aNil_len))) (de_non) (nomark _)) (dw_or1 (dt_cmp op_notN fits_notN (de_callG (ok_spot_of T) hr (by decide) rfl tk (da_cons (de_var (pv 4)) (da_cons (de_tup (da_cons (de_ix (de_ix (de_ix (de_var (pv 4)) (de_int)) (de_int)) (de_int)) (da_nil))) (da_nil))) rfl (aCons_len (aCons_len aNil_len))) (de_non) (nomark _))))) (dss_one (ds_ret (de_bl))) (dss_nil)))))))))))
    (dss_one (ds_ret (de_bl)))
end
end LK07

namespace LK07
open PySem PySem.Spec PyProof.Rows L2 MM CW
set_option maxHeartbeats 4000000 in
theorem txt_mk {K : PySem.W.Frag} {h : Heap} {mg : Str → Option Value} (X : K.In h) (G : h.Ns mainGlobals mg)
  {f1 : Addr} {oc1 kV1 dc1 pm1 cd1 ct1 : Value} {od1 an1 : Option Addr} {sl1 : Array (Option Value)}
  {f2 : Addr} {oc2 kV2 dc2 pm2 cd2 ct2 : Value} {od2 an2 : Option Addr} {sl2 : Array (Option Value)}
  {f3 : Addr} {oc3 kV3 dc3 pm3 cd3 ct3 : Value} {od3 an3 : Option Addr} {sl3 : Array (Option Value)}
  {f4 : Addr} {oc4 kV4 dc4 pm4 cd4 ct4 : Value} {od4 an4 : Option Addr} {sl4 : Array (Option Value)}
  {f5 : Addr} {oc5 kV5 dc5 pm5 cd5 ct5 : Value} {od5 an5 : Option Addr} {sl5 : Array (Option Value)}
  {f6 : Addr} {oc6 kV6 dc6 pm6 cd6 ct6 : Value} {od6 an6 : Option Addr} {sl6 : Array (Option Value)}
  {f7 : Addr} {oc7 kV7 dc7 pm7 cd7 ct7 : Value} {od7 an7 : Option Addr} {sl7 : Array (Option Value)}
  {f8 : Addr} {oc8 kV8 dc8 pm8 cd8 ct8 : Value} {od8 an8 : Option Addr} {sl8 : Array (Option Value)}
  {fL : Addr} {ocL kVL dcL pmL cdL ctL : Value} {odL anL : Option Addr} {slL : Array (Option Value)}
  (a1 : PySem.W.nsIn K mainGlobals "_law_many" = some (some (.ref f1))) (l1 : K.lookup f1 = some ⟨oc1, od1, .func (PySem.W.fnOf "_law_many" "_law_many" (defArgs s__law_many) (defBody s__law_many) (defScope s__law_many) .none kV1 dc1 pm1 an1 cd1 ct1), sl1⟩) (c1 : PySem.W.codeIn K cd1 "_law_many" = true) (k1 : PySem.W.keepIn K (.ref f1) = true)
  (a2 : PySem.W.nsIn K mainGlobals "_law_bag" = some (some (.ref f2))) (l2 : K.lookup f2 = some ⟨oc2, od2, .func (PySem.W.fnOf "_law_bag" "_law_bag" (defArgs s__law_bag) (defBody s__law_bag) (defScope s__law_bag) .none kV2 dc2 pm2 an2 cd2 ct2), sl2⟩) (c2 : PySem.W.codeIn K cd2 "_law_bag" = true) (k2 : PySem.W.keepIn K (.ref f2) = true)
  (a3 : PySem.W.nsIn K mainGlobals "_law_draw" = some (some (.ref f3))) (l3 : K.lookup f3 = some ⟨oc3, od3, .func (PySem.W.fnOf "_law_draw" "_law_draw" (defArgs s__law_draw) (defBody s__law_draw) (defScope s__law_draw) .none kV3 dc3 pm3 an3 cd3 ct3), sl3⟩) (c3 : PySem.W.codeIn K cd3 "_law_draw" = true) (k3 : PySem.W.keepIn K (.ref f3) = true)
  (a4 : PySem.W.nsIn K mainGlobals "_law_odd" = some (some (.ref f4))) (l4 : K.lookup f4 = some ⟨oc4, od4, .func (PySem.W.fnOf "_law_odd" "_law_odd" (defArgs s__law_odd) (defBody s__law_odd) (defScope s__law_odd) .none kV4 dc4 pm4 an4 cd4 ct4), sl4⟩) (c4 : PySem.W.codeIn K cd4 "_law_odd" = true) (k4 : PySem.W.keepIn K (.ref f4) = true)
  (a5 : PySem.W.nsIn K mainGlobals "_law_figures" = some (some (.ref f5))) (l5 : K.lookup f5 = some ⟨oc5, od5, .func (PySem.W.fnOf "_law_figures" "_law_figures" (defArgs s__law_figures) (defBody s__law_figures) (defScope s__law_figures) .none kV5 dc5 pm5 an5 cd5 ct5), sl5⟩) (c5 : PySem.W.codeIn K cd5 "_law_figures" = true) (k5 : PySem.W.keepIn K (.ref f5) = true)
  (a6 : PySem.W.nsIn K mainGlobals "_law_town" = some (some (.ref f6))) (l6 : K.lookup f6 = some ⟨oc6, od6, .func (PySem.W.fnOf "_law_town" "_law_town" (defArgs s__law_town) (defBody s__law_town) (defScope s__law_town) .none kV6 dc6 pm6 an6 cd6 ct6), sl6⟩) (c6 : PySem.W.codeIn K cd6 "_law_town" = true) (k6 : PySem.W.keepIn K (.ref f6) = true)
  (a7 : PySem.W.nsIn K mainGlobals "spot_of" = some (some (.ref f7))) (l7 : K.lookup f7 = some ⟨oc7, od7, .func (PySem.W.fnOf "spot_of" "spot_of" (defArgs s_spot_of) (defBody s_spot_of) (defScope s_spot_of) .none kV7 dc7 pm7 an7 cd7 ct7), sl7⟩) (c7 : PySem.W.codeIn K cd7 "spot_of" = true) (k7 : PySem.W.keepIn K (.ref f7) = true)
  (a8 : PySem.W.nsIn K mainGlobals "_law_whole" = some (some (.ref f8))) (l8 : K.lookup f8 = some ⟨oc8, od8, .func (PySem.W.fnOf "_law_whole" "_law_whole" (defArgs s__law_whole) (defBody s__law_whole) (defScope s__law_whole) .none kV8 dc8 pm8 an8 cd8 ct8), sl8⟩) (c8 : PySem.W.codeIn K cd8 "_law_whole" = true) (k8 : PySem.W.keepIn K (.ref f8) = true)
  (aL : PySem.W.nsIn K mainGlobals "law" = some (some (.ref fL))) (lL : K.lookup fL = some ⟨ocL, odL, .func (PySem.W.fnOf "law" "law" (defArgs s_law) (defBody s_law) (defScope s_law) .none kVL dcL pmL anL cdL ctL), slL⟩) (cL : PySem.W.codeIn K cdL "law" = true) (kL : PySem.W.keepIn K (.ref fL) = true)
  (z_abs : PySem.W.nsIn K mainGlobals "abs" = some none)
  (z_all : PySem.W.nsIn K mainGlobals "all" = some none)
  (z_bool : PySem.W.nsIn K mainGlobals "bool" = some none)
  (z_enumerate : PySem.W.nsIn K mainGlobals "enumerate" = some none)
  (z_int : PySem.W.nsIn K mainGlobals "int" = some none)
  (z_isinstance : PySem.W.nsIn K mainGlobals "isinstance" = some none)
  (z_len : PySem.W.nsIn K mainGlobals "len" = some none)
  (z_list : PySem.W.nsIn K mainGlobals "list" = some none)
  (z_max : PySem.W.nsIn K mainGlobals "max" = some none)
  (z_min : PySem.W.nsIn K mainGlobals "min" = some none)
  (z_range : PySem.W.nsIn K mainGlobals "range" = some none)
  (z_str : PySem.W.nsIn K mainGlobals "str" = some none)
  (z_tuple : PySem.W.nsIn K mainGlobals "tuple" = some none) : Txt K mg (⟨fun _ => 0⟩ : Cl) where
  d__law_many := def_mk X G a1 l1 c1 k1 fun _ _ _ _ _ _ us hl => match us, hl with | [_, _, _], _ => rfl
  d__law_bag := def_mk X G a2 l2 c2 k2 fun _ _ _ _ _ _ us hl => match us, hl with | [_, _], _ => rfl
  d__law_draw := def_mk X G a3 l3 c3 k3 fun _ _ _ _ _ _ us hl => match us, hl with | [_, _], _ => rfl
  d__law_odd := def_mk X G a4 l4 c4 k4 fun _ _ _ _ _ _ us hl => match us, hl with | [_], _ => rfl
  d__law_figures := def_mk X G a5 l5 c5 k5 fun _ _ _ _ _ _ us hl => match us, hl with | [_], _ => rfl
  d__law_town := def_mk X G a6 l6 c6 k6 fun _ _ _ _ _ _ us hl => match us, hl with | [_, _], _ => rfl
  d_spot_of := def_mk X G a7 l7 c7 k7 fun _ _ _ _ _ _ us hl => match us, hl with | [_, _], _ => rfl
  d__law_whole := def_mk X G a8 l8 c8 k8 fun _ _ _ _ _ _ us hl => match us, hl with | [_], _ => rfl
  d_law := def_mk X G aL lL cL kL fun _ _ _ _ _ _ us hl => match us, hl with | [_], _ => rfl
  n_abs := PySem.W.mg_none_of X G z_abs
  n_all := PySem.W.mg_none_of X G z_all
  n_bool := PySem.W.mg_none_of X G z_bool
  n_enumerate := PySem.W.mg_none_of X G z_enumerate
  n_int := PySem.W.mg_none_of X G z_int
  n_isinstance := PySem.W.mg_none_of X G z_isinstance
  n_len := PySem.W.mg_none_of X G z_len
  n_list := PySem.W.mg_none_of X G z_list
  n_max := PySem.W.mg_none_of X G z_max
  n_min := PySem.W.mg_none_of X G z_min
  n_range := PySem.W.mg_none_of X G z_range
  n_str := PySem.W.mg_none_of X G z_str
  n_tuple := PySem.W.mg_none_of X G z_tuple
set_option maxHeartbeats 4000000 in
theorem all_mk {l : PySem.W.OpenLaw} {w : World} {K : PySem.W.Frag} {h : Heap} {mg : Str → Option Value} {fa : Addr} (X : K.In h) (G : h.Ns mainGlobals mg) (hfa : mg "law" = some (.ref fa))
  {f1 : Addr} {oc1 kV1 dc1 pm1 cd1 ct1 : Value} {od1 an1 : Option Addr} {sl1 : Array (Option Value)}
  {f2 : Addr} {oc2 kV2 dc2 pm2 cd2 ct2 : Value} {od2 an2 : Option Addr} {sl2 : Array (Option Value)}
  {f3 : Addr} {oc3 kV3 dc3 pm3 cd3 ct3 : Value} {od3 an3 : Option Addr} {sl3 : Array (Option Value)}
  {f4 : Addr} {oc4 kV4 dc4 pm4 cd4 ct4 : Value} {od4 an4 : Option Addr} {sl4 : Array (Option Value)}
  {f5 : Addr} {oc5 kV5 dc5 pm5 cd5 ct5 : Value} {od5 an5 : Option Addr} {sl5 : Array (Option Value)}
  {f6 : Addr} {oc6 kV6 dc6 pm6 cd6 ct6 : Value} {od6 an6 : Option Addr} {sl6 : Array (Option Value)}
  {f7 : Addr} {oc7 kV7 dc7 pm7 cd7 ct7 : Value} {od7 an7 : Option Addr} {sl7 : Array (Option Value)}
  {f8 : Addr} {oc8 kV8 dc8 pm8 cd8 ct8 : Value} {od8 an8 : Option Addr} {sl8 : Array (Option Value)}
  {fL : Addr} {ocL kVL dcL pmL cdL ctL : Value} {odL anL : Option Addr} {slL : Array (Option Value)}
  (a1 : PySem.W.nsIn K mainGlobals "_law_many" = some (some (.ref f1))) (l1 : K.lookup f1 = some ⟨oc1, od1, .func (PySem.W.fnOf "_law_many" "_law_many" (defArgs s__law_many) (defBody s__law_many) (defScope s__law_many) .none kV1 dc1 pm1 an1 cd1 ct1), sl1⟩) (c1 : PySem.W.codeIn K cd1 "_law_many" = true) (k1 : PySem.W.keepIn K (.ref f1) = true)
  (a2 : PySem.W.nsIn K mainGlobals "_law_bag" = some (some (.ref f2))) (l2 : K.lookup f2 = some ⟨oc2, od2, .func (PySem.W.fnOf "_law_bag" "_law_bag" (defArgs s__law_bag) (defBody s__law_bag) (defScope s__law_bag) .none kV2 dc2 pm2 an2 cd2 ct2), sl2⟩) (c2 : PySem.W.codeIn K cd2 "_law_bag" = true) (k2 : PySem.W.keepIn K (.ref f2) = true)
  (a3 : PySem.W.nsIn K mainGlobals "_law_draw" = some (some (.ref f3))) (l3 : K.lookup f3 = some ⟨oc3, od3, .func (PySem.W.fnOf "_law_draw" "_law_draw" (defArgs s__law_draw) (defBody s__law_draw) (defScope s__law_draw) .none kV3 dc3 pm3 an3 cd3 ct3), sl3⟩) (c3 : PySem.W.codeIn K cd3 "_law_draw" = true) (k3 : PySem.W.keepIn K (.ref f3) = true)
  (a4 : PySem.W.nsIn K mainGlobals "_law_odd" = some (some (.ref f4))) (l4 : K.lookup f4 = some ⟨oc4, od4, .func (PySem.W.fnOf "_law_odd" "_law_odd" (defArgs s__law_odd) (defBody s__law_odd) (defScope s__law_odd) .none kV4 dc4 pm4 an4 cd4 ct4), sl4⟩) (c4 : PySem.W.codeIn K cd4 "_law_odd" = true) (k4 : PySem.W.keepIn K (.ref f4) = true)
  (a5 : PySem.W.nsIn K mainGlobals "_law_figures" = some (some (.ref f5))) (l5 : K.lookup f5 = some ⟨oc5, od5, .func (PySem.W.fnOf "_law_figures" "_law_figures" (defArgs s__law_figures) (defBody s__law_figures) (defScope s__law_figures) .none kV5 dc5 pm5 an5 cd5 ct5), sl5⟩) (c5 : PySem.W.codeIn K cd5 "_law_figures" = true) (k5 : PySem.W.keepIn K (.ref f5) = true)
  (a6 : PySem.W.nsIn K mainGlobals "_law_town" = some (some (.ref f6))) (l6 : K.lookup f6 = some ⟨oc6, od6, .func (PySem.W.fnOf "_law_town" "_law_town" (defArgs s__law_town) (defBody s__law_town) (defScope s__law_town) .none kV6 dc6 pm6 an6 cd6 ct6), sl6⟩) (c6 : PySem.W.codeIn K cd6 "_law_town" = true) (k6 : PySem.W.keepIn K (.ref f6) = true)
  (a7 : PySem.W.nsIn K mainGlobals "spot_of" = some (some (.ref f7))) (l7 : K.lookup f7 = some ⟨oc7, od7, .func (PySem.W.fnOf "spot_of" "spot_of" (defArgs s_spot_of) (defBody s_spot_of) (defScope s_spot_of) .none kV7 dc7 pm7 an7 cd7 ct7), sl7⟩) (c7 : PySem.W.codeIn K cd7 "spot_of" = true) (k7 : PySem.W.keepIn K (.ref f7) = true)
  (a8 : PySem.W.nsIn K mainGlobals "_law_whole" = some (some (.ref f8))) (l8 : K.lookup f8 = some ⟨oc8, od8, .func (PySem.W.fnOf "_law_whole" "_law_whole" (defArgs s__law_whole) (defBody s__law_whole) (defScope s__law_whole) .none kV8 dc8 pm8 an8 cd8 ct8), sl8⟩) (c8 : PySem.W.codeIn K cd8 "_law_whole" = true) (k8 : PySem.W.keepIn K (.ref f8) = true)
  (aL : PySem.W.nsIn K mainGlobals "law" = some (some (.ref fL))) (lL : K.lookup fL = some ⟨ocL, odL, .func (PySem.W.fnOf "law" "law" (defArgs s_law) (defBody s_law) (defScope s_law) .none kVL dcL pmL anL cdL ctL), slL⟩) (cL : PySem.W.codeIn K cdL "law" = true) (kL : PySem.W.keepIn K (.ref fL) = true)
  (z_abs : PySem.W.nsIn K mainGlobals "abs" = some none)
  (z_all : PySem.W.nsIn K mainGlobals "all" = some none)
  (z_bool : PySem.W.nsIn K mainGlobals "bool" = some none)
  (z_enumerate : PySem.W.nsIn K mainGlobals "enumerate" = some none)
  (z_int : PySem.W.nsIn K mainGlobals "int" = some none)
  (z_isinstance : PySem.W.nsIn K mainGlobals "isinstance" = some none)
  (z_len : PySem.W.nsIn K mainGlobals "len" = some none)
  (z_list : PySem.W.nsIn K mainGlobals "list" = some none)
  (z_max : PySem.W.nsIn K mainGlobals "max" = some none)
  (z_min : PySem.W.nsIn K mainGlobals "min" = some none)
  (z_range : PySem.W.nsIn K mainGlobals "range" = some none)
  (z_str : PySem.W.nsIn K mainGlobals "str" = some none)
  (z_tuple : PySem.W.nsIn K mainGlobals "tuple" = some none) :
  ∃ fd : FuncData, (∀ (s : Shared) (v : Value), BindsTo s fd ⟨[v], []⟩ [("_law_script", v)]) ∧ ∀ base : Heap, K.In base → base.Ns mainGlobals mg → FnOk l.prog w K mg base (L2.CX l.prog w) 4 fa fd ["_law_script"] (spLaw K) := by
  have T : Txt K mg _ := txt_mk X G a1 l1 c1 k1 a2 l2 c2 k2 a3 l3 c3 k3 a4 l4 c4 k4 a5 l5 c5 k5 a6 l6 c6 k6 a7 l7 c7 k7 a8 l8 c8 k8 aL lL cL kL z_abs z_all z_bool z_enumerate z_int z_isinstance z_len z_list z_max z_min z_range z_str z_tuple
  have e := hfa.symm.trans (PySem.W.mg_of X G aL)
  cases e
  refine ⟨PySem.W.fnOf "law" "law" (defArgs s_law) (defBody s_law) (defScope s_law) .none kVL dcL pmL anL cdL ctL, fun s v => .of_eq rfl, fun base _ _ => ?_⟩
  exact law_end (ok_law T (fun_mk lL cL kL)) law_true
end LK07
open PySem PySem.W PyProof.Rows
set_option maxHeartbeats 0 in
theorem PySem.Challenge.cw_callwheel_k07_where_boxes_stand_holds : PySem.Challenge.rw_callwheel_k07_where_boxes_stand.Holds := by
  w_on; o_law; k_head; (case hw => w_witness2)
  k_fill
  refine L2.walk_of (l := PySem.Challenge.rw_callwheel_k07_where_boxes_stand) (n := 63) (k := 4) (x := "_law_script") (CX := fun w => L2.CX PySem.Challenge.rw_callwheel_k07_where_boxes_stand.prog w) (sp := fun w => MM.spLaw _) rfl (by decide) rfl ⟨rfl, by decide, by decide⟩ (fun w h Y => PySem.W.kIn_of Y) ?F (fun _ H a ns hl hO hS => ⟨a, ns, rfl, hO, hS, hl, fun _ => rfl⟩) (fun w H s e s' h => MM.cx_never h)
  case F =>
    intro w mg fa h KX G hmg
    refine' LK07.all_mk KX G hmg ?a1 ?l1 ?c1 ?k1 ?a2 ?l2 ?c2 ?k2 ?a3 ?l3 ?c3 ?k3 ?a4 ?l4 ?c4 ?k4 ?a5 ?l5 ?c5 ?k5 ?a6 ?l6 ?c6 ?k6 ?a7 ?l7 ?c7 ?k7 ?a8 ?l8 ?c8 ?k8 ?aL ?lL ?cL ?kL ?z_abs ?z_all ?z_bool ?z_enumerate ?z_int ?z_isinstance ?z_len ?z_list ?z_max ?z_min ?z_range ?z_str ?z_tuple
    (case a1 => k_is); (case l1 => k_is); (case c1 => k_is); (case k1 => k_is); (case a2 => k_is); (case l2 => k_is); (case c2 => k_is); (case k2 => k_is); (case a3 => k_is); (case l3 => k_is); (case c3 => k_is); (case k3 => k_is); (case a4 => k_is); (case l4 => k_is); (case c4 => k_is); (case k4 => k_is); (case a5 => k_is); (case l5 => k_is); (case c5 => k_is); (case k5 => k_is); (case a6 => k_is); (case l6 => k_is); (case c6 => k_is); (case k6 => k_is); (case a7 => k_is); (case l7 => k_is); (case c7 => k_is); (case k7 => k_is); (case a8 => k_is); (case l8 => k_is); (case c8 => k_is); (case k8 => k_is); (case aL => k_is); (case lL => k_is); (case cL => k_is); (case kL => k_is); (case z_abs => k_is); (case z_all => k_is); (case z_bool => k_is); (case z_enumerate => k_is); (case z_int => k_is); (case z_isinstance => k_is); (case z_len => k_is); (case z_list => k_is); (case z_max => k_is); (case z_min => k_is); (case z_range => k_is); (case z_str => k_is); (case z_tuple => k_is)

