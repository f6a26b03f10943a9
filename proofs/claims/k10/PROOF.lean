import PyProof.Rows.All
import Wide.All
import OpenK.AllK
import Wide.FinOn
import HandS.ForMost
import HandS.Walk
import HandS.TupMul
import KE.GoesEnum
import HandS.Wide
import HandS.TupAny
import HandS.Zip
import HandS.IsInst
import HandS.ForExc
import HandS.Conv
import HandS.Style
import HandS.Replace
import HandS.RaiseMore
import HandS.TryOnly
import HandS.ExcOwn
import HandS.SetKeys
import HandS.Strs
import HandS.Zip0
import HandS.SetFor
import HandS.Set
import KE.DataMinMax
import HandS.SortKw
import PySem.Challenge.RW_callwheel_k10_whole_each_box_once
set_option Elab.async false
set_option linter.all false
set_option maxRecDepth 100000
namespace MM
open PySem PySem.Spec PyProof.Rows L2
open Builtin
theorem tuple_mul1 (l : Addr) (items : Array Value) (n : Nat) (dd : Option Addr) (sl : Array (Option Value)) (u : Tok) :
    Meets (Builtin.«tuple.__mul__» ⟨[.ref l, .int 1 u], []⟩) (fun A R s => s.heap.get? l = some { cls := .type "tuple", dict := dd, data := .seq items n, slots := sl } ∧ R (.ok (.ret (.ref l))) s) :=
  .of_wp fun prog w A R s h => by
    obtain ⟨hp, g, d, tk, os⟩ := s
    obtain ⟨hl, h⟩ := h
    have f1 := AutoSeq1.idx_int
    have c0 : (decide ((1 : Int) < -(2 ^ 63)) || decide ((1 : Int) ≥ 2 ^ 63)) = false := by decide
    have c1 : (items.isEmpty || (1 : Int) == 1) = true := by simp
    wp_walk using wpAny_loadPart' hl
    repeat (first
      | (refine wpAny_ite_false (decide_eq_false (by rw [c0]; exact Bool.false_ne_true)) ?_; wp_walk using wpAny_loadPart' hl)
      | (refine wpAny_ite_true (decide_eq_true c1) ?_; wp_walk using wpAny_loadPart' hl))
    exact ⟨_, rfl, h⟩
def rRep1 (K : PySem.W.Frag) : R2 := fun x y H Q => ∃ l xs, x = .ref l ∧ y = .int 1 ∧ SqT K H l xs ∧ Q (.ref l) H
theorem op_rep1 {X : Cx} : OpR X (binaryOp .Mult) (rRep1 X.K) := by
  intro pins s σ H x y v u Q I rx ry h
  obtain ⟨l, xs, rfl, rfl, hT, q⟩ := h
  cases rx
  obtain ⟨t, rfl⟩ := ry
  obtain ⟨its, r, ⟨⟨cls, dd, data, sl⟩, ho, hc, n, hd⟩, hs⟩ := I.tuple hT
  simp only at hc hd
  subst hc hd
  refine wpAny_binaryOp_repeat_ref (T := "tuple") (U := "int") (by decide) ⟨_, ho, rfl⟩ (fun s' => typeIs_int s' 1 t) noFill_tuple_mul F.fills_int_mul F.slot_int_rmul repeat_tuple F.slot_int_index.lookup
    (call_meets F.slot_int_rmul (typeIs_int s 1 t) F.entry_int_rmul (F.args_int_rmul_2 _ _) (int_rmul_tuple 1 t l its.toArray n dd sl)
      ⟨ho, rfl, ⟨_, ho, rfl⟩, call_meets F.slot_tuple_mul ⟨_, ho, rfl⟩ F.entry_tuple_mul (F.args_tuple_mul_2 _ _) (tuple_mul1 l its.toArray n dd sl t) ⟨ho, ?_⟩⟩)
  exact ⟨.ref l, H, I, rfl, q⟩
end MM

namespace MM
open PySem PySem.Spec PyProof.Rows L2
def FrzBy (as : List Addr) (H H' : Hp) : Prop := (∀ b, b ∉ as → H' b = H b) ∧ ∀ a ∈ as, ∃ ob vs, H a = some (.lst vs) ∧ H' a = some (.frz ob (.lst vs))
def FrzTo (H : Hp) (R : Hp → Prop) : Prop := ∃ as : List Addr, (∀ a ∈ as, ∃ vs, H a = some (.lst vs)) ∧ ∀ H', FrzBy as H H' → R H'
theorem FrzBy.nil {H H' : Hp} (h : FrzBy [] H H') : H' = H := by
  funext b
  exact h.1 b (by simp)
theorem FrzTo.nil {H : Hp} {R : Hp → Prop} (h : R H) : FrzTo H R := ⟨[], by simp, fun H' q => by rw [q.nil]; exact h⟩
open Classical in
theorem inv_frz {X : Cx} {pins : List (Addr × Obj)} {σ : List (Option V)} {H : Hp} {s : Shared} (I : Inv X pins σ H s) {as : List Addr} (ha : ∀ a ∈ as, ∃ vs, H a = some (.lst vs)) : ∃ H', FrzBy as H H' ∧ Inv X pins σ H' s := by
  have obj : ∀ a ∈ as, ∃ ob vs, H a = some (.lst vs) ∧ s.heap.get? a = some ob := fun a h => by
    obtain ⟨vs, e⟩ := ha a h
    obtain ⟨_, its, n, _, g⟩ := I.hok a _ e
    exact ⟨_, vs, e, g⟩
  let H' : Hp := fun b => if h : b ∈ as then some (.frz (obj b h).choose (.lst (obj b h).choose_spec.choose)) else H b
  have out : ∀ b, b ∉ as → H' b = H b := fun b h => dif_neg h
  have ins : ∀ b, b ∈ as → ∃ ob vs, H b = some (.lst vs) ∧ H' b = some (.frz ob (.lst vs)) ∧ s.heap.get? b = some ob := fun b h => by
    have q := (obj b h).choose_spec.choose_spec
    exact ⟨_, _, q.1, dif_pos h, q.2⟩
  have not : ∀ b (u : HO), H b = some u → (∀ vs, u ≠ .lst vs) → H' b = some u := fun b u e n => by
    have nb : b ∉ as := fun h => by
      obtain ⟨ob, vs, q, _⟩ := ins b h
      rw [e] at q
      exact n vs (Option.some.inj q)
    rw [out b nb, e]
  refine ⟨H', ⟨out, fun a h => let ⟨ob, vs, q1, q2, _⟩ := ins a h; ⟨ob, vs, q1, q2⟩⟩, ?_⟩
  have hok : HOk X.prog X.w H' s.heap := fun b u e => by
    have st : ∀ o, ObjOk X.prog X.w H s.heap b o → ObjOk X.prog X.w H' s.heap b o := fun o x =>
      x.stay (fun c v _ q => q) (fun c q => not c _ q (fun _ z => nomatch z)) (fun c xs q => not c _ q (fun _ z => nomatch z))
    by_cases h : b ∈ as
    · obtain ⟨ob, vs, q1, q2, q3⟩ := ins b h
      rw [q2] at e
      cases e
      exact ⟨q3, st _ (I.hok b _ q1)⟩
    · rw [out b h] at e
      exact st _ (I.hok b u e)
  have := I.step (H' := H') (h' := s.heap) (g' := s.gens) (t' := s.toks) (d' := s.drawn) (ch := []) (fun _ z => nomatch z) (fun b o _ _ _ e _ => e) (fun b o _ _ _ e _ => ⟨o.slots, e⟩)
    (fun b o _ _ n => by
      have nb : b ∉ as := fun h => by
        obtain ⟨_, _, q, _⟩ := ins b h
        rw [n] at q; cases q
      rw [out b nb, n])
    (fun b o _ e => ⟨o, e⟩) (fun b xs e => not b _ e (fun _ z => nomatch z)) (fun b o u e => not b _ e (fun _ z => nomatch z)) (fun b ps e => ⟨#[], by rw [not b _ e (fun _ z => nomatch z)]; simp⟩) (fun m q => q) hok I.bare
  exact this
/-- an expression, and then some new lists are locked -/
def tFrz (t : TE) : TE := fun σ H Q => t σ H fun v H' => FrzTo H' (Q v)
theorem pe_frz {X : Cx} {e : Expr} {t : TE} (h : PE X e t) : PE X e (tFrz t) := ⟨fun pins s σ H Q I q => thn (h.run pins s σ H _ I q) fun u s1 ⟨v, H1, I1, rv, as, ha, r⟩ => by
  obtain ⟨H2, f, I2⟩ := inv_frz I1 ha
  exact ⟨v, H2, I2, rv, r H2 f⟩⟩
theorem ps_frz {X : Cx} {st : Stmt} {t : TS} (h : PS X st t) : PS X st (fun E σ H => t { E with nx := fun σ' H' => FrzTo H' (E.nx σ') } σ H) := ⟨fun pins s σ H D I q => thn (h.run pins s σ H _ I q) fun f s1 z => by
  cases f with
  | next =>
    obtain ⟨σ1, H1, I1, as, ha, r⟩ := z
    obtain ⟨H2, f, I2⟩ := inv_frz I1 ha
    exact ⟨σ1, H2, I2, r H2 f⟩
  | _ => exact z⟩
theorem rd_obj {X : Cx} {pins : List (Addr × Obj)} {σ : List (Option V)} {H : Hp} {s : Shared} {a : Addr} {xs : List V} (I : Inv X pins σ H s) (h : Rd H a (.lst xs)) : ∃ (its : List Value) (n : Nat), xs.length ≤ sizeLine ∧ Vals xs its ∧ xs.length = its.length ∧ s.heap.get? a = some { cls := .type "list", data := .seq its.toArray n } := by
  obtain ⟨z, its, n, r, e⟩ := h.ok I.hok
  exact ⟨its, n, z, r, r.length, e⟩
def rCatR : R2 := fun x y H Q => ∃ l b xs zs, x = .ref l ∧ y = .ref b ∧ Rd H l (.lst xs) ∧ Rd H b (.lst zs) ∧ xs.length + zs.length ≤ sizeLine ∧
  ∀ q, H q = none → Q (.ref q) (upd H q (.lst (xs ++ zs)))
theorem op_catR {X : Cx} : OpR X (binaryOp .Add) rCatR := by
  rintro pins s σ H _ _ v u Q I rx ry ⟨l, b, xs, zs, rfl, rfl, h1, h2, hz, q⟩
  cases rx; cases ry
  obtain ⟨i1, n1, _, r1, l1, e1⟩ := rd_obj I h1
  obtain ⟨i2, n2, _, r2, l2, e2⟩ := rd_obj I h2
  refine PySem.P.add_list e1 e2 ?_ (by simp only [List.size_toArray]; omega)
  rw [show i1.toArray ++ i2.toArray = (i1 ++ i2).toArray from by simp]
  exact ⟨.ref _, _, I.lnew (t' := s.toks) (r1.append r2) (by simp only [List.length_append]; omega), rfl, q _ I.fresh⟩
def rRepR : R2 := fun x y H Q => ∃ l k xs, x = .ref l ∧ y = .int k ∧ Rd H l (.lst xs) ∧ -(2 ^ 63) ≤ k ∧ k < 2 ^ 63 ∧ xs.length * k.toNat ≤ sizeLine ∧
  ∀ q, H q = none → Q (.ref q) (upd H q (.lst (List.replicate k.toNat xs).flatten))
theorem op_repR {X : Cx} : OpR X (binaryOp .Mult) rRepR := by
  rintro pins s σ H _ _ v u Q I rx ry ⟨l, k, xs, rfl, rfl, h, h1, h2, hz, q⟩
  cases rx
  obtain ⟨t, rfl⟩ := ry
  obtain ⟨its, n, _, r, hl, e⟩ := rd_obj I h
  have hlen : its.length * k.toNat ≤ sizeLine := hl ▸ hz
  have big : (sizeLine : Nat) ≤ (2 ^ 63 - 1) / 8 := by decide
  have c1 : ¬ (!Builtin.List.listFitsIndex k) = true := by simp [fitsIndex_both h1 h2]
  have c2 : ¬ its.toArray.size * k.toNat > (2 ^ 63 - 1) / 8 := by rw [List.size_toArray]; omega
  have c3 : ¬ Builtin.List.listTooLong (its.toArray.size * k.toNat) = true := by rw [notLongL (show its.toArray.size * k.toNat ≤ sizeLine by rw [List.size_toArray]; exact hlen)]; decide
  have f : ∀ m : Nat, (List.replicate m its.toArray).foldl (· ++ ·) #[] = (List.replicate m its).flatten.toArray := fun m => by simpa using foldl_rep its m []
  have f2 : (List.replicate (if its.toArray.isEmpty = true then 0 else k.toNat) its.toArray).foldl (· ++ ·) #[] = (List.replicate k.toNat its).flatten.toArray := by
    rw [f]
    cases its <;> simp
  have m1 := AutoListH.list___mul___list_int_3 l its.toArray n k t c1 c2 c3
  refine wpAny_binaryOp_repeat_ref (T := "list") (U := "int") (by decide) ⟨_, e, rfl⟩ (fun s' => typeIs_int s' k t) noFill_list_mul F.fills_int_mul F.slot_int_rmul repeat_list F.slot_int_index.lookup
    (call_meets F.slot_int_rmul (typeIs_int s k t) F.entry_int_rmul (F.args_int_rmul_2 _ _) (int___rmul___int_list k t l its.toArray n) ⟨e, rfl, ⟨_, e, rfl⟩, call_meets F.slot_list_mul ⟨_, e, rfl⟩ F.entry_list_mul (F.args_list_mul_2 _ _) m1 ⟨e, ?_⟩⟩)
  rw [f2]
  exact ⟨.ref _, _, I.lnew (t' := s.toks) (r.rep k.toNat) (by rw [PyProof.Rows.lm_len_rep_flat, Nat.mul_comm]; exact hz), rfl, q _ I.fresh⟩
def rExtR : V → List V → Hp → VK → Prop := fun x vs H Q => ∃ l b xs zs, x = .ref l ∧ vs = [.ref b] ∧ H l = some (.lst xs) ∧ Rd H b (.lst zs) ∧ xs.length + zs.length ≤ sizeLine ∧ Q .non (upd H l (.lst (xs ++ zs)))
theorem mt_extR {X : Cx} : MtM X "list.extend" rExtR := by
  rintro pins s σ H _ _ v us Q I rx rv ⟨l, b, xs, zs, rfl, rfl, h1, h2, hz, q⟩
  cases rx
  obtain ⟨u, rfl, ru⟩ := rv.one
  cases ru
  obtain ⟨i1, n1, _, r1, l1, e1⟩ := rd_obj I (Rd.of h1)
  obtain ⟨i2, n2, _, r2, l2, e2⟩ := rd_obj I h2
  have c : ¬ (!i1.toArray.isEmpty && Builtin.List.listTooLong (i1.toArray.size + i2.toArray.size)) = true := by
    rw [notLongL (by simp only [List.size_toArray]; omega)]
    simp
  refine call_meets F.slot_list_extend ⟨_, e1, rfl⟩ F.entry_list_extend (F.args_list_extend_2 _ _) (AutoSeq1.list_extend_list_list_0 l i1.toArray n1 b i2.toArray n2 c (by simp only [List.size_toArray]; omega) (by simp only [List.size_toArray]; omega)) ⟨e1, e2, ?_⟩
  exact ⟨.non, _, I.lset (its' := i1 ++ i2) h1 e1 (by simp) (r1.append r2) (by simp only [List.length_append]; omega), rfl, q⟩
end MM

namespace MM
open PySem PySem.Spec PyProof.Rows L2

inductive D where
  | non | bl (b : Bool) | int (i : Int) | str (x : Str) | tup (l : List D) | ref (n : Nat) | scr (ns : List Int) | pl (l : List D)

inductive O where
  | lst (fz : Bool) (l : List D) | dct (fz : Bool) (l : List (Key × D)) | ins (c : Nat) (fs : List (Str × D))

abbrev Sto := List O
abbrev Fr := List (Option D)

inductive R (α : Type) where
  | ok (a : α) (s : Sto) | ex (c : Nat) (s : Sto) | no

inductive RS where
  | nx (r : Fr) (s : Sto) | rt (d : D) (s : Sto) | bk (r : Fr) (s : Sto) | ct (r : Fr) (s : Sto) | ex (c : Nat) (r : Fr) (s : Sto) | no

def R.bind {α β : Type} : R α → (α → Sto → R β) → R β
  | .ok a s, f => f a s
  | .ex c s, _ => .ex c s
  | .no, _ => .no

abbrev ME := Fr → Sto → R D
abbrev MT := Fr → Sto → R Bool
abbrev ML := Fr → Sto → R (List D)
abbrev MS := Fr → Sto → RS

/-- a locked list that the store does not know -/
def Pul (φ : List Addr) (H : Hp) (a : Addr) (xs : List V) : Prop := a ∉ φ ∧ ∃ o, H a = some (.frz o (.lst xs))
theorem Pul.rd {φ : List Addr} {H : Hp} {a : Addr} {xs : List V} (h : Pul φ H a xs) : Rd H a (.lst xs) := .inr h.2
theorem Pul.sq {K : PySem.W.Frag} {φ : List Addr} {H : Hp} {a : Addr} {xs : List V} (h : Pul φ H a xs) : SqL K H a xs := .inl (.inr h.2)
/-- the law's script: locked, or an object of the module's own -/
def Fro (K : PySem.W.Frag) (φ : List Addr) (H : Hp) (a : Addr) (xs : List V) : Prop :=
  (a ∉ φ ∧ ∃ o, H a = some (.frz o (.lst xs))) ∨
    ∃ (o : Obj) (its : Array Value) (n : Nat), K.lookup a = some o ∧ o.cls = .type "list" ∧ o.dict = none ∧ o.data = .seq its n ∧ its.size ≤ sizeLine ∧ Vals xs its.toList
theorem Fro.sq {K : PySem.W.Frag} {φ : List Addr} {H : Hp} {a : Addr} {xs : List V} (h : Fro K φ H a xs) : SqL K H a xs := by
  rcases h with ⟨_, h⟩ | h
  · exact .inl (.inr h)
  · exact .inr h
mutual
def Rep (K : PySem.W.Frag) (φ : List Addr) (H : Hp) : D → V → Prop
  | .non, v => v = .non
  | .bl b, v => v = .bl b
  | .int i, v => v = .int i
  | .str x, v => v = .str x
  | .ref n, v => ∃ a, φ[n]? = some a ∧ v = .ref a
  | .tup l, v => ∃ a vs, v = .ref a ∧ SqT K H a vs ∧ RepL K φ H l vs
  | .scr ns, v => ∃ a, v = .ref a ∧ Fro K φ H a (ns.map V.int)
  | .pl l, v => ∃ a vs, v = .ref a ∧ Pul φ H a vs ∧ RepL K φ H l vs
def RepL (K : PySem.W.Frag) (φ : List Addr) (H : Hp) : List D → List V → Prop
  | [], vs => vs = []
  | d :: ds, vs => ∃ v r, vs = v :: r ∧ Rep K φ H d v ∧ RepL K φ H ds r
end

/-- pairs of a dict, fields of an instance -/
def RepKV {κ : Type} (K : PySem.W.Frag) (φ : List Addr) (H : Hp) : List (κ × D) → List (κ × V) → Prop
  | [], vs => vs = []
  | d :: ds, vs => ∃ v r, vs = (d.1, v) :: r ∧ Rep K φ H d.2 v ∧ RepKV K φ H ds r

/-- what is known around: the classes' addresses -/
structure Cl where
  cl : Nat → Addr

def RepO (K : PySem.W.Frag) (c : Cl) (φ : List Addr) (H : Hp) (a : Addr) : O → Prop
  | .lst fz l => ∃ vs, RepL K φ H l vs ∧ if fz = true then ∃ ob, H a = some (.frz ob (.lst vs)) else H a = some (.lst vs)
  | .dct fz l => ∃ vs, RepKV K φ H l vs ∧ if fz = true then ∃ ob, H a = some (.frz ob (.dK vs)) else H a = some (.dK vs)
  | .ins k fs => ∃ dx vs, RepKV K φ H fs vs ∧ H a = some (.ins (c.cl k) dx vs)

structure Rel (K : PySem.W.Frag) (c : Cl) (φ : List Addr) (S : Sto) (H : Hp) : Prop where
  len : φ.length = S.length
  nd : φ.Nodup
  obj : ∀ (n : Nat) a o, φ[n]? = some a → S[n]? = some o → RepO K c φ H a o

structure Ext (φ : List Addr) (H : Hp) (φ' : List Addr) (H' : Hp) : Prop where
  more : ∃ ψ, φ' = φ ++ ψ ∧ ∀ a ∈ ψ, H a = none
  nd : φ'.Nodup
  keep : ∀ a o, H a = some o → a ∉ φ → H' a = some o
  frz : ∀ a ob u, H a = some (.frz ob u) → H' a = some (.frz ob u)

def FrRel (K : PySem.W.Frag) (φ : List Addr) (H : Hp) (σ : L2.St) (ρ : Fr) : Prop :=
  ρ.length = σ.length ∧ ∀ (i : Nat) d, ρ[i]? = some (some d) → ∃ v, σ[i]? = some (some v) ∧ Rep K φ H d v

section
variable {K : PySem.W.Frag} {c : Cl} {φ φ' φ1 φ2 : List Addr} {H H' H1 H2 : Hp} {S S' : Sto}

theorem Ext.refl (nd : φ.Nodup) : Ext φ H φ H := ⟨⟨[], by simp, by simp⟩, nd, fun _ _ h _ => h, fun _ _ _ h => h⟩
theorem Ext.notin (e : Ext φ H φ' H') {a : Addr} {o : HO} (h : H a = some o) (n : a ∉ φ) : a ∉ φ' := by
  obtain ⟨ψ, rfl, hψ⟩ := e.more
  intro q
  rcases List.mem_append.mp q with q | q
  · exact n q
  · rw [hψ a q] at h; cases h
theorem Ext.trans (e : Ext φ H φ1 H1) (f : Ext φ1 H1 φ2 H2) : Ext φ H φ2 H2 := by
  refine ⟨?_, f.nd, fun a o h n => f.keep a o (e.keep a o h n) (e.notin h n), fun a ob u h => f.frz a ob u (e.frz a ob u h)⟩
  obtain ⟨ψ, e1, hψ⟩ := e.more
  obtain ⟨χ, e2, hχ⟩ := f.more
  refine ⟨ψ ++ χ, by rw [e2, e1, List.append_assoc], fun a ha => ?_⟩
  rcases List.mem_append.mp ha with q | q
  · exact hψ a q
  · cases h : H a with
    | none => rfl
    | some o =>
      by_cases n : a ∈ φ
      · have nd := f.nd
        rw [e2, e1, List.append_assoc] at nd
        exact absurd rfl ((List.nodup_append.mp nd).2.2 a n a (List.mem_append_right _ q))
      · have := hχ a q
        rw [e.keep a o h n] at this
        cases this
theorem Ext.ix (e : Ext φ H φ' H') {n : Nat} {a : Addr} (h : φ[n]? = some a) : φ'[n]? = some a := by
  obtain ⟨ψ, rfl, _⟩ := e.more
  rw [List.getElem?_append_left (List.getElem?_eq_some_iff.mp h).1]
  exact h
theorem Rel.there (r : Rel K c φ S H) {a : Addr} (h : a ∈ φ) : ∃ (n : Nat) (o : O), φ[n]? = some a ∧ S[n]? = some o ∧ RepO K c φ H a o := by
  obtain ⟨n, hn, e⟩ := List.getElem_of_mem h
  have h1 : φ[n]? = some a := by rw [List.getElem?_eq_getElem hn, e]
  have h2 : n < S.length := by rw [← r.len]; exact hn
  have h3 : S[n]? = some S[n] := List.getElem?_eq_getElem h2
  exact ⟨n, _, h1, h3, r.obj n a _ h1 h3⟩
theorem RepO.some (r : RepO K c φ H a o) : ∃ u, H a = some u ∧ (∀ xs, u ≠ .tup xs) ∧ ∀ ob xs, u ≠ .frz ob (.tup xs) := by
  cases o with
  | lst fz l =>
    obtain ⟨vs, _, h⟩ := r
    split at h
    · obtain ⟨ob, h⟩ := h
      exact ⟨_, h, fun _ q => (nomatch q), fun _ _ q => (nomatch q)⟩
    · exact ⟨_, h, fun _ q => (nomatch q), fun _ _ q => (nomatch q)⟩
  | dct fz l =>
    obtain ⟨vs, _, h⟩ := r
    split at h
    · obtain ⟨ob, h⟩ := h
      exact ⟨_, h, fun _ q => (nomatch q), fun _ _ q => (nomatch q)⟩
    · exact ⟨_, h, fun _ q => (nomatch q), fun _ _ q => (nomatch q)⟩
  | ins k fs =>
    obtain ⟨dx, vs, _, h⟩ := r
    exact ⟨_, h, fun _ q => (nomatch q), fun _ _ q => (nomatch q)⟩
theorem Rel.tupNot (r : Rel K c φ S H) {a : Addr} {xs : List V} (h : Rd H a (.tup xs)) : a ∉ φ := fun q => by
  obtain ⟨n, o, _, _, ro⟩ := r.there q
  obtain ⟨u, hu, n1, n2⟩ := ro.some
  rcases h with h | ⟨ob, h⟩
  · rw [h] at hu; exact n1 _ (Option.some.inj hu).symm
  · rw [h] at hu; exact n2 _ _ (Option.some.inj hu).symm
theorem Rel.free (r : Rel K c φ S H) {a : Addr} (h : H a = none) : a ∉ φ := fun q => by
  obtain ⟨n, o, _, _, ro⟩ := r.there q
  obtain ⟨u, hu, _⟩ := ro.some
  rw [h] at hu; cases hu
theorem Ext.tup (e : Ext φ H φ' H') (r : Rel K c φ S H) {a : Addr} {xs : List V} (h : SqT K H a xs) : SqT K H' a xs := by
  rcases h with h | h
  · have n := r.tupNot h
    rcases h with h | ⟨ob, h⟩
    · exact .inl (.inl (e.keep _ _ h n))
    · exact .inl (.inr ⟨ob, e.keep _ _ h n⟩)
  · exact .inr h
/-- heaps in which all tuples stay, addresses stay -/
structure Stays (K : PySem.W.Frag) (φ : List Addr) (H : Hp) (φ' : List Addr) (H' : Hp) : Prop where
  ix : ∀ (n : Nat) a, φ[n]? = some a → φ'[n]? = some a
  tup : ∀ a xs, SqT K H a xs → SqT K H' a xs
  pul : ∀ a xs, Pul φ H a xs → Pul φ' H' a xs
theorem Stays.fro (st : Stays K φ H φ' H') (a : Addr) (xs : List V) (h : Fro K φ H a xs) : Fro K φ' H' a xs := by
  rcases h with h | h
  · exact .inl (st.pul a xs h)
  · exact .inr h
theorem Ext.stays (e : Ext φ H φ' H') (r : Rel K c φ S H) : Stays K φ H φ' H' := ⟨fun _ _ h => e.ix h, fun _ _ h => e.tup r h, fun a xs h => by
  obtain ⟨n, o, h⟩ := h
  exact ⟨e.notin h n, o, e.keep _ _ h n⟩⟩
mutual
theorem Rep.stay (e : Stays K φ H φ' H') : ∀ (d : D) (v : V), Rep K φ H d v → Rep K φ' H' d v
  | .non, _, h => h
  | .bl _, _, h => h
  | .int _, _, h => h
  | .str _, _, h => h
  | .ref n, v, h => by
    unfold Rep at h ⊢
    obtain ⟨a, h1, h2⟩ := h
    exact ⟨a, e.ix _ _ h1, h2⟩
  | .tup l, v, h => by
    unfold Rep at h ⊢
    obtain ⟨a, vs, h1, h2, h3⟩ := h
    exact ⟨a, vs, h1, e.tup _ _ h2, RepL.stay e l vs h3⟩
  | .scr ns, v, h => by
    unfold Rep at h ⊢
    obtain ⟨a, h1, h2⟩ := h
    exact ⟨a, h1, e.fro _ _ h2⟩
  | .pl l, v, h => by
    unfold Rep at h ⊢
    obtain ⟨a, vs, h1, h2, h3⟩ := h
    exact ⟨a, vs, h1, e.pul _ _ h2, RepL.stay e l vs h3⟩
theorem RepL.stay (e : Stays K φ H φ' H') : ∀ (d : List D) (v : List V), RepL K φ H d v → RepL K φ' H' d v
  | [], _, h => h
  | d :: ds, vs, h => by
    unfold RepL at h ⊢
    obtain ⟨v, r, h1, h2, h3⟩ := h
    exact ⟨v, r, h1, Rep.stay e d v h2, RepL.stay e ds r h3⟩
end
theorem RepKV.stay {κ : Type} (e : Stays K φ H φ' H') : ∀ (d : List (κ × D)) (v : List (κ × V)), RepKV K φ H d v → RepKV K φ' H' d v
  | [], _, h => h
  | d :: ds, vs, h => by
    unfold RepKV at h ⊢
    obtain ⟨v, r, h1, h2, h3⟩ := h
    exact ⟨v, r, h1, Rep.stay e d.2 v h2, RepKV.stay e ds r h3⟩
theorem FrRel.stay {σ : L2.St} {ρ : Fr} (e : Stays K φ H φ' H') (f : FrRel K φ H σ ρ) : FrRel K φ' H' σ ρ := ⟨f.1, fun i d h => by
  obtain ⟨v, h1, h2⟩ := f.2 i d h
  exact ⟨v, h1, h2.stay e⟩⟩
end

def PostW {α : Type} (K : PySem.W.Frag) (c : Cl) (W : WX) (σ : L2.St) (φ : List Addr) (H : Hp) (good : α → Sto → List Addr → Hp → Prop) : R α → Prop
  | .ok d S' => ∀ φ' H', Ext φ H φ' H' → Rel K c φ' S' H' → good d S' φ' H'
  | .ex k S' => ∀ φ' H', Ext φ H φ' H' → Rel K c φ' S' H' → W (.ref (c.cl k)) none σ H'
  | .no => False
section
variable {K : PySem.W.Frag} {c : Cl} {W : WX} {σ : L2.St} {φ φ' φ1 : List Addr} {H H' H1 : Hp} {α β : Type} {good : α → Sto → List Addr → Hp → Prop} {good' : β → Sto → List Addr → Hp → Prop}
theorem PostW.from {r : R α} (e : Ext φ H φ1 H1) (h : PostW K c W σ φ H good r) : PostW K c W σ φ1 H1 good r := by
  cases r with
  | ok d S' => exact fun φ' H' e' r' => h φ' H' (e.trans e') r'
  | ex k S' => exact fun φ' H' e' r' => h φ' H' (e.trans e') r'
  | no => exact h
theorem PostW.elim {r : R β} {f : β → Sto → R α} (h : PostW K c W σ φ H good (r.bind f))
    (k : ∀ a S1 φ1 H1, Ext φ H φ1 H1 → Rel K c φ1 S1 H1 → PostW K c W σ φ1 H1 good (f a S1) → good' a S1 φ1 H1) : PostW K c W σ φ H good' r := by
  cases r with
  | ok d S' => exact fun φ1 H1 e1 r1 => k d S' φ1 H1 e1 r1 (PostW.from e1 h)
  | ex k S' => exact h
  | no => exact h
theorem PostW.here {a : α} {S : Sto} (r : Rel K c φ S H) (h : PostW K c W σ φ H good (.ok a S)) : good a S φ H := h φ H (Ext.refl r.nd) r
theorem PostW.imp {r : R α} {good2 : α → Sto → List Addr → Hp → Prop} (h : PostW K c W σ φ H good r) (k : ∀ a S φ' H', good a S φ' H' → good2 a S φ' H') : PostW K c W σ φ H good2 r := by
  cases r with
  | ok d S' => exact fun φ' H' e' r' => k _ _ _ _ (h φ' H' e' r')
  | ex k S' => exact h
  | no => exact h
end

/-- a value, a test, arguments, a list to be read, a new list -/
abbrev gE (K : PySem.W.Frag) (Q : VK) : D → Sto → List Addr → Hp → Prop := fun d _ φ H => ∀ v, Rep K φ H d v → Q v H
abbrev gT (Q : Bool → Hp → Prop) : Bool → Sto → List Addr → Hp → Prop := fun b _ _ H => Q b H
abbrev gA (K : PySem.W.Frag) (Q : List V → Hp → Prop) : List D → Sto → List Addr → Hp → Prop := fun ds _ φ H => ∀ vs, RepL K φ H ds vs → Q vs H
abbrev gL (K : PySem.W.Frag) (Q : VK) : List D → Sto → List Addr → Hp → Prop := fun ds _ φ H => ∀ a vs, SqL K H a vs → RepL K φ H ds vs → Q (.ref a) H
abbrev gN (K : PySem.W.Frag) (H0 : Hp) (Q : VK) : List D → Sto → List Addr → Hp → Prop := fun ds _ φ H => ∀ a vs, H0 a = none → H a = some (.lst vs) → a ∉ φ → RepL K φ H ds vs → Q (.ref a) H

def DE (X : Cx) (c : Cl) (W : WX) (e : Expr) (m : ME) : Prop :=
  ∃ t, PE X e t ∧ ∀ φ σ H ρ S Q, Rel X.K c φ S H → FrRel X.K φ H σ ρ → PostW X.K c W σ φ H (gE X.K Q) (m ρ S) → t σ H Q
def DT (X : Cx) (c : Cl) (W : WX) (e : Expr) (m : MT) : Prop :=
  ∃ t, PT X e t ∧ ∀ φ σ H ρ S Q, Rel X.K c φ S H → FrRel X.K φ H σ ρ → PostW X.K c W σ φ H (gT Q) (m ρ S) → t σ H Q
/-- and, or as tests -/
def DW (X : Cx) (c : Cl) (W : WX) (e : Expr) (m : MT) : Prop :=
  ∃ t, PW X e t ∧ ∀ φ σ H ρ S Q, Rel X.K c φ S H → FrRel X.K φ H σ ρ → PostW X.K c W σ φ H (gT Q) (m ρ S) → t σ H Q
def DA (X : Cx) (c : Cl) (W : WX) (es : List Expr) (m : ML) : Prop :=
  ∃ t, PA X es t ∧ ∀ φ σ H ρ S Q, Rel X.K c φ S H → FrRel X.K φ H σ ρ → PostW X.K c W σ φ H (gA X.K Q) (m ρ S) → t σ H Q
def DL (X : Cx) (c : Cl) (W : WX) (e : Expr) (m : ML) : Prop :=
  ∃ t, PE X e t ∧ ∀ φ σ H ρ S Q, Rel X.K c φ S H → FrRel X.K φ H σ ρ → PostW X.K c W σ φ H (gL X.K Q) (m ρ S) → t σ H Q
def DN (X : Cx) (c : Cl) (W : WX) (e : Expr) (m : ML) : Prop :=
  ∃ t, PE X e t ∧ ∀ φ σ H ρ S Q, Rel X.K c φ S H → FrRel X.K φ H σ ρ → PostW X.K c W σ φ H (gN X.K H Q) (m ρ S) → t σ H Q

def eVar (i : Nat) : ME := fun ρ S => match ρ[i]? with
  | some (some d) => .ok d S
  | _ => .no
def eC (d : D) : ME := fun _ S => .ok d S
section
variable {X : Cx} {c : Cl} {W : WX}
theorem de_var {i : Nat} {x : Str} {pos : Pos} (h : PE X (.Name x pos) (tVar i)) : DE X c W (.Name x pos) (eVar i) := by
  refine ⟨_, h, fun φ σ H ρ S Q r f p => ?_⟩
  unfold eVar at p
  split at p
  · rename_i d e
    obtain ⟨v, h1, h2⟩ := f.2 i d e
    exact ⟨v, h1, PostW.here r p v h2⟩
  · exact False.elim p
/-- a constant without an address -/
theorem de_c {e : Expr} {v : V} {d : D} (h : PE X e (tC v)) (hv : ∀ φ H, Rep X.K φ H d v) : DE X c W e (eC d) :=
  ⟨_, h, fun φ σ H ρ S Q r f p => PostW.here r p v (hv φ H)⟩
theorem de_int {i j pos} : DE X c W (.Constant (.int i) j pos) (eC (.int i)) := de_c pe_int fun _ _ => by unfold Rep; rfl
theorem de_bl {i j pos} : DE X c W (.Constant (.bool i) j pos) (eC (.bl i)) := de_c pe_bl fun _ _ => by unfold Rep; rfl
theorem de_str {i j pos} : DE X c W (.Constant (.str i) j pos) (eC (.str i)) := de_c pe_str fun _ _ => by unfold Rep; rfl
end

/-- rules that may lock what is new -/
theorem PostW.frz {K : PySem.W.Frag} {c : Cl} {W : WX} {σ : L2.St} {φ : List Addr} {H : Hp} {Q : VK} {r : R D} (h : PostW K c W σ φ H (gE K Q) r) : PostW K c W σ φ H (gE K fun v H' => FrzTo H' (Q v)) r :=
  h.imp fun _ _ _ _ g v hv => FrzTo.nil (g v hv)
abbrev F1 := D → Sto → R D
abbrev F2 := D → D → Sto → R D
def eUn (f : F1) (a : ME) : ME := fun ρ S => (a ρ S).bind f
def eBin (f : F2) (a b : ME) : ME := fun ρ S => (a ρ S).bind fun x S1 => (b ρ S1).bind fun y S2 => f x y S2
/-- f is what the rule r says -/
def Fits2 (K : PySem.W.Frag) (c : Cl) (r : R2) (f : F2) : Prop := ∀ W σ φ H S x y dx dy Q, Rel K c φ S H → Rep K φ H dx x → Rep K φ H dy y → PostW K c W σ φ H (gE K Q) (f dx dy S) → r x y H Q
/-- the same, with locking -/
def Fits2F (K : PySem.W.Frag) (c : Cl) (r : R2) (f : F2) : Prop := ∀ W σ φ H S x y dx dy Q, Rel K c φ S H → Rep K φ H dx x → Rep K φ H dy y → PostW K c W σ φ H (gE K Q) (f dx dy S) → r x y H (fun v H' => FrzTo H' (Q v))
theorem Fits2.frz {K : PySem.W.Frag} {c : Cl} {r : R2} {f : F2} (h : Fits2 K c r f) : Fits2F K c r f := fun W σ φ H S x y dx dy Q r hx hy p => h W σ φ H S x y dx dy _ r hx hy p.frz
section
variable {X : Cx} {c : Cl} {W : WX} {a b : Expr} {ma mb : ME} {pos : Pos}
theorem de_binF {op : Operator} {r : R2} {f : F2} (ho : OpR X (binaryOp op) r) (hf : Fits2F X.K c r f) (ha : DE X c W a ma) (hb : DE X c W b mb) : DE X c W (.BinOp a op b pos) (eBin f ma mb) := by
  obtain ⟨ta, pa, ha⟩ := ha
  obtain ⟨tb, pb, hb⟩ := hb
  refine ⟨_, pe_frz (pe_op ho pa pb), fun φ σ H ρ S Q r f p => ?_⟩
  refine ha φ σ H ρ S _ r f (PostW.elim p fun d S1 φ1 H1 e1 r1 p1 => fun x hx => ?_)
  refine hb φ1 σ H1 ρ S1 _ r1 (f.stay (e1.stays r)) (PostW.elim p1 fun d2 S2 φ2 H2 e2 r2 p2 => fun y hy => ?_)
  exact hf W σ φ2 H2 S2 x y _ _ Q r2 (hx.stay (e2.stays r1)) hy p2
theorem de_bin {op : Operator} {r : R2} {f : F2} (ho : OpR X (binaryOp op) r) (hf : Fits2 X.K c r f) (ha : DE X c W a ma) (hb : DE X c W b mb) : DE X c W (.BinOp a op b pos) (eBin f ma mb) := by
  obtain ⟨ta, pa, ha⟩ := ha
  obtain ⟨tb, pb, hb⟩ := hb
  refine ⟨_, pe_op ho pa pb, fun φ σ H ρ S Q r f p => ?_⟩
  refine ha φ σ H ρ S _ r f (PostW.elim p fun d S1 φ1 H1 e1 r1 p1 => fun x hx => ?_)
  refine hb φ1 σ H1 ρ S1 _ r1 (f.stay (e1.stays r)) (PostW.elim p1 fun d2 S2 φ2 H2 e2 r2 p2 => fun y hy => ?_)
  exact hf W σ φ2 H2 S2 x y _ _ Q r2 (hx.stay (e2.stays r1)) hy p2
theorem de_cmp {op : CmpOp} {r : R2} {f : F2} (ho : OpR X (compareOp op) r) (hf : Fits2 X.K c r f) (ha : DE X c W a ma) (hb : DE X c W b mb) (hm : behindInMarks op b = false) : DE X c W (.Compare a [op] [b] pos) (eBin f ma mb) := by
  obtain ⟨ta, pa, ha⟩ := ha
  obtain ⟨tb, pb, hb⟩ := hb
  refine ⟨_, pe_cmpR ho pa pb hm, fun φ σ H ρ S Q r f p => ?_⟩
  refine ha φ σ H ρ S _ r f (PostW.elim p fun d S1 φ1 H1 e1 r1 p1 => fun x hx => ?_)
  refine hb φ1 σ H1 ρ S1 _ r1 (f.stay (e1.stays r)) (PostW.elim p1 fun d2 S2 φ2 H2 e2 r2 p2 => fun y hy => ?_)
  exact hf W σ φ2 H2 S2 x y _ _ Q r2 (hx.stay (e2.stays r1)) hy p2
end
end MM

namespace MM
open PySem PySem.Spec PyProof.Rows L2
section
variable {K : PySem.W.Frag} {c : Cl} {φ φ' φ1 φ2 : List Addr} {H H' H1 H2 : Hp} {S S' : Sto} {a p : Addr} {o : O} {u : HO}
theorem RepO.stay (e : Stays K φ H φ' H') (h : H' a = H a) (r : RepO K c φ H a o) : RepO K c φ' H' a o := by
  cases o with
  | lst fz l =>
    obtain ⟨vs, h1, h2⟩ := r
    refine ⟨vs, h1.stay e, ?_⟩
    rw [h]; exact h2
  | dct fz l =>
    obtain ⟨vs, h1, h2⟩ := r
    refine ⟨vs, h1.stay e, ?_⟩
    rw [h]; exact h2
  | ins k fs =>
    obtain ⟨dx, vs, h1, h2⟩ := r
    refine ⟨dx, vs, h1.stay e, ?_⟩
    rw [h]; exact h2
theorem stays_free (h : H p = none) : Stays K φ H φ (upd H p u) := ⟨fun _ _ q => q, fun a xs q => by
  rcases q with (q | ⟨ob, q⟩) | q
  · exact .inl (.inl (by rw [upd_ne (ne_of_none q h)]; exact q))
  · exact .inl (.inr ⟨ob, by rw [upd_ne (ne_of_none q h)]; exact q⟩)
  · exact .inr q, fun a xs q => by
  obtain ⟨n, o, q⟩ := q
  exact ⟨n, o, by rw [upd_ne (ne_of_none q h)]; exact q⟩⟩
theorem stays_snoc (h : H p = none) : Stays K φ H (φ ++ [p]) (upd H p u) := ⟨fun n x q => by rw [List.getElem?_append_left (List.getElem?_eq_some_iff.mp q).1]; exact q, (stays_free (φ := φ) h).tup, fun a xs q => by
  obtain ⟨n, o, q⟩ := q
  have z := ne_of_none q h
  exact ⟨fun m => (List.mem_append.mp m).elim n (fun m => z (by simpa using m)), o, by rw [upd_ne z]; exact q⟩⟩
/-- a new object that the store does not know -/
theorem Rel.fresh (r : Rel K c φ S H) (h : H p = none) : Ext φ H φ (upd H p u) ∧ Rel K c φ S (upd H p u) := by
  refine ⟨⟨⟨[], by simp, by simp⟩, r.nd, fun a o e _ => by rw [upd_ne (ne_of_none e h)]; exact e, fun a ob u e => by rw [upd_ne (ne_of_none e h)]; exact e⟩, r.len, r.nd, fun n a o h1 h2 => ?_⟩
  refine (r.obj n a o h1 h2).stay (stays_free h) (upd_ne ?_)
  obtain ⟨w, hw, _⟩ := (r.obj n a o h1 h2).some
  exact ne_of_none hw h
theorem Ext.fresh (nd : φ.Nodup) (h : H p = none) : Ext φ H φ (upd H p u) :=
  ⟨⟨[], by simp, by simp⟩, nd, fun a o e _ => by rw [upd_ne (ne_of_none e h)]; exact e, fun a ob u e => by rw [upd_ne (ne_of_none e h)]; exact e⟩
/-- a new object of the store -/
theorem Rel.alloc (r : Rel K c φ S H) (h : H p = none) (ho : RepO K c (φ ++ [p]) (upd H p u) p o) : Ext φ H (φ ++ [p]) (upd H p u) ∧ Rel K c (φ ++ [p]) (S ++ [o]) (upd H p u) := by
  have np : p ∉ φ := r.free h
  have nd : (φ ++ [p]).Nodup := by
    rw [List.nodup_append]
    refine ⟨r.nd, by simp, fun x hx y hy e => ?_⟩
    simp at hy
    subst hy e
    exact np hx
  have st : Stays K φ H (φ ++ [p]) (upd H p u) := stays_snoc h
  refine ⟨⟨⟨[p], rfl, fun x hx => by simp at hx; rw [hx]; exact h⟩, nd, fun a o e _ => by rw [upd_ne (ne_of_none e h)]; exact e, fun a ob u e => by rw [upd_ne (ne_of_none e h)]; exact e⟩, by simp [r.len], nd, fun n a o' h1 h2 => ?_⟩
  by_cases hn : n < φ.length
  · rw [List.getElem?_append_left hn] at h1
    rw [List.getElem?_append_left (by rw [← r.len]; exact hn)] at h2
    have q := r.obj n a o' h1 h2
    refine q.stay st (upd_ne ?_)
    obtain ⟨w, hw, _⟩ := q.some
    exact ne_of_none hw h
  · have e : n = φ.length := by
      have := (List.getElem?_eq_some_iff.mp h1).1
      simp at this
      omega
    subst e
    have e1 : p = a := by simpa using h1
    have e2 : o = o' := by
      rw [r.len] at h2
      simpa using h2
    subst e1 e2
    exact ho
theorem stays_write (r : Rel K c φ S H) {n : Nat} (h1 : φ[n]? = some a) : Stays K φ H φ (upd H a u) := by
  refine ⟨fun _ _ q => q, fun b xs q => ?_, fun b xs q => ?_⟩
  rotate_left
  · obtain ⟨n, o, q⟩ := q
    exact ⟨n, o, by rw [upd_ne (fun e => n (by rw [e]; exact List.mem_of_getElem? h1))]; exact q⟩
  rcases q with q | q
  · have nb : b ≠ a := fun e => r.tupNot q (by rw [e]; exact List.mem_of_getElem? h1)
    rcases q with q | ⟨ob, q⟩
    · exact .inl (.inl (by rw [upd_ne nb]; exact q))
    · exact .inl (.inr ⟨ob, by rw [upd_ne nb]; exact q⟩)
  · exact .inr q
theorem nodup_ne {l : List Addr} (nd : l.Nodup) {n m : Nat} {a b : Addr} (h1 : l[n]? = some a) (h2 : l[m]? = some b) (h : n ≠ m) : b ≠ a := by
  intro e
  subst e
  obtain ⟨i1, e1⟩ := List.getElem?_eq_some_iff.mp h1
  obtain ⟨i2, e2⟩ := List.getElem?_eq_some_iff.mp h2
  exact h ((List.getElem_inj nd).mp (e1.trans e2.symm))
/-- an object of the store is changed -/
theorem Rel.write (r : Rel K c φ S H) {n : Nat} (h1 : φ[n]? = some a) (ho : RepO K c φ (upd H a u) a o) (hz : ∀ ob w, H a ≠ some (.frz ob w)) : Ext φ H φ (upd H a u) ∧ Rel K c φ (S.set n o) (upd H a u) := by
  refine ⟨⟨⟨[], by simp, by simp⟩, r.nd, fun b w e nb => by rw [upd_ne (fun q => nb (by rw [q]; exact List.mem_of_getElem? h1))]; exact e, fun b ob w e => by rw [upd_ne (fun q => hz ob w (by rw [← q]; exact e))]; exact e⟩, by simp [r.len], r.nd, fun m b o' h2 h3 => ?_⟩
  by_cases hm : n = m
  · subst hm
    rw [h1] at h2
    cases h2
    rw [List.getElem?_set_self (by rw [← r.len]; exact (List.getElem?_eq_some_iff.mp h1).1)] at h3
    cases h3
    exact ho
  · rw [List.getElem?_set_ne hm] at h3
    exact (r.obj m b o' h2 h3).stay (stays_write r h1) (upd_ne (nodup_ne r.nd h1 h2 hm))
theorem Ext.back (e : Ext φ H φ' H') (r : Rel K c φ' S' H') (h : H' p = none) : H p = none := by
  cases q : H p with
  | none => rfl
  | some o =>
    by_cases n : p ∈ φ
    · obtain ⟨ψ, e1, _⟩ := e.more
      exact absurd (by rw [e1]; exact List.mem_append_left _ n) (r.free h)
    · rw [e.keep p o q n] at h
      cases h
theorem RepL.length : ∀ {ds : List D} {vs : List V}, RepL K φ H ds vs → ds.length = vs.length
  | [], vs, h => by unfold RepL at h; subst h; rfl
  | d :: ds, vs, h => by
    unfold RepL at h
    obtain ⟨v, r, rfl, _, h3⟩ := h
    simp [RepL.length h3]
theorem RepL.append : ∀ {ds es : List D} {vs us : List V}, RepL K φ H ds vs → RepL K φ H es us → RepL K φ H (ds ++ es) (vs ++ us)
  | [], es, vs, us, h, g => by unfold RepL at h; subst h; exact g
  | d :: ds, es, vs, us, h, g => by
    unfold RepL at h
    obtain ⟨v, r, rfl, h2, h3⟩ := h
    show RepL K φ H (d :: (ds ++ es)) _
    unfold RepL
    exact ⟨v, r ++ us, rfl, h2, RepL.append h3 g⟩
theorem RepL.nil : RepL K φ H [] [] := by unfold RepL; rfl
theorem RepL.cons {d : D} {ds : List D} {v : V} {vs : List V} (h : Rep K φ H d v) (g : RepL K φ H ds vs) : RepL K φ H (d :: ds) (v :: vs) := by
  unfold RepL
  exact ⟨v, vs, rfl, h, g⟩
theorem RepL.uncons {d : D} {ds : List D} {vs : List V} (h : RepL K φ H (d :: ds) vs) : ∃ v r, vs = v :: r ∧ Rep K φ H d v ∧ RepL K φ H ds r := by
  unfold RepL at h
  exact h
theorem RepL.isNil {vs : List V} (h : RepL K φ H [] vs) : vs = [] := by
  unfold RepL at h
  exact h
theorem RepL.get : ∀ {ds : List D} {vs : List V} {i : Nat} {d : D}, RepL K φ H ds vs → ds[i]? = some d → ∃ v, vs[i]? = some v ∧ Rep K φ H d v
  | [], _, _, _, _, e => by simp at e
  | d :: ds, vs, 0, d', h, e => by
    obtain ⟨v, r, rfl, h2, h3⟩ := h.uncons
    simp at e
    subst e
    exact ⟨v, rfl, h2⟩
  | d :: ds, vs, i + 1, d', h, e => by
    obtain ⟨v, r, rfl, h2, h3⟩ := h.uncons
    simpa using RepL.get h3 (by simpa using e)
theorem RepL.take : ∀ {ds : List D} {vs : List V} (i : Nat), RepL K φ H ds vs → RepL K φ H (ds.take i) (vs.take i)
  | ds, vs, 0, h => by simp; exact RepL.nil
  | [], vs, i + 1, h => by rw [h.isNil]; simp; exact RepL.nil
  | d :: ds, vs, i + 1, h => by
    obtain ⟨v, r, rfl, h2, h3⟩ := h.uncons
    simp
    exact RepL.cons h2 (RepL.take i h3)
theorem RepL.drop : ∀ {ds : List D} {vs : List V} (i : Nat), RepL K φ H ds vs → RepL K φ H (ds.drop i) (vs.drop i)
  | ds, vs, 0, h => by simpa using h
  | [], vs, i + 1, h => by rw [h.isNil]; simp; exact RepL.nil
  | d :: ds, vs, i + 1, h => by
    obtain ⟨v, r, rfl, h2, h3⟩ := h.uncons
    simp
    exact RepL.drop i h3
theorem RepL.set : ∀ {ds : List D} {vs : List V} {d : D} {v : V} (i : Nat), RepL K φ H ds vs → Rep K φ H d v → RepL K φ H (ds.set i d) (vs.set i v)
  | [], vs, d, v, i, h, g => by rw [h.isNil]; simp; exact RepL.nil
  | d :: ds, vs, d', v', 0, h, g => by
    obtain ⟨v, r, rfl, h2, h3⟩ := h.uncons
    simp
    exact RepL.cons g h3
  | d :: ds, vs, d', v', i + 1, h, g => by
    obtain ⟨v, r, rfl, h2, h3⟩ := h.uncons
    simp
    exact RepL.cons h2 (RepL.set i h3 g)
theorem RepL.flatRep {ds : List D} {vs : List V} (h : RepL K φ H ds vs) : ∀ n : Nat, RepL K φ H (List.replicate n ds).flatten (List.replicate n vs).flatten
  | 0 => by simp; exact RepL.nil
  | n + 1 => by
    rw [List.replicate_succ, List.replicate_succ, List.flatten_cons, List.flatten_cons]
    exact RepL.append h (RepL.flatRep h n)
theorem Rep.int_ {i : Int} {v : V} (h : Rep K φ H (.int i) v) : v = .int i := by unfold Rep at h; exact h
theorem Rep.bl_ {i : Bool} {v : V} (h : Rep K φ H (.bl i) v) : v = .bl i := by unfold Rep at h; exact h
theorem Rep.str_ {i : Str} {v : V} (h : Rep K φ H (.str i) v) : v = .str i := by unfold Rep at h; exact h
theorem Rep.non_ {v : V} (h : Rep K φ H .non v) : v = .non := by unfold Rep at h; exact h
theorem Rep.tup_ {l : List D} {v : V} (h : Rep K φ H (.tup l) v) : ∃ a vs, v = .ref a ∧ SqT K H a vs ∧ RepL K φ H l vs := by unfold Rep at h; exact h
theorem Rep.ref_ {n : Nat} {v : V} (h : Rep K φ H (.ref n) v) : ∃ a, φ[n]? = some a ∧ v = .ref a := by unfold Rep at h; exact h
theorem Rep.scr_ {l : List Int} {v : V} (h : Rep K φ H (.scr l) v) : ∃ a, v = .ref a ∧ Fro K φ H a (l.map V.int) := by unfold Rep at h; exact h
theorem Rep.pl_ {l : List D} {v : V} (h : Rep K φ H (.pl l) v) : ∃ a vs, v = .ref a ∧ Pul φ H a vs ∧ RepL K φ H l vs := by unfold Rep at h; exact h
theorem rep_pl {l : List D} {vs : List V} {a : Addr} (h : Pul φ H a vs) (g : RepL K φ H l vs) : Rep K φ H (.pl l) (.ref a) := by unfold Rep; exact ⟨a, vs, rfl, h, g⟩
theorem rep_int {i : Int} : Rep K φ H (.int i) (.int i) := by unfold Rep; rfl
theorem rep_bl {i : Bool} : Rep K φ H (.bl i) (.bl i) := by unfold Rep; rfl
theorem rep_str {i : Str} : Rep K φ H (.str i) (.str i) := by unfold Rep; rfl
theorem rep_non : Rep K φ H .non .non := by unfold Rep; rfl
theorem rep_tup {l : List D} {vs : List V} {a : Addr} (h : SqT K H a vs) (g : RepL K φ H l vs) : Rep K φ H (.tup l) (.ref a) := by unfold Rep; exact ⟨a, vs, rfl, h, g⟩
theorem rep_ref {n : Nat} {a : Addr} (h : φ[n]? = some a) : Rep K φ H (.ref n) (.ref a) := by unfold Rep; exact ⟨a, h, rfl⟩
/-- a list of the store -/
theorem Rel.lst (r : Rel K c φ S H) {n : Nat} {l : List D} (h1 : φ[n]? = some a) {fz : Bool} (h2 : S[n]? = some (.lst fz l)) : ∃ vs, RepL K φ H l vs ∧ SqL K H a vs ∧ (fz = false → H a = some (.lst vs)) := by
  obtain ⟨vs, g, h⟩ := r.obj n a _ h1 h2
  refine ⟨vs, g, ?_, fun e => ?_⟩
  · split at h
    · exact .inl (.inr h)
    · exact .inl (.inl h)
  · subst e
    simpa using h
end

/-- a new tuple -/
theorem post_tup {K : PySem.W.Frag} {c : Cl} {W : WX} {σ : L2.St} {φ : List Addr} {H : Hp} {S : Sto} {Q : VK} {l : List D} {vs : List V} {p : Addr} (r : Rel K c φ S H) (g : RepL K φ H l vs) (hp : H p = none)
    (h : PostW K c W σ φ H (gE K Q) (.ok (.tup l) S)) : Q (.ref p) (upd H p (.tup vs)) := by
  obtain ⟨e, r'⟩ := r.fresh (u := .tup vs) hp
  exact h φ _ e r' _ (rep_tup (SqT.of upd_same) (g.stay (stays_free hp)))
theorem post_lst {K : PySem.W.Frag} {c : Cl} {W : WX} {σ : L2.St} {φ : List Addr} {H : Hp} {S : Sto} {Q : VK} {l : List D} {vs : List V} {p : Addr} (r : Rel K c φ S H) (g : RepL K φ H l vs) (hp : H p = none)
    (h : PostW K c W σ φ H (gE K Q) (.ok (.ref S.length) (S ++ [.lst false l]))) : Q (.ref p) (upd H p (.lst vs)) := by
  have st : Stays K φ H (φ ++ [p]) (upd H p (.lst vs)) := stays_snoc hp
  obtain ⟨e, r'⟩ := r.alloc (o := .lst false l) (u := .lst vs) hp ⟨vs, g.stay st, by simp [upd_same]⟩
  exact h _ _ e r' _ (rep_ref (by rw [← r.len]; simp))

/-- an object that the store does not know is locked -/
theorem Rel.lock {K : PySem.W.Frag} {c : Cl} {φ : List Addr} {S : Sto} {H : Hp} (r : Rel K c φ S H) {p : Addr} {vs : List V} {ob : Obj} (hp : H p = some (.lst vs)) (hn : p ∉ φ) : Rel K c φ S (upd H p (.frz ob (.lst vs))) ∧ Stays K φ H φ (upd H p (.frz ob (.lst vs))) := by
  have st : Stays K φ H φ (upd H p (.frz ob (.lst vs))) := ⟨fun _ _ q => q, fun b zs q => by
    rcases q with (q | ⟨o, q⟩) | q
    · exact .inl (.inl (by rw [upd_ne (fun e => by rw [e, hp] at q; cases q)]; exact q))
    · exact .inl (.inr ⟨o, by rw [upd_ne (fun e => by rw [e, hp] at q; cases q)]; exact q⟩)
    · exact .inr q, fun b zs q => by
    obtain ⟨n, o, q⟩ := q
    exact ⟨n, o, by rw [upd_ne (fun e => by rw [e, hp] at q; cases q)]; exact q⟩⟩
  refine ⟨⟨r.len, r.nd, fun m b o h1 h2 => (r.obj m b o h1 h2).stay st (upd_ne fun e => hn (by rw [← e]; exact List.mem_of_getElem? h1))⟩, st⟩
theorem frzBy_one {H H' : Hp} {p : Addr} (h : FrzBy [p] H H') : ∃ ob vs, H p = some (.lst vs) ∧ H' = upd H p (.frz ob (.lst vs)) := by
  obtain ⟨ob, vs, h1, h2⟩ := h.2 p (by simp)
  refine ⟨ob, vs, h1, ?_⟩
  funext b
  by_cases e : b = p
  · subst e; rw [upd_same, h2]
  · rw [upd_ne e, h.1 b (by simpa using e)]
/-- a new list that is locked at once -/
theorem post_pl {K : PySem.W.Frag} {c : Cl} {W : WX} {σ : L2.St} {φ : List Addr} {H : Hp} {S : Sto} {Q : VK} {l : List D} {vs : List V} {p : Addr} (r : Rel K c φ S H) (g : RepL K φ H l vs) (hp : H p = none)
    (h : PostW K c W σ φ H (gE K Q) (.ok (.pl l) S)) : FrzTo (upd H p (.lst vs)) (Q (.ref p)) := by
  refine ⟨[p], fun a ha => by rw [List.mem_singleton.mp ha]; exact ⟨vs, upd_same⟩, fun H' f => ?_⟩
  obtain ⟨ob, vs', h1, rfl⟩ := frzBy_one f
  rw [upd_same] at h1
  cases h1
  rw [upd_upd]
  obtain ⟨e, r'⟩ := r.fresh (u := .frz ob (.lst vs)) hp
  exact h φ _ e r' _ (rep_pl ⟨r.free hp, ob, upd_same⟩ (g.stay (stays_free hp)))
/-- what stands in a list, of the store or locked -/
def lstOf (S : Sto) : D → Option (List D)
  | .pl l => some l
  | .ref n => match S[n]? with
    | some (.lst _ l) => some l
    | _ => none
  | _ => none
theorem lstOf_rd {K : PySem.W.Frag} {c : Cl} {φ : List Addr} {H : Hp} {S : Sto} {d : D} {v : V} {l : List D} (r : Rel K c φ S H) (h : Rep K φ H d v) (e : lstOf S d = some l) : ∃ a vs, v = .ref a ∧ Rd H a (.lst vs) ∧ RepL K φ H l vs := by
  cases d with
  | pl l' =>
    cases e
    obtain ⟨a, vs, rfl, h1, h2⟩ := h.pl_
    exact ⟨a, vs, rfl, h1.rd, h2⟩
  | ref n =>
    simp only [lstOf] at e
    split at e
    · rename_i fz l' hl
      cases e
      obtain ⟨a, i1, rfl⟩ := h.ref_
      obtain ⟨vs, g, h⟩ := r.obj n a _ i1 hl
      refine ⟨a, vs, rfl, ?_, g⟩
      split at h
      · exact .inr h
      · exact .inl h
    · cases e
  | _ => cases e
/-- the sum of lists is never written -/
def addD : F2
  | .int i, .int j, S => .ok (.int (i + j)) S
  | .str x, .str y, S => if x.length + y.length ≤ sizeLine then .ok (.str (x ++ y)) S else .no
  | .tup a, .tup b, S => if a.length + b.length ≤ sizeLine then .ok (.tup (a ++ b)) S else .no
  | x, y, S => match lstOf S x, lstOf S y with
    | some a, some b => if a.length + b.length ≤ sizeLine then .ok (.pl (a ++ b)) S else .no
    | _, _ => .no
def rAddA (K : PySem.W.Frag) : R2 := fun x y H Q => (∃ i j, x = .int i ∧ y = .int j ∧ Q (.int (i + j)) H) ∨ (∃ i j, x = .str i ∧ y = .str j ∧ i.length + j.length ≤ sizeLine ∧ Q (.str (i ++ j)) H) ∨ rCatA K x y H Q ∨ rCatR x y H Q
theorem op_addA {X : Cx} : OpR X (binaryOp .Add) (rAddA X.K) := op_add.or (op_add_str.or (op_catA.or op_catR))
theorem fits_add_tup {K : PySem.W.Frag} {c : Cl} {W : WX} {σ : L2.St} {φ : List Addr} {H : Hp} {S : Sto} {Q : VK} {a b : List D} {x y : V} (r : Rel K c φ S H) (hx : Rep K φ H (.tup a) x) (hy : Rep K φ H (.tup b) y) (hz : a.length + b.length ≤ sizeLine)
    (p : PostW K c W σ φ H (gE K Q) (.ok (.tup (a ++ b)) S)) : rCatA K x y H Q := by
  obtain ⟨a1, v1, rfl, s1, g1⟩ := hx.tup_
  obtain ⟨a2, v2, rfl, s2, g2⟩ := hy.tup_
  have e1 := g1.length
  have e2 := g2.length
  refine ⟨a1, a2, v1, v2, rfl, rfl, s1, s2, by omega, fun e => ?_, fun _ e => ?_, fun _ _ q hq => ?_⟩
  · subst e
    have z : a = [] := List.eq_nil_of_length_eq_zero (by simpa using e1)
    subst z
    exact PostW.here r p _ (rep_tup s2 (by simpa using g2))
  · subst e
    have z : b = [] := List.eq_nil_of_length_eq_zero (by simpa using e2)
    subst z
    exact PostW.here r p _ (rep_tup s1 (by simpa using g1))
  · exact post_tup r (g1.append g2) hq p
theorem fits_add {K : PySem.W.Frag} {c : Cl} : Fits2F K c (rAddA K) addD := by
  intro W σ φ H S x y dx dy Q r hx hy p
  unfold addD at p
  split at p
  · rw [hx.int_, hy.int_]
    exact .inl ⟨_, _, rfl, rfl, PostW.here r p.frz _ rep_int⟩
  · split at p
    · rename_i hz
      rw [hx.str_, hy.str_]
      exact .inr (.inl ⟨_, _, rfl, rfl, hz, PostW.here r p.frz _ rep_str⟩)
    · exact False.elim p
  · split at p
    · rename_i hz
      exact .inr (.inr (.inl (fits_add_tup r hx hy hz p.frz)))
    · exact False.elim p
  · split at p
    · split at p
      · rename_i h1 h2 hz
        obtain ⟨a1, v1, rfl, s1, g1⟩ := lstOf_rd r hx h1
        obtain ⟨a2, v2, rfl, s2, g2⟩ := lstOf_rd r hy h2
        have e1 := g1.length
        have e2 := g2.length
        refine .inr (.inr (.inr ⟨a1, a2, v1, v2, rfl, rfl, s1, s2, by omega, fun q hq => ?_⟩))
        exact post_pl r (g1.append g2) hq p
      · exact False.elim p
    · exact False.elim p
end MM

namespace MM
open PySem PySem.Spec PyProof.Rows L2

def subD : F2
  | .int i, .int j, S => .ok (.int (i - j)) S
  | _, _, _ => .no
theorem fits_sub {K : PySem.W.Frag} {c : Cl} : Fits2 K c (rI0 fun i j => .int (i - j)) subD := by
  intro W σ φ H S x y dx dy Q r hx hy p
  unfold subD at p
  split at p
  · rw [hx.int_, hy.int_]
    exact ⟨_, _, rfl, rfl, PostW.here r p _ rep_int⟩
  · exact False.elim p
/-- a text n times -/
def repS (x : Str) (n : Nat) : Str := ⟨(List.replicate n x.cps).foldl (· ++ ·) #[]⟩
theorem fold_len : ∀ (l : List (Array Nat)) (a : Array Nat), (l.foldl (· ++ ·) a).toList = a.toList ++ (l.map Array.toList).flatten
  | [], a => by simp
  | x :: l, a => by
    rw [List.foldl_cons, fold_len l (a ++ x)]
    simp
theorem repS_list (x : Str) (n : Nat) : (repS x n).cps.toList = (List.replicate n x.cps.toList).flatten := by
  unfold repS
  rw [fold_len, List.map_replicate]
  simp
theorem repS_len (x : Str) (n : Nat) : (repS x n).length = n * x.length := by
  have h : (repS x n).length = (repS x n).cps.toList.length := by simp [Str.length]
  rw [h, repS_list]
  simp [Str.length]
def rRepS : R2 := fun x y H Q => ∃ a k, x = .str a ∧ y = .int k ∧ 1 ≤ a.length ∧ a.length ≤ 1000 ∧ 2 ≤ k ∧ k ≤ 1000 ∧ Q (.str (repS a k.toNat)) H
theorem op_repS {X : Cx} : OpR X (binaryOp .Mult) rRepS := by
  intro pins s σ H x y v u Q I rx ry h
  obtain ⟨a, k, rfl, rfl, h1, h2, h3, h4, q⟩ := h
  obtain ⟨t, rfl⟩ := rx
  obtain ⟨t', rfl⟩ := ry
  have hm : a.length * k.toNat ≤ 1000 * 1000 := Nat.mul_le_mul h2 (by omega)
  have c0 : (decide (k < -(2 ^ 63)) || decide (k ≥ 2 ^ 63)) = false := by
    rw [decide_eq_false (by omega), decide_eq_false (by omega)] <;> rfl
  refine PySem.P.mul_str c0 (fun _ _ => ?_) (fun _ _ => ?_) ?_
  · have hd : (1000 : Int) ≤ (2 ^ 63 - 1) / k := (Int.le_ediv_iff_mul_le (by omega)).mpr (by omega)
    omega
  · unfold Builtin.Str.tooLong
    exact decide_eq_false (by rw [sizeLine_eq]; omega)
  · have e1 : (k == 1 || a.length == 0) = false := by
      rw [beq_eq_false_iff_ne.mpr (show k ≠ 1 by omega), beq_eq_false_iff_ne.mpr (show a.length ≠ 0 by omega)]
      rfl
    rw [if_neg (show ¬ k < 1 by omega), e1, if_neg (by decide)]
    refine ⟨?_, .str (repS a k.toNat), H, I.tok _, ⟨_, rfl⟩, q⟩
    show (repS a k.toNat).length ≤ sizeLine
    rw [repS_len, Nat.mul_comm, sizeLine_eq]
    omega
def MulOk (k : Int) (n : Nat) : Prop := -(2 ^ 63) ≤ k ∧ k < 2 ^ 63 ∧ n * k.toNat ≤ sizeLine
/-- a list so many times, never written -/
noncomputable def mulD : F2
  | .str a, .int k, S => if 1 ≤ a.length ∧ a.length ≤ 1000 ∧ 2 ≤ k ∧ k ≤ 1000 then .ok (.str (repS a k.toNat)) S else .no
  | .int i, .int j, S => if (-(2 ^ 64) < i ∧ i < 2 ^ 64) ∨ (-(2 ^ 64) < j ∧ j < 2 ^ 64) then .ok (.int (i * j)) S else .no
  | .tup l, .int k, S => if k = 1 then .ok (.tup l) S else if l ≠ [] ∧ 2 ≤ k ∧ k ≤ 1000 ∧ l.length ≤ 1000 then .ok (.tup (List.replicate k.toNat l).flatten) S else .no
  | x, .int k, S => match lstOf S x with
    | some l => @ite _ (MulOk k l.length) (Classical.propDecidable _) (.ok (.pl (List.replicate k.toNat l).flatten) S) .no
    | _ => .no
  | _, _, _ => .no
def rMulA (K : PySem.W.Frag) : R2 := fun x y H Q => (rI CMul fun i j => .int (i * j)) x y H Q ∨ rRepT K x y H Q ∨ rRepR x y H Q ∨ rRep1 K x y H Q ∨ rRepS x y H Q
theorem op_mulA {X : Cx} : OpR X (binaryOp .Mult) (rMulA X.K) := op_mul.or (op_repT.or (op_repR.or (op_rep1.or op_repS)))
theorem fits_mul_tup {K : PySem.W.Frag} {c : Cl} {W : WX} {σ : L2.St} {φ : List Addr} {H : Hp} {S : Sto} {Q : VK} {l : List D} {k : Int} {x y : V} (r : Rel K c φ S H) (hx : Rep K φ H (.tup l) x) (hy : Rep K φ H (.int k) y)
    (p : PostW K c W σ φ H (gE K Q) (if k = 1 then .ok (.tup l) S else if l ≠ [] ∧ 2 ≤ k ∧ k ≤ 1000 ∧ l.length ≤ 1000 then .ok (.tup (List.replicate k.toNat l).flatten) S else .no)) : rRepT K x y H Q ∨ rRep1 K x y H Q := by
  obtain ⟨a1, v1, rfl, s1, g1⟩ := hx.tup_
  rw [hy.int_]
  split at p
  · rename_i hk
    rw [hk]
    exact .inr ⟨a1, v1, rfl, rfl, s1, PostW.here r p _ (rep_tup s1 g1)⟩
  · split at p
    · rename_i h
      obtain ⟨h1, h2, h3, h4⟩ := h
      have e := g1.length
      refine .inl ⟨a1, _, v1, rfl, rfl, s1, fun z => ?_, h2, h3, by omega, fun q hq => ?_⟩
      · subst z
        exact h1 (List.eq_nil_of_length_eq_zero (by simpa using e))
      · exact post_tup r (g1.flatRep _) hq p
    · exact False.elim p
theorem fits_mul {K : PySem.W.Frag} {c : Cl} : Fits2F K c (rMulA K) mulD := by
  intro W σ φ H S x y dx dy Q r hx hy p
  unfold mulD at p
  split at p
  · split at p
    · rename_i h
      rw [hx.str_, hy.int_]
      exact .inr (.inr (.inr (.inr ⟨_, _, rfl, rfl, h.1, h.2.1, h.2.2.1, h.2.2.2, PostW.here r p.frz _ rep_str⟩)))
    · exact False.elim p
  · split at p
    · rename_i h
      rw [hx.int_, hy.int_]
      exact .inl ⟨_, _, rfl, rfl, h, PostW.here r p.frz _ rep_int⟩
    · exact False.elim p
  · rcases fits_mul_tup r hx hy p.frz with q | q
    · exact .inr (.inl q)
    · exact .inr (.inr (.inr (.inl q)))
  · split at p
    · split at p
      · rename_i hs h
        obtain ⟨h1, h2, h3⟩ := h
        obtain ⟨a1, v1, rfl, s1, g1⟩ := lstOf_rd r hx hs
        rw [hy.int_]
        have e := g1.length
        refine .inr (.inr (.inl ⟨a1, _, v1, rfl, rfl, s1, h1, h2, by rw [← e]; exact h3, fun q hq => ?_⟩))
        exact post_pl r (g1.flatRep _) hq p
      · exact False.elim p
    · exact False.elim p
  · exact False.elim p
def modD : F2
  | .int i, .int j, S => if 0 < j then .ok (.int (i % j)) S else .no
  | _, _, _ => .no
theorem fits_mod {K : PySem.W.Frag} {c : Cl} : Fits2 K c (rI (fun _ j => 0 < j) fun i j => .int (i % j)) modD := by
  intro W σ φ H S x y dx dy Q r hx hy p
  unfold modD at p
  split at p
  · split at p
    · rename_i h
      rw [hx.int_, hy.int_]
      exact ⟨_, _, rfl, rfl, h, PostW.here r p _ rep_int⟩
    · exact False.elim p
  · exact False.elim p
def fdivD : F2
  | .int i, .int j, S => if 0 < j ∧ j.natAbs.log2 < 9000 then .ok (.int (i / j)) S else .no
  | _, _, _ => .no
theorem fits_fdiv {K : PySem.W.Frag} {c : Cl} : Fits2 K c (rI CDivW fun i j => .int (i / j)) fdivD := by
  intro W σ φ H S x y dx dy Q r hx hy p
  unfold fdivD at p
  split at p
  · split at p
    · rename_i h
      rw [hx.int_, hy.int_]
      exact ⟨_, _, rfl, rfl, h, PostW.here r p _ rep_int⟩
    · exact False.elim p
  · exact False.elim p
def powD : F2
  | .int i, .int j, S => if 0 ≤ j ∧ j ≤ 1000000 ∧ i.natAbs < 2 ^ 64 then .ok (.int (i ^ j.toNat)) S else .no
  | _, _, _ => .no
theorem fits_pow {K : PySem.W.Frag} {c : Cl} : Fits2 K c (rI CPow fun i j => .int (i ^ j.toNat)) powD := by
  intro W σ φ H S x y dx dy Q r hx hy p
  unfold powD at p
  split at p
  · split at p
    · rename_i h
      rw [hx.int_, hy.int_]
      exact ⟨_, _, rfl, rfl, h, PostW.here r p _ rep_int⟩
    · exact False.elim p
  · exact False.elim p
def negD : F1
  | .int i, S => .ok (.int (-i)) S
  | _, _ => .no

def ordD (fi : Int → Int → Bool) (fs : List Nat → List Nat → Bool) : F2
  | .int i, .int j, S => .ok (.bl (fi i j)) S
  | .str x, .str y, S => .ok (.bl (fs x.cps.toList y.cps.toList)) S
  | _, _, _ => .no
def ltD : F2 := ordD (fun i j => decide (i < j)) fun x y => decide (x < y)
def gtD : F2 := ordD (fun i j => decide (j < i)) fun x y => decide (y < x)
def rOrd (fi : Int → Int → Bool) (fs : List Nat → List Nat → Bool) : R2 := fun x y H Q => (rI0 fun i j => .bl (fi i j)) x y H Q ∨ ∃ i j, x = .str i ∧ y = .str j ∧ Q (.bl (fs i.cps.toList j.cps.toList)) H
theorem fits_ord {K : PySem.W.Frag} {c : Cl} {fi : Int → Int → Bool} {fs : List Nat → List Nat → Bool} : Fits2 K c (rOrd fi fs) (ordD fi fs) := by
  intro W σ φ H S x y dx dy Q r hx hy p
  unfold ordD at p
  split at p
  · rw [hx.int_, hy.int_]
    exact .inl ⟨_, _, rfl, rfl, PostW.here r p _ rep_bl⟩
  · rw [hx.str_, hy.str_]
    exact .inr ⟨_, _, rfl, rfl, PostW.here r p _ rep_bl⟩
  · exact False.elim p
section
variable {X : Cx}
theorem op_ltA : OpR X (compareOp .Lt) (rOrd (fun i j => decide (i < j)) fun x y => decide (x < y)) := op_lt.or op_lt_str
theorem op_gtA : OpR X (compareOp .Gt) (rOrd (fun i j => decide (j < i)) fun x y => decide (y < x)) := op_gt.or op_gt_str
end

mutual
/-- as data; none where it has an address -/
def toP : D → Option PyData
  | .non => some .none
  | .bl b => some (.bool b)
  | .int i => some (.int i)
  | .str x => if PyData.strOk x = true then some (.str x) else none
  | .tup l => (toPl l).map .tuple
  | .ref _ => none
  | .scr _ => none
  | .pl l => (toPl l).map .list
def toPl : List D → Option (List PyData)
  | [] => some []
  | d :: ds => match toP d, toPl ds with
    | some p, some q => some (p :: q)
    | _, _ => none
end
/-- a list of the store of such data too -/
def view (S : Sto) : D → Option PyData
  | .ref n => match S[n]? with
    | some (.lst _ l) => (toPl l).map .list
    | _ => none
  | d => toP d
mutual
theorem Rep.dp {K : PySem.W.Frag} {φ : List Addr} {H : Hp} : ∀ (d : D) (v : V) (p : PyData), Rep K φ H d v → toP d = some p → Dp K H v p ∧ p.canLay0 = true
  | .non, v, p, h, e => by unfold toP at e; cases e; rw [h.non_]; exact ⟨.non, by simp [PyData.canLay0]⟩
  | .bl b, v, p, h, e => by unfold toP at e; cases e; rw [h.bl_]; exact ⟨.bl b, by simp [PyData.canLay0]⟩
  | .int b, v, p, h, e => by unfold toP at e; cases e; rw [h.int_]; exact ⟨.int b, by simp [PyData.canLay0]⟩
  | .str b, v, p, h, e => by
    unfold toP at e
    split at e
    · rename_i hs
      cases e; rw [h.str_]; exact ⟨.str b, by simpa [PyData.canLay0] using hs⟩
    · cases e
  | .ref b, v, p, h, e => by unfold toP at e; cases e
  | .scr b, v, p, h, e => by unfold toP at e; cases e
  | .pl l, v, p, h, e => by
    unfold toP at e
    obtain ⟨q, e1, rfl⟩ := Option.map_eq_some_iff.mp e
    obtain ⟨a, vs, rfl, s, g⟩ := h.pl_
    obtain ⟨h1, h2⟩ := RepL.dp l vs q g e1
    exact ⟨.lst s.sq h1, by simpa [PyData.canLay0] using h2⟩
  | .tup l, v, p, h, e => by
    unfold toP at e
    obtain ⟨q, e1, rfl⟩ := Option.map_eq_some_iff.mp e
    obtain ⟨a, vs, rfl, s, g⟩ := h.tup_
    obtain ⟨h1, h2⟩ := RepL.dp l vs q g e1
    exact ⟨.tup s h1, by simpa [PyData.canLay0] using h2⟩
theorem RepL.dp {K : PySem.W.Frag} {φ : List Addr} {H : Hp} : ∀ (d : List D) (v : List V) (p : List PyData), RepL K φ H d v → toPl d = some p → DpAll K H v p ∧ PyData.canLayAll0 p = true
  | [], v, p, h, e => by unfold toPl at e; cases e; rw [h.isNil]; exact ⟨.nil, by simp [PyData.canLayAll0]⟩
  | d :: ds, v, p, h, e => by
    unfold toPl at e
    obtain ⟨x, r, rfl, h1, h2⟩ := h.uncons
    split at e
    · rename_i p1 p2 e1 e2
      cases e
      obtain ⟨a1, a2⟩ := Rep.dp d x p1 h1 e1
      obtain ⟨b1, b2⟩ := RepL.dp ds r p2 h2 e2
      exact ⟨.cons a1 b1, by simp [PyData.canLayAll0, a2, b2]⟩
    · cases e
end
theorem Rep.view {K : PySem.W.Frag} {c : Cl} {φ : List Addr} {H : Hp} {S : Sto} (r : Rel K c φ S H) {d : D} {v : V} {p : PyData} (h : Rep K φ H d v) (e : view S d = some p) : Dp K H v p ∧ p.canLay0 = true := by
  unfold MM.view at e
  split at e
  · split at e
    · rename_i n _ l hs
      obtain ⟨q, e1, rfl⟩ := Option.map_eq_some_iff.mp e
      obtain ⟨a, i1, rfl⟩ := h.ref_
      obtain ⟨vs, g, s, _⟩ := r.lst i1 hs
      obtain ⟨h1, h2⟩ := RepL.dp l vs q g e1
      exact ⟨.lst s h1, by simpa [PyData.canLay0] using h2⟩
    · cases e
  · exact h.dp _ _ _ e
def scalD : D → D → Bool
  | .non, .non => true | .non, .int _ => true | .int _, .non => true | .non, .bl _ => true | .bl _, .non => true | .non, .str _ => true | .str _, .non => true
  | .int _, .int _ => true | .bl _, .bl _ => true | .str _, .str _ => true
  | .int _, .str _ => true | .str _, .int _ => true | .bl _, .str _ => true | .str _, .bl _ => true
  | _, _ => false
def sameD : D → D → Bool
  | .non, .non => true
  | .int i, .int j => decide (i = j)
  | .bl i, .bl j => decide (i = j)
  | .str i, .str j => decide (i = j)
  | _, _ => false
/-- == : scalars, else data -/
def eqB (S : Sto) (x y : D) : Option Bool :=
  if scalD x y = true then some (sameD x y) else match view S x, view S y with
  | some p, some q => if p.depth ≤ 64 ∧ q.depth ≤ 64 then some (PyData.eqv p q) else none
  | _, _ => none
def eqD : F2 := fun x y S => match eqB S x y with
  | some b => .ok (.bl b) S
  | none => .no
def neD : F2 := fun x y S => match eqB S x y with
  | some b => .ok (.bl (!b)) S
  | none => .no
theorem scal_of {K : PySem.W.Frag} {φ : List Addr} {H : Hp} {dx dy : D} {x y : V} (hx : Rep K φ H dx x) (hy : Rep K φ H dy y) (h : scalD dx dy = true) : scal x y = true ∧ decide (x = y) = sameD dx dy := by
  unfold scalD at h
  split at h <;> first
    | (cases h; done)
    | (unfold Rep at hx hy
       subst hx hy
       refine ⟨rfl, ?_⟩
       unfold sameD
       simp)
theorem fits_eq {K : PySem.W.Frag} {c : Cl} : Fits2 K c (fun x y H Q => rEq x y H Q ∨ rEqD K x y H Q) eqD := by
  intro W σ φ H S x y dx dy Q r hx hy p
  unfold eqD eqB at p
  split at p
  · rename_i b hb
    split at hb
    · rename_i hs
      cases hb
      obtain ⟨h1, h2⟩ := scal_of hx hy hs
      exact .inl ⟨h1, by rw [h2]; exact PostW.here r p _ rep_bl⟩
    · split at hb
      · rename_i p1 p2 e1 e2
        split at hb
        · rename_i hd
          cases hb
          obtain ⟨a1, a2⟩ := hx.view r e1
          obtain ⟨b1, b2⟩ := hy.view r e2
          refine .inr ⟨p1, p2, a1, b1, ?_, ?_, PostW.here r p _ rep_bl⟩
          · unfold SeqAt.shaped; simp [a2, hd.1]
          · unfold SeqAt.shaped; simp [b2, hd.2]
        · cases hb
      · cases hb
  · exact False.elim p
theorem fits_ne {K : PySem.W.Frag} {c : Cl} : Fits2 K c (fun x y H Q => rNe x y H Q ∨ rNeD K x y H Q) neD := by
  intro W σ φ H S x y dx dy Q r hx hy p
  unfold neD eqB at p
  split at p
  · rename_i b hb
    split at hb
    · rename_i hs
      cases hb
      obtain ⟨h1, h2⟩ := scal_of hx hy hs
      exact .inl ⟨h1, by rw [h2]; exact PostW.here r p _ rep_bl⟩
    · split at hb
      · rename_i p1 p2 e1 e2
        split at hb
        · rename_i hd
          cases hb
          obtain ⟨a1, a2⟩ := hx.view r e1
          obtain ⟨b1, b2⟩ := hy.view r e2
          refine .inr ⟨p1, p2, a1, b1, ?_, ?_, PostW.here r p _ rep_bl⟩
          · unfold SeqAt.shaped; simp [a2, hd.1]
          · unfold SeqAt.shaped; simp [b2, hd.2]
        · cases hb
      · cases hb
  · exact False.elim p
theorem op_eqA {X : Cx} (hu : X.A.units + 64 < cLine) : OpR X (compareOp .Eq) (fun x y H Q => rEq x y H Q ∨ rEqD X.K x y H Q) := op_eq.or (op_eqD hu)
theorem op_neA {X : Cx} (hu : X.A.units + 64 < cLine) : OpR X (compareOp .NotEq) (fun x y H Q => rNe x y H Q ∨ rNeD X.K x y H Q) := op_ne.or (op_neD hu)

def flatD : D → Bool
  | .non => true | .bl _ => true | .int _ => true | .str _ => true
  | _ => false
def eqF : D → D → Bool
  | .non, .non => true
  | .bl a, .bl b => a == b
  | .bl a, .int b => (if a then 1 else 0) == b
  | .int a, .bl b => a == (if b then 1 else 0)
  | .int a, .int b => a == b
  | .str a, .str b => a == b
  | _, _ => false
def inL (x : D) (l : List D) : Bool := l.any fun y => eqF y x
/-- things of any depth -/
def deepIn (S : Sto) (x y : D) : Option Bool := match view S x, view S y with
  | some d, some (.list ds) => if d.depth ≤ 60 ∧ (PyData.list ds).depth ≤ 64 then some (ds.any fun z => PyData.eqv z d) else none
  | some d, some (.tuple ds) => if d.depth ≤ 60 ∧ (PyData.tuple ds).depth ≤ 64 then some (ds.any fun z => PyData.eqv z d) else none
  | _, _ => none
def inB (S : Sto) (x y : D) : Option Bool := match x, y with
  | .str u, .str z => if u.cps.size = 1 then some (decide (u.cps.getD 0 0 ∈ z.cps.toList)) else none
  | x, .tup l => if flatD x = true ∧ l.all flatD = true then some (inL x l) else deepIn S x (.tup l)
  | x, y => match lstOf S y with
    | some l => if flatD x = true ∧ l.all flatD = true then some (inL x l) else deepIn S x y
    | _ => none
def inD : F2 := fun x y S => match inB S x y with
  | some b => .ok (.bl b) S
  | none => .no
def notInD : F2 := fun x y S => match inB S x y with
  | some b => .ok (.bl (!b)) S
  | none => .no
section
variable {K : PySem.W.Frag} {c : Cl} {φ : List Addr} {H : Hp} {S : Sto}
theorem flat_of {d : D} {x : V} (h : Rep K φ H d x) (f : flatD d = true) : flatV x = true := by
  cases d with
  | non => rw [h.non_]; rfl
  | bl b => rw [h.bl_]; rfl
  | int b => rw [h.int_]; rfl
  | str b => rw [h.str_]; rfl
  | tup l => cases f
  | ref n => cases f
  | scr n => cases f
  | pl n => cases f
theorem flats_of : ∀ {ds : List D} {vs : List V}, RepL K φ H ds vs → ds.all flatD = true → vs.all flatV = true
  | [], vs, h, f => by rw [h.isNil]; rfl
  | d :: ds, vs, h, f => by
    obtain ⟨v, r, rfl, h1, h2⟩ := h.uncons
    simp only [List.all_cons, Bool.and_eq_true] at f ⊢
    exact ⟨flat_of h1 f.1, flats_of h2 f.2⟩
theorem eqF_of {d e : D} {x y : V} (h : Rep K φ H d x) (g : Rep K φ H e y) (f : flatD d = true) (f' : flatD e = true) : eqV x y = eqF d e := by
  cases d <;> first | (cases f; done) | (cases e <;> first | (cases f'; done) | (unfold Rep at h g; subst h g; rfl))
theorem inL_of {e : D} {y : V} (g : Rep K φ H e y) (f' : flatD e = true) : ∀ {ds : List D} {vs : List V}, RepL K φ H ds vs → ds.all flatD = true → inV y vs = inL e ds
  | [], vs, h, f => by rw [h.isNil]; rfl
  | d :: ds, vs, h, f => by
    obtain ⟨v, r, rfl, h1, h2⟩ := h.uncons
    simp only [List.all_cons, Bool.and_eq_true] at f
    have := inL_of g f' h2 f.2
    unfold inV inL at this ⊢
    rw [List.any_cons, List.any_cons, eqF_of h1 g f.1 f', this]
theorem one_sign {u : Str} (h : u.cps.size = 1) : u = ⟨#[u.cps.getD 0 0]⟩ := by
  obtain ⟨a⟩ := u
  obtain ⟨l⟩ := a
  match l, h with
  | [x], _ => rfl
end
def rInQ (K : PySem.W.Frag) (neg : Bool) : R2 := fun x y H Q => ∃ d ds, Dp K H x d ∧ (Dp K H y (.list ds) ∨ Dp K H y (.tuple ds)) ∧ SeqAt.shaped d = true ∧ PyData.canLayAll0 ds = true ∧ d.depth ≤ 60 ∧ Q (.bl (if neg then !(ds.any fun z => PyData.eqv z d) else ds.any fun z => PyData.eqv z d)) H
theorem deep_ok {K : PySem.W.Frag} {c : Cl} {φ : List Addr} {H : Hp} {S : Sto} {dx dy : D} {x y : V} {b : Bool} {neg : Bool} {Q : VK} (r : Rel K c φ S H) (hx : Rep K φ H dx x) (hy : Rep K φ H dy y) (h : deepIn S dx dy = some b) (q : Q (.bl (if neg then !b else b)) H) : rInQ K neg x y H Q := by
  unfold deepIn at h
  split at h
  · rename_i d ds e1 e2
    split at h
    · rename_i hd
      cases h
      obtain ⟨a1, a2⟩ := hx.view r e1
      obtain ⟨b1, b2⟩ := hy.view r e2
      exact ⟨d, ds, a1, .inl b1, by unfold SeqAt.shaped; simp [a2]; omega, by simpa [PyData.canLay0] using b2, hd.1, q⟩
    · cases h
  · rename_i d ds e1 e2
    split at h
    · rename_i hd
      cases h
      obtain ⟨a1, a2⟩ := hx.view r e1
      obtain ⟨b1, b2⟩ := hy.view r e2
      exact ⟨d, ds, a1, .inr b1, by unfold SeqAt.shaped; simp [a2]; omega, by simpa [PyData.canLay0] using b2, hd.1, q⟩
    · cases h
  · cases h
theorem op_inQ {X : Cx} (hu : X.A.units + 64 < cLine) : OpR X (compareOp .In) (rInQ X.K false) := by
  rintro pins s σ H x y v u Q I rx ry ⟨d, ds, hd, he, sd, se, hz, q⟩
  obtain ⟨as, r1⟩ := Dp.reads I d x v hd rx
  have hm : X.A.units + 1 + min (PyData.depthAll ds) d.depth < cLine := by omega
  rcases he with he | he
  · obtain ⟨bs, r2⟩ := Dp.reads I _ y u he ry
    exact SeqAt.in_list_reads r2 r1 se (SeqAt.canLay_of_shaped sd) hm ⟨.bl _, H, I, rfl, q⟩
  · obtain ⟨bs, r2⟩ := Dp.reads I _ y u he ry
    exact SeqAt.in_tuple_reads r2 r1 se (SeqAt.canLay_of_shaped sd) hm ⟨.bl _, H, I, rfl, q⟩
theorem op_notInQ {X : Cx} (hu : X.A.units + 64 < cLine) : OpR X (compareOp .NotIn) (rInQ X.K true) := by
  rintro pins s σ H x y v u Q I rx ry ⟨d, ds, hd, he, sd, se, hz, q⟩
  obtain ⟨as, r1⟩ := Dp.reads I d x v hd rx
  have hm : X.A.units + 1 + min (PyData.depthAll ds) d.depth < cLine := by omega
  rcases he with he | he
  · obtain ⟨bs, r2⟩ := Dp.reads I _ y u he ry
    exact SeqAt.notIn_list_reads r2 r1 se (SeqAt.canLay_of_shaped sd) hm ⟨.bl _, H, I, rfl, q⟩
  · obtain ⟨bs, r2⟩ := Dp.reads I _ y u he ry
    exact SeqAt.notIn_tuple_reads r2 r1 se (SeqAt.canLay_of_shaped sd) hm ⟨.bl _, H, I, rfl, q⟩
theorem fits_in {K : PySem.W.Frag} {c : Cl} : Fits2 K c (fun x y H Q => (∃ (c : Nat) (z : Str), x = .str ⟨#[c]⟩ ∧ y = .str z ∧ Q (.bl (decide (c ∈ z.cps.toList))) H) ∨ rIn K false x y H Q ∨ rInQ K false x y H Q) inD := by
  intro W σ φ H S x y dx dy Q r hx hy p
  unfold inD at p
  split at p
  · rename_i b hb
    unfold inB at hb
    split at hb
    · split at hb
      · rename_i u z hu
        cases hb
        rw [hx.str_, hy.str_]
        refine .inl ⟨_, _, congrArg _ (one_sign hu), rfl, PostW.here r p _ rep_bl⟩
      · cases hb
    · split at hb
      · rename_i hf
        cases hb
        obtain ⟨a, vs, rfl, s, g⟩ := hy.tup_
        refine .inr (.inl ⟨a, vs, rfl, .inr s, flat_of hx hf.1, flats_of g hf.2, ?_⟩)
        rw [inL_of hx hf.1 g hf.2]
        exact PostW.here r p _ rep_bl
      · exact .inr (.inr (deep_ok r hx hy hb (PostW.here r p _ rep_bl)))
    · split at hb
      · split at hb
        · rename_i hl hf
          cases hb
          obtain ⟨a, vs, rfl, s, g⟩ := lstOf_rd r hy hl
          refine .inr (.inl ⟨a, vs, rfl, .inl (.inl s), flat_of hx hf.1, flats_of g hf.2, ?_⟩)
          rw [inL_of hx hf.1 g hf.2]
          exact PostW.here r p _ rep_bl
        · exact .inr (.inr (deep_ok r hx hy hb (PostW.here r p _ rep_bl)))
      · cases hb
  · exact False.elim p
theorem fits_notIn {K : PySem.W.Frag} {c : Cl} : Fits2 K c (fun x y H Q => (∃ (c : Nat) (z : Str), x = .str ⟨#[c]⟩ ∧ y = .str z ∧ Q (.bl (!decide (c ∈ z.cps.toList))) H) ∨ rIn K true x y H Q ∨ rInQ K true x y H Q) notInD := by
  intro W σ φ H S x y dx dy Q r hx hy p
  unfold notInD at p
  split at p
  · rename_i b hb
    unfold inB at hb
    split at hb
    · split at hb
      · rename_i u z hu
        cases hb
        rw [hx.str_, hy.str_]
        refine .inl ⟨_, _, congrArg _ (one_sign hu), rfl, PostW.here r p _ rep_bl⟩
      · cases hb
    · split at hb
      · rename_i hf
        cases hb
        obtain ⟨a, vs, rfl, s, g⟩ := hy.tup_
        refine .inr (.inl ⟨a, vs, rfl, .inr s, flat_of hx hf.1, flats_of g hf.2, ?_⟩)
        rw [inL_of hx hf.1 g hf.2]
        exact PostW.here r p _ rep_bl
      · exact .inr (.inr (deep_ok r hx hy hb (PostW.here r p _ rep_bl)))
    · split at hb
      · split at hb
        · rename_i hl hf
          cases hb
          obtain ⟨a, vs, rfl, s, g⟩ := lstOf_rd r hy hl
          refine .inr (.inl ⟨a, vs, rfl, .inl (.inl s), flat_of hx hf.1, flats_of g hf.2, ?_⟩)
          rw [inL_of hx hf.1 g hf.2]
          exact PostW.here r p _ rep_bl
        · exact .inr (.inr (deep_ok r hx hy hb (PostW.here r p _ rep_bl)))
      · cases hb
  · exact False.elim p
theorem op_inA {X : Cx} (hu : X.A.units + 64 < cLine) : OpR X (compareOp .In) (fun x y H Q => (∃ (c : Nat) (z : Str), x = .str ⟨#[c]⟩ ∧ y = .str z ∧ Q (.bl (decide (c ∈ z.cps.toList))) H) ∨ rIn X.K false x y H Q ∨ rInQ X.K false x y H Q) := op_in_sign.or (op_in_seq.or (op_inQ hu))
theorem op_notInA {X : Cx} (hu : X.A.units + 64 < cLine) : OpR X (compareOp .NotIn) (fun x y H Q => (∃ (c : Nat) (z : Str), x = .str ⟨#[c]⟩ ∧ y = .str z ∧ Q (.bl (!decide (c ∈ z.cps.toList))) H) ∨ rIn X.K true x y H Q ∨ rInQ X.K true x y H Q) := op_notIn_sign.or (op_notIn_seq.or (op_notInQ hu))

def ixD : F2
  | .tup l, .int i, S => match atI l i with
    | some d => .ok d S
    | none => .no
  | .str z, .int i, S => if z.length ≤ sizeLine then (match atI z.cps.toList i with
    | some k => .ok (.str ⟨#[k]⟩) S
    | none => .no) else .no
  | .ref n, .int i, S => match S[n]? with
    | some (.lst _ l) => (match atI l i with
      | some d => .ok d S
      | none => .no)
    | _ => .no
  | .scr ns, .int i, S => match atI ns i with
    | some d => .ok (.int d) S
    | none => .no
  | .pl l, .int i, S => match atI l i with
    | some d => .ok d S
    | none => .no
  | _, _, _ => .no
theorem atI_map {α β : Type} (f : α → β) (l : List α) (i : Int) : atI (l.map f) i = (atI l i).map f := by
  unfold atI
  rw [List.length_map]
  cases ixN l.length i with
  | none => rfl
  | some j => simp
theorem RepL.at {K : PySem.W.Frag} {φ : List Addr} {H : Hp} {l : List D} {vs : List V} {i : Int} {d : D} (h : RepL K φ H l vs) (e : atI l i = some d) : ∃ v, atI vs i = some v ∧ Rep K φ H d v := by
  unfold atI at e ⊢
  rw [← h.length]
  cases q : ixN l.length i with
  | none => rw [q] at e; cases e
  | some j =>
    rw [q] at e
    exact h.get e
theorem fits_ix {K : PySem.W.Frag} {c : Cl} : Fits2 K c (rIx K) ixD := by
  intro W σ φ H S x y dx dy Q r hx hy p
  unfold ixD at p
  split at p
  · split at p
    · rename_i e
      obtain ⟨a, vs, rfl, s, g⟩ := hx.tup_
      obtain ⟨v, e', g'⟩ := g.at e
      exact .inr (.inl ⟨a, vs, _, v, rfl, hy.int_, s, e', PostW.here r p _ g'⟩)
    · exact False.elim p
  · split at p
    · split at p
      · rename_i hz _ k e
        exact .inr (.inr ⟨_, _, k, hx.str_, hy.int_, hz, e, PostW.here r p _ rep_str⟩)
      · exact False.elim p
    · exact False.elim p
  · split at p
    · split at p
      · rename_i hl _ d e
        obtain ⟨a, i1, rfl⟩ := hx.ref_
        obtain ⟨vs, g, s, _⟩ := r.lst i1 hl
        obtain ⟨v, e', g'⟩ := g.at e
        exact .inl ⟨a, vs, _, v, rfl, hy.int_, s, e', PostW.here r p _ g'⟩
      · exact False.elim p
    · exact False.elim p
  · split at p
    · rename_i d e
      obtain ⟨a, rfl, s⟩ := hx.scr_
      exact .inl ⟨a, _, _, .int d, rfl, hy.int_, s.sq, by rw [atI_map, e]; rfl, PostW.here r p _ rep_int⟩
    · exact False.elim p
  · split at p
    · rename_i e
      obtain ⟨a, vs, rfl, s, g⟩ := hx.pl_
      obtain ⟨v, e', g'⟩ := g.at e
      exact .inl ⟨a, vs, _, v, rfl, hy.int_, s.sq, e', PostW.here r p _ g'⟩
    · exact False.elim p
  · exact False.elim p
def cutD (l : List D) (lo hi : Option Int) : List D := (l.drop (HT.sIx l.length 0 lo)).take (HT.sIx l.length l.length hi - HT.sIx l.length 0 lo)
theorem RepL.cut {K : PySem.W.Frag} {φ : List Addr} {H : Hp} {l : List D} {vs : List V} (h : RepL K φ H l vs) (lo hi : Option Int) : RepL K φ H (cutD l lo hi) (cutV vs lo hi) := by
  unfold cutD cutV
  rw [h.length]
  exact (h.drop _).take _
def slM (x : D) (lo hi : Option Int) (S : Sto) : R D := match x with
  | .tup l => .ok (.tup (cutD l lo hi)) S
  | .str z => if z.length ≤ sizeLine then .ok (.str (cutS z lo hi)) S else .no
  | x => match lstOf S x with
    | some l => .ok (.ref S.length) (S ++ [.lst false (cutD l lo hi)])
    | _ => .no
/-- a slice that is never written -/
def slD (x : D) (lo hi : Option Int) (S : Sto) : R D := match x with
  | .tup l => .ok (.tup (cutD l lo hi)) S
  | .str z => if z.length ≤ sizeLine then .ok (.str (cutS z lo hi)) S else .no
  | x => match lstOf S x with
    | some l => .ok (.pl (cutD l lo hi)) S
    | _ => .no
def rSlAll (K : PySem.W.Frag) : V → Option Int → Option Int → Hp → VK → Prop := fun x lo hi H Q => rSlA K x lo hi H Q ∨ rSlS x lo hi H Q ∨ rSlL K x lo hi H Q
theorem sl_all {X : Cx} : SlR X (rSlAll X.K) := sl_tupA.or (sl_str.or sl_list)
theorem cut_whole {l : List D} {lo hi : Option Int} (h1 : HT.sIx l.length 0 lo = 0) (h2 : HT.sIx l.length l.length hi = l.length) : cutD l lo hi = l := by
  unfold cutD
  rw [h1, h2]
  simp
theorem fits_sl_tup {K : PySem.W.Frag} {c : Cl} {W : WX} {σ : L2.St} {φ : List Addr} {H : Hp} {S : Sto} {x : V} {l : List D} {lo hi : Option Int} {Q : VK} (r : Rel K c φ S H) (hx : Rep K φ H (.tup l) x) (p : PostW K c W σ φ H (gE K Q) (.ok (.tup (cutD l lo hi)) S)) : rSlAll K x lo hi H Q := by
  obtain ⟨a, vs, rfl, s, g⟩ := hx.tup_
  refine .inl ⟨a, vs, rfl, s, fun ⟨h1, h2⟩ => ?_, fun _ q hq => ?_⟩
  · rw [← g.length] at h1 h2
    rw [cut_whole h1 h2] at p
    exact PostW.here r p _ (rep_tup s g)
  · exact post_tup r (g.cut lo hi) hq p
theorem fits_slM {K : PySem.W.Frag} {c : Cl} {W : WX} {σ : L2.St} {φ : List Addr} {H : Hp} {S : Sto} {x : V} {d : D} {lo hi : Option Int} {Q : VK} (r : Rel K c φ S H) (hx : Rep K φ H d x) (p : PostW K c W σ φ H (gE K Q) (slM d lo hi S)) : rSlAll K x lo hi H Q := by
  unfold slM at p
  split at p
  · exact fits_sl_tup r hx p
  · split at p
    · rename_i hz
      exact .inr (.inl ⟨_, hx.str_, hz, PostW.here r p _ rep_str⟩)
    · exact False.elim p
  · split at p
    · rename_i hl
      obtain ⟨a, vs, rfl, s, g⟩ := lstOf_rd r hx hl
      exact .inr (.inr ⟨a, vs, rfl, .inl s, fun q hq => post_lst r (g.cut lo hi) hq p⟩)
    · exact False.elim p
theorem fits_sl {K : PySem.W.Frag} {c : Cl} {W : WX} {σ : L2.St} {φ : List Addr} {H : Hp} {S : Sto} {x : V} {d : D} {lo hi : Option Int} {Q : VK} (r : Rel K c φ S H) (hx : Rep K φ H d x) (p : PostW K c W σ φ H (gE K Q) (slD d lo hi S)) : rSlAll K x lo hi H (fun v H' => FrzTo H' (Q v)) := by
  unfold slD at p
  split at p
  · exact fits_sl_tup r hx p.frz
  · split at p
    · rename_i hz
      exact .inr (.inl ⟨_, hx.str_, hz, PostW.here r p.frz _ rep_str⟩)
    · exact False.elim p
  · split at p
    · rename_i hl
      obtain ⟨a, vs, rfl, s, g⟩ := lstOf_rd r hx hl
      exact .inr (.inr ⟨a, vs, rfl, .inl s, fun q hq => post_pl r (g.cut lo hi) hq p⟩)
    · exact False.elim p
end MM

namespace MM
open PySem PySem.Spec PyProof.Rows L2

section
variable {X : Cx} {c : Cl} {W : WX} {a b e : Expr} {es : List Expr} {ma mb me : ME} {mt mu : MT} {ml : ML} {pos : Pos}

theorem de_neg (ha : DE X c W a ma) : DE X c W (.UnaryOp .USub a pos) (eUn negD ma) := by
  obtain ⟨ta, pa, ha⟩ := ha
  refine ⟨_, pe_un un_neg pa, fun φ σ H ρ S Q r f p => ?_⟩
  refine ha φ σ H ρ S _ r f (PostW.elim p fun d S1 φ1 H1 e1 r1 p1 => fun x hx => ?_)
  unfold negD at p1
  split at p1
  · exact ⟨_, hx.int_, PostW.here r1 p1 _ rep_int⟩
  · exact False.elim p1

theorem de_ix (ha : DE X c W a ma) (hb : DE X c W b mb) (hs : PlainIx b := by intro _ _; rfl) : DE X c W (.Subscript a b pos) (eBin ixD ma mb) := by
  obtain ⟨ta, pa, ha⟩ := ha
  obtain ⟨tb, pb, hb⟩ := hb
  refine ⟨_, pe_ix ix_seq pa pb hs, fun φ σ H ρ S Q r f p => ?_⟩
  refine ha φ σ H ρ S _ r f (PostW.elim p fun d S1 φ1 H1 e1 r1 p1 => fun x hx => ?_)
  refine hb φ1 σ H1 ρ S1 _ r1 (f.stay (e1.stays r)) (PostW.elim p1 fun d2 S2 φ2 H2 e2 r2 p2 => fun y hy => ?_)
  exact fits_ix W σ φ2 H2 S2 x y _ _ Q r2 (hx.stay (e2.stays r1)) hy p2
/-- the ends of a slice -/
abbrev MO := Fr → Sto → R (Option Int)
def DO (X : Cx) (c : Cl) (W : WX) (e : Option Expr) (m : MO) : Prop :=
  ∃ t, PO X e t ∧ ∀ φ σ H ρ S Q, Rel X.K c φ S H → FrRel X.K φ H σ ρ → PostW X.K c W σ φ H (fun o _ _ H' => Q o H') (m ρ S) → t σ H Q
def oN : MO := fun _ S => .ok none S
def oS (m : ME) : MO := fun ρ S => (m ρ S).bind fun d S1 => match d with
  | .int i => .ok (some i) S1
  | _ => .no
theorem do_none : DO X c W none oN := ⟨_, po_none, fun φ σ H ρ S Q r f p => PostW.here r p⟩
theorem do_some (ha : DE X c W a ma) : DO X c W (some a) (oS ma) := by
  obtain ⟨ta, pa, ha⟩ := ha
  refine ⟨_, po_some pa, fun φ σ H ρ S Q r f p => ?_⟩
  refine ha φ σ H ρ S _ r f (PostW.elim p fun d S1 φ1 H1 e1 r1 p1 => fun x hx => ?_)
  split at p1
  · exact ⟨_, hx.int_, PostW.here r1 p1⟩
  · exact False.elim p1
def eSlM (a : ME) (lo hi : MO) : ME := fun ρ S => (a ρ S).bind fun x S1 => (lo ρ S1).bind fun l S2 => (hi ρ S2).bind fun h S3 => slM x l h S3
theorem de_slM {lo hi : Option Expr} {ml mh : MO} {p2 : Pos} (ha : DE X c W a ma) (hl : DO X c W lo ml) (hh : DO X c W hi mh) : DE X c W (.Subscript a (.Slice lo hi none p2) pos) (eSlM ma ml mh) := by
  obtain ⟨ta, pa, ha⟩ := ha
  obtain ⟨tl, pl, hl⟩ := hl
  obtain ⟨th, ph, hh⟩ := hh
  refine ⟨_, pe_slice sl_all pa pl ph, fun φ σ H ρ S Q r f p => ?_⟩
  refine ha φ σ H ρ S _ r f (PostW.elim p fun d S1 φ1 H1 e1 r1 p1 => fun x hx => ?_)
  refine hl φ1 σ H1 ρ S1 _ r1 (f.stay (e1.stays r)) (PostW.elim p1 fun l S2 φ2 H2 e2 r2 p2 => ?_)
  refine hh φ2 σ H2 ρ S2 _ r2 ((f.stay (e1.stays r)).stay (e2.stays r1)) (PostW.elim p2 fun h S3 φ3 H3 e3 r3 p3 => ?_)
  exact fits_slM r3 ((hx.stay (e2.stays r1)).stay (e3.stays r2)) p3

def eSl (a : ME) (lo hi : MO) : ME := fun ρ S => (a ρ S).bind fun x S1 => (lo ρ S1).bind fun l S2 => (hi ρ S2).bind fun h S3 => slD x l h S3
theorem de_sl {lo hi : Option Expr} {ml mh : MO} {p2 : Pos} (ha : DE X c W a ma) (hl : DO X c W lo ml) (hh : DO X c W hi mh) : DE X c W (.Subscript a (.Slice lo hi none p2) pos) (eSl ma ml mh) := by
  obtain ⟨ta, pa, ha⟩ := ha
  obtain ⟨tl, pl, hl⟩ := hl
  obtain ⟨th, ph, hh⟩ := hh
  refine ⟨_, pe_frz (pe_slice sl_all pa pl ph), fun φ σ H ρ S Q r f p => ?_⟩
  refine ha φ σ H ρ S _ r f (PostW.elim p fun d S1 φ1 H1 e1 r1 p1 => fun x hx => ?_)
  refine hl φ1 σ H1 ρ S1 _ r1 (f.stay (e1.stays r)) (PostW.elim p1 fun l S2 φ2 H2 e2 r2 p2 => ?_)
  refine hh φ2 σ H2 ρ S2 _ r2 ((f.stay (e1.stays r)).stay (e2.stays r1)) (PostW.elim p2 fun h S3 φ3 H3 e3 r3 p3 => ?_)
  exact fits_sl r3 ((hx.stay (e2.stays r1)).stay (e3.stays r2)) p3

def aNil : ML := fun _ S => .ok [] S
def aCons (a : ME) (r : ML) : ML := fun ρ S => (a ρ S).bind fun x S1 => (r ρ S1).bind fun xs S2 => .ok (x :: xs) S2
theorem da_nil : DA X c W [] aNil := ⟨_, pa_nil, fun φ σ H ρ S Q r f p => PostW.here r p _ RepL.nil⟩
theorem da_cons (ha : DE X c W e me) (hr : DA X c W es ml) (hs : starEach (e :: es) X.env = (false, eval e X.env) :: starEach es X.env := by rfl) : DA X c W (e :: es) (aCons me ml) := by
  obtain ⟨ta, pa, ha⟩ := ha
  obtain ⟨tr, pr, hr⟩ := hr
  refine ⟨_, pa_cons pa pr hs, fun φ σ H ρ S Q r f p => ?_⟩
  refine ha φ σ H ρ S _ r f (PostW.elim p fun d S1 φ1 H1 e1 r1 p1 => fun x hx => ?_)
  refine hr φ1 σ H1 ρ S1 _ r1 (f.stay (e1.stays r)) (PostW.elim p1 fun ds S2 φ2 H2 e2 r2 p2 => fun ys hy => ?_)
  exact PostW.here r2 p2 _ (RepL.cons (hx.stay (e2.stays r1)) hy)
def eTup (r : ML) : ME := fun ρ S => (r ρ S).bind fun xs S1 => if xs.length ≤ sizeLine then .ok (.tup xs) S1 else .no
theorem de_tup {x1 : Nat} (ha : DA X c W es ml) : DE X c W (.Tuple es x1 pos) (eTup ml) := by
  obtain ⟨ta, pa, ha⟩ := ha
  refine ⟨_, pe_tup pa, fun φ σ H ρ S Q r f p => ?_⟩
  refine ha φ σ H ρ S _ r f (PostW.elim p fun ds S1 φ1 H1 e1 r1 p1 => fun vs hv => ?_)
  split at p1
  · rename_i hz
    exact ⟨by rw [← hv.length]; exact hz, fun q hq => post_tup r1 hv hq p1⟩
  · exact False.elim p1

def lNew (r : ML) : ML := fun ρ S => (r ρ S).bind fun xs S1 => if xs.length ≤ sizeLine then .ok xs S1 else .no
theorem dn_lst (ha : DA X c W es ml) : DN X c W (.List es pos) (lNew ml) := by
  obtain ⟨ta, pa, ha⟩ := ha
  refine ⟨_, pe_lst pa, fun φ σ H ρ S Q r f p => ?_⟩
  refine ha φ σ H ρ S _ r f (PostW.elim p fun ds S1 φ1 H1 e1 r1 p1 => fun vs hv => ?_)
  split at p1
  · rename_i hz
    refine ⟨by rw [← hv.length]; exact hz, fun q hq => ?_⟩
    obtain ⟨e2, r2⟩ := r1.fresh (u := .lst vs) hq
    exact p1 φ1 _ e2 r2 q vs (e1.back r1 hq) upd_same (r1.free hq) (hv.stay (stays_free hq))
  · exact False.elim p1
end
theorem rel_new {K : PySem.W.Frag} {c : Cl} {φ : List Addr} {H : Hp} {S : Sto} {l : List D} {vs : List V} {p : Addr} (r : Rel K c φ S H) (g : RepL K φ H l vs) (hp : H p = some (.lst vs)) (hn : p ∉ φ) :
    Rel K c (φ ++ [p]) (S ++ [.lst false l]) H := by
  have nd : (φ ++ [p]).Nodup := by
    rw [List.nodup_append]
    refine ⟨r.nd, by simp, fun x hx y hy e => ?_⟩
    simp at hy
    subst hy e
    exact hn hx
  have st : Stays K φ H (φ ++ [p]) H := ⟨fun n x q => by rw [List.getElem?_append_left (List.getElem?_eq_some_iff.mp q).1]; exact q, fun _ _ q => q, fun a xs q => by
    obtain ⟨n, o, q⟩ := q
    exact ⟨fun m => (List.mem_append.mp m).elim n (fun m => by
        have z : a = p := by simpa using m
        rw [z, hp] at q
        cases q), o, q⟩⟩
  refine ⟨by simp [r.len], nd, fun n a o' h1 h2 => ?_⟩
  by_cases hn' : n < φ.length
  · rw [List.getElem?_append_left hn'] at h1
    rw [List.getElem?_append_left (by rw [← r.len]; exact hn')] at h2
    exact (r.obj n a o' h1 h2).stay st rfl
  · have e : n = φ.length := by
      have := (List.getElem?_eq_some_iff.mp h1).1
      simp at this
      omega
    subst e
    have e1 : p = a := by simpa using h1
    have e2 : O.lst false l = o' := by
      rw [r.len] at h2
      simpa using h2
    subst e1 e2
    exact ⟨vs, g.stay st, by simpa using hp⟩
section
variable {X : Cx} {c : Cl} {W : WX} {a b e : Expr} {es : List Expr} {ma mb me : ME} {mt mu : MT} {ml : ML} {pos : Pos}
/-- the new list goes to the store -/
def eNew (r : ML) : ME := fun ρ S => (r ρ S).bind fun xs S1 => .ok (.ref S1.length) (S1 ++ [.lst false xs])
theorem de_new (ha : DN X c W e ml) : DE X c W e (eNew ml) := by
  obtain ⟨ta, pa, ha⟩ := ha
  refine ⟨_, pa, fun φ σ H ρ S Q r f p => ?_⟩
  refine ha φ σ H ρ S _ r f ?_
  unfold eNew at p
  cases hm : ml ρ S with
  | ok ds S1 =>
    rw [hm] at p
    intro φ1 H1 e1 r1 q vs h0 hq hn g
    have r2 := rel_new r1 g hq hn
    refine p (φ1 ++ [q]) H1 ⟨?_, r2.nd, e1.keep, e1.frz⟩ r2 _ (rep_ref (by rw [← r1.len]; simp))
    obtain ⟨ψ, e2, h2⟩ := e1.more
    exact ⟨ψ ++ [q], by rw [e2, List.append_assoc], fun x hx => by
      rcases List.mem_append.mp hx with z | z
      · exact h2 x z
      · simp at z
        rw [z]; exact h0⟩
  | ex k S1 => rw [hm] at p; exact p
  | no => rw [hm] at p; exact p
/-- the new list is never written -/
def ePl (r : ML) : ME := fun ρ S => (r ρ S).bind fun xs S1 => .ok (.pl xs) S1
theorem lock_new {K : PySem.W.Frag} {φ : List Addr} {H0 H : Hp} {S : Sto} {xs : List D} {a : Addr} {vs : List V} {R : Hp → Prop} (r : Rel K c φ S H) (hq : H a = some (.lst vs)) (hn : a ∉ φ) (g : RepL K φ H xs vs)
    (h : ∀ ob, Rel K c φ S (upd H a (.frz ob (.lst vs))) → Stays K φ H φ (upd H a (.frz ob (.lst vs))) → Rep K φ (upd H a (.frz ob (.lst vs))) (.pl xs) (.ref a) → R (upd H a (.frz ob (.lst vs)))) : FrzTo H R := by
  refine ⟨[a], fun b hb => by rw [List.mem_singleton.mp hb]; exact ⟨vs, hq⟩, fun H' f => ?_⟩
  obtain ⟨ob, vs', h1, rfl⟩ := frzBy_one f
  rw [hq] at h1
  cases h1
  obtain ⟨r', st⟩ := r.lock (ob := ob) hq hn
  exact h ob r' st (rep_pl ⟨hn, ob, upd_same⟩ (g.stay st))
theorem ext_lock {φ φ1 : List Addr} {H H1 : Hp} {a : Addr} {u : HO} (e : Ext φ H φ1 H1) (h0 : H a = none) : Ext φ H φ1 (upd H1 a u) :=
  ⟨e.more, e.nd, fun b o hb nb => by rw [upd_ne (ne_of_none hb h0)]; exact e.keep b o hb nb, fun b ob u hb => by rw [upd_ne (ne_of_none hb h0)]; exact e.frz b ob u hb⟩
theorem de_pl (ha : DN X c W e ml) : DE X c W e (ePl ml) := by
  obtain ⟨ta, pa, ha⟩ := ha
  refine ⟨_, pe_frz pa, fun φ σ H ρ S Q r f p => ?_⟩
  refine ha φ σ H ρ S _ r f ?_
  unfold ePl at p
  cases hm : ml ρ S with
  | ok ds S1 =>
    rw [hm] at p
    intro φ1 H1 e1 r1 q vs h0 hq hn g
    exact lock_new (H0 := H) r1 hq hn g fun ob r2 st rp => p φ1 _ (ext_lock e1 h0) r2 _ rp
  | ex k S1 => rw [hm] at p; exact p
  | no => rw [hm] at p; exact p
/-- a list that is read -/
theorem dl_new (ha : DN X c W e ml) : DL X c W e ml := by
  obtain ⟨ta, pa, ha⟩ := ha
  refine ⟨_, pa, fun φ σ H ρ S Q r f p => ?_⟩
  exact ha φ σ H ρ S _ r f (p.imp fun ds S' φ' H' g a vs h0 h1 h2 h3 => g a vs (SqL.of h1) h3)
def lOf (a : ME) : ML := fun ρ S => (a ρ S).bind fun d S1 => match lstOf S1 d with
  | some l => .ok l S1
  | _ => .no
theorem dl_of (ha : DE X c W e me) : DL X c W e (lOf me) := by
  obtain ⟨ta, pa, ha⟩ := ha
  refine ⟨_, pa, fun φ σ H ρ S Q r f p => ?_⟩
  refine ha φ σ H ρ S _ r f (PostW.elim p fun d S1 φ1 H1 e1 r1 p1 => fun x hx => ?_)
  split at p1
  · rename_i hl
    obtain ⟨a, vs, rfl, s, g⟩ := lstOf_rd r1 hx hl
    exact PostW.here r1 p1 a vs (.inl s) g
  · exact False.elim p1

def tV (a : ME) : MT := fun ρ S => (a ρ S).bind fun d S1 => match d with
  | .bl b => .ok b S1
  | _ => .no
theorem dt_of {m : ME} {t : TE} (pt : PT X e (tTest t)) (h : ∀ φ σ H ρ S Q, Rel X.K c φ S H → FrRel X.K φ H σ ρ → PostW X.K c W σ φ H (gE X.K Q) (m ρ S) → t σ H Q) : DT X c W e (tV m) := by
  refine ⟨_, pt, fun φ σ H ρ S Q r f p => ?_⟩
  refine h φ σ H ρ S _ r f (PostW.elim p fun d S1 φ1 H1 e1 r1 p1 => fun x hx => ?_)
  split at p1
  · exact ⟨_, hx.bl_, PostW.here r1 p1⟩
  · exact False.elim p1
theorem dt_cmp {op : CmpOp} {r : R2} {f : F2} (ho : OpR X (compareOp op) r) (hf : Fits2 X.K c r f) (ha : DE X c W a ma) (hb : DE X c W b mb) (hm : behindInMarks op b = false) : DT X c W (.Compare a [op] [b] pos) (tV (eBin f ma mb)) := by
  obtain ⟨ta, pa, ha⟩ := ha
  obtain ⟨tb, pb, hb⟩ := hb
  refine dt_of (pt_cmpR ho pa pb hm) fun φ σ H ρ S Q r f p => ?_
  refine ha φ σ H ρ S _ r f (PostW.elim p fun d S1 φ1 H1 e1 r1 p1 => fun x hx => ?_)
  refine hb φ1 σ H1 ρ S1 _ r1 (f.stay (e1.stays r)) (PostW.elim p1 fun d2 S2 φ2 H2 e2 r2 p2 => fun y hy => ?_)
  exact hf W σ φ2 H2 S2 x y _ _ Q r2 (hx.stay (e2.stays r1)) hy p2
/-- a bool's expression as a test -/
theorem dt_val (ha : DE X c W e me) (he : ∀ whole, isTrue e X.env whole = (do let v ← whole; standAt e.pos; holding [v] (truthy v)) := by intro _; rfl) : DT X c W e (tV me) := by
  obtain ⟨ta, pa, ha⟩ := ha
  exact dt_of (pt_val pa he) ha
def tNt (a : MT) : MT := fun ρ S => (a ρ S).bind fun b S1 => .ok (!b) S1
theorem dt_not (ha : DT X c W a mt) : DT X c W (.UnaryOp .Not a pos) (tNt mt) := by
  obtain ⟨ta, pa, ha⟩ := ha
  refine ⟨_, pt_not pa, fun φ σ H ρ S Q r f p => ?_⟩
  refine ha φ σ H ρ S _ r f (PostW.elim p fun d S1 φ1 H1 e1 r1 p1 => ?_)
  have q := PostW.here r1 p1
  exact q
def tOo (a b : MT) : MT := fun ρ S => (a ρ S).bind fun x S1 => if x = true then .ok true S1 else b ρ S1
theorem dw_or1 (ha : DT X c W a mt) : DW X c W (.BoolOp .Or [a] pos) mt := by
  obtain ⟨ta, pa, ha⟩ := ha
  exact ⟨_, pw_or1 pa, ha⟩
theorem dw_or {rest : List Expr} (ha : DT X c W a mt) (hb : DW X c W (.BoolOp .Or (b :: rest) pos) mu) : DW X c W (.BoolOp .Or (a :: b :: rest) pos) (tOo mt mu) := by
  obtain ⟨ta, pa, ha⟩ := ha
  obtain ⟨tb, pb, hb⟩ := hb
  refine ⟨_, pw_or pa pb, fun φ σ H ρ S Q r f p => ?_⟩
  refine ha φ σ H ρ S _ r f (PostW.elim p fun d S1 φ1 H1 e1 r1 p1 => ?_)
  dsimp only [gT]
  split
  · rename_i hd
    rw [if_pos hd] at p1
    exact PostW.here r1 p1
  · rename_i hd
    rw [if_neg hd] at p1
    exact hb φ1 σ H1 ρ S1 _ r1 (f.stay (e1.stays r)) p1
theorem dt_w (h : DW X c W e mt) : DT X c W e mt := by
  obtain ⟨t, p, h⟩ := h
  exact ⟨t, p.pt, h⟩
end
end MM

namespace MM
open PySem PySem.Spec PyProof.Rows L2

abbrev FL := List D → Sto → R D
def eCall (f : FL) (a : ML) : ME := fun ρ S => (a ρ S).bind f
def FitsL (K : PySem.W.Frag) (c : Cl) (r : List V → Hp → VK → Prop) (f : FL) : Prop := ∀ W σ φ H S vs ds Q, Rel K c φ S H → RepL K φ H ds vs → PostW K c W σ φ H (gE K Q) (f ds S) → r vs H Q
section
variable {X : Cx} {c : Cl} {W : WX} {e : Expr} {es : List Expr} {ml : ML} {me : ME} {p pos : Pos} {x : Str}
theorem de_callB {id : String} {r : List V → Hp → VK → Prop} {f : FL} (hc : CallR X (.builtin id) r) (hf : FitsL X.K c r f) (hg : Gl X x) (hm : X.mg x = none) (hv : bootBuiltins x = some (.builtin id)) (ha : DA X c W (e :: es) ml)
    (hn : x ≠ "__name__" := by decide) (hdb : (x == ("__debug__" : Str)) = false := by decide) (hs : starEach (e :: es) X.env = (false, eval e X.env) :: starEach es X.env := by rfl) (hpl : (backTo pos (starEach es X.env)).any (·.1) = false := by rfl) :
    DE X c W (.Call (.Name x p) (e :: es) [] pos) (eCall f ml) := by
  obtain ⟨ta, pa, ha⟩ := ha
  refine ⟨_, pe_callB hc hg hm hv pa hn hdb hs hpl, fun φ σ H ρ S Q r f p => ?_⟩
  refine ha φ σ H ρ S _ r f (PostW.elim p fun ds S1 φ1 H1 e1 r1 p1 => fun vs hv => ?_)
  exact hf W σ φ1 H1 S1 vs ds Q r1 hv p1
theorem de_callTy {id : String} {r : List V → Hp → VK → Prop} {f : FL} (hc : CallR X (.type id) r) (hf : FitsL X.K c r f) (hg : Gl X x) (hm : X.mg x = none) (hv : bootBuiltins x = some (.type id)) (ha : DA X c W (e :: es) ml)
    (hn : x ≠ "__name__" := by decide) (hdb : (x == ("__debug__" : Str)) = false := by decide) (hs : starEach (e :: es) X.env = (false, eval e X.env) :: starEach es X.env := by rfl) (hpl : (backTo pos (starEach es X.env)).any (·.1) = false := by rfl) :
    DE X c W (.Call (.Name x p) (e :: es) [] pos) (eCall f ml) := by
  obtain ⟨ta, pa, ha⟩ := ha
  refine ⟨_, pe_callTy hc hg hm hv pa hn hdb hs hpl, fun φ σ H ρ S Q r f p => ?_⟩
  refine ha φ σ H ρ S _ r f (PostW.elim p fun ds S1 φ1 H1 e1 r1 p1 => fun vs hv => ?_)
  exact hf W σ φ1 H1 S1 vs ds Q r1 hv p1
/-- f(list): the list may be new -/
abbrev FS := List D → Sto → R D
def eLs (f : FS) (a : ML) : ME := fun ρ S => (a ρ S).bind f
def FitsS (K : PySem.W.Frag) (c : Cl) (r : List V → Hp → VK → Prop) (f : FS) : Prop := ∀ W σ φ H S a vs ds Q, Rel K c φ S H → SqL K H a vs → RepL K φ H ds vs → PostW K c W σ φ H (gE K Q) (f ds S) → r [.ref a] H Q
theorem de_lsB {id : String} {r : List V → Hp → VK → Prop} {f : FS} (hc : CallR X (.builtin id) r) (hf : FitsS X.K c r f) (hg : Gl X x) (hm : X.mg x = none) (hv : bootBuiltins x = some (.builtin id)) (ha : DL X c W e ml)
    (hn : x ≠ "__name__" := by decide) (hdb : (x == ("__debug__" : Str)) = false := by decide) (hs : starEach [e] X.env = (false, eval e X.env) :: starEach [] X.env := by rfl) (hpl : (backTo pos (starEach [] X.env)).any (·.1) = false := by rfl) :
    DE X c W (.Call (.Name x p) [e] [] pos) (eLs f ml) := by
  obtain ⟨ta, pa, ha⟩ := ha
  refine ⟨_, pe_callB hc hg hm hv (pa_cons pa pa_nil hs) hn hdb hs hpl, fun φ σ H ρ S Q r f p => ?_⟩
  refine ha φ σ H ρ S _ r f (PostW.elim p fun ds S1 φ1 H1 e1 r1 p1 => fun a vs s hv => ?_)
  exact hf W σ φ1 H1 S1 a vs ds Q r1 s hv p1
theorem de_lsTy {id : String} {r : List V → Hp → VK → Prop} {f : FS} (hc : CallR X (.type id) r) (hf : FitsS X.K c r f) (hg : Gl X x) (hm : X.mg x = none) (hv : bootBuiltins x = some (.type id)) (ha : DL X c W e ml)
    (hn : x ≠ "__name__" := by decide) (hdb : (x == ("__debug__" : Str)) = false := by decide) (hs : starEach [e] X.env = (false, eval e X.env) :: starEach [] X.env := by rfl) (hpl : (backTo pos (starEach [] X.env)).any (·.1) = false := by rfl) :
    DE X c W (.Call (.Name x p) [e] [] pos) (eLs f ml) := by
  obtain ⟨ta, pa, ha⟩ := ha
  refine ⟨_, pe_callTy hc hg hm hv (pa_cons pa pa_nil hs) hn hdb hs hpl, fun φ σ H ρ S Q r f p => ?_⟩
  refine ha φ σ H ρ S _ r f (PostW.elim p fun ds S1 φ1 H1 e1 r1 p1 => fun a vs s hv => ?_)
  exact hf W σ φ1 H1 S1 a vs ds Q r1 s hv p1
end

def absD : FL
  | [.int i], S => .ok (.int (if i < 0 then -i else i)) S
  | _, _ => .no
def maxD : FL
  | [.int i, .int j], S => .ok (.int (if j > i then j else i)) S
  | _, _ => .no
def minD : FL
  | [.int i, .int j], S => .ok (.int (if j < i then j else i)) S
  | _, _ => .no
def lenD : FL
  | [.str z], S => if z.length ≤ sizeLine then .ok (.int z.length) S else .no
  | [.tup l], S => .ok (.int l.length) S
  | [.ref n], S => match S[n]? with
    | some (.lst _ l) => .ok (.int l.length) S
    | _ => .no
  | [.scr l], S => .ok (.int l.length) S
  | [.pl l], S => .ok (.int l.length) S
  | _, _ => .no
def strD : FL
  | [.int i], S => if i.natAbs.log2 < 1920 then .ok (.str (toString i)) S else .no
  | [.str z], S => .no
  | _, _ => .no
section
variable {K : PySem.W.Frag} {c : Cl}
theorem one_of {φ : List Addr} {H : Hp} {d : D} {vs : List V} (h : RepL K φ H [d] vs) : ∃ v, vs = [v] ∧ Rep K φ H d v := by
  obtain ⟨v, r, rfl, h1, h2⟩ := h.uncons
  rw [h2.isNil]
  exact ⟨v, rfl, h1⟩
theorem two_of {φ : List Addr} {H : Hp} {d e : D} {vs : List V} (h : RepL K φ H [d, e] vs) : ∃ v w, vs = [v, w] ∧ Rep K φ H d v ∧ Rep K φ H e w := by
  obtain ⟨v, r, rfl, h1, h2⟩ := h.uncons
  obtain ⟨w, rfl, h3⟩ := one_of h2
  exact ⟨v, w, rfl, h1, h3⟩
theorem fits_abs : FitsL K c (fun xs H Q => ∃ i, xs = [.int i] ∧ Q (.int (if i < 0 then -i else i)) H) absD := by
  intro W σ φ H S vs ds Q r h p
  unfold absD at p
  split at p
  · obtain ⟨v, rfl, hv⟩ := one_of h
    rw [hv.int_]
    exact ⟨_, rfl, PostW.here r p _ rep_int⟩
  · exact False.elim p
theorem fits_max : FitsL K c (fun xs H Q => ∃ i j, xs = [.int i, .int j] ∧ Q (.int (if j > i then j else i)) H) maxD := by
  intro W σ φ H S vs ds Q r h p
  unfold maxD at p
  split at p
  · obtain ⟨v, w, rfl, hv, hw⟩ := two_of h
    rw [hv.int_, hw.int_]
    exact ⟨_, _, rfl, PostW.here r p _ rep_int⟩
  · exact False.elim p
theorem fits_min : FitsL K c (fun xs H Q => ∃ i j, xs = [.int i, .int j] ∧ Q (.int (if j < i then j else i)) H) minD := by
  intro W σ φ H S vs ds Q r h p
  unfold minD at p
  split at p
  · obtain ⟨v, w, rfl, hv, hw⟩ := two_of h
    rw [hv.int_, hw.int_]
    exact ⟨_, _, rfl, PostW.here r p _ rep_int⟩
  · exact False.elim p
theorem fits_len : FitsL K c (fun xs H Q => ∃ x n, xs = [x] ∧ LenV K x H n ∧ Q (.int n) H) lenD := by
  intro W σ φ H S vs ds Q r h p
  unfold lenD at p
  split at p
  · obtain ⟨v, rfl, hv⟩ := one_of h
    split at p
    · rename_i hz
      rw [hv.str_]
      exact ⟨_, _, rfl, ⟨hz, rfl⟩, PostW.here r p _ rep_int⟩
    · exact False.elim p
  · obtain ⟨v, rfl, hv⟩ := one_of h
    obtain ⟨a, vs, rfl, s, g⟩ := hv.tup_
    refine ⟨_, _, rfl, .inr ⟨vs, s, rfl⟩, ?_⟩
    rw [← g.length]
    exact PostW.here r p _ rep_int
  · obtain ⟨v, rfl, hv⟩ := one_of h
    split at p
    · rename_i hl
      obtain ⟨a, i1, rfl⟩ := hv.ref_
      obtain ⟨vs, g, s, _⟩ := r.lst i1 hl
      refine ⟨_, _, rfl, .inl ⟨vs, s, rfl⟩, ?_⟩
      rw [← g.length]
      exact PostW.here r p _ rep_int
    · exact False.elim p
  · obtain ⟨v, rfl, hv⟩ := one_of h
    obtain ⟨a, rfl, s⟩ := hv.scr_
    refine ⟨_, _, rfl, .inl ⟨_, s.sq, rfl⟩, ?_⟩
    rw [List.length_map]
    exact PostW.here r p _ rep_int
  · obtain ⟨v, rfl, hv⟩ := one_of h
    obtain ⟨a, vs, rfl, s, g⟩ := hv.pl_
    refine ⟨_, _, rfl, .inl ⟨vs, s.sq, rfl⟩, ?_⟩
    rw [← g.length]
    exact PostW.here r p _ rep_int
  · exact False.elim p
theorem fits_str : FitsL K c (fun xs H Q => ∃ i, xs = [.int i] ∧ i.natAbs.log2 < 1920 ∧ Q (.str (toString i)) H) strD := by
  intro W σ φ H S vs ds Q r h p
  unfold strD at p
  split at p
  · obtain ⟨v, rfl, hv⟩ := one_of h
    split at p
    · rename_i hz
      rw [hv.int_]
      exact ⟨_, rfl, hz, PostW.here r p _ rep_str⟩
    · exact False.elim p
  · exact False.elim p
  · exact False.elim p
end

def bools : List D → Option (List Bool)
  | [] => some []
  | .bl b :: r => (bools r).map (b :: ·)
  | _ => none
def intsD : List D → Option (List Int)
  | [] => some []
  | .int b :: r => (intsD r).map (b :: ·)
  | _ => none
def txts : List D → Option (List Str)
  | [] => some []
  | .str b :: r => (txts r).map (b :: ·)
  | _ => none
section
variable {K : PySem.W.Frag} {c : Cl} {φ : List Addr} {H : Hp}
theorem bools_of : ∀ {ds : List D} {vs : List V} {bs : List Bool}, RepL K φ H ds vs → bools ds = some bs → vs = bs.map V.bl
  | [], vs, bs, h, e => by cases e; rw [h.isNil]; rfl
  | .bl b :: r, vs, bs, h, e => by
    obtain ⟨v, r', rfl, h1, h2⟩ := h.uncons
    obtain ⟨q, e1, rfl⟩ := Option.map_eq_some_iff.mp e
    rw [h1.bl_, bools_of h2 e1]
    rfl
  | .non :: r, vs, bs, h, e => by cases e
  | .int _ :: r, vs, bs, h, e => by cases e
  | .str _ :: r, vs, bs, h, e => by cases e
  | .tup _ :: r, vs, bs, h, e => by cases e
  | .ref _ :: r, vs, bs, h, e => by cases e
  | .scr _ :: r, vs, bs, h, e => by cases e
  | .pl _ :: r, vs, bs, h, e => by cases e
theorem ints_of : ∀ {ds : List D} {vs : List V} {bs : List Int}, RepL K φ H ds vs → intsD ds = some bs → vs = bs.map V.int
  | [], vs, bs, h, e => by cases e; rw [h.isNil]; rfl
  | .int b :: r, vs, bs, h, e => by
    obtain ⟨v, r', rfl, h1, h2⟩ := h.uncons
    obtain ⟨q, e1, rfl⟩ := Option.map_eq_some_iff.mp e
    rw [h1.int_, ints_of h2 e1]
    rfl
  | .non :: r, vs, bs, h, e => by cases e
  | .bl _ :: r, vs, bs, h, e => by cases e
  | .str _ :: r, vs, bs, h, e => by cases e
  | .tup _ :: r, vs, bs, h, e => by cases e
  | .ref _ :: r, vs, bs, h, e => by cases e
  | .scr _ :: r, vs, bs, h, e => by cases e
  | .pl _ :: r, vs, bs, h, e => by cases e
theorem txts_of : ∀ {ds : List D} {vs : List V} {bs : List Str}, RepL K φ H ds vs → txts ds = some bs → vs = bs.map V.str
  | [], vs, bs, h, e => by cases e; rw [h.isNil]; rfl
  | .str b :: r, vs, bs, h, e => by
    obtain ⟨v, r', rfl, h1, h2⟩ := h.uncons
    obtain ⟨q, e1, rfl⟩ := Option.map_eq_some_iff.mp e
    rw [h1.str_, txts_of h2 e1]
    rfl
  | .non :: r, vs, bs, h, e => by cases e
  | .bl _ :: r, vs, bs, h, e => by cases e
  | .int _ :: r, vs, bs, h, e => by cases e
  | .tup _ :: r, vs, bs, h, e => by cases e
  | .ref _ :: r, vs, bs, h, e => by cases e
  | .scr _ :: r, vs, bs, h, e => by cases e
  | .pl _ :: r, vs, bs, h, e => by cases e
end
def allD : FS := fun l S => match bools l with
  | some bs => .ok (.bl (bs.all id)) S
  | none => .no
def anyD : FS := fun l S => match bools l with
  | some bs => .ok (.bl (bs.any id)) S
  | none => .no
def tupleD : FS := fun l S => .ok (.tup l) S
section
variable {K : PySem.W.Frag} {c : Cl}
theorem fits_all : FitsS K c (rAll K) allD := by
  intro W σ φ H S a vs ds Q r s h p
  unfold allD at p
  split at p
  · rename_i bs e
    exact ⟨a, bs, rfl, by rw [← bools_of h e]; exact s, PostW.here r p _ rep_bl⟩
  · exact False.elim p
theorem fits_any : FitsS K c (rAny K) anyD := by
  intro W σ φ H S a vs ds Q r s h p
  unfold anyD at p
  split at p
  · rename_i bs e
    exact ⟨a, bs, rfl, by rw [← bools_of h e]; exact s, PostW.here r p _ rep_bl⟩
  · exact False.elim p
theorem fits_tuple : FitsS K c (fun xs H Q => ∃ p ys, xs = [.ref p] ∧ ((SqL K H p ys ∧ ∀ l, H l = none → Q (.ref l) (upd H l (.tup ys))) ∨ (SqT K H p ys ∧ Q (.ref p) H))) tupleD := by
  intro W σ φ H S a vs ds Q r s h p
  exact ⟨a, vs, rfl, .inl ⟨s, fun q hq => post_tup r h hq p⟩⟩
end
section
variable {X : Cx} {c : Cl} {W : WX} {e : Expr} {es : List Expr} {ml : ML} {me : ME} {p pos : Pos} {x : Str}
end

inductive Ty where
  | int | bool | str | tuple | list | dict
def Ty.name : Ty → String
  | .int => "int" | .bool => "bool" | .str => "str" | .tuple => "tuple" | .list => "list" | .dict => "dict"
def isLstD : D → Sto → Bool
  | .ref n, S => match S[n]? with
    | some (.lst _ _) => true
    | _ => false
  | _, _ => false
abbrev FM := D → List D → Sto → R D
def eMeth (ok : D → Sto → Bool) (f : FM) (a : ME) (l : ML) : ME := fun ρ S => (a ρ S).bind fun x S1 => if ok x S1 = true then (l ρ S1).bind fun ys S2 => f x ys S2 else .no
def FitsM (K : PySem.W.Frag) (c : Cl) (r : V → List V → Hp → VK → Prop) (f : FM) : Prop := ∀ W σ φ H S x d vs ds Q, Rel K c φ S H → Rep K φ H d x → RepL K φ H ds vs → PostW K c W σ φ H (gE K Q) (f d ds S) → r x vs H Q
def Typed (K : PySem.W.Frag) (c : Cl) (T : String) (ok : D → Sto → Bool) : Prop := ∀ φ S H d x, Rel K c φ S H → Rep K φ H d x → ok d S = true → tyV K T x H
theorem typed_lst {K : PySem.W.Frag} {c : Cl} : Typed K c "list" isLstD := by
  intro φ S H d x r h e
  cases d <;> first | (cases e; done) | skip
  rename_i n
  simp only [isLstD] at e
  split at e
  · rename_i hl
    obtain ⟨a, i1, rfl⟩ := h.ref_
    obtain ⟨vs, g, s, _⟩ := r.lst i1 hl
    exact .inl ⟨rfl, vs, s⟩
  · cases e
section
variable {X : Cx} {c : Cl} {W : WX} {o e : Expr} {es : List Expr} {ml : ML} {mo me : ME} {apos cpos : Pos} {name : Str} {T id : String} {ok : D → Sto → Bool} {f : FM} {r : V → List V → Hp → VK → Prop}
theorem de_bm (pa : PlainAttrs T) (slot : Slot T name id) (hty : typeOf (.builtin id) = pure (.type "method_descriptor")) (hm : MtR X id r) (hf : FitsM X.K c r f) (ht : Typed X.K c T ok) (ho : DE X c W o mo) (ha : DA X c W (e :: es) ml)
    (hbase : attributeBase o name X.env (eval o X.env) = eval o X.env := by rfl)
    (hfew : ((backTo cpos (starEach (e :: es) X.env)).all (fun x => !x.1) && (backToKw cpos (keywordEach [] X.env)).all (fun x => x.1.isSome)
      && decide ((e :: es).length + ([] : List Keyword).length + (if ([] : List Keyword).isEmpty then 0 else 1) < 30)) = true := by rfl)
    (hline : (apos.endLine == cpos.line) = true := by rfl) (hs : starEach (e :: es) X.env = (false, eval e X.env) :: starEach es X.env := by rfl) (hplain : (backTo cpos (starEach es X.env)).any (·.1) = false := by rfl) :
    DE X c W (.Call (.Attribute o name apos) (e :: es) [] cpos) (eMeth ok f mo ml) := by
  obtain ⟨to, po, ho⟩ := ho
  obtain ⟨ta, pa', ha⟩ := ha
  refine ⟨_, pe_bm pa slot hty hm po pa' hbase hfew hline hs hplain, fun φ σ H ρ S Q r f p => ?_⟩
  refine ho φ σ H ρ S _ r f (PostW.elim p fun d S1 φ1 H1 e1 r1 p1 => fun x hx => ?_)
  split at p1
  · rename_i hk
    refine ⟨ht φ1 S1 H1 d x r1 hx hk, ?_⟩
    refine ha φ1 σ H1 ρ S1 _ r1 (f.stay (e1.stays r)) (PostW.elim p1 fun ds S2 φ2 H2 e2 r2 p2 => fun vs hv => ?_)
    exact hf W σ φ2 H2 S2 x d vs ds Q r2 (hx.stay (e2.stays r1)) hv p2
  · exact False.elim p1
end
/-- xs.append(y), xs.extend(ys), xs.pop(), xs.pop(i) -/
def appendD : FM := fun x l S => match x, l with
  | .ref n, [d] => match S[n]? with
    | some (.lst false xs) => if xs.length < sizeLine then .ok .non (S.set n (.lst false (xs ++ [d]))) else .no
    | _ => .no
  | _, _ => .no
section
variable {K : PySem.W.Frag} {c : Cl}
/-- a list of the store becomes another -/
theorem post_set {W : WX} {σ : L2.St} {φ : List Addr} {H : Hp} {S : Sto} {Q : VK} {n : Nat} {a : Addr} {l : List D} {vs : List V} {d : D} {v : V} (r : Rel K c φ S H) (i1 : φ[n]? = some a) (g : RepL K φ H l vs) (hd : Rep K φ H d v) {us : List V} (hs : H a = some (.lst us))
    (p : PostW K c W σ φ H (gE K Q) (.ok d (S.set n (.lst false l)))) : Q v (upd H a (.lst vs)) := by
  have st := stays_write (u := .lst vs) r i1
  obtain ⟨e, r'⟩ := r.write (o := .lst false l) (u := .lst vs) i1 ⟨vs, g.stay st, by simp [upd_same]⟩ (fun ob w q => by rw [hs] at q; cases q)
  exact p _ _ e r' _ (hd.stay st)
theorem fits_append : FitsM K c rAppend appendD := by
  intro W σ φ H S x d vs ds Q r hx hv p
  unfold appendD at p
  split at p
  · split at p
    · split at p
      · rename_i n d xs hl hz
        obtain ⟨a, i1, rfl⟩ := hx.ref_
        obtain ⟨v, rfl, hd⟩ := one_of hv
        obtain ⟨us, g, _, s⟩ := r.lst i1 hl
        refine ⟨a, us, v, rfl, rfl, s rfl, by rw [← g.length]; exact hz, ?_⟩
        exact post_set r i1 (g.append (RepL.cons hd RepL.nil)) rep_non (s rfl) p
      · exact False.elim p
    · exact False.elim p
  · exact False.elim p
theorem RepL.erase {φ : List Addr} {H : Hp} {l : List D} {vs : List V} (g : RepL K φ H l vs) (k : Nat) : RepL K φ H (l.eraseIdx k) (vs.eraseIdx k) := by
  rw [List.eraseIdx_eq_take_drop_succ, List.eraseIdx_eq_take_drop_succ]
  exact (g.take _).append (g.drop _)
end
/-- xs.extend(a list): new, or of the store (rows are read as they stand) -/
def extendD : FM := fun x l S => match x with
  | .ref n => match S[n]? with
    | some (.lst false xs) => if xs.length + l.length ≤ sizeLine then .ok .non (S.set n (.lst false (xs ++ l))) else .no
    | _ => .no
  | _ => .no
section
variable {X : Cx} {c : Cl} {W : WX} {o e : Expr} {ml : ML} {mo me : ME} {apos cpos : Pos}
/-- a list that is read: new, locked, or of the store -/
abbrev gU (K : PySem.W.Frag) (Q : VK) : List D → Sto → List Addr → Hp → Prop := fun ds _ φ H => ∀ a vs, Rd H a (.lst vs) → RepL K φ H ds vs → Q (.ref a) H
def DU (X : Cx) (c : Cl) (W : WX) (e : Expr) (m : ML) : Prop :=
  ∃ t, PE X e t ∧ ∀ φ σ H ρ S Q, Rel X.K c φ S H → FrRel X.K φ H σ ρ → PostW X.K c W σ φ H (gU X.K Q) (m ρ S) → t σ H Q
theorem du_new (ha : DN X c W e ml) : DU X c W e ml := by
  obtain ⟨ta, pa, ha⟩ := ha
  refine ⟨_, pa, fun φ σ H ρ S Q r f p => ?_⟩
  exact ha φ σ H ρ S _ r f (p.imp fun ds S' φ' H' g a vs h0 h1 h2 h3 => g a vs (.inl h1) h3)
theorem de_extend (ho : DE X c W o mo) (ha : DU X c W e ml)
    (hbase : attributeBase o "extend" X.env (eval o X.env) = eval o X.env := by rfl)
    (hfew : ((backTo cpos (starEach [e] X.env)).all (fun x => !x.1) && (backToKw cpos (keywordEach [] X.env)).all (fun x => x.1.isSome)
      && decide (([e] : List Expr).length + ([] : List Keyword).length + (if ([] : List Keyword).isEmpty then 0 else 1) < 30)) = true := by rfl)
    (hline : (apos.endLine == cpos.line) = true := by rfl) (hs : starEach [e] X.env = (false, eval e X.env) :: starEach [] X.env := by rfl) (hplain : (backTo cpos (starEach [] X.env)).any (·.1) = false := by rfl) :
    DE X c W (.Call (.Attribute o "extend" apos) [e] [] cpos) (eMeth isLstD extendD mo ml) := by
  obtain ⟨to, po, ho⟩ := ho
  obtain ⟨ta, pa', ha⟩ := ha
  refine ⟨_, pe_bm PySem.F.plainAttrs_list PySem.F.slot_list_extend PySem.F.type_list_extend mt_extR po (pa_cons pa' pa_nil hs) hbase hfew hline hs hplain, fun φ σ H ρ S Q r f p => ?_⟩
  refine ho φ σ H ρ S _ r f (PostW.elim p fun d S1 φ1 H1 e1 r1 p1 => fun x hx => ?_)
  split at p1
  · rename_i hk
    refine ⟨typed_lst φ1 S1 H1 d x r1 hx hk, ?_⟩
    refine ha φ1 σ H1 ρ S1 _ r1 (f.stay (e1.stays r)) (PostW.elim p1 fun ds S2 φ2 H2 e2 r2 p2 => fun b us hb hv => ?_)
    unfold extendD at p2
    split at p2
    · split at p2
      · split at p2
        · rename_i hl hz
          obtain ⟨a, i1, rfl⟩ := (hx.stay (e2.stays r1)).ref_
          obtain ⟨vs, g, _, s⟩ := r2.lst i1 hl
          have e1 := g.length
          have e2 := hv.length
          refine ⟨a, b, vs, us, rfl, rfl, s rfl, hb, by omega, ?_⟩
          exact post_set r2 i1 (g.append hv) rep_non (s rfl) p2
        · exact False.elim p2
      · exact False.elim p2
    · exact False.elim p2
  · exact False.elim p1
end
end MM

namespace MM
open PySem PySem.Spec PyProof.Rows L2

def PostS (K : PySem.W.Frag) (c : Cl) (W : WX) (φ : List Addr) (H : Hp) (E : Ends) : RS → Prop
  | .nx ρ' S' => ∀ φ' H' σ', Ext φ H φ' H' → Rel K c φ' S' H' → FrRel K φ' H' σ' ρ' → E.nx σ' H'
  | .bk ρ' S' => ∀ φ' H' σ', Ext φ H φ' H' → Rel K c φ' S' H' → FrRel K φ' H' σ' ρ' → E.bk σ' H'
  | .ct ρ' S' => ∀ φ' H' σ', Ext φ H φ' H' → Rel K c φ' S' H' → FrRel K φ' H' σ' ρ' → E.ct σ' H'
  | .rt d S' => ∀ φ' H' v, Ext φ H φ' H' → Rel K c φ' S' H' → Rep K φ' H' d v → E.rt v H'
  | .ex k ρ' S' => ∀ φ' H' σ', Ext φ H φ' H' → Rel K c φ' S' H' → FrRel K φ' H' σ' ρ' → W (.ref (c.cl k)) none σ' H'
  | .no => False
theorem PostS.from {K : PySem.W.Frag} {c : Cl} {W : WX} {φ φ1 : List Addr} {H H1 : Hp} {E : Ends} {r : RS} (e : Ext φ H φ1 H1) (h : PostS K c W φ H E r) : PostS K c W φ1 H1 E r := by
  cases r with
  | nx ρ S => exact fun φ' H' σ' e' => h φ' H' σ' (e.trans e')
  | bk ρ S => exact fun φ' H' σ' e' => h φ' H' σ' (e.trans e')
  | ct ρ S => exact fun φ' H' σ' e' => h φ' H' σ' (e.trans e')
  | rt ρ S => exact fun φ' H' σ' e' => h φ' H' σ' (e.trans e')
  | ex k ρ S => exact fun φ' H' σ' e' => h φ' H' σ' (e.trans e')
  | no => exact h
def DS (X : Cx) (c : Cl) (W : WX) (st : Stmt) (m : MS) : Prop :=
  ∃ t, PS X st t ∧ ∀ φ σ H ρ S E, Rel X.K c φ S H → FrRel X.K φ H σ ρ → PostS X.K c W φ H E (m ρ S) → t E σ H
def DSs (X : Cx) (c : Cl) (W : WX) (st : List Stmt) (m : MS) : Prop :=
  ∃ t, PSs X st t ∧ ∀ φ σ H ρ S E, Rel X.K c φ S H → FrRel X.K φ H σ ρ → PostS X.K c W φ H E (m ρ S) → t E σ H
/-- an expression, then on -/
def RS.of {α : Type} (ρ : Fr) : R α → (α → Sto → RS) → RS
  | .ok a S, k => k a S
  | .ex c S, _ => .ex c ρ S
  | .no, _ => .no
def RS.then : RS → (Fr → Sto → RS) → RS
  | .nx ρ S, k => k ρ S
  | r, _ => r
def sPass : MS := fun ρ S => .nx ρ S
def sSeq (a b : MS) : MS := fun ρ S => (a ρ S).then b
section
variable {X : Cx} {c : Cl} {W : WX} {st : Stmt} {rest : List Stmt} {m n : MS} {e : Expr} {me : ME} {mt : MT} {pos : Pos}
theorem PostS.expr {α : Type} {φ : List Addr} {H : Hp} {S : Sto} {σ : L2.St} {ρ : Fr} {E : Ends} {r : R α} {k : α → Sto → RS} {good : α → Sto → List Addr → Hp → Prop} (rel : Rel X.K c φ S H) (f : FrRel X.K φ H σ ρ) (h : PostS X.K c W φ H E (RS.of ρ r k))
    (g : ∀ a S1 φ1 H1, Ext φ H φ1 H1 → Rel X.K c φ1 S1 H1 → FrRel X.K φ1 H1 σ ρ → PostS X.K c W φ1 H1 E (k a S1) → good a S1 φ1 H1) : PostW X.K c W σ φ H good r := by
  cases r with
  | ok a S1 => exact fun φ1 H1 e1 r1 => g a S1 φ1 H1 e1 r1 (f.stay (e1.stays rel)) (PostS.from e1 h)
  | ex k S1 => exact fun φ1 H1 e1 r1 => h φ1 H1 σ e1 r1 (f.stay (e1.stays rel))
  | no => exact h
theorem dss_nil : DSs X c W [] sPass := ⟨_, pss_nil, fun φ σ H ρ S E r f p => p φ H σ (Ext.refl r.nd) r f⟩
theorem dss_cons (h1 : DS X c W st m) (h2 : DSs X c W rest n) : DSs X c W (st :: rest) (sSeq m n) := by
  obtain ⟨t1, p1, h1⟩ := h1
  obtain ⟨t2, p2, h2⟩ := h2
  refine ⟨_, pss_cons p1 p2, fun φ σ H ρ S E r f p => ?_⟩
  refine h1 φ σ H ρ S _ r f ?_
  unfold sSeq at p
  cases hm : m ρ S with
  | nx ρ1 S1 =>
    rw [hm] at p
    exact fun φ1 H1 σ1 e1 r1 f1 => h2 φ1 σ1 H1 ρ1 S1 E r1 f1 (PostS.from e1 p)
  | bk ρ1 S1 => rw [hm] at p; exact p
  | ct ρ1 S1 => rw [hm] at p; exact p
  | rt ρ1 S1 => rw [hm] at p; exact p
  | ex k ρ1 S1 => rw [hm] at p; exact p
  | no => rw [hm] at p; exact p
theorem dss_one (h1 : DS X c W st m) : DSs X c W [st] m := by
  obtain ⟨t1, p1, h1⟩ := h1
  exact ⟨_, pss_one p1, h1⟩
def sExpr (a : ME) : MS := fun ρ S => RS.of ρ (a ρ S) fun _ S1 => .nx ρ S1
theorem ds_expr (he : DE X c W e me) (hs : swapsWith e none pos.line X.env = pure false := by rfl) : DS X c W (.Expr e pos) (sExpr me) := by
  obtain ⟨t, p, h⟩ := he
  refine ⟨_, ps_expr p hs, fun φ σ H ρ S E r f p => ?_⟩
  exact h φ σ H ρ S _ r f (PostS.expr r f p fun d S1 φ1 H1 e1 r1 f1 p1 => fun v hv => p1 φ1 H1 σ (Ext.refl r1.nd) r1 f1)
def sRet (a : ME) : MS := fun ρ S => RS.of ρ (a ρ S) fun d S1 => .rt d S1
theorem ds_ret (he : DE X c W e me) : DS X c W (.Return (some e) pos) (sRet me) := by
  obtain ⟨t, p, h⟩ := he
  refine ⟨_, ps_ret p, fun φ σ H ρ S E r f p => ?_⟩
  exact h φ σ H ρ S _ r f (PostS.expr r f p fun d S1 φ1 H1 e1 r1 f1 p1 => fun v hv => p1 φ1 H1 v (Ext.refl r1.nd) r1 hv)
def sIf (t : MT) (a b : MS) : MS := fun ρ S => RS.of ρ (t ρ S) fun x S1 => if x = true then a ρ S1 else b ρ S1
theorem ds_if {d : Expr} {a b : List Stmt} (hc : DT X c W d mt) (ha : DSs X c W a m) (hb : DSs X c W b n) : DS X c W (.If d a b pos) (sIf mt m n) := by
  obtain ⟨tc, pc, hc⟩ := hc
  obtain ⟨ta, pa, ha⟩ := ha
  obtain ⟨tb, pb, hb⟩ := hb
  refine ⟨_, ps_if pc pa pb, fun φ σ H ρ S E r f p => ?_⟩
  refine hc φ σ H ρ S _ r f (PostS.expr r f p fun d S1 φ1 H1 e1 r1 f1 p1 => ?_)
  dsimp only [gT]
  split
  · rename_i hd
    rw [if_pos hd] at p1
    exact ha φ1 σ H1 ρ S1 _ r1 f1 p1
  · rename_i hd
    rw [if_neg hd] at p1
    exact hb φ1 σ H1 ρ S1 _ r1 f1 p1
end

abbrev MG := D → Fr → Option Fr
def PostG (K : PySem.W.Frag) (φ : List Addr) (H : Hp) (Q : L2.St → Hp → Prop) : Option Fr → Prop
  | some ρ' => ∀ σ', FrRel K φ H σ' ρ' → Q σ' H
  | none => False
def DG (X : Cx) (tg : Expr) (m : MG) : Prop := ∃ g, PG X tg g ∧ ∀ φ σ H ρ v d Q, FrRel X.K φ H σ ρ → Rep X.K φ H d v → PostG X.K φ H Q (m d ρ) → g v σ H Q
def DGs (X : Cx) (tg : List Expr) (m : List D → Fr → Option Fr) : Prop := ∃ g, PGs X tg g ∧ ∀ φ σ H ρ v d Q, FrRel X.K φ H σ ρ → RepL X.K φ H d v → PostG X.K φ H Q (m d ρ) → g v σ H Q
def tN (i : Nat) : MG := fun d ρ => some (ρ.set i (some d))
def tsNil : List D → Fr → Option Fr
  | [], ρ => some ρ
  | _, _ => none
def tsCons (a : MG) (r : List D → Fr → Option Fr) : List D → Fr → Option Fr
  | d :: ds, ρ => (a d ρ).bind fun ρ' => r ds ρ'
  | _, _ => none
def tTp (n : Nat) (r : List D → Fr → Option Fr) : MG
  | .tup l, ρ => if l.length = n then r l ρ else none
  | _, _ => none
theorem FrRel.set {K : PySem.W.Frag} {φ : List Addr} {H : Hp} {σ : L2.St} {ρ : Fr} {d : D} {v : V} (f : FrRel K φ H σ ρ) (i : Nat) (h : Rep K φ H d v) : FrRel K φ H (σ.set i (some v)) (ρ.set i (some d)) := by
  refine ⟨by simp [f.1], fun j d' hj => ?_⟩
  by_cases e : i = j
  · subst e
    have hl : i < ρ.length := by
      have := (List.getElem?_eq_some_iff.mp hj).1
      simpa using this
    rw [List.getElem?_set_self hl] at hj
    cases hj
    exact ⟨v, List.getElem?_set_self (by rw [← f.1]; exact hl), h⟩
  · rw [List.getElem?_set_ne e] at hj ⊢
    exact f.2 j d' hj
section
variable {X : Cx} {c : Cl} {W : WX} {e : Expr} {es : List Expr} {me : ME} {pos : Pos} {mg : MG}
theorem dg_name {i : Nat} {x : Str} (h : PG X (.Name x pos) (gName i)) : DG X (.Name x pos) (tN i) :=
  ⟨_, h, fun φ σ H ρ v d Q f r p => p _ (f.set i r)⟩
theorem dgs_nil : DGs X [] tsNil := ⟨_, pgs_nil, fun φ σ H ρ v d Q f r p => by
  unfold tsNil at p
  split at p
  · exact ⟨r.isNil, p σ f⟩
  · exact False.elim p⟩
theorem dgs_cons {mr : List D → Fr → Option Fr} (h1 : DG X e mg) (h2 : DGs X es mr) (hs : (assignEach (e :: es) X.env).map (·.2) = assign e X.env :: (assignEach es X.env).map (·.2) := by rfl) : DGs X (e :: es) (tsCons mg mr) := by
  obtain ⟨g1, p1, h1⟩ := h1
  obtain ⟨g2, p2, h2⟩ := h2
  refine ⟨_, pgs_cons p1 p2 hs, fun φ σ H ρ v d Q f r p => ?_⟩
  unfold tsCons at p
  split at p
  · obtain ⟨v, rr, rfl, ra, rb⟩ := r.uncons
    rename_i _ d ds
    refine ⟨v, rr, rfl, h1 φ σ H ρ v d _ f ra ?_⟩
    cases hm : mg d ρ with
    | none => rw [hm] at p; exact p
    | some ρ' =>
      rw [hm] at p
      exact fun σ' f' => h2 φ σ' H ρ' rr ds Q f' rb p
  · exact False.elim p
theorem dg_tup {k n : Nat} {mr : List D → Fr → Option Fr} (hc : X.calm = true) (h : DGs X es mr) (hn : (assignEach es X.env).length = n := by rfl) (hst : (assignEach es X.env).findIdx? (·.1) = none := by rfl) : DG X (.Tuple es k pos) (tTp n mr) := by
  obtain ⟨g, p, h⟩ := h
  refine ⟨_, pg_tup hc p hn hst, fun φ σ H ρ v d Q f r p => ?_⟩
  unfold tTp at p
  split at p
  · obtain ⟨a, vs, rfl, s, g⟩ := r.tup_
    split at p
    · rename_i hl
      exact ⟨a, vs, rfl, s, by rw [← g.length]; exact hl, h φ σ H _ vs _ Q f g p⟩
    · exact False.elim p
  · exact False.elim p
def sSet (i : Nat) (a : ME) : MS := fun ρ S => RS.of ρ (a ρ S) fun d S1 => .nx (ρ.set i (some d)) S1
theorem ds_set {i : Nat} {x : Str} {pos' : Pos} (hN : X.N.Nodup) (hi : X.N[i]? = some x) (hx : Loc X.env.scope x) (he : DE X c W e me) (hs : swapsWith e (some (.Name x pos')) pos.line X.env = pure false := by rfl) (hf : X.fn x = true ∨ X.env.scope.names.lookup x = some .local := by first | exact .inl rfl | exact .inr rfl | assumption) :
    DS X c W (.Assign [.Name x pos'] e pos) (sSet i me) := by
  obtain ⟨t, p, h⟩ := he
  refine ⟨_, ps_set hN hi hx p hs hf, fun φ σ H ρ S E r f p => ?_⟩
  exact h φ σ H ρ S _ r f (PostS.expr r f p fun d S1 φ1 H1 e1 r1 f1 p1 => fun v hv => p1 φ1 H1 _ (Ext.refl r1.nd) r1 (f1.set i hv))
/-- o[i] = e (a list) -/
def setIx (x i v : D) (S : Sto) : Option Sto := match x, i with
  | .ref n, .int k => match S[n]? with
    | some (.lst false l) => (ixN l.length k).map fun j => S.set n (.lst false (l.set j v))
    | _ => none
  | _, _ => none
def sSetIx (o i a : ME) : MS := fun ρ S => RS.of ρ (a ρ S) fun d S1 => RS.of ρ (o ρ S1) fun x S2 => RS.of ρ (i ρ S2) fun k S3 => match setIx x k d S3 with
  | some S4 => .nx ρ S4
  | none => .no
theorem ds_setIx {o i : Expr} {mo mi : ME} {tpos : Pos} (he : DE X c W e me) (ho : DE X c W o mo) (hi : DE X c W i mi)
    (ha : ∀ v, assign (.Subscript o i tpos) X.env v = (do
      let ov ← holding [v] (eval o X.env)
      let iv ← holding [v, ov] (eval i X.env)
      standAt tpos
      holding [v, ov, iv] (setItem ov iv v)
      release [v, ov, iv] []) := by intro _; rfl)
    (hs : swapsWithSole [.Subscript o i tpos] e pos.line X.env = pure false := by rfl) (hw : swappedStores [.Subscript o i tpos] e X.env = pure none := by rfl)
    (h1 : (assignEach [.Subscript o i tpos] X.env).map (·.2) = [assign (.Subscript o i tpos) X.env] := by rfl) : DS X c W (.Assign [.Subscript o i tpos] e pos) (sSetIx mo mi me) := by
  obtain ⟨t, p, h⟩ := he
  obtain ⟨to, po, ho⟩ := ho
  obtain ⟨ti, pi, hi⟩ := hi
  refine ⟨_, ps_asg p (pg_sub po pi set_list ha) hs hw h1, fun φ σ H ρ S E r f p => ?_⟩
  refine h φ σ H ρ S _ r f (PostS.expr r f p fun d S1 φ1 H1 e1 r1 f1 p1 => fun v hv => ?_)
  refine ho φ1 σ H1 ρ S1 _ r1 f1 (PostS.expr r1 f1 p1 fun x S2 φ2 H2 e2 r2 f2 p2 => fun xv hx => ?_)
  refine hi φ2 σ H2 ρ S2 _ r2 f2 (PostS.expr r2 f2 p2 fun k S3 φ3 H3 e3 r3 f3 p3 => fun kv hk => ?_)
  have hv3 := (hv.stay (e2.stays r1)).stay (e3.stays r2)
  have hx3 := hx.stay (e3.stays r2)
  unfold setIx at p3
  split at p3
  · rename_i S4 h4
    split at h4
    · split at h4
      · rename_i hl
        obtain ⟨j, hj, rfl⟩ := Option.map_eq_some_iff.mp h4
        obtain ⟨a, i1, rfl⟩ := hx3.ref_
        obtain ⟨us, g, _, s⟩ := r3.lst i1 hl
        refine ⟨a, us, _, j, rfl, hk.int_, s rfl, by rw [← g.length]; exact hj, ?_⟩
        have st := stays_write (u := .lst (us.set j v)) r3 i1
        obtain ⟨e4, r4⟩ := r3.write (u := .lst (us.set j v)) i1 (o := .lst false _) ⟨_, (g.set j hv3).stay st, by simp [upd_same]⟩ (fun ob w q => by rw [s rfl] at q; cases q)
        exact p3 _ _ _ e4 r4 (f3.stay st)
      · cases h4
    · cases h4
  · exact False.elim p3
end

def whN (t : MT) (b : MS) : Nat → MS
  | 0, _, _ => .no
  | n + 1, ρ, S => RS.of ρ (t ρ S) fun x S1 => if x = true then (match b ρ S1 with
    | .nx ρ' S' => whN t b n ρ' S'
    | .ct ρ' S' => whN t b n ρ' S'
    | .bk ρ' S' => .nx ρ' S'
    | .rt d S' => .rt d S'
    | .ex k ρ' S' => .ex k ρ' S'
    | .no => .no) else .nx ρ S1
def fuel : Nat := 2 ^ 64
def sWhile (t : MT) (b : MS) : MS := whN t b fuel
theorem ds_while {X : Cx} {c : Cl} {W : WX} {d : Expr} {body : List Stmt} {mt : MT} {m : MS} {pos : Pos} (hp : PassesOwn (model X.prog X.w) X.A X.env X.xe) (hc : DT X c W d mt) (hb : DSs X c W body m) : DS X c W (.While d body [] pos) (sWhile mt m) := by
  obtain ⟨tc, pc, hc⟩ := hc
  obtain ⟨tb, pb, hb⟩ := hb
  refine ⟨_, ps_while hp pc pb, fun φ0 σ0 H0 ρ0 S0 E r0 f0 p0 => ?_⟩
  refine ⟨fun n σ H => ∃ φ ρ S, Ext φ0 H0 φ H ∧ Rel X.K c φ S H ∧ FrRel X.K φ H σ ρ ∧ PostS X.K c W φ H E (whN mt m n ρ S), ⟨fuel, φ0, ρ0, S0, Ext.refl r0.nd, r0, f0, p0⟩, ?_⟩
  rintro n σ H ⟨φ, ρ, S, e, r, f, p⟩
  cases n with
  | zero => exact False.elim p
  | succ n =>
    refine hc φ σ H ρ S _ r f (PostS.expr r f p fun d S1 φ1 H1 e1 r1 f1 p1 => ?_)
    dsimp only [gT]
    split
    · rename_i hd
      rw [if_pos hd] at p1
      refine ⟨fun σ' H' => ∃ φ ρ S, Ext φ0 H0 φ H' ∧ Rel X.K c φ S H' ∧ FrRel X.K φ H' σ' ρ ∧ PostS X.K c W φ H' E (whN mt m n ρ S), fun σ' H' h' => ⟨n, Nat.lt_succ_self n, h'⟩, ?_⟩
      refine hb φ1 σ H1 ρ S1 _ r1 f1 ?_
      cases hm : m ρ S1 with
      | nx ρ2 S2 =>
        rw [hm] at p1
        exact fun φ2 H2 σ2 e2 r2 f2 => ⟨φ2, ρ2, S2, (e.trans e1).trans e2, r2, f2, PostS.from e2 p1⟩
      | ct ρ2 S2 =>
        rw [hm] at p1
        exact fun φ2 H2 σ2 e2 r2 f2 => ⟨φ2, ρ2, S2, (e.trans e1).trans e2, r2, f2, PostS.from e2 p1⟩
      | bk ρ2 S2 => rw [hm] at p1; exact p1
      | rt d S2 => rw [hm] at p1; exact p1
      | ex k ρ2 S2 => rw [hm] at p1; exact p1
      | no => rw [hm] at p1; exact p1
    · rename_i hd
      rw [if_neg hd] at p1
      exact p1 φ1 H1 σ (Ext.refl r1.nd) r1 f1
end MM

namespace MM
open PySem PySem.Spec PyProof.Rows L2

structure IterOk (K : PySem.W.Frag) (c : Cl) (J : It) (items : List D) (g : Sto → Prop) (φ0 : List Addr) (H0 : Hp) : Prop where
  go : ∀ φ S H (i : Nat) d, Ext φ0 H0 φ H → Rel K c φ S H → g S → items[i]? = some d → J.go i H ∧ ∀ x H', J.yld i H x H' → Ext φ H φ H' ∧ Rel K c φ S H' ∧ Rep K φ H' d x
  stop : ∀ φ S H, Ext φ0 H0 φ H → Rel K c φ S H → g S → J.stop items.length H
abbrev MI := Fr → Sto → R (List D × (Sto → Prop))
abbrev gI (K : PySem.W.Frag) (c : Cl) (Q : It → Hp → Prop) : List D × (Sto → Prop) → Sto → List Addr → Hp → Prop := fun x _ φ H => ∀ J, IterOk K c J x.1 x.2 φ H → Q J H
def DI (X : Cx) (c : Cl) (W : WX) (tg iter : Expr) (m : MI) : Prop :=
  ∃ t, PI X tg iter t ∧ ∀ φ σ H ρ S Q, Rel X.K c φ S H → FrRel X.K φ H σ ρ → PostW X.K c W σ φ H (gI X.K c Q) (m ρ S) → t σ H Q
open Classical in
noncomputable def forD (g : Sto → Prop) (tg : MG) (b : MS) : List D → MS
  | [], ρ, S => if g S then .nx ρ S else .no
  | d :: ds, ρ, S => if g S then (match tg d ρ with
    | some ρ1 => match b ρ1 S with
      | .nx ρ' S' => forD g tg b ds ρ' S'
      | .ct ρ' S' => forD g tg b ds ρ' S'
      | .bk ρ' S' => .nx ρ' S'
      | .rt d S' => .rt d S'
      | .ex k ρ' S' => .ex k ρ' S'
      | .no => .no
    | none => .no) else .no
noncomputable def sFor (i : MI) (tg : MG) (b : MS) : MS := fun ρ S => RS.of ρ (i ρ S) fun x S1 => forD x.2 tg b x.1 ρ S1
theorem ds_for {X : Cx} {c : Cl} {W : WX} {tg iter : Expr} {body : List Stmt} {mi : MI} {mg : MG} {m : MS} {pos : Pos} (hp : PassesOwn (model X.prog X.w) X.A X.env X.xe) (hc : X.calm = true) (hi : DI X c W tg iter mi) (hg : DG X tg mg) (hb : DSs X c W body m)
    (hs : ∀ x, foldedSetIterable iter X.env x = pure x := by intro _; rfl) : DS X c W (.For tg iter body [] pos) (sFor mi mg m) := by
  obtain ⟨ti, pi, hi⟩ := hi
  obtain ⟨tg', pg, hg⟩ := hg
  obtain ⟨tb, pb, hb⟩ := hb
  refine ⟨_, ps_for hp hc pi pg pb hs, fun φ0 σ0 H0 ρ0 S0 E r0 f0 p0 => ?_⟩
  refine hi φ0 σ0 H0 ρ0 S0 _ r0 f0 (PostS.expr r0 f0 p0 fun x S1 φ1 H1 e1 r1 f1 p1 => fun J IO => ?_)
  obtain ⟨items, g⟩ := x
  dsimp only at p1 IO
  refine ⟨fun i m' σ H => m' = items.length - i ∧ i ≤ items.length ∧ ∃ φ ρ S, Ext φ1 H1 φ H ∧ Rel X.K c φ S H ∧ FrRel X.K φ H σ ρ ∧ PostS X.K c W φ H E (forD g mg m (items.drop i) ρ S),
    ⟨items.length, by simp, Nat.zero_le _, φ1, ρ0, S1, Ext.refl r1.nd, r1, f1, by simpa using p1⟩, ?_⟩
  rintro i m' σ H ⟨rfl, hle, φ, ρ, S, e, r, f, p⟩
  by_cases hlt : i < items.length
  · right
    rw [List.drop_eq_getElem_cons hlt] at p
    unfold forD at p
    split at p
    · rename_i hgS
      obtain ⟨hgo, hy⟩ := IO.go φ S H i _ e r hgS (List.getElem?_eq_getElem hlt)
      refine ⟨hgo, fun σ' H' => ∃ φ' ρ' S', Ext φ1 H1 φ' H' ∧ Rel X.K c φ' S' H' ∧ FrRel X.K φ' H' σ' ρ' ∧ PostS X.K c W φ' H' E (forD g mg m (items.drop (i + 1)) ρ' S'), fun σ' H' h' => ⟨items.length - (i + 1), by omega, rfl, hlt, h'⟩, fun x H' hx => ?_⟩
      obtain ⟨e2, r2, rx⟩ := hy x H' hx
      have f2 := f.stay (e2.stays r)
      refine hg φ σ H' ρ x _ _ f2 rx ?_
      cases hm : mg items[i] ρ with
      | none => rw [hm] at p; exact p
      | some ρ1 =>
        rw [hm] at p
        intro σ1 f3
        refine hb φ σ1 H' ρ1 S _ r2 f3 ?_
        dsimp only at p
        cases hm2 : m ρ1 S with
        | nx ρ2 S2 =>
          rw [hm2] at p
          exact fun φ2 H2 σ2 e3 r3 f3 => ⟨φ2, ρ2, S2, (e.trans e2).trans e3, r3, f3, PostS.from (e2.trans e3) p⟩
        | ct ρ2 S2 =>
          rw [hm2] at p
          exact fun φ2 H2 σ2 e3 r3 f3 => ⟨φ2, ρ2, S2, (e.trans e2).trans e3, r3, f3, PostS.from (e2.trans e3) p⟩
        | bk ρ2 S2 => rw [hm2] at p; exact PostS.from (r := .bk ρ2 S2) e2 (by exact p)
        | rt d S2 => rw [hm2] at p; exact PostS.from (r := .rt d S2) e2 p
        | ex k ρ2 S2 => rw [hm2] at p; exact PostS.from (r := .ex k ρ2 S2) e2 p
        | no => rw [hm2] at p; exact p
    · exact False.elim p
  · left
    have e' : i = items.length := by omega
    subst e'
    rw [List.drop_length] at p
    unfold forD at p
    split at p
    · rename_i hgS
      exact ⟨IO.stop φ S H e r hgS, p φ H σ (Ext.refl r.nd) r f⟩
    · exact False.elim p

abbrev noG : Sto → Prop := fun _ => True
def inStore (n : Nat) (l : List D) : Sto → Prop := fun S => ∃ fz, S[n]? = some (.lst fz l)
section
variable {K : PySem.W.Frag} {c : Cl} {φ0 : List Addr} {H0 : Hp} {S0 : Sto}
theorem iter_tup {a : Addr} {vs : List V} {l : List D} (r0 : Rel K c φ0 S0 H0) (s : SqT K H0 a vs) (g : RepL K φ0 H0 l vs) : IterOk K c (Itt K a) l noG φ0 H0 := by
  refine ⟨fun φ S H i d e r _ hd => ?_, fun φ S H e r _ => ?_⟩
  · obtain ⟨v, hv, rv⟩ := g.get hd
    have st := e.stays r0
    have s' := st.tup _ _ s
    refine ⟨⟨vs, v, s', hv⟩, fun x H' hy => ?_⟩
    obtain ⟨rfl, hy⟩ := hy
    have := hy vs s'
    rw [hv] at this
    cases this
    exact ⟨Ext.refl r.nd, r, rv.stay st⟩
  · exact ⟨vs, (e.stays r0).tup _ _ s, by rw [g.length]; exact Nat.le_refl _⟩
/-- a list to be walked: its things, and what must stay meanwhile -/
def srcOf (S : Sto) : D → Option (List D × (Sto → Prop))
  | .pl l => some (l, noG)
  | .ref n => match S[n]? with
    | some (.lst _ l) => some (l, inStore n l)
    | _ => none
  | _ => none
theorem src_at {d : D} {v : V} {l : List D} {g : Sto → Prop} (r0 : Rel K c φ0 S0 H0) (h : Rep K φ0 H0 d v) (e : srcOf S0 d = some (l, g)) : ∃ a, v = .ref a ∧ (∃ vs, SqL K H0 a vs) ∧ ∀ φ S H, Ext φ0 H0 φ H → Rel K c φ S H → g S → ∃ vs, SqL K H a vs ∧ RepL K φ H l vs := by
  cases d with
  | pl l' =>
    cases e
    obtain ⟨a, vs, rfl, h1, h2⟩ := h.pl_
    exact ⟨a, rfl, ⟨vs, h1.sq⟩, fun φ S H e r _ => ⟨vs, ((e.stays r0).pul _ _ h1).sq, h2.stay (e.stays r0)⟩⟩
  | ref n =>
    simp only [srcOf] at e
    split at e
    · rename_i fz l' hl
      cases e
      obtain ⟨a, i1, rfl⟩ := h.ref_
      obtain ⟨us, _, s0, _⟩ := r0.lst i1 hl
      refine ⟨a, rfl, ⟨us, s0⟩, fun φ S H e r hS => ?_⟩
      obtain ⟨fz', hS⟩ := hS
      obtain ⟨vs, g, s, _⟩ := r.lst (e.ix i1) hS
      exact ⟨vs, s, g⟩
    · cases e
  | _ => cases e
theorem iter_src {a : Addr} {l : List D} {g : Sto → Prop} (h : ∀ φ S H, Ext φ0 H0 φ H → Rel K c φ S H → g S → ∃ vs, SqL K H a vs ∧ RepL K φ H l vs) : IterOk K c (Itl K a) l g φ0 H0 := by
  refine ⟨fun φ S H i d e r hS hd => ?_, fun φ S H e r hS => ?_⟩
  · obtain ⟨vs, s, gg⟩ := h φ S H e r hS
    obtain ⟨v, hv, rv⟩ := gg.get hd
    refine ⟨⟨vs, v, s, hv⟩, fun x H' hy => ?_⟩
    obtain ⟨rfl, hy⟩ := hy
    have := hy vs s
    rw [hv] at this
    cases this
    exact ⟨Ext.refl r.nd, r, rv⟩
  · obtain ⟨vs, s, gg⟩ := h φ S H e r hS
    exact ⟨vs, s, by rw [gg.length]; exact Nat.le_refl _⟩
def rangeD (lo : Int) (n : Nat) : List D := (List.range n).map fun (i : Nat) => D.int (lo + i)
theorem iter_range {lo : Int} {n : Nat} : IterOk K c (Itr lo n) (rangeD lo n) noG φ0 H0 := by
  refine ⟨fun φ S H i d e r _ hd => ?_, fun φ S H e r _ => ?_⟩
  · unfold rangeD at hd
    rw [List.getElem?_map] at hd
    obtain ⟨j, hj, rfl⟩ := Option.map_eq_some_iff.mp hd
    have hlt : i < n := by
      have := (List.getElem?_eq_some_iff.mp hj).1
      simpa using this
    have : j = i := by simpa [List.getElem?_range hlt] using hj.symm
    subst this
    refine ⟨hlt, fun x H' hy => ?_⟩
    obtain ⟨rfl, rfl⟩ := hy
    exact ⟨Ext.refl r.nd, r, rep_int⟩
  · show n ≤ (rangeD lo n).length
    simp [rangeD]
def signsD (x : Str) : List D := x.cps.toList.map fun k => D.str ⟨#[k]⟩
theorem iter_str {x : Str} : IterOk K c (Its x) (signsD x) noG φ0 H0 := by
  refine ⟨fun φ S H i d e r _ hd => ?_, fun φ S H e r _ => ?_⟩
  · unfold signsD at hd
    rw [List.getElem?_map] at hd
    obtain ⟨k, hk, rfl⟩ := Option.map_eq_some_iff.mp hd
    have hk' : x.cps[i]? = some k := by simpa using hk
    refine ⟨(Array.getElem?_eq_some_iff.mp hk').1, fun v H' hy => ?_⟩
    obtain ⟨rfl, k2, h2, rfl⟩ := hy
    rw [hk'] at h2
    cases h2
    exact ⟨Ext.refl r.nd, r, rep_str⟩
  · show x.cps.size ≤ (signsD x).length
    simp [signsD]
end
section
variable {X : Cx} {c : Cl} {W : WX} {tg e e2 : Expr} {me : ME} {ml : ML} {p pos : Pos}
/-- over a tuple, a text, a list of the store: by its kind -/
def iT (a : ME) : MI := fun ρ S => (a ρ S).bind fun d S1 => match d with
  | .tup l => .ok (l, noG) S1
  | _ => .no
def iS (a : ME) : MI := fun ρ S => (a ρ S).bind fun d S1 => match d with
  | .str x => .ok (signsD x, noG) S1
  | _ => .no
def iL (a : ME) : MI := fun ρ S => (a ρ S).bind fun d S1 => match srcOf S1 d with
  | some x => .ok x S1
  | none => .no
theorem di_tup (h : DE X c W e me) : DI X c W tg e (iT me) := by
  obtain ⟨t, pe, h⟩ := h
  refine ⟨_, pi_tup pe, fun φ σ H ρ S Q r f p => ?_⟩
  refine h φ σ H ρ S _ r f (PostW.elim p fun d S1 φ1 H1 e1 r1 p1 => fun x hx => ?_)
  split at p1
  · obtain ⟨a, vs, rfl, s, g⟩ := hx.tup_
    exact ⟨a, rfl, ⟨vs, s⟩, PostW.here r1 p1 _ (iter_tup r1 s g)⟩
  · exact False.elim p1
theorem di_str (h : DE X c W e me) : DI X c W tg e (iS me) := by
  obtain ⟨t, pe, h⟩ := h
  refine ⟨_, pi_str pe, fun φ σ H ρ S Q r f p => ?_⟩
  refine h φ σ H ρ S _ r f (PostW.elim p fun d S1 φ1 H1 e1 r1 p1 => fun x hx => ?_)
  split at p1
  · exact ⟨_, hx.str_, PostW.here r1 p1 _ iter_str⟩
  · exact False.elim p1
theorem di_lst (h : DE X c W e me) : DI X c W tg e (iL me) := by
  obtain ⟨t, pe, h⟩ := h
  refine ⟨_, pi_list pe, fun φ σ H ρ S Q r f p => ?_⟩
  refine h φ σ H ρ S _ r f (PostW.elim p fun d S1 φ1 H1 e1 r1 p1 => fun x hx => ?_)
  split at p1
  · rename_i y hl
    obtain ⟨a, rfl, hv, hh⟩ := src_at (l := y.1) (g := y.2) r1 hx hl
    exact ⟨a, rfl, hv, PostW.here r1 p1 _ (iter_src hh)⟩
  · exact False.elim p1
/-- range -/
def iR1 (a : ML) : MI := fun ρ S => (a ρ S).bind fun ds S1 => match ds with
  | [.int j] => if -(2 ^ 62) ≤ j ∧ j < 2 ^ 62 then .ok (rangeD 0 j.toNat, noG) S1 else .no
  | _ => .no
theorem di_range1 (hg : Gl X "range") (hm : X.mg "range" = none) (h : DA X c W [e] ml) (hs : starEach [e] X.env = [(false, eval e X.env)] := by rfl) : DI X c W tg (.Call (.Name "range" p) [e] [] pos) (iR1 ml) := by
  obtain ⟨t, pe, h⟩ := h
  refine ⟨_, pi_range1 hg hm pe hs, fun φ σ H ρ S Q r f p => ?_⟩
  refine h φ σ H ρ S _ r f (PostW.elim p fun d S1 φ1 H1 e1 r1 p1 => fun vs hv => ?_)
  split at p1
  · split at p1
    · rename_i hj
      obtain ⟨v, rfl, h1⟩ := one_of hv
      rw [h1.int_]
      exact ⟨_, rfl, hj.1, hj.2, PostW.here r1 p1 _ iter_range⟩
    · exact False.elim p1
  · exact False.elim p1
end

def zipD (l m : List D) : List D := (List.range (min l.length m.length)).map fun (i : Nat) => D.tup [l.getD i .non, m.getD i .non]
theorem zipD_get {l m : List D} {i : Nat} {d : D} (h : (zipD l m)[i]? = some d) : ∃ x y, l[i]? = some x ∧ m[i]? = some y ∧ d = .tup [x, y] := by
  unfold zipD at h
  rw [List.getElem?_map] at h
  obtain ⟨j, hj, rfl⟩ := Option.map_eq_some_iff.mp h
  have hlt : i < min l.length m.length := by
    have := (List.getElem?_eq_some_iff.mp hj).1
    simpa using this
  have : j = i := by simpa [List.getElem?_range hlt] using hj.symm
  subst this
  have h1 : j < l.length := by omega
  have h2 : j < m.length := by omega
  exact ⟨l[j], m[j], List.getElem?_eq_getElem h1, List.getElem?_eq_getElem h2, by rw [List.getD_eq_getElem?_getD, List.getElem?_eq_getElem h1, List.getD_eq_getElem?_getD, List.getElem?_eq_getElem h2]; rfl⟩
theorem zipD_len (l m : List D) : (zipD l m).length = min l.length m.length := by simp [zipD]
section
variable {K : PySem.W.Frag} {c : Cl} {φ0 : List Addr} {H0 : Hp} {S0 : Sto}
theorem pair_new {φ : List Addr} {S : Sto} {H : Hp} {T : Addr} {dx dy : D} {x y : V} (r : Rel K c φ S H) (hT : H T = none) (hx : Rep K φ H dx x) (hy : Rep K φ H dy y) :
    Ext φ H φ (upd H T (.tup [x, y])) ∧ Rel K c φ S (upd H T (.tup [x, y])) ∧ Rep K φ (upd H T (.tup [x, y])) (.tup [dx, dy]) (.ref T) := by
  obtain ⟨e, r'⟩ := r.fresh (u := .tup [x, y]) hT
  exact ⟨e, r', rep_tup (SqT.of upd_same) ((RepL.cons hx (RepL.cons hy RepL.nil)).stay (stays_free hT))⟩
theorem iter_zipS {a b : Addr} {l m : List D} {g1 g2 : Sto → Prop} (h : ∀ φ S H, Ext φ0 H0 φ H → Rel K c φ S H → g1 S → ∃ vs, SqL K H a vs ∧ RepL K φ H l vs) (h' : ∀ φ S H, Ext φ0 H0 φ H → Rel K c φ S H → g2 S → ∃ vs, SqL K H b vs ∧ RepL K φ H m vs) : IterOk K c (Itz K a b) (zipD l m) (fun S => g1 S ∧ g2 S) φ0 H0 := by
  refine ⟨fun φ S H i d e r hS hd => ?_, fun φ S H e r hS => ?_⟩
  · obtain ⟨x, y, hx, hy, rfl⟩ := zipD_get hd
    obtain ⟨vs, s, gg⟩ := h φ S H e r hS.1
    obtain ⟨us, s2, gg2⟩ := h' φ S H e r hS.2
    obtain ⟨v, hv, rv⟩ := gg.get hx
    obtain ⟨u, hu, ru⟩ := gg2.get hy
    refine ⟨⟨vs, us, v, u, s, s2, hv, hu⟩, fun w H' hw => ?_⟩
    obtain ⟨T, z, z2, rfl, hT, rfl, hz, hz2⟩ := hw
    have h1 := hz vs s
    rw [hv] at h1
    cases h1
    have h2 := hz2 us s2
    rw [hu] at h2
    cases h2
    exact pair_new r hT rv ru
  · obtain ⟨vs, s, gg⟩ := h φ S H e r hS.1
    obtain ⟨us, s2, gg2⟩ := h' φ S H e r hS.2
    refine ⟨vs, us, s, s2, ?_⟩
    rw [zipD_len, ← gg.length, ← gg2.length]
    omega
theorem iter_zipT {a b : Addr} {vs us : List V} {l m : List D} (r0 : Rel K c φ0 S0 H0) (s : SqT K H0 a vs) (g : RepL K φ0 H0 l vs) (s2 : SqT K H0 b us) (g2 : RepL K φ0 H0 m us) : IterOk K c (RZ.ItzT K a b) (zipD l m) noG φ0 H0 := by
  refine ⟨fun φ S H i d e r _ hd => ?_, fun φ S H e r _ => ?_⟩
  · obtain ⟨x, y, hx, hy, rfl⟩ := zipD_get hd
    obtain ⟨v, hv, rv⟩ := g.get hx
    obtain ⟨u, hu, ru⟩ := g2.get hy
    have st := e.stays r0
    have s' := st.tup _ _ s
    have s2' := st.tup _ _ s2
    refine ⟨⟨vs, us, v, u, s', s2', hv, hu⟩, fun w H' hw => ?_⟩
    obtain ⟨T, z, z2, rfl, hT, rfl, hz, hz2⟩ := hw
    have h1 := hz vs s'
    rw [hv] at h1
    cases h1
    have h2 := hz2 us s2'
    rw [hu] at h2
    cases h2
    exact pair_new r hT (rv.stay st) (ru.stay st)
  · refine ⟨vs, us, (e.stays r0).tup _ _ s, (e.stays r0).tup _ _ s2, ?_⟩
    rw [zipD_len, ← g.length, ← g2.length]
    omega
end
section
variable {X : Cx} {c : Cl} {W : WX} {e e2 : Expr} {me me2 : ME} {ml : ML} {p pos tpos : Pos} {elts : List Expr} {kk : Nat}
def iZL (a b : ME) : MI := fun ρ S => (a ρ S).bind fun d S1 => (b ρ S1).bind fun d2 S2 => match srcOf S2 d, srcOf S2 d2 with
  | some x, some y => .ok (zipD x.1 y.1, fun S => x.2 S ∧ y.2 S) S2
  | _, _ => .no
def iZT (a b : ME) : MI := fun ρ S => (a ρ S).bind fun d S1 => (b ρ S1).bind fun d2 S2 => match d, d2 with
  | .tup l, .tup m => .ok (zipD l m, noG) S2
  | _, _ => .no
theorem di_zipL (hg : Gl X "zip") (hm : X.mg "zip" = none) (h : DE X c W e me) (h2 : DE X c W e2 me2)
    (hs : starEach [e, e2] X.env = (false, eval e X.env) :: starEach [e2] X.env := by rfl) (hs2 : starEach [e2] X.env = (false, eval e2 X.env) :: starEach [] X.env := by rfl) (hpl : (backTo pos (starEach [e2] X.env)).any (·.1) = false := by rfl) :
    DI X c W (.Tuple elts kk tpos) (.Call (.Name "zip" p) [e, e2] [] pos) (iZL me me2) := by
  obtain ⟨t, pe, h⟩ := h
  obtain ⟨t2, pe2, h2⟩ := h2
  refine ⟨_, RZ.pi_zipA hg hm (pa_cons pe (pa_cons pe2 pa_nil hs2) hs) hs hpl, fun φ σ H ρ S Q r f p => ?_⟩
  refine h φ σ H ρ S _ r f (PostW.elim p fun d S1 φ1 H1 e1 r1 p1 => fun x hx => ?_)
  refine h2 φ1 σ H1 ρ S1 _ r1 (f.stay (e1.stays r)) (PostW.elim p1 fun d2 S2 φ2 H2 e2 r2 p2 => fun y hy => ?_)
  split at p2
  · rename_i w1 w2 h1 h2
    obtain ⟨a, rfl, ⟨vs, s⟩, hh⟩ := src_at (l := w1.1) (g := w1.2) r2 (hx.stay (e2.stays r1)) h1
    obtain ⟨b, rfl, ⟨us, s2⟩, hh2⟩ := src_at (l := w2.1) (g := w2.2) r2 hy h2
    exact ⟨a, b, vs, us, rfl, .inl ⟨s, s2, PostW.here r2 p2 _ (iter_zipS hh hh2)⟩⟩
  · exact False.elim p2
theorem di_zipT (hg : Gl X "zip") (hm : X.mg "zip" = none) (h : DE X c W e me) (h2 : DE X c W e2 me2)
    (hs : starEach [e, e2] X.env = (false, eval e X.env) :: starEach [e2] X.env := by rfl) (hs2 : starEach [e2] X.env = (false, eval e2 X.env) :: starEach [] X.env := by rfl) (hpl : (backTo pos (starEach [e2] X.env)).any (·.1) = false := by rfl) :
    DI X c W (.Tuple elts kk tpos) (.Call (.Name "zip" p) [e, e2] [] pos) (iZT me me2) := by
  obtain ⟨t, pe, h⟩ := h
  obtain ⟨t2, pe2, h2⟩ := h2
  refine ⟨_, RZ.pi_zipA hg hm (pa_cons pe (pa_cons pe2 pa_nil hs2) hs) hs hpl, fun φ σ H ρ S Q r f p => ?_⟩
  refine h φ σ H ρ S _ r f (PostW.elim p fun d S1 φ1 H1 e1 r1 p1 => fun x hx => ?_)
  refine h2 φ1 σ H1 ρ S1 _ r1 (f.stay (e1.stays r)) (PostW.elim p1 fun d2 S2 φ2 H2 e2 r2 p2 => fun y hy => ?_)
  split at p2
  · obtain ⟨a, vs, rfl, s, g⟩ := (hx.stay (e2.stays r1)).tup_
    obtain ⟨b, us, rfl, s2, g2⟩ := hy.tup_
    exact ⟨a, b, vs, us, rfl, .inr ⟨s, s2, PostW.here r2 p2 _ (iter_zipT r2 s g s2 g2)⟩⟩
  · exact False.elim p2
end
end MM

namespace MM
open PySem PySem.Spec PyProof.Rows L2

abbrev WF : WX := fun _ _ _ _ => False
def tM (K : PySem.W.Frag) (c : Cl) (W : WX) (m : ME) : TE := fun σ H Q => ∃ φ ρ S, Rel K c φ S H ∧ FrRel K φ H σ ρ ∧ PostW K c W σ φ H (gE K Q) (m ρ S)
def tMT (K : PySem.W.Frag) (c : Cl) (W : WX) (m : MT) : TT := fun σ H Q => ∃ φ ρ S, Rel K c φ S H ∧ FrRel K φ H σ ρ ∧ PostW K c W σ φ H (gT Q) (m ρ S)
theorem DE.pe {X : Cx} {c : Cl} {W : WX} {e : Expr} {m : ME} (h : DE X c W e m) : PE X e (tM X.K c W m) := by
  obtain ⟨t, p, h⟩ := h
  exact ⟨fun pins s σ H Q I ⟨φ, ρ, S, r, f, q⟩ => p.run pins s σ H Q I (h φ σ H ρ S Q r f q)⟩
theorem DT.pt {X : Cx} {c : Cl} {W : WX} {e : Expr} {m : MT} (h : DT X c W e m) : PT X e (tMT X.K c W m) := by
  obtain ⟨t, p, h⟩ := h
  exact ⟨fun pins s σ H Q I ⟨φ, ρ, S, r, f, q⟩ => p.run pins s σ H Q I (h φ σ H ρ S Q r f q)⟩
/-- targets of a comprehension: they touch its own slots alone -/
def gMo (K : PySem.W.Frag) (m : MG) (vs : List Nat) : TG := fun v σ H Q => ∃ φ ρ d, FrRel K φ H σ ρ ∧ Rep K φ H d v ∧ (match m d ρ with
  | some ρ' => ∀ σ', FrRel K φ H σ' ρ' → wipe σ' vs = wipe σ vs → Q σ' H
  | none => False)
def DGo (X : Cx) (tg : Expr) (m : MG) (vs : List Nat) : Prop := PG X tg (gMo X.K m vs)
theorem wipe_get {σ : L2.St} {j : Nat} : ∀ {vs : List Nat}, (wipe σ vs)[j]? = if j ∈ vs then σ[j]?.map (fun _ => none) else σ[j]?
  | [] => by simp [wipe]
  | v :: vs => by
    unfold wipe
    by_cases e : v = j
    · subst e
      simp only [List.mem_cons, true_or, if_true]
      by_cases hl : v < σ.length
      · rw [List.getElem?_set_self (by rw [wipe_length]; exact hl), List.getElem?_eq_getElem hl]
        rfl
      · rw [List.getElem?_eq_none (by rw [List.length_set, wipe_length]; omega), List.getElem?_eq_none (by omega)]
        rfl
    · rw [List.getElem?_set_ne e, wipe_get]
      have : (j ∈ v :: vs) ↔ j ∈ vs := by simp [Ne.symm e]
      by_cases h : j ∈ vs
      · rw [if_pos h, if_pos (this.mpr h)]
      · rw [if_neg h, if_neg (fun q => h (this.mp q))]
theorem wipe_set {σ : L2.St} {vs : List Nat} {i : Nat} {x : Option V} (h : i ∈ vs) : wipe (σ.set i x) vs = wipe σ vs := by
  apply List.ext_getElem?
  intro j
  rw [wipe_get, wipe_get]
  by_cases e : i = j
  · subst e
    rw [if_pos h, if_pos h]
    by_cases hl : i < σ.length
    · rw [List.getElem?_set_self hl, List.getElem?_eq_getElem hl]
      rfl
    · rw [List.getElem?_eq_none (by rw [List.length_set]; omega), List.getElem?_eq_none (by omega)]
  · rw [List.getElem?_set_ne e]
theorem dgo_name {X : Cx} {i : Nat} {x : Str} {pos : Pos} {vs : List Nat} (h : PG X (.Name x pos) (gName i)) (hi : i ∈ vs) : DGo X (.Name x pos) (tN i) vs :=
  ⟨fun pins s σ H v u Q I r ⟨φ, ρ, d, f, rd, q⟩ => h.run pins s σ H v u Q I r (q _ (f.set i rd) (wipe_set hi))⟩
def R.cut {α : Type} : R α → R α
  | .ok a S => .ok a S
  | _ => .no
def wipeF (ρ : Fr) (vs : List Nat) : Fr := vs.foldr (fun v r => r.set v none) ρ
theorem wipeF_length (ρ : Fr) : ∀ vs : List Nat, (wipeF ρ vs).length = ρ.length
  | [] => rfl
  | v :: vs => by
    show ((wipeF ρ vs).set v none).length = _
    rw [List.length_set, wipeF_length ρ vs]
theorem FrRel.wipe {K : PySem.W.Frag} {φ : List Addr} {H : Hp} {σ : L2.St} {ρ : Fr} (f : FrRel K φ H σ ρ) : ∀ vs : List Nat, FrRel K φ H (wipe σ vs) (wipeF ρ vs)
  | [] => f
  | v :: vs => by
    have ih := FrRel.wipe f vs
    refine ⟨by rw [wipeF_length, wipe_length, f.1], fun j d hj => ?_⟩
    have hj' : ((wipeF ρ vs).set v none)[j]? = some (some d) := hj
    by_cases e : v = j
    · subst e
      have hl : v < (wipeF ρ vs).length := by
        have := (List.getElem?_eq_some_iff.mp hj').1
        simpa using this
      rw [List.getElem?_set_self hl] at hj'
      cases hj'
    · rw [List.getElem?_set_ne e] at hj'
      obtain ⟨v', h1, h2⟩ := ih.2 j d hj'
      refine ⟨v', ?_, h2⟩
      unfold L2.wipe
      rw [List.getElem?_set_ne e]
      exact h1
open Classical in
noncomputable def lcD (g : Sto → Prop) (tg : MG) (t : MT) (m : ME) (ρ : Fr) : List D → Sto → R (List D)
  | [], S => if g S then .ok [] S else .no
  | d :: ds, S => if g S then (match tg d ρ with
    | some ρ1 => (t ρ1 S).cut.bind fun b S1 => if b = true then (m ρ1 S1).cut.bind fun y S2 => (lcD g tg t m ρ ds S2).bind fun ys S3 => .ok (y :: ys) S3 else lcD g tg t m ρ ds S1
    | none => .no) else .no
noncomputable def lComp (i : MI) (vs : List Nat) (tg : MG) (t : MT) (m : ME) : ML := fun ρ S => (i ρ S).bind fun x S1 => if x.1.length ≤ sizeLine then lcD x.2 tg t m (wipeF ρ vs) x.1 S1 else .no
def tYs : MT := fun _ S => .ok true S
section
variable {K : PySem.W.Frag} {c : Cl} {φ φ1 : List Addr} {H H1 : Hp} {S : Sto}
/-- an object that the store does not know is changed (a list) -/
theorem Rel.other (r : Rel K c φ S H) {a : Addr} {xs ys : List V} (h : H a = some (.lst xs)) (n : a ∉ φ) : Rel K c φ S (upd H a (.lst ys)) ∧ Stays K φ H φ (upd H a (.lst ys)) := by
  have st : Stays K φ H φ (upd H a (.lst ys)) := ⟨fun _ _ q => q, fun b zs q => by
    rcases q with (q | ⟨ob, q⟩) | q
    · exact .inl (.inl (by rw [upd_ne (fun e => by rw [e, h] at q; cases q)]; exact q))
    · exact .inl (.inr ⟨ob, by rw [upd_ne (fun e => by rw [e, h] at q; cases q)]; exact q⟩)
    · exact .inr q, fun b zs q => by
    obtain ⟨n, o, q⟩ := q
    exact ⟨n, o, by rw [upd_ne (fun e => by rw [e, h] at q; cases q)]; exact q⟩⟩
  refine ⟨⟨r.len, r.nd, fun m b o h1 h2 => (r.obj m b o h1 h2).stay st (upd_ne fun e => n (by rw [← e]; exact List.mem_of_getElem? h1))⟩, st⟩
theorem Ext.other (e : Ext φ1 H1 φ H) {a : Addr} {u : HO} (h : H1 a = none) : Ext φ1 H1 φ (upd H a u) :=
  ⟨e.more, e.nd, fun b o hb nb => by rw [upd_ne (ne_of_none hb h)]; exact e.keep b o hb nb, fun b ob u hb => by rw [upd_ne (ne_of_none hb h)]; exact e.frz b ob u hb⟩
end
theorem R.cut_ok {α : Type} {r : R α} {a : α} {S : Sto} (h : r.cut = .ok a S) : r = .ok a S := by
  cases r <;> first | exact h | cases h
theorem lc_reads {X : Cx} {c : Cl} {W : WX} {mi : MI} {vs : List Nat} {tg : MG} {mt : MT} {m : ME} {ti : TI}
    (hi : ∀ φ σ H ρ S Q, Rel X.K c φ S H → FrRel X.K φ H σ ρ → PostW X.K c W σ φ H (gI X.K c Q) (mi ρ S) → ti σ H Q) :
    ∀ φ σ H ρ S Q, Rel X.K c φ S H → FrRel X.K φ H σ ρ → PostW X.K c W σ φ H (gN X.K H Q) (lComp mi vs tg mt m ρ S) → tLc ti (gMo X.K tg vs) (tMT X.K c WF mt) (tM X.K c WF m) vs σ H Q := by
  intro φ0 σ H0 ρ S0 Q r0 f0 p0
  refine hi φ0 σ H0 ρ S0 _ r0 f0 (PostW.elim p0 fun x S1 φ1 H1 e1 r1 p1 => fun J IO => ?_)
  obtain ⟨items, g⟩ := x
  dsimp only at p1 IO
  split at p1
  · rename_i hz
    intro D hD
    have fw := (f0.stay (e1.stays r0)).wipe vs
    have hD0 : H0 D = none := e1.back r1 hD
    have hDn : D ∉ φ1 := r1.free hD
    -- what is wanted of what is left of the comprehension
    let Fin : List MM.D → R (List MM.D) → Prop := fun acc r => match r with
      | .ok ys S' => ∀ φ' H' us, Ext φ1 H1 φ' H' → Rel X.K c φ' S' H' → D ∉ φ' → H' D = some (.lst us) → RepL X.K φ' H' (acc ++ ys) us → Q (.ref D) H'
      | _ => False
    have fin0 : Fin [] (lcD g tg mt m (wipeF ρ vs) items S1) := by
      cases hr : lcD g tg mt m (wipeF ρ vs) items S1 with
      | ok ys S' =>
        rw [hr] at p1
        exact fun φ' H' us e' r' n' hD' g' => p1 φ' H' e' r' D us hD0 hD' n' g'
      | ex k S' =>
        exfalso
        have : ∀ (l : List MM.D) (S : Sto) k S', lcD g tg mt m (wipeF ρ vs) l S ≠ .ex k S' := by
          intro l
          induction l with
          | nil =>
            intro S k S' q
            unfold lcD at q
            split at q <;> cases q
          | cons d ds ih =>
            intro S k S' q
            unfold lcD at q
            split at q
            · split at q
              · rename_i ρ1 _
                cases ht : (mt ρ1 S).cut with
                | no => rw [ht] at q; cases q
                | ex a b => cases h : mt ρ1 S <;> rw [h] at ht <;> cases ht
                | ok b S1 =>
                  rw [ht] at q
                  dsimp only [R.bind] at q
                  split at q
                  · cases hm : (m ρ1 S1).cut with
                    | no => rw [hm] at q; cases q
                    | ex a b => cases h : m ρ1 S1 <;> rw [h] at hm <;> cases hm
                    | ok y S2 =>
                      rw [hm] at q
                      dsimp only [R.bind] at q
                      cases hl : lcD g tg mt m (wipeF ρ vs) ds S2 with
                      | no => rw [hl] at q; cases q
                      | ok a b => rw [hl] at q; cases q
                      | ex a b => exact ih _ _ _ hl
                  · exact ih _ _ _ q
              · cases q
            · cases q
        exact this _ _ _ _ hr
      | no => rw [hr] at p1; exact p1
    obtain ⟨eD, rD⟩ := r1.fresh (u := .lst []) hD
    refine ⟨fun i m' H => m' = items.length - i ∧ i ≤ items.length ∧ ∃ φ S acc us, Ext φ1 H1 φ H ∧ Rel X.K c φ S H ∧ D ∉ φ ∧ H D = some (.lst us) ∧ RepL X.K φ H acc us ∧ us.length ≤ i ∧ Stays X.K φ1 H1 φ H ∧ Fin acc (lcD g tg mt m (wipeF ρ vs) (items.drop i) S),
      ⟨items.length, by simp, Nat.zero_le _, φ1, S1, [], [], eD, rD, hDn, upd_same, RepL.nil, Nat.le_refl _, eD.stays r1, by simpa using fin0⟩, ?_⟩
    rintro i m' H ⟨rfl, hle, φ, S, acc, us, e, r, nD, hDl, ga, hlen, st, fin⟩
    by_cases hlt : i < items.length
    · right
      rw [List.drop_eq_getElem_cons hlt] at fin
      unfold lcD at fin
      split at fin
      · rename_i hgS
        obtain ⟨hgo, hy⟩ := IO.go φ S H i _ e r hgS (List.getElem?_eq_getElem hlt)
        refine ⟨hgo, fun H' => ∃ φ' S' acc' us', Ext φ1 H1 φ' H' ∧ Rel X.K c φ' S' H' ∧ D ∉ φ' ∧ H' D = some (.lst us') ∧ RepL X.K φ' H' acc' us' ∧ us'.length ≤ i + 1 ∧ Stays X.K φ1 H1 φ' H' ∧ Fin acc' (lcD g tg mt m (wipeF ρ vs) (items.drop (i + 1)) S'), fun H' h' => ⟨items.length - (i + 1), by omega, rfl, hlt, h'⟩, fun x H' hx => ?_⟩
        obtain ⟨e2, r2, rx⟩ := hy x H' hx
        have st2 := e2.stays r
        have fw2 := (fw.stay st).stay st2
        refine ⟨φ, wipeF ρ vs, items[i], fw2, rx, ?_⟩
        cases hm : tg items[i] (wipeF ρ vs) with
        | none => rw [hm] at fin; exact fin
        | some ρ1 =>
          rw [hm] at fin
          dsimp only at fin
          intro σ1 f3 hw
          refine ⟨hw.trans (by
            apply List.ext_getElem?
            intro j
            rw [wipe_get, wipe_get]
            by_cases hj : j ∈ vs
            · simp only [hj, if_true, Option.map_map]
              rfl
            · simp [hj]), φ, ρ1, S, r2, f3, ?_⟩
          cases ht : mt ρ1 S with
          | no => rw [ht] at fin; exact fin
          | ex k S2 => rw [ht] at fin; exact fin.elim
          | ok b S2 =>
            rw [ht] at fin
            dsimp only [R.cut, R.bind] at fin
            intro φ3 H3 e3 r3
            have eA := (e.trans e2).trans e3
            have st3 := e3.stays r2
            have nD2 : D ∉ φ := nD
            have hD2 : H' D = some (.lst us) := e2.keep _ _ hDl nD
            have hD3 : H3 D = some (.lst us) := e3.keep _ _ hD2 nD
            have nD3 : D ∉ φ3 := e3.notin hD2 nD
            have ga3 := (ga.stay st2).stay st3
            have stAll : Stays X.K φ1 H1 φ3 H3 := ⟨fun n a h => st3.ix _ _ (st2.ix _ _ (st.ix _ _ h)), fun a xs h => st3.tup _ _ (st2.tup _ _ (st.tup _ _ h)), fun a xs h => st3.pul _ _ (st2.pul _ _ (st.pul _ _ h))⟩
            dsimp only [gT]
            split
            · rename_i hb
              rw [if_pos hb] at fin
              refine ⟨φ3, ρ1, S2, r3, f3.stay st3, ?_⟩
              cases hm2 : m ρ1 S2 with
              | no => rw [hm2] at fin; exact fin
              | ex k S4 => rw [hm2] at fin; exact fin.elim
              | ok y S4 =>
                rw [hm2] at fin
                dsimp only [R.cut, R.bind] at fin
                intro φ4 H4 e4 r4 v hv
                have st4 := e4.stays r3
                have hD4 : H4 D = some (.lst us) := e4.keep _ _ hD3 nD3
                have nD4 : D ∉ φ4 := e4.notin hD3 nD3
                refine ⟨us, hD4, by omega, ?_⟩
                obtain ⟨r5, st5⟩ := r4.other (ys := us ++ [v]) hD4 nD4
                refine ⟨φ4, S4, acc ++ [y], us ++ [v], (eA.trans e4).other hD, r5, nD4, upd_same, ((ga3.stay st4).append (RepL.cons hv RepL.nil)).stay st5, by simp; omega,
                  ⟨fun n a h => st5.ix _ _ (st4.ix _ _ (stAll.ix _ _ h)), fun a xs h => st5.tup _ _ (st4.tup _ _ (stAll.tup _ _ h)), fun a xs h => st5.pul _ _ (st4.pul _ _ (stAll.pul _ _ h))⟩, ?_⟩
                cases hl : lcD g tg mt m (wipeF ρ vs) (items.drop (i + 1)) S4 with
                | no => rw [hl] at fin; exact fin
                | ex k S5 => rw [hl] at fin; exact fin
                | ok ys S5 =>
                  rw [hl] at fin
                  intro φ' H' us' e' r' n' hD' g'
                  exact fin φ' H' us' e' r' n' hD' (by simpa using g')
            · rename_i hb
              rw [if_neg hb] at fin
              exact ⟨φ3, S2, acc, us, eA, r3, nD3, hD3, ga3, by omega, stAll, fin⟩
      · exact fin.elim
    · left
      have e' : i = items.length := by omega
      subst e'
      rw [List.drop_length] at fin
      unfold lcD at fin
      split at fin
      · rename_i hgS
        exact ⟨IO.stop φ S H e r hgS, fin φ H us e r nD hDl (by simpa using ga)⟩
      · exact fin.elim
  · exact False.elim p1
section
variable {X : Cx} {c : Cl} {W : WX} {elt tg iter : Expr} {ifs : List Expr} {scope : Scope} {own : List (Str × Nat)} {pos : Pos} {mi : MI} {mg : MG} {mt : MT} {m : ME}
theorem dn_lc (hc : X.calm = true) (hN : X.N.Nodup) (hi : DI X c W tg iter mi) (ok : BlkOk X.N X.env.scope scope own)
    (hg : ∀ (s : Shared) (H : Hp) (C : Addr) (cl : List (Str × Addr)) (fp : List Addr), DGo (X.blk s H scope (compEnvC scope cl C X.env) fp) tg mg (own.map (·.2)))
    (he : ∀ (s : Shared) (H : Hp) (C : Addr) (cl : List (Str × Addr)) (fp : List Addr), DE (X.blk s H scope (compEnvC scope cl C X.env) fp) c WF elt m) (hs : ∀ x, foldedSetIterable iter X.env x = pure x := by intro _; rfl) :
    DN X c W (.ListComp elt [⟨tg, iter, [], 0⟩] scope pos) (lComp mi (own.map (·.2)) mg tYs m) := by
  obtain ⟨ti, pi, hi⟩ := hi
  refine ⟨_, pe_lc (g := gMo X.K mg (own.map fun (p : Str × Nat) => p.2)) (tt := tMT X.K c WF tYs) (te := tM X.K c WF m) hc hN pi ok (fun s H C cl fp => hg s H C cl fp) (fun s H C cl fp => ?_) (fun s H C cl fp => (he s H C cl fp).pe) hs, lc_reads hi⟩
  exact ⟨fun pins s' σ H' Q I ⟨φ, ρ, S, r, f, q⟩ => (pts_nil).run pins s' σ H' Q I (q φ H' (Ext.refl r.nd) r)⟩
/-- y = [..], never written -/
theorem ds_setLcP {i : Nat} {D' : Ends} {σ : L2.St} {φ : List Addr} {H : Hp} {ρ : Fr} {S : Sto} {t : TE} {ml : ML} (r : Rel X.K c φ S H) (f : FrRel X.K φ H σ ρ)
    (h : ∀ φ σ H ρ S Q, Rel X.K c φ S H → FrRel X.K φ H σ ρ → PostW X.K c W σ φ H (gN X.K H Q) (ml ρ S) → t σ H Q)
    (p : PostS X.K c W φ H D' (sSet i (ePl ml) ρ S)) : tAsg t (gName i) { D' with nx := fun σ' H' => FrzTo H' (D'.nx σ') } σ H := by
  refine h φ σ H ρ S _ r f ?_
  unfold sSet ePl at p
  cases hm : ml ρ S with
  | no => rw [hm] at p; exact p
  | ex k S1 => rw [hm] at p; exact fun φ1 H1 e1 r1 => p φ1 H1 σ e1 r1 (f.stay (e1.stays r))
  | ok ds S1 =>
    rw [hm] at p
    intro φ1 H1 e1 r1 q vs h0 hq hn g
    exact lock_new (H0 := H) r1 hq hn g fun ob r2 st rp => p φ1 _ _ (ext_lock e1 h0) r2 (((f.stay (e1.stays r)).stay st).set i rp)
theorem ds_setLcQ {i : Nat} {y : Str} {py spos : Pos} (hc : X.calm = true) (hN : X.N.Nodup) (hy : X.N[i]? = some y) (hyl : X.env.scope.names.lookup y = some .local)
    (hsw : swapsWith (.ListComp elt [⟨tg, iter, [], 0⟩] scope pos) (some (.Name y py)) spos.line X.env = pure true) (hi : DI X c W tg iter mi) (ok : BlkOk X.N X.env.scope scope own)
    (hg : ∀ (s : Shared) (H : Hp) (C : Addr) (cl : List (Str × Addr)) (fp : List Addr), DGo (X.blk s H scope (compEnvC scope cl C X.env) fp) tg mg (own.map (·.2)))
    (he : ∀ (s : Shared) (H : Hp) (C : Addr) (cl : List (Str × Addr)) (fp : List Addr), DE (X.blk s H scope (compEnvC scope cl C X.env) fp) c WF elt m) (hs : ∀ x, foldedSetIterable iter X.env x = pure x := by intro _; rfl) :
    DS X c W (.Assign [.Name y py] (.ListComp elt [⟨tg, iter, [], 0⟩] scope pos) spos) (sSet i (ePl (lComp mi (own.map (·.2)) mg tYs m))) := by
  obtain ⟨ti, pi, hi⟩ := hi
  refine ⟨_, ps_frz (ps_setLc (i := i) (g := gMo X.K mg (own.map fun (p : Str × Nat) => p.2)) (tt := tMT X.K c WF tYs) (te := tM X.K c WF m) hc hN hy hyl hsw pi ok (fun s H C cl fp => hg s H C cl fp) (fun s H C cl fp => ?_) (fun s H C cl fp => (he s H C cl fp).pe) hs),
    fun φ σ H ρ S E r f p => ds_setLcP r f (lc_reads hi) p⟩
  exact ⟨fun pins s' σ H' Q I ⟨φ, ρ, S, r, f, q⟩ => (pts_nil).run pins s' σ H' Q I (q φ H' (Ext.refl r.nd) r)⟩
theorem ds_setLcIfQ {d : Expr} {i : Nat} {y : Str} {py spos : Pos} (hc : X.calm = true) (hN : X.N.Nodup) (hy : X.N[i]? = some y) (hyl : X.env.scope.names.lookup y = some .local)
    (hsw : swapsWith (.ListComp elt [⟨tg, iter, [d], 0⟩] scope pos) (some (.Name y py)) spos.line X.env = pure true) (hi : DI X c W tg iter mi) (ok : BlkOk X.N X.env.scope scope own)
    (hg : ∀ (s : Shared) (H : Hp) (C : Addr) (cl : List (Str × Addr)) (fp : List Addr), DGo (X.blk s H scope (compEnvC scope cl C X.env) fp) tg mg (own.map (·.2)))
    (ht : ∀ (s : Shared) (H : Hp) (C : Addr) (cl : List (Str × Addr)) (fp : List Addr), DT (X.blk s H scope (compEnvC scope cl C X.env) fp) c WF d mt)
    (he : ∀ (s : Shared) (H : Hp) (C : Addr) (cl : List (Str × Addr)) (fp : List Addr), DE (X.blk s H scope (compEnvC scope cl C X.env) fp) c WF elt m) (hs : ∀ x, foldedSetIterable iter X.env x = pure x := by intro _; rfl) :
    DS X c W (.Assign [.Name y py] (.ListComp elt [⟨tg, iter, [d], 0⟩] scope pos) spos) (sSet i (ePl (lComp mi (own.map (·.2)) mg mt m))) := by
  obtain ⟨ti, pi, hi⟩ := hi
  exact ⟨_, ps_frz (ps_setLc (i := i) (g := gMo X.K mg (own.map fun (p : Str × Nat) => p.2)) (tt := tMT X.K c WF mt) (te := tM X.K c WF m) hc hN hy hyl hsw pi ok (fun s H C cl fp => hg s H C cl fp) (fun s H C cl fp => pts_one (ht s H C cl fp).pt) (fun s H C cl fp => (he s H C cl fp).pe) hs),
    fun φ σ H ρ S E r f p => ds_setLcP r f (lc_reads hi) p⟩
end
end MM

namespace MM
open PySem PySem.Spec PyProof.Rows L2

/-- the promise: what sp tells of the arguments' data and the store -/
def spOf (K : PySem.W.Frag) (c : Cl) (n : Nat) (sp : FL) : Sp := fun vs H Q E => ∃ φ S ds, Rel K c φ S H ∧ RepL K φ H ds vs ∧ ds.length = n ∧ PostW K c (fun cls d _ H' => E cls d H') [] φ H (gE K Q) (sp ds S)
structure FnD (P : Program) (w : World) (K : PySem.W.Frag) (mg : Str → Option Value) (base : Heap) (c : Cl) (k : Nat) (f : Addr) (fd : FuncData) (ps : List Str) (sp : FL) : Prop where
  ok : FnOk P w K mg base (L2.CX P w) k f fd ps (spOf K c ps.length sp)
theorem FnD.mono {P : Program} {w : World} {K : PySem.W.Frag} {mg : Str → Option Value} {base : Heap} {c : Cl} {j k : Nat} {f : Addr} {fd : FuncData} {ps : List Str} {sp : FL} (F : FnD P w K mg base c j f fd ps sp) (h : j ≤ k) : FnD P w K mg base c k f fd ps sp := ⟨F.ok.mono h⟩
/-- W and σ do not matter but for what is raised -/
theorem PostW.wish {α : Type} {K : PySem.W.Frag} {c : Cl} {W W' : WX} {σ σ' : L2.St} {φ : List Addr} {H : Hp} {good : α → Sto → List Addr → Hp → Prop} {r : R α} (h : PostW K c W σ φ H good r) (hw : ∀ cls d H', W cls d σ H' → W' cls d σ' H') : PostW K c W' σ' φ H good r := by
  cases r with
  | ok a S => exact h
  | ex k S => exact fun φ' H' e r => hw _ _ _ (h φ' H' e r)
  | no => exact h
section
variable {X : Cx} {c : Cl} {W : WX} {k : Nat} {f : Addr} {fd : FuncData} {ps : List Str} {sp : FL} {x : Str} {p pos : Pos} {e : Expr} {es : List Expr} {ml : ML}
theorem de_call (F : FnD X.prog X.w X.K X.mg X.base c k f fd ps sp) (hr : Room k X.A) (hg : Gl X x) (hm : X.mg x = some (.ref f)) (hk : PySem.W.keepIn X.K (.ref f) = true) (hb : Binds X.K fd ps []) (tk : Takes X W)
    (ha : DA X c W (e :: es) ml) (hlen : ps.length = (e :: es).length) (hl : ∀ ρ S ds S', ml ρ S = .ok ds S' → ds.length = ps.length) (hdb : (x == ("__debug__" : Str)) = false := by decide) (he : starEach (e :: es) X.env = (false, eval e X.env) :: starEach es X.env := by rfl) (hpl : (backTo pos (starEach es X.env)).any (·.1) = false := by rfl) :
    DE X c W (.Call (.Name x p) (e :: es) [] pos) (eCall sp ml) := by
  obtain ⟨ta, pa, ha⟩ := ha
  refine ⟨_, pe_callS (E := WE W) F.ok hr hg hm hk hb (fun σ => passAt tk σ) pa hdb he hpl, fun φ σ H ρ S Q r f p => ?_⟩
  refine ha φ σ H ρ S _ r f ?_
  unfold eCall at p
  cases hq : ml ρ S with
  | no => rw [hq] at p; exact p
  | ex k S1 => rw [hq] at p; exact p
  | ok ds S1 =>
    rw [hq] at p
    intro φ1 H1 e1 r1 vs hv
    exact ⟨φ1, S1, ds, r1, hv, hl _ _ _ _ hq, (PostW.from e1 p).wish fun _ _ _ h => h⟩
end
/-- how many arguments come -/
theorem aCons_len {a : ME} {m : ML} {n : Nat} (h : ∀ ρ S ds S', m ρ S = .ok ds S' → ds.length = n) : ∀ ρ S ds S', aCons a m ρ S = .ok ds S' → ds.length = n + 1 := by
  intro ρ S ds S' e
  unfold aCons at e
  cases ha : a ρ S with
  | no => rw [ha] at e; cases e
  | ex k S1 => rw [ha] at e; cases e
  | ok d S1 =>
    rw [ha] at e
    dsimp only [R.bind] at e
    cases hm : m ρ S1 with
    | no => rw [hm] at e; cases e
    | ex k S1 => rw [hm] at e; cases e
    | ok ds' S2 =>
      rw [hm] at e
      cases e
      simp [h _ _ _ _ hm]
theorem aNil_len : ∀ ρ S ds S', aNil ρ S = .ok ds S' → ds.length = 0 := by
  intro ρ S ds S' e
  cases e
  rfl

/-- the frame at a def's entry -/
def startF (n : Nat) (ds : List D) : Fr := ds.map some ++ List.replicate (n - ds.length) none
def RS.end : RS → R D
  | .nx _ S => .ok .non S
  | .rt d S => .ok d S
  | .ex k _ S => .ex k S
  | _ => .no
def body (n : Nat) (m : MS) : FL := fun ds S => (m (startF n ds) S).end
theorem start_rel {K : PySem.W.Frag} {φ : List Addr} {H : Hp} {N : List Str} {ds : List D} {vs : List V} (h : RepL K φ H ds vs) : FrRel K φ H (L2.start N vs) (startF N.length ds) := by
  have e := h.length
  refine ⟨by simp [L2.start, startF, e], fun i d hi => ?_⟩
  unfold startF at hi
  by_cases hl : i < ds.length
  · rw [List.getElem?_append_left (by simpa using hl), List.getElem?_map] at hi
    obtain ⟨d', h1, h2⟩ := Option.map_eq_some_iff.mp hi
    cases h2
    obtain ⟨v, h3, h4⟩ := h.get h1
    refine ⟨v, ?_, h4⟩
    unfold L2.start
    rw [List.getElem?_append_left (by simp; omega), List.getElem?_map, h3]
    rfl
  · rw [List.getElem?_append_right (by simp; omega)] at hi
    have := List.mem_of_getElem? hi
    rw [List.mem_replicate] at this
    cases this.2
theorem fnD_of {P : Program} {w : World} {K : PySem.W.Frag} {mg : Str → Option Value} {base : Heap} {c : Cl} {x qual : Str} {st : Stmt} {f : Addr} {fd : FuncData} {N ps : List Str} {k : Nat} {m : MS} (F : Fun K x qual st f fd) (S : FnScope N ps (defScope st))
    (hbody : ∀ (cdv : Value) (A : Around) (outer : List Env) (s : Shared) (H : Hp) (E : XK), Room k (A.deeper (envOfC qual (defScope st) s.heap.objs.size f cdv)) →
      Takes (cxOf (L2.CX P w) P w K mg base N qual (defScope st) f cdv A outer s H E) (fun cls d _ H' => E cls d H') → PassesOwn (model P w) (A.deeper (envOfC qual (defScope st) s.heap.objs.size f cdv)) (envOfC qual (defScope st) s.heap.objs.size f cdv) (cxOf (L2.CX P w) P w K mg base N qual (defScope st) f cdv A outer s H E).xe →
      DSs (cxOf (L2.CX P w) P w K mg base N qual (defScope st) f cdv A outer s H E) c (fun cls d _ H' => E cls d H') (defBody st) m) : FnD P w K mg base c (k + 1) f fd ps (body N.length m) := by
  refine ⟨F.okX S (fun vs H Q E h => ?_) (fun cdv A outer s H vs Q E hr h => ?_)⟩
  · obtain ⟨φ, S, ds, r, hv, hl, _⟩ := h
    rw [← hv.length, hl]
  · obtain ⟨φ, S', ds, r, hv, hl, p⟩ := h
    obtain ⟨t, pt, ht⟩ := hbody cdv A outer s H E hr (takes_of rfl rfl rfl rfl) (passes_of (X := cxOf (L2.CX P w) P w K mg base N qual (defScope st) f cdv A outer s H E) rfl)
    refine ⟨t, pt, ht φ _ H (startF N.length ds) S' _ r (start_rel hv) ?_⟩
    unfold body at p
    cases hm : m (startF N.length ds) S' with
    | nx ρ S1 => rw [hm] at p; exact fun φ' H' σ' e' r' f' => p φ' H' e' r' _ rep_non
    | rt d S1 => rw [hm] at p; exact fun φ' H' v e' r' rv => p φ' H' e' r' _ rv
    | ex k ρ S1 => rw [hm] at p; exact fun φ' H' σ' e' r' f' => p φ' H' e' r'
    | bk ρ S1 => rw [hm] at p; exact False.elim p
    | ct ρ S1 => rw [hm] at p; exact False.elim p
    | no => rw [hm] at p; exact False.elim p

mutual
/-- all addresses within lie below n -/
def bdD (n : Nat) : D → Prop
  | .ref m => m < n
  | .tup l => bdL n l
  | .non => True
  | .bl _ => True
  | .int _ => True
  | .str _ => True
  | .scr _ => True
  | .pl l => bdL n l
def bdL (n : Nat) : List D → Prop
  | [] => True
  | d :: ds => bdD n d ∧ bdL n ds
end
def bdKV {κ : Type} (n : Nat) : List (κ × D) → Prop
  | [] => True
  | d :: ds => bdD n d.2 ∧ bdKV n ds
def bdO (n : Nat) : O → Prop
  | .lst _ l => bdL n l
  | .dct _ l => bdKV n l
  | .ins _ l => bdKV n l
def Closed (S : Sto) : Prop := ∀ o ∈ S, bdO S.length o
mutual
theorem Rep.lt {K : PySem.W.Frag} {φ : List Addr} {H : Hp} : ∀ (d : D) (v : V), Rep K φ H d v → bdD φ.length d
  | .non, _, _ => by unfold bdD; trivial
  | .bl _, _, _ => by unfold bdD; trivial
  | .int _, _, _ => by unfold bdD; trivial
  | .str _, _, _ => by unfold bdD; trivial
  | .scr _, _, _ => by unfold bdD; trivial
  | .pl l, v, h => by
    unfold bdD
    obtain ⟨a, vs, rfl, s, g⟩ := h.pl_
    exact RepL.lt l vs g
  | .ref n, v, h => by
    unfold bdD
    obtain ⟨a, h, _⟩ := h.ref_
    exact (List.getElem?_eq_some_iff.mp h).1
  | .tup l, v, h => by
    unfold bdD
    obtain ⟨a, vs, rfl, s, g⟩ := h.tup_
    exact RepL.lt l vs g
theorem RepL.lt {K : PySem.W.Frag} {φ : List Addr} {H : Hp} : ∀ (d : List D) (v : List V), RepL K φ H d v → bdL φ.length d
  | [], _, _ => by unfold bdL; trivial
  | d :: ds, vs, h => by
    obtain ⟨v, r, rfl, h1, h2⟩ := h.uncons
    unfold bdL
    exact ⟨Rep.lt d v h1, RepL.lt ds r h2⟩
end
theorem RepKV.lt {κ : Type} {K : PySem.W.Frag} {φ : List Addr} {H : Hp} : ∀ (d : List (κ × D)) (v : List (κ × V)), RepKV K φ H d v → bdKV φ.length d
  | [], _, _ => by unfold bdKV; trivial
  | d :: ds, vs, h => by
    unfold RepKV at h
    obtain ⟨v, r, rfl, h1, h2⟩ := h
    unfold bdKV
    exact ⟨Rep.lt d.2 v h1, RepKV.lt ds r h2⟩
theorem RepO.lt {K : PySem.W.Frag} {c : Cl} {φ : List Addr} {H : Hp} {a : Addr} : ∀ (o : O), RepO K c φ H a o → bdO φ.length o
  | .lst _ l, ⟨vs, g, _⟩ => g.lt
  | .dct _ l, ⟨vs, g, _⟩ => RepKV.lt l vs g
  | .ins _ l, ⟨_, vs, g, _⟩ => RepKV.lt l vs g
theorem Rel.closed {K : PySem.W.Frag} {c : Cl} {φ : List Addr} {S : Sto} {H : Hp} (r : Rel K c φ S H) : Closed S := fun o ho => by
  obtain ⟨n, hn, e⟩ := List.getElem_of_mem ho
  have h1 : S[n]? = some o := by rw [List.getElem?_eq_getElem hn, e]
  have h2 : n < φ.length := by rw [r.len]; exact hn
  have := (r.obj n _ o (List.getElem?_eq_getElem h2) h1).lt
  rw [r.len] at this
  exact this
/-- fewer addresses -/
structure Fewer (K : PySem.W.Frag) (φ' φ : List Addr) (H : Hp) : Prop where
  ix : ∀ (n : Nat) a, n < φ.length → φ'[n]? = some a → φ[n]? = some a
  sub : ∀ a, a ∈ φ → a ∈ φ'
mutual
theorem Rep.fewer {K : PySem.W.Frag} {φ φ' : List Addr} {H : Hp} (w : Fewer K φ' φ H) : ∀ (d : D) (v : V), bdD φ.length d → Rep K φ' H d v → Rep K φ H d v
  | .non, _, _, h => by unfold Rep at h ⊢; exact h
  | .bl _, _, _, h => by unfold Rep at h ⊢; exact h
  | .int _, _, _, h => by unfold Rep at h ⊢; exact h
  | .str _, _, _, h => by unfold Rep at h ⊢; exact h
  | .scr _, _, _, h => by
    obtain ⟨a, rfl, z⟩ := h.scr_
    unfold Rep
    refine ⟨a, rfl, ?_⟩
    rcases z with ⟨n, z⟩ | z
    · exact .inl ⟨fun q => n (w.sub _ q), z⟩
    · exact .inr z
  | .ref n, _, e, h => by
    unfold bdD at e
    obtain ⟨a, z, rfl⟩ := h.ref_
    exact rep_ref (w.ix n a e z)
  | .tup l, v, e, h => by
    unfold bdD at e
    obtain ⟨a, vs, rfl, s, g⟩ := h.tup_
    exact rep_tup s (RepL.fewer w l vs e g)
  | .pl l, v, e, h => by
    unfold bdD at e
    obtain ⟨a, vs, rfl, s, g⟩ := h.pl_
    exact rep_pl ⟨fun q => s.1 (w.sub _ q), s.2⟩ (RepL.fewer w l vs e g)
theorem RepL.fewer {K : PySem.W.Frag} {φ φ' : List Addr} {H : Hp} (w : Fewer K φ' φ H) : ∀ (d : List D) (v : List V), bdL φ.length d → RepL K φ' H d v → RepL K φ H d v
  | [], _, _, h => by rw [h.isNil]; exact RepL.nil
  | d :: ds, vs, e, h => by
    unfold bdL at e
    obtain ⟨v, r, rfl, h1, h2⟩ := h.uncons
    exact RepL.cons (Rep.fewer w d v e.1 h1) (RepL.fewer w ds r e.2 h2)
end
theorem RepKV.fewer {κ : Type} {K : PySem.W.Frag} {φ φ' : List Addr} {H : Hp} (w : Fewer K φ' φ H) : ∀ (d : List (κ × D)) (v : List (κ × V)), bdKV φ.length d → RepKV K φ' H d v → RepKV K φ H d v
  | [], _, _, h => h
  | d :: ds, vs, e, h => by
    unfold RepKV at h ⊢
    unfold bdKV at e
    obtain ⟨v, r, rfl, h1, h2⟩ := h
    exact ⟨v, r, rfl, Rep.fewer w d.2 v e.1 h1, RepKV.fewer w ds r e.2 h2⟩
theorem RepO.fewer {K : PySem.W.Frag} {c : Cl} {φ φ' : List Addr} {H : Hp} {a : Addr} (w : Fewer K φ' φ H) : ∀ (o : O), bdO φ.length o → RepO K c φ' H a o → RepO K c φ H a o
  | .lst _ l, e, ⟨vs, g, h⟩ => ⟨vs, g.fewer w _ _ e, h⟩
  | .dct _ l, e, ⟨vs, g, h⟩ => ⟨vs, RepKV.fewer w _ _ e g, h⟩
  | .ins _ l, e, ⟨dx, vs, g, h⟩ => ⟨dx, vs, RepKV.fewer w _ _ e g, h⟩
/-- the tail of the store is forgotten -/
theorem Rel.forget {K : PySem.W.Frag} {c : Cl} {φ φ' : List Addr} {H H' : Hp} {S S' T : Sto} (r : Rel K c φ S H) (e : Ext φ H φ' H') (r' : Rel K c φ' (S' ++ T) H') (hl : S.length ≤ S'.length) (hc : Closed S') :
    Ext φ H (φ'.take S'.length) H' ∧ Rel K c (φ'.take S'.length) S' H' ∧ Fewer K φ' (φ'.take S'.length) H' := by
  have hlen : φ'.length = S'.length + T.length := by rw [r'.len, List.length_append]
  have hlen' : (φ'.take S'.length).length = S'.length := by rw [List.length_take]; omega
  have nd : (φ'.take S'.length).Nodup := r'.nd.sublist (List.take_sublist _ _)
  have w : Fewer K φ' (φ'.take S'.length) H' := ⟨fun n a h q => by rw [List.getElem?_take_of_lt (by omega)]; exact q, fun a h => List.mem_of_mem_take h⟩
  obtain ⟨ψ, hψ, hn⟩ := e.more
  refine ⟨⟨⟨ψ.take (S'.length - φ.length), ?_, fun a h => hn a (List.mem_of_mem_take h)⟩, nd, e.keep, e.frz⟩, ⟨hlen', nd, fun n a o h1 h2 => ?_⟩, w⟩
  · rw [hψ, List.take_append, List.take_of_length_le (by rw [r.len]; exact hl)]
  · have hlt : n < S'.length := (List.getElem?_eq_some_iff.mp h2).1
    have h1' : φ'[n]? = some a := by rw [List.getElem?_take_of_lt hlt] at h1; exact h1
    refine (r'.obj n a o h1' (by rw [List.getElem?_append_left hlt]; exact h2)).fewer w _ ?_
    rw [hlen']
    exact hc o (List.mem_of_getElem? h2)
/-- sp tells what sp' tells, up to what is thrown away -/
def Refines (sp sp' : FL) : Prop := ∀ ds S, Closed S → bdL S.length ds → match sp' ds S with
  | .ok d S' => ∃ T, sp ds S = .ok d (S' ++ T) ∧ bdD S'.length d ∧ S.length ≤ S'.length ∧ Closed S'
  | .ex k S' => ∃ T, sp ds S = .ex k (S' ++ T) ∧ S.length ≤ S'.length ∧ Closed S'
  | .no => True
theorem FnD.imp {P : Program} {w : World} {K : PySem.W.Frag} {mg : Str → Option Value} {base : Heap} {c : Cl} {k : Nat} {f : Addr} {fd : FuncData} {ps : List Str} {sp sp' : FL} (F : FnD P w K mg base c k f fd ps sp) (h : Refines sp sp') : FnD P w K mg base c k f fd ps sp' := by
  refine ⟨F.ok.imp fun vs H Q E q => ?_⟩
  obtain ⟨φ, S, ds, r, g, hl, p⟩ := q
  refine ⟨φ, S, ds, r, g, hl, ?_⟩
  have hh := h ds S r.closed (by rw [← r.len]; exact g.lt)
  cases hs : sp' ds S with
  | no => rw [hs] at p; exact False.elim p
  | ok d S' =>
    rw [hs] at p hh
    obtain ⟨T, e, hd, h1, h2⟩ := hh
    rw [e]
    intro φ' H' e' r' v hv
    obtain ⟨e2, r2, w2⟩ := r.forget e' r' h1 h2
    exact p _ _ e2 r2 v (hv.fewer w2 _ _ (by rw [r2.len]; exact hd))
  | ex k S' =>
    rw [hs] at p hh
    obtain ⟨T, e, h1, h2⟩ := hh
    rw [e]
    intro φ' H' e' r'
    obtain ⟨e2, r2, w2⟩ := r.forget e' r' h1 h2
    exact p _ _ e2 r2

mutual
def mapR (g : Nat → Option D) : D → Option D
  | .ref n => g n
  | .tup l => (mapRL g l).map .tup
  | .pl l => (mapRL g l).map .pl
  | .non => some .non
  | .bl b => some (.bl b)
  | .int i => some (.int i)
  | .str x => some (.str x)
  | .scr ns => some (.scr ns)
def mapRL (g : Nat → Option D) : List D → Option (List D)
  | [] => some []
  | d :: ds => match mapR g d, mapRL g ds with
    | some a, some b => some (a :: b)
    | _, _ => none
end
def rfz (T : Sto) (k : Nat) : Nat → Nat → Option D
  | 0, n => if n < k then some (.ref n) else none
  | f + 1, n => if n < k then some (.ref n) else match T[n - k]? with
    | some (.lst _ l) => (mapRL (rfz T k f) l).map .pl
    | _ => none
def rfzD (T : Sto) (k : Nat) (d : D) : Option D := mapR (rfz T k 3) d
def Kept (S A : Sto) : Prop := ∀ (n : Nat) o, A[n]? = some o → S[n]? = some o ∨ bdO S.length o
open Classical in
noncomputable def gc (S : Sto) : R D → R D
  | .ok d S' => match rfzD (S'.drop S.length) S.length d with
    | some d' => if Kept S (S'.take S.length) ∧ S.length ≤ S'.length then .ok d' (S'.take S.length) else .ok d S'
    | none => .ok d S'
  | .ex k S' => if Kept S (S'.take S.length) ∧ S.length ≤ S'.length then .ex k (S'.take S.length) else .ex k S'
  | .no => .no
noncomputable def gcF (sp : FL) : FL := fun ds S => gc S (sp ds S)
section
variable {K : PySem.W.Frag} {c : Cl} {φ φ' : List Addr} {H H' H2 : Hp} {S A T : Sto} {as : List Addr}
/-- what is locked: the new lists -/
structure Locks (K : PySem.W.Frag) (c : Cl) (φ' : List Addr) (A T : Sto) (H' : Hp) (as : List Addr) (H2 : Hp) : Prop where
  rel : Rel K c φ' (A ++ T) H'
  by_ : FrzBy as H' H2
  mem : ∀ a, a ∈ as ↔ ∃ n l, A.length ≤ n ∧ φ'[n]? = some a ∧ (A ++ T)[n]? = some (.lst false l)
theorem Locks.other (L : Locks K c φ' A T H' as H2) {a : Addr} {u : HO} (h : H' a = some u) (hu : ∀ vs, u ≠ .lst vs) : H2 a = some u := by
  rw [L.by_.1 a fun q => ?_, h]
  obtain ⟨_, vs, e, _⟩ := L.by_.2 a q
  rw [h] at e
  exact hu vs (Option.some.inj e)
theorem Locks.stays (L : Locks K c φ' A T H' as H2) : Stays K φ' H' φ' H2 := ⟨fun _ _ h => h, fun a xs h => by
  rcases h with (h | ⟨o, h⟩) | h
  · exact .inl (.inl (L.other h (fun _ z => nomatch z)))
  · exact .inl (.inr ⟨o, L.other h (fun _ z => nomatch z)⟩)
  · exact .inr h, fun a xs h => ⟨h.1, h.2.choose, L.other h.2.choose_spec (fun _ z => nomatch z)⟩⟩
theorem Locks.take (L : Locks K c φ' A T H' as H2) : (φ'.take A.length).length = A.length := by
  have := L.rel.len
  rw [List.length_append] at this
  rw [List.length_take]; omega
theorem Locks.notin (L : Locks K c φ' A T H' as H2) {n : Nat} {a : Addr} (h : φ'[n]? = some a) (hn : A.length ≤ n) : a ∉ φ'.take A.length := fun q => by
  obtain ⟨m, hm, e⟩ := List.getElem_of_mem q
  have hm' : m < A.length := by rw [L.take] at hm; exact hm
  have e2 : φ'[m]? = some a := by rw [← List.getElem?_take_of_lt hm', List.getElem?_eq_getElem hm, e]
  exact nodup_ne L.rel.nd h e2 (by omega) rfl
mutual
theorem Locks.map (L : Locks K c φ' A T H' as H2) {g : Nat → Option D} (hg : ∀ n d a, g n = some d → φ'[n]? = some a → Rep K (φ'.take A.length) H2 d (.ref a)) : ∀ (d : D) (v : V) (d' : D), Rep K φ' H' d v → mapR g d = some d' → Rep K (φ'.take A.length) H2 d' v
  | .non, v, d', h, e => by unfold mapR at e; cases e; unfold Rep at h ⊢; exact h
  | .bl _, v, d', h, e => by unfold mapR at e; cases e; unfold Rep at h ⊢; exact h
  | .int _, v, d', h, e => by unfold mapR at e; cases e; unfold Rep at h ⊢; exact h
  | .str _, v, d', h, e => by unfold mapR at e; cases e; unfold Rep at h ⊢; exact h
  | .scr _, v, d', h, e => by
    unfold mapR at e
    cases e
    obtain ⟨a, rfl, z⟩ := h.scr_
    unfold Rep
    refine ⟨a, rfl, ?_⟩
    rcases z with ⟨n, o, z⟩ | z
    · exact .inl ⟨fun q => n (List.mem_of_mem_take q), o, L.other z (fun _ z => nomatch z)⟩
    · exact .inr z
  | .ref n, v, d', h, e => by
    unfold mapR at e
    obtain ⟨a, z, rfl⟩ := h.ref_
    exact hg n d' a e z
  | .tup l, v, d', h, e => by
    unfold mapR at e
    obtain ⟨l', e1, rfl⟩ := Option.map_eq_some_iff.mp e
    obtain ⟨a, vs, rfl, s, gg⟩ := h.tup_
    exact rep_tup (L.stays.tup _ _ s) (Locks.mapL L hg l vs l' gg e1)
  | .pl l, v, d', h, e => by
    unfold mapR at e
    obtain ⟨l', e1, rfl⟩ := Option.map_eq_some_iff.mp e
    obtain ⟨a, vs, rfl, s, gg⟩ := h.pl_
    exact rep_pl ⟨fun q => s.1 (List.mem_of_mem_take q), (L.stays.pul _ _ s).2⟩ (Locks.mapL L hg l vs l' gg e1)
theorem Locks.mapL (L : Locks K c φ' A T H' as H2) {g : Nat → Option D} (hg : ∀ n d a, g n = some d → φ'[n]? = some a → Rep K (φ'.take A.length) H2 d (.ref a)) : ∀ (d : List D) (v : List V) (d' : List D), RepL K φ' H' d v → mapRL g d = some d' → RepL K (φ'.take A.length) H2 d' v
  | [], v, d', h, e => by unfold mapRL at e; cases e; rw [h.isNil]; exact RepL.nil
  | d :: ds, v, d', h, e => by
    unfold mapRL at e
    obtain ⟨x, r, rfl, h1, h2⟩ := h.uncons
    split at e
    · rename_i a b e1 e2
      cases e
      exact RepL.cons (Locks.map L hg d x a h1 e1) (Locks.mapL L hg ds r b h2 e2)
    · cases e
end
theorem Locks.rfz (L : Locks K c φ' A T H' as H2) : ∀ (f n : Nat) d a, rfz T A.length f n = some d → φ'[n]? = some a → Rep K (φ'.take A.length) H2 d (.ref a) := by
  have low : ∀ (n : Nat) a, n < A.length → φ'[n]? = some a → Rep K (φ'.take A.length) H2 (.ref n) (.ref a) := fun n a hn h => rep_ref (by rw [List.getElem?_take_of_lt hn]; exact h)
  intro f
  induction f with
  | zero =>
    intro n d a e h
    unfold MM.rfz at e
    split at e
    · rename_i hn; cases e; exact low n a hn h
    · cases e
  | succ f ih =>
    intro n d a e h
    unfold MM.rfz at e
    split at e
    · rename_i hn; cases e; exact low n a hn h
    · rename_i hn
      split at e
      · rename_i fz l hl
        obtain ⟨l', e1, rfl⟩ := Option.map_eq_some_iff.mp e
        have hs : (A ++ T)[n]? = some (.lst fz l) := by rw [List.getElem?_append_right (by omega)]; exact hl
        obtain ⟨vs, g, ho⟩ := L.rel.obj n a _ h hs
        refine rep_pl ⟨L.notin h (by omega), ?_⟩ (L.mapL ih l vs l' g e1)
        cases fz with
        | true =>
          obtain ⟨ob, ho⟩ := (show ∃ ob, H' a = some (.frz ob (.lst vs)) by simpa using ho)
          exact ⟨ob, L.other ho (fun _ z => nomatch z)⟩
        | false =>
          have ho' : H' a = some (.lst vs) := by simpa using ho
          obtain ⟨ob, vs', e2, e3⟩ := L.by_.2 a ((L.mem a).mpr ⟨n, l, by omega, h, hs⟩)
          rw [ho'] at e2
          cases e2
          exact ⟨ob, e3⟩
      · cases e
theorem Locks.rel2 (L : Locks K c φ' A T H' as H2) (hk : ∀ o ∈ A, bdO A.length o) : Rel K c (φ'.take A.length) A H2 := by
  refine ⟨L.take, L.rel.nd.sublist (List.take_sublist _ _), fun n a o h1 h2 => ?_⟩
  have hlt : n < A.length := (List.getElem?_eq_some_iff.mp h2).1
  have h1' : φ'[n]? = some a := by rw [List.getElem?_take_of_lt hlt] at h1; exact h1
  have hna : a ∉ as := fun q => by
    obtain ⟨m, l, hm, e, _⟩ := (L.mem a).mp q
    exact nodup_ne L.rel.nd h1' e (by omega) rfl
  have w : Fewer K φ' (φ'.take A.length) H2 := ⟨fun n a h q => by rw [L.take] at h; rw [List.getElem?_take_of_lt h]; exact q, fun a h => List.mem_of_mem_take h⟩
  exact ((L.rel.obj n a o h1' (by rw [List.getElem?_append_left hlt]; exact h2)).stay L.stays (L.by_.1 a hna)).fewer w _ (by rw [L.take]; exact hk o (List.mem_of_getElem? h2))
theorem Locks.ext {φ : List Addr} (L : Locks K c φ' A T H' as H2) (e : Ext φ H φ' H') (hl : φ.length = A.length) : φ'.take A.length = φ ∧ Ext φ H φ H2 := by
  obtain ⟨ψ, e1, e2⟩ := e.more
  have ht : φ'.take A.length = φ := by rw [e1, ← hl, List.take_left]
  refine ⟨ht, ⟨⟨[], by simp, by simp⟩, by rw [← ht]; exact L.rel.nd.sublist (List.take_sublist _ _), fun a o h n => ?_, fun a ob u h => ?_⟩⟩
  · have q := e.keep a o h n
    rw [L.by_.1 a fun z => ?_, q]
    obtain ⟨m, l, hm, e3, _⟩ := (L.mem a).mp z
    rw [e1, List.getElem?_append_right (by omega)] at e3
    rw [e2 a (List.mem_of_getElem? e3)] at h
    cases h
  · have q := e.frz a ob u h
    rw [L.by_.1 a fun z => ?_, q]
    obtain ⟨m, l, hm, e3, _⟩ := (L.mem a).mp z
    rw [e1, List.getElem?_append_right (by omega)] at e3
    rw [e2 a (List.mem_of_getElem? e3)] at h
    cases h
open Classical in
theorem locks_of (r : Rel K c φ' (A ++ T) H') : ∃ as, (∀ a ∈ as, ∃ vs, H' a = some (.lst vs)) ∧ ∀ H2, FrzBy as H' H2 → Locks K c φ' A T H' as H2 := by
  have key : ∀ a, a ∈ φ'.filter (fun a => decide (∃ (n : Nat) (l : List D), A.length ≤ n ∧ φ'[n]? = some a ∧ (A ++ T)[n]? = some (.lst false l))) ↔ ∃ (n : Nat) (l : List D), A.length ≤ n ∧ φ'[n]? = some a ∧ (A ++ T)[n]? = some (.lst false l) := by
    intro a
    rw [List.mem_filter, decide_eq_true_eq]
    exact ⟨fun h => h.2, fun h => ⟨by obtain ⟨n, l, _, e, _⟩ := h; exact List.mem_of_getElem? e, h⟩⟩
  refine ⟨φ'.filter (fun a => decide (∃ (n : Nat) (l : List D), A.length ≤ n ∧ φ'[n]? = some a ∧ (A ++ T)[n]? = some (.lst false l))), fun a ha => ?_, fun H2 f => ⟨r, f, key⟩⟩
  obtain ⟨n, l, _, e1, e2⟩ := (key a).mp ha
  obtain ⟨vs, _, h⟩ := r.obj n a _ e1 e2
  exact ⟨vs, by simpa using h⟩
theorem kept_bd {φ : List Addr} (r : Rel K c φ S H) (hl : A.length = S.length) (hk : Kept S A) : ∀ o ∈ A, bdO A.length o := fun o ho => by
  obtain ⟨n, hn, e⟩ := List.getElem_of_mem ho
  rw [hl]
  rcases hk n o (by rw [List.getElem?_eq_getElem hn, e]) with q | q
  · exact r.closed o (List.mem_of_getElem? q)
  · exact q
/-- behind a call: its garbage is thrown away -/
theorem gc_post {W : WX} {σ : L2.St} {φ : List Addr} {Q : VK} {r : R D} (rel : Rel K c φ S H) (p : PostW K c W σ φ H (gE K Q) (gc S r)) : PostW K c W σ φ H (gE K fun v H' => FrzTo H' (Q v)) r := by
  cases r with
  | no => exact p
  | ok d S' =>
    simp only [gc] at p
    split at p
    · rename_i d' hd
      split at p
      · rename_i hk
        intro φ' H' e' r' v hv
        have hA : (S'.take S.length).length = S.length := by rw [List.length_take]; omega
        have r'' : Rel K c φ' (S'.take S.length ++ S'.drop S.length) H' := by rw [List.take_append_drop]; exact r'
        obtain ⟨as, h1, h2⟩ := locks_of r''
        refine ⟨as, h1, fun H2 f => ?_⟩
        have L := h2 H2 f
        obtain ⟨e1, e2⟩ := L.ext e' (by rw [hA, rel.len])
        have r2 := L.rel2 (kept_bd rel hA hk.1)
        rw [e1] at r2
        refine p φ H2 e2 r2 v ?_
        have hg : ∀ n d a, rfz (S'.drop S.length) S.length 3 n = some d → φ'[n]? = some a → Rep K (φ'.take (S'.take S.length).length) H2 d (.ref a) := fun n d a h q => L.rfz 3 n d a (by rw [hA]; exact h) q
        have := L.map hg d v d' hv hd
        rw [e1] at this
        exact this
      · exact p.frz
    · exact p.frz
  | ex k S' =>
    simp only [gc] at p
    split at p
    · rename_i hk
      intro φ' H' e' r'
      have hA : (S'.take S.length).length = S.length := by rw [List.length_take]; omega
      have r'' : Rel K c φ' (S'.take S.length ++ S'.drop S.length) H' := by rw [List.take_append_drop]; exact r'
      obtain ⟨e2, r2, w2⟩ := rel.forget e' r'' (by rw [hA]; exact Nat.le_refl _) (kept_bd rel hA hk.1)
      exact p _ _ e2 r2
    · exact p
end
section
variable {X : Cx} {c : Cl} {W : WX} {k : Nat} {f : Addr} {fd : FuncData} {ps : List Str} {sp : FL} {x : Str} {p pos : Pos} {e : Expr} {es : List Expr} {ml : ML}
theorem de_callGc (F : FnD X.prog X.w X.K X.mg X.base c k f fd ps sp) (hr : Room k X.A) (hg : Gl X x) (hm : X.mg x = some (.ref f)) (hk : PySem.W.keepIn X.K (.ref f) = true) (hb : Binds X.K fd ps []) (tk : Takes X W)
    (ha : DA X c W (e :: es) ml) (hlen : ps.length = (e :: es).length) (hl : ∀ ρ S ds S', ml ρ S = .ok ds S' → ds.length = ps.length) (hdb : (x == ("__debug__" : Str)) = false := by decide) (he : starEach (e :: es) X.env = (false, eval e X.env) :: starEach es X.env := by rfl) (hpl : (backTo pos (starEach es X.env)).any (·.1) = false := by rfl) :
    DE X c W (.Call (.Name x p) (e :: es) [] pos) (eCall (gcF sp) ml) := by
  obtain ⟨ta, pa, ha⟩ := ha
  refine ⟨_, pe_frz (pe_callS (E := WE W) F.ok hr hg hm hk hb (fun σ => passAt tk σ) pa hdb he hpl), fun φ σ H ρ S Q r f p => ?_⟩
  refine ha φ σ H ρ S _ r f ?_
  unfold eCall at p
  cases hq : ml ρ S with
  | no => rw [hq] at p; exact p
  | ex k S1 => rw [hq] at p; exact p
  | ok ds S1 =>
    rw [hq] at p
    intro φ1 H1 e1 r1 vs hv
    exact ⟨φ1, S1, ds, r1, hv, hl _ _ _ _ hq, (gc_post r1 (PostW.from e1 p)).wish fun _ _ _ h => h⟩
end
def spLaw (K : PySem.W.Frag) : Sp := fun vs H Q _ => ∃ (a : Addr) (ns : List Int), vs = [.ref a] ∧ Only H ∧ SqL K H a (ns.map V.int) ∧ ns.length ≤ 63 ∧ ∀ H', Q (.bl true) H'
theorem law_end {P : Program} {w : World} {K : PySem.W.Frag} {mg : Str → Option Value} {base : Heap} {c : Cl} {k : Nat} {f : Addr} {fd : FuncData} {x : Str} {sp : FL} (F : FnD P w K mg base c k f fd [x] sp)
    (h : ∀ ns : List Int, ns.length ≤ 63 → ∃ S, sp [.scr ns] [] = .ok (.bl true) S) : FnOk P w K mg base (L2.CX P w) k f fd [x] (spLaw K) := by
  refine F.ok.imp fun vs H Q E q => ?_
  obtain ⟨a, ns, rfl, hO, s, hl, q⟩ := q
  obtain ⟨S, e⟩ := h ns hl
  refine ⟨[], [], [.scr ns], ⟨rfl, List.nodup_nil, fun n a o h => by simp at h⟩, ?_, rfl, ?_⟩
  · refine RepL.cons ?_ RepL.nil
    unfold Rep
    refine ⟨a, rfl, ?_⟩
    rcases s with (s | s) | s
    · rcases hO a with z | ⟨o, xs, z⟩
      · rw [z] at s; cases s
      · rw [z] at s; cases s
    · exact .inl ⟨by simp, s⟩
    · exact .inr s
  · rw [e]
    intro φ' H' e' r' v hv
    rw [hv.bl_]
    exact q H'
end MM

namespace MM
open PySem PySem.Spec PyProof.Rows L2

theorem pi_or {X : Cx} {tg iter : Expr} {t u : TI} (h : PI X tg iter t) (h' : PI X tg iter u) : PI X tg iter (fun σ H R => t σ H R ∨ u σ H R) :=
  ⟨fun pins s σ H R I q => q.elim (fun q => h.run pins s σ H R I q) fun q => h'.run pins s σ H R I q⟩
/-- by what the mirror tells: the one, else the other -/
theorem di_or {X : Cx} {c : Cl} {W : WX} {tg iter : Expr} {m m1 m2 : MI} (h1 : DI X c W tg iter m1) (h2 : DI X c W tg iter m2) (h : ∀ ρ S, m ρ S = m1 ρ S ∨ m ρ S = m2 ρ S) : DI X c W tg iter m := by
  obtain ⟨t1, p1, h1⟩ := h1
  obtain ⟨t2, p2, h2⟩ := h2
  refine ⟨_, pi_or p1 p2, fun φ σ H ρ S Q r f p => ?_⟩
  rcases h ρ S with e | e
  · rw [e] at p
    exact .inl (h1 φ σ H ρ S Q r f p)
  · rw [e] at p
    exact .inr (h2 φ σ H ρ S Q r f p)
/-- over a tuple, a text, or a list -/
def iA (a : ME) : MI := fun ρ S => (a ρ S).bind fun d S1 => match d with
  | .tup l => .ok (l, noG) S1
  | .str x => .ok (signsD x, noG) S1
  | d => match srcOf S1 d with
    | some x => .ok x S1
    | none => .no
theorem di_any {X : Cx} {c : Cl} {W : WX} {tg e : Expr} {me : ME} (h : DE X c W e me) : DI X c W tg e (iA me) := by
  refine di_or (m1 := iT me) (m2 := fun ρ S => match iS me ρ S with | .no => iL me ρ S | r => r) (di_tup h) (di_or (di_str h) (di_lst h) fun ρ S => ?_) fun ρ S => ?_
  · cases iS me ρ S <;> simp
  · unfold iA iT iS iL
    cases me ρ S with
    | no => exact .inl rfl
    | ex k S1 => exact .inl rfl
    | ok d S1 => cases d <;> first | exact .inl rfl | exact .inr rfl
/-- zip of two tuples or two lists -/
def iZA (a b : ME) : MI := fun ρ S => (a ρ S).bind fun d S1 => (b ρ S1).bind fun d2 S2 => match d, d2 with
  | .tup l, .tup m => .ok (zipD l m, noG) S2
  | d, d2 => match srcOf S2 d, srcOf S2 d2 with
    | some x, some y => .ok (zipD x.1 y.1, fun S => x.2 S ∧ y.2 S) S2
    | _, _ => .no
theorem di_zipA {X : Cx} {c : Cl} {W : WX} {e e2 : Expr} {me me2 : ME} {p pos tpos : Pos} {elts : List Expr} {kk : Nat} (hg : Gl X "zip") (hm : X.mg "zip" = none) (h : DE X c W e me) (h2 : DE X c W e2 me2)
    (hs : starEach [e, e2] X.env = (false, eval e X.env) :: starEach [e2] X.env := by rfl) (hs2 : starEach [e2] X.env = (false, eval e2 X.env) :: starEach [] X.env := by rfl) (hpl : (backTo pos (starEach [e2] X.env)).any (·.1) = false := by rfl) :
    DI X c W (.Tuple elts kk tpos) (.Call (.Name "zip" p) [e, e2] [] pos) (iZA me me2) := by
  refine di_or (di_zipT hg hm h h2 hs hs2 hpl) (di_zipL hg hm h h2 hs hs2 hpl) fun ρ S => ?_
  unfold iZA iZT iZL
  cases me ρ S with
  | no => exact .inl rfl
  | ex k S1 => exact .inl rfl
  | ok d S1 =>
    dsimp only [R.bind]
    cases me2 ρ S1 with
    | no => exact .inl rfl
    | ex k S2 => exact .inl rfl
    | ok d2 S2 => cases d <;> cases d2 <;> first | exact .inl rfl | exact .inr rfl
/-- tuple(x), x a tuple or a list -/
def tupleA : FL
  | [.tup l], S => .ok (.tup l) S
  | [d], S => match lstOf S d with
    | some l => .ok (.tup l) S
    | _ => .no
  | _, _ => .no
theorem fits_tupleA {K : PySem.W.Frag} {c : Cl} : FitsL K c (fun xs H Q => ∃ p ys, xs = [.ref p] ∧ ((SqL K H p ys ∧ ∀ l, H l = none → Q (.ref l) (upd H l (.tup ys))) ∨ (SqT K H p ys ∧ Q (.ref p) H))) tupleA := by
  intro W σ φ H S vs ds Q r h p
  unfold tupleA at p
  split at p
  · obtain ⟨v, rfl, hv⟩ := one_of h
    obtain ⟨a, vs, rfl, s, g⟩ := hv.tup_
    exact ⟨a, vs, rfl, .inr ⟨s, PostW.here r p _ (rep_tup s g)⟩⟩
  · split at p
    · rename_i hl
      obtain ⟨v, rfl, hv⟩ := one_of h
      obtain ⟨a, vs, rfl, s, g⟩ := lstOf_rd r hv hl
      exact ⟨a, vs, rfl, .inl ⟨.inl s, fun q hq => post_tup r g hq p⟩⟩
    · exact False.elim p
  · exact False.elim p
/-- list(x), x a tuple or a list -/
def lA (a : ME) : ML := fun ρ S => (a ρ S).bind fun d S1 => match d with
  | .tup l => .ok l S1
  | d => match lstOf S1 d with
    | some l => .ok l S1
    | _ => .no
section
variable {X : Cx} {c : Cl} {W : WX} {e e2 : Expr} {me me2 : ME} {ml : ML} {p pos : Pos} {x : Str}
theorem dn_listA (hg : Gl X x) (hm : X.mg x = none) (hv : bootBuiltins x = some (.type "list")) (ha : DE X c W e me)
    (hn : x ≠ "__name__" := by decide) (hdb : (x == ("__debug__" : Str)) = false := by decide) (hs : starEach [e] X.env = (false, eval e X.env) :: starEach [] X.env := by rfl) (hpl : (backTo pos (starEach [] X.env)).any (·.1) = false := by rfl) :
    DN X c W (.Call (.Name x p) [e] [] pos) (lA me) := by
  obtain ⟨ta, pa, ha⟩ := ha
  refine ⟨_, pe_callTy call_list_of hg hm hv (pa_cons pa pa_nil hs) hn hdb hs hpl, fun φ σ H ρ S Q r f p => ?_⟩
  refine ha φ σ H ρ S _ r f (PostW.elim p fun d S1 φ1 H1 e1 r1 p1 => fun x hx => ?_)
  split at p1
  · obtain ⟨a, vs, rfl, s, g⟩ := hx.tup_
    refine ⟨a, vs, rfl, .inr s, fun q hq => ?_⟩
    obtain ⟨e2, r2⟩ := r1.fresh (u := .lst vs) hq
    exact p1 φ1 _ e2 r2 q vs (e1.back r1 hq) upd_same (r1.free hq) (g.stay (stays_free hq))
  · split at p1
    · rename_i hl
      obtain ⟨a, vs, rfl, s, g⟩ := lstOf_rd r1 hx hl
      refine ⟨a, vs, rfl, .inl (.inl s), fun q hq => ?_⟩
      obtain ⟨e2, r2⟩ := r1.fresh (u := .lst vs) hq
      exact p1 φ1 _ e2 r2 q vs (e1.back r1 hq) upd_same (r1.free hq) (g.stay (stays_free hq))
    · exact False.elim p1
/-- list(range(n)), list(range(a, b)) -/
def lR1 (a : ME) : ML := fun ρ S => (a ρ S).bind fun d S1 => match d with
  | .int n => if n ≤ 16777216 ∧ -(2 ^ 62) ≤ n then .ok (rangeD 0 n.toNat) S1 else .no
  | _ => .no
theorem rep_range {K : PySem.W.Frag} {φ : List Addr} {H : Hp} {a b : Int} : RepL K φ H (rangeD a (b - a).toNat) (rgV a b) := by
  unfold rangeD rgV
  induction List.range (b - a).toNat with
  | nil => exact RepL.nil
  | cons i r ih => exact RepL.cons rep_int ih
theorem dn_range1 {p2 pos2 : Pos} (hc : X.calm = true) (hg : Gl X "list") (hm : X.mg "list" = none) (hg2 : Gl X "range") (hm2 : X.mg "range" = none) (ha : DE X c W e me)
    (hs : starEach [e] X.env = (false, eval e X.env) :: starEach [] X.env := by rfl) (hs2 : starEach [.Call (.Name "range" p2) [e] [] pos2] X.env = (false, eval (.Call (.Name "range" p2) [e] [] pos2) X.env) :: starEach [] X.env := by rfl) :
    DN X c W (.Call (.Name "list" p) [.Call (.Name "range" p2) [e] [] pos2] [] pos) (lR1 me) := by
  obtain ⟨ta, pa, ha⟩ := ha
  refine ⟨_, pe_listRg hc hg hm (prg_1 hg2 hm2 pa hs) hs2, fun φ σ H ρ S Q r f p => ?_⟩
  refine ha φ σ H ρ S _ r f (PostW.elim p fun d S1 φ1 H1 e1 r1 p1 => fun x hx => ?_)
  split at p1
  · split at p1
    · rename_i n hn
      refine ⟨n, hx.int_, ⟨by omega, by omega, by omega, by omega, by omega⟩, fun q hq => ?_⟩
      obtain ⟨e2, r2⟩ := r1.fresh (u := .lst (rgV 0 n)) hq
      have g : RepL X.K φ1 (upd H1 q (.lst (rgV 0 n))) (rangeD 0 n.toNat) (rgV 0 n) := by
        have := rep_range (K := X.K) (φ := φ1) (H := upd H1 q (.lst (rgV 0 n))) (a := 0) (b := n)
        rwa [Int.sub_zero] at this
      exact p1 φ1 _ e2 r2 q _ (e1.back r1 hq) upd_same (r1.free hq) g
    · exact False.elim p1
  · exact False.elim p1
end

def Def (K : PySem.W.Frag) (mg : Str → Option Value) (x : Str) (ps : List Str) (st : Stmt) : Prop := ∃ f fd, Fun K x x st f fd ∧ Binds K fd ps [] ∧ mg x = some (.ref f)
theorem def_mk {K : PySem.W.Frag} {h : Heap} {mg : Str → Option Value} {x : Str} {ps : List Str} {st : Stmt} {f : Addr} {oc : Value} {od an : Option Addr} {osl : Array (Option Value)} {kV doc pm cdv ct : Value} (X : K.In h) (G : h.Ns mainGlobals mg)
    (a : PySem.W.nsIn K mainGlobals x = some (some (.ref f))) (l : K.lookup f = some ⟨oc, od, .func (PySem.W.fnOf x x (defArgs st) (defBody st) (defScope st) .none kV doc pm an cdv ct), osl⟩)
    (c : PySem.W.codeIn K cdv x = true) (k : PySem.W.keepIn K (.ref f) = true)
    (b : ∀ (kV doc pm : Value) (an : Option Addr) (cdv ct : Value) (us : List Value), us.length = ps.length → bindArgs (PySem.W.fnOf x x (defArgs st) (defBody st) (defScope st) .none kV doc pm an cdv ct) ⟨us, []⟩ = Pure.pure (ps.zip us)) : Def K mg x ps st :=
  ⟨f, _, fun_mk l c k, (fun_mk l c k).binds b, PySem.W.mg_of X G a⟩
def FnG (P : Program) (w : World) (K : PySem.W.Frag) (mg : Str → Option Value) (base : Heap) (c : Cl) (k : Nat) (x : Str) (ps : List Str) (sp : FL) : Prop :=
  ∃ f fd, FnD P w K mg base c k f fd ps sp ∧ mg x = some (.ref f) ∧ PySem.W.keepIn K (.ref f) = true ∧ Binds K fd ps []
theorem FnG.imp {P : Program} {w : World} {K : PySem.W.Frag} {mg : Str → Option Value} {base : Heap} {c : Cl} {k : Nat} {x : Str} {ps : List Str} {sp sp' : FL} (F : FnG P w K mg base c k x ps sp) (h : Refines sp sp') : FnG P w K mg base c k x ps sp' := by
  obtain ⟨f, fd, F, r⟩ := F
  exact ⟨f, fd, F.imp h, r⟩
theorem fnG_of {P : Program} {w : World} {K : PySem.W.Frag} {mg : Str → Option Value} {base : Heap} {c : Cl} {x : Str} {st : Stmt} {N ps : List Str} {k : Nat} {m : MS} (T : Def K mg x ps st) (S : FnScope N ps (defScope st))
    (hbody : ∀ (f : Addr) (cdv : Value) (A : Around) (outer : List Env) (s : Shared) (H : Hp) (E : XK), Room k (A.deeper (envOfC x (defScope st) s.heap.objs.size f cdv)) →
      Takes (cxOf (L2.CX P w) P w K mg base N x (defScope st) f cdv A outer s H E) (fun cls d _ H' => E cls d H') → PassesOwn (model P w) (A.deeper (envOfC x (defScope st) s.heap.objs.size f cdv)) (envOfC x (defScope st) s.heap.objs.size f cdv) (cxOf (L2.CX P w) P w K mg base N x (defScope st) f cdv A outer s H E).xe →
      DSs (cxOf (L2.CX P w) P w K mg base N x (defScope st) f cdv A outer s H E) c (fun cls d _ H' => E cls d H') (defBody st) m) : FnG P w K mg base c (k + 1) x ps (body N.length m) := by
  obtain ⟨f, fd, F, b, g⟩ := T
  exact ⟨f, fd, fnD_of F S (hbody f), g, F.kp, b⟩
theorem de_callG {X : Cx} {c : Cl} {W : WX} {k j : Nat} {ps : List Str} {sp : FL} {x : Str} {p pos : Pos} {e : Expr} {es : List Expr} {ml : ML} (F : FnG X.prog X.w X.K X.mg X.base c j x ps sp) (hr : Room k X.A) (hj : j ≤ k) (hg : Gl X x) (tk : Takes X W)
    (ha : DA X c W (e :: es) ml) (hlen : ps.length = (e :: es).length) (hl : ∀ ρ S ds S', ml ρ S = .ok ds S' → ds.length = ps.length) (hdb : (x == ("__debug__" : Str)) = false := by decide) (he : starEach (e :: es) X.env = (false, eval e X.env) :: starEach es X.env := by rfl) (hpl : (backTo pos (starEach es X.env)).any (·.1) = false := by rfl) :
    DE X c W (.Call (.Name x p) (e :: es) [] pos) (eCall sp ml) := by
  obtain ⟨f, fd, F, g, kp, b⟩ := F
  exact de_call F (hr.mono hj) hg g kp b tk ha hlen hl hdb he hpl
theorem de_callC {X : Cx} {c : Cl} {W : WX} {k j : Nat} {ps : List Str} {sp : FL} {x : Str} {p pos : Pos} {e : Expr} {es : List Expr} {ml : ML} (F : FnG X.prog X.w X.K X.mg X.base c j x ps sp) (hr : Room k X.A) (hj : j ≤ k) (hg : Gl X x) (tk : Takes X W)
    (ha : DA X c W (e :: es) ml) (hlen : ps.length = (e :: es).length) (hl : ∀ ρ S ds S', ml ρ S = .ok ds S' → ds.length = ps.length) (hdb : (x == ("__debug__" : Str)) = false := by decide) (he : starEach (e :: es) X.env = (false, eval e X.env) :: starEach es X.env := by rfl) (hpl : (backTo pos (starEach es X.env)).any (·.1) = false := by rfl) :
    DE X c W (.Call (.Name x p) (e :: es) [] pos) (eCall (gcF sp) ml) := by
  obtain ⟨f, fd, F, g, kp, b⟩ := F
  exact de_callGc F (hr.mono hj) hg g kp b tk ha hlen hl hdb he hpl
end MM
namespace MM
open PySem PySem.Spec PyProof.Rows L2
theorem cx_never {P : Program} {w : World} {H : Hp} {s : Shared} {e : Value} {s' : Shared} (h : L2.CX P w [] H s (fun _ _ _ => False) e s') : False := by
  obtain ⟨_, _, _, _, _, _, _, _, _, _, _, _, z⟩ := h
  exact z
end MM

namespace MM
open PySem PySem.Spec PyProof.Rows L2
section
variable {X : Cx} {c : Cl} {W : WX} {ml : ML} {pos : Pos}
end
end MM

namespace MM
open PySem PySem.Spec PyProof.Rows L2

section
variable {α β : Type} {a b : ME} {ρ : Fr} {S S' : Sto} {d x y : D} {i j : Int} {t : MT} {m n : MS} {f : F2} {l : ML}
@[simp] theorem bind_ok {a : α} {f : α → Sto → R β} : (R.ok a S).bind f = f a S := rfl
@[simp] theorem bind_no {f : α → Sto → R β} : (R.no : R α).bind f = .no := rfl
@[simp] theorem bind_ex {k : Nat} {f : α → Sto → R β} : (R.ex k S : R α).bind f = .ex k S := rfl
@[simp] theorem cut_ok {a : α} : (R.ok a S).cut = .ok a S := rfl
@[simp] theorem of_ok {a : α} {k : α → Sto → RS} : RS.of ρ (.ok a S) k = k a S := rfl
@[simp] theorem of_ex {c : Nat} {k : α → Sto → RS} : RS.of ρ (.ex c S : R α) k = .ex c ρ S := rfl
@[simp] theorem then_nx {k : Fr → Sto → RS} : (RS.nx ρ S).then k = k ρ S := rfl
@[simp] theorem then_rt {k : Fr → Sto → RS} : (RS.rt d S).then k = .rt d S := rfl
@[simp] theorem then_bk {k : Fr → Sto → RS} : (RS.bk ρ S).then k = .bk ρ S := rfl
@[simp] theorem then_ct {k : Fr → Sto → RS} : (RS.ct ρ S).then k = .ct ρ S := rfl
@[simp] theorem end_nx : (RS.nx ρ S).end = .ok .non S := rfl
@[simp] theorem end_rt : (RS.rt d S).end = .ok d S := rfl
@[simp] theorem end_ex {k : Nat} : (RS.ex k ρ S).end = .ex k S := rfl
@[simp] theorem eC_ev : eC d ρ S = .ok d S := rfl
@[simp] theorem eVar_ev {k : Nat} : eVar k ρ S = (match ρ[k]? with | some (some d) => .ok d S | _ => .no) := rfl
@[simp] theorem eBin_ev : eBin f a b ρ S = (a ρ S).bind fun x S1 => (b ρ S1).bind fun y S2 => f x y S2 := rfl
@[simp] theorem eUn_ev {f : F1} : eUn f a ρ S = (a ρ S).bind f := rfl
@[simp] theorem eCall_ev {f : FL} : eCall f l ρ S = (l ρ S).bind f := rfl
@[simp] theorem eLs_ev {f : FS} : eLs f l ρ S = (l ρ S).bind f := rfl
@[simp] theorem aNil_ev : aNil ρ S = .ok [] S := rfl
@[simp] theorem aCons_ev : aCons a l ρ S = (a ρ S).bind fun x S1 => (l ρ S1).bind fun xs S2 => .ok (x :: xs) S2 := rfl
@[simp] theorem eNew_ev : eNew l ρ S = (l ρ S).bind fun xs S1 => .ok (.ref S1.length) (S1 ++ [.lst false xs]) := rfl
@[simp] theorem ePl_ev : ePl l ρ S = (l ρ S).bind fun xs S1 => .ok (.pl xs) S1 := rfl
@[simp] theorem tV_ev : tV a ρ S = (a ρ S).bind fun d S1 => match d with | .bl b => .ok b S1 | _ => .no := rfl
@[simp] theorem tNt_ev : tNt t ρ S = (t ρ S).bind fun b S1 => .ok (!b) S1 := rfl
@[simp] theorem tOo_ev {u : MT} : tOo t u ρ S = (t ρ S).bind fun x S1 => if x = true then .ok true S1 else u ρ S1 := rfl
@[simp] theorem tYs_ev : tYs ρ S = .ok true S := rfl
@[simp] theorem oN_ev : oN ρ S = .ok none S := rfl
@[simp] theorem oS_ev : oS a ρ S = (a ρ S).bind fun d S1 => match d with | .int i => .ok (some i) S1 | _ => .no := rfl
@[simp] theorem eSlM_ev {lo hi : MO} : eSlM a lo hi ρ S = (a ρ S).bind fun x S1 => (lo ρ S1).bind fun l S2 => (hi ρ S2).bind fun h S3 => slM x l h S3 := rfl
@[simp] theorem eSl_ev {lo hi : MO} : eSl a lo hi ρ S = (a ρ S).bind fun x S1 => (lo ρ S1).bind fun l S2 => (hi ρ S2).bind fun h S3 => slD x l h S3 := rfl
@[simp] theorem eMeth_ev {ok : D → Sto → Bool} {f : FM} : eMeth ok f a l ρ S = (a ρ S).bind fun x S1 => if ok x S1 = true then (l ρ S1).bind fun ys S2 => f x ys S2 else .no := rfl
@[simp] theorem sPass_ev : sPass ρ S = .nx ρ S := rfl
@[simp] theorem sSeq_ev : sSeq m n ρ S = (m ρ S).then n := rfl
@[simp] theorem sRet_ev : sRet a ρ S = RS.of ρ (a ρ S) fun d S1 => .rt d S1 := rfl
@[simp] theorem sExpr_ev : sExpr a ρ S = RS.of ρ (a ρ S) fun _ S1 => .nx ρ S1 := rfl
@[simp] theorem sIf_ev : sIf t m n ρ S = RS.of ρ (t ρ S) fun x S1 => if x = true then m ρ S1 else n ρ S1 := rfl
@[simp] theorem sSet_ev {k : Nat} : sSet k a ρ S = RS.of ρ (a ρ S) fun d S1 => .nx (ρ.set k (some d)) S1 := rfl
@[simp] theorem sSetIx_ev {o i : ME} : sSetIx o i a ρ S = RS.of ρ (a ρ S) fun d S1 => RS.of ρ (o ρ S1) fun x S2 => RS.of ρ (i ρ S2) fun k S3 => match setIx x k d S3 with | some S4 => .nx ρ S4 | none => .no := rfl
@[simp] theorem sFor_ev {i : MI} {g : MG} : sFor i g m ρ S = RS.of ρ (i ρ S) fun x S1 => forD x.2 g m x.1 ρ S1 := rfl
@[simp] theorem tN_ev {k : Nat} : tN k d ρ = some (ρ.set k (some d)) := rfl
@[simp] theorem tTp_ev {k : Nat} {r : List D → Fr → Option Fr} {l : List D} : tTp k r (.tup l) ρ = if l.length = k then r l ρ else none := rfl
@[simp] theorem tsNil_ev : tsNil [] ρ = some ρ := rfl
@[simp] theorem tsCons_ev {a : MG} {r : List D → Fr → Option Fr} {ds : List D} : tsCons a r (d :: ds) ρ = (a d ρ).bind fun ρ' => r ds ρ' := rfl
@[simp] theorem body_ev {k : Nat} {ds : List D} : body k m ds S = (m (startF k ds) S).end := rfl
@[simp] theorem startF_ev {k : Nat} {ds : List D} : startF k ds = ds.map some ++ List.replicate (k - ds.length) none := rfl
@[simp] theorem srcOf_pl {l : List D} : srcOf S (.pl l) = some (l, noG) := rfl
@[simp] theorem srcOf_ref {n : Nat} : srcOf S (.ref n) = (match S[n]? with | some (.lst _ l) => some (l, inStore n l) | _ => none) := rfl
@[simp] theorem srcOf_str {x : Str} : srcOf S (.str x) = none := rfl
@[simp] theorem srcOf_tup {x : List D} : srcOf S (.tup x) = none := rfl
@[simp] theorem lstOf_pl {l : List D} : lstOf S (.pl l) = some l := rfl
@[simp] theorem lstOf_ref {n : Nat} : lstOf S (.ref n) = (match S[n]? with | some (.lst _ l) => some l | _ => none) := rfl
@[simp] theorem iA_ev : iA a ρ S = (a ρ S).bind fun d S1 => match d with | .tup l => .ok (l, noG) S1 | .str x => .ok (signsD x, noG) S1 | d => (match srcOf S1 d with | some x => .ok x S1 | none => .no) := rfl
@[simp] theorem iZA_ev : iZA a b ρ S = (a ρ S).bind fun d S1 => (b ρ S1).bind fun d2 S2 => match d, d2 with | .tup l, .tup m => .ok (zipD l m, noG) S2 | d, d2 => (match srcOf S2 d, srcOf S2 d2 with | some x, some y => .ok (zipD x.1 y.1, fun S => x.2 S ∧ y.2 S) S2 | _, _ => .no) := rfl
theorem ite_any {α : Type _} {p q : Prop} (h : p = q) (i : Decidable p) (j : Decidable q) (a b : α) : @ite α p i a b = @ite α q j a b := by
  subst h
  cases Subsingleton.elim i j
  rfl
/-- a machine-word range bound -/
def Wd (j : Int) : Prop := -(2 ^ 62) ≤ j ∧ j < 2 ^ 62
def WdL (n : Int) : Prop := n ≤ 16777216 ∧ -(2 ^ 62) ≤ n
theorem wd_of {j : Int} (h : -1000000000 ≤ j) (h2 : j ≤ 1000000000) : Wd j := by unfold Wd; omega
theorem wdl_of {n : Int} (h : -1000000000 ≤ n) (h2 : n ≤ 16777216) : WdL n := by unfold WdL; omega
open Classical in
@[simp] theorem iR1_ev : iR1 l ρ S = (l ρ S).bind fun ds S1 => match ds with | [.int j] => if Wd j then .ok (rangeD 0 j.toNat, noG) S1 else .no | _ => .no := by
  show R.bind _ _ = R.bind _ _
  congr 1
  funext ds S1
  match ds with
  | [] => rfl
  | [.int j] => exact ite_any rfl _ _ _ _
  | [.non] => rfl
  | [.bl _] => rfl
  | [.str _] => rfl
  | [.tup _] => rfl
  | [.ref _] => rfl
  | [.scr _] => rfl
  | [.pl _] => rfl
  | a :: _ :: _ => cases a <;> rfl
@[simp] theorem lOf_ev : lOf a ρ S = (a ρ S).bind fun d S1 => match lstOf S1 d with | some l => .ok l S1 | _ => .no := rfl
@[simp] theorem lA_ev : lA a ρ S = (a ρ S).bind fun d S1 => match d with | .tup l => .ok l S1 | d => (match lstOf S1 d with | some l => .ok l S1 | _ => .no) := rfl
@[simp] theorem tupleA_tup {l : List D} : tupleA [.tup l] S = .ok (.tup l) S := rfl
@[simp] theorem tupleA_pl {l : List D} : tupleA [.pl l] S = .ok (.tup l) S := rfl
@[simp] theorem tupleA_ref {n : Nat} : tupleA [.ref n] S = (match S[n]? with | some (.lst _ l) => .ok (.tup l) S | _ => .no) := by
  show (match lstOf S (.ref n) with | some l => R.ok (D.tup l) S | _ => R.no) = _
  rw [lstOf_ref]
  cases S[n]? with
  | none => rfl
  | some o => cases o <;> rfl
open Classical in
@[simp] theorem lR1_ev : lR1 a ρ S = (a ρ S).bind fun d S1 => match d with | .int n => if WdL n then .ok (rangeD 0 n.toNat) S1 else .no | _ => .no := by
  show R.bind _ _ = R.bind _ _
  congr 1
  funext d S1
  cases d with
  | int n => exact ite_any rfl _ _ _ _
  | _ => rfl
@[simp] theorem lComp_ev {i : MI} {vs : List Nat} {g : MG} {m : ME} : lComp i vs g t m ρ S = (i ρ S).bind fun x S1 => if x.1.length ≤ sizeLine then lcD x.2 g t m (wipeF ρ vs) x.1 S1 else .no := rfl
@[simp] theorem wipeF_nil : wipeF ρ [] = ρ := rfl
@[simp] theorem wipeF_cons {v : Nat} {vs : List Nat} : wipeF ρ (v :: vs) = (wipeF ρ vs).set v none := rfl
@[simp] theorem lNew_ev : lNew l ρ S = (l ρ S).bind fun xs S1 => if xs.length ≤ sizeLine then .ok xs S1 else .no := rfl
@[simp] theorem eTup_ev : eTup l ρ S = (l ρ S).bind fun xs S1 => if xs.length ≤ sizeLine then .ok (.tup xs) S1 else .no := rfl
@[simp] theorem addD_int : addD (.int i) (.int j) S = .ok (.int (i + j)) S := rfl
@[simp] theorem subD_int : subD (.int i) (.int j) S = .ok (.int (i - j)) S := rfl
@[simp] theorem negD_int : negD (.int i) S = .ok (.int (-i)) S := rfl
theorem addD_tup {u v : List D} (h : u.length + v.length ≤ sizeLine) : addD (.tup u) (.tup v) S = .ok (.tup (u ++ v)) S := by
  unfold addD
  exact if_pos h
theorem addD_str {u v : Str} (h : u.length + v.length ≤ sizeLine) : addD (.str u) (.str v) S = .ok (.str (u ++ v)) S := by
  unfold addD
  exact if_pos h
theorem addD_pl {u v : List D} (h : u.length + v.length ≤ sizeLine) : addD (.pl u) (.pl v) S = .ok (.pl (u ++ v)) S := by
  unfold addD
  exact if_pos h
@[simp] theorem slD_tup {u : List D} {lo hi : Option Int} : slD (.tup u) lo hi S = .ok (.tup (MM.cutD u lo hi)) S := rfl
@[simp] theorem slD_pl {u : List D} {lo hi : Option Int} : slD (.pl u) lo hi S = .ok (.pl (MM.cutD u lo hi)) S := rfl
theorem mulD_l (h : -(2 ^ 64) < i ∧ i < 2 ^ 64) : mulD (.int i) (.int j) S = .ok (.int (i * j)) S := by
  unfold mulD
  exact if_pos (.inl h)
theorem mulD_r (h : -(2 ^ 64) < j ∧ j < 2 ^ 64) : mulD (.int i) (.int j) S = .ok (.int (i * j)) S := by
  unfold mulD
  exact if_pos (.inr h)
theorem modD_pos (h : 0 < j) : modD (.int i) (.int j) S = .ok (.int (i % j)) S := by
  unfold modD
  exact if_pos h
theorem fdivD_pos (h : 0 < j) (h2 : j < 2 ^ 200) : fdivD (.int i) (.int j) S = .ok (.int (i / j)) S := by
  unfold fdivD
  have hw : CDivW i j := wide_div (b := 200) h (by omega) (by decide) (by decide)
  exact if_pos hw
theorem powD_pos (h : 0 ≤ j) (h1 : j ≤ 1000000) (h2 : i.natAbs < 2 ^ 64) : powD (.int i) (.int j) S = .ok (.int (i ^ j.toNat)) S := by
  unfold powD
  exact if_pos ⟨h, h1, h2⟩
@[simp] theorem ltD_int : ltD (.int i) (.int j) S = .ok (.bl (decide (i < j))) S := rfl
@[simp] theorem gtD_int : gtD (.int i) (.int j) S = .ok (.bl (decide (j < i))) S := rfl
@[simp] theorem eqD_int : eqD (.int i) (.int j) S = .ok (.bl (decide (i = j))) S := rfl
@[simp] theorem neD_int : neD (.int i) (.int j) S = .ok (.bl (!decide (i = j))) S := rfl
@[simp] theorem eqD_bl {u v : Bool} : eqD (.bl u) (.bl v) S = .ok (.bl (decide (u = v))) S := rfl
@[simp] theorem neD_bl {u v : Bool} : neD (.bl u) (.bl v) S = .ok (.bl (!decide (u = v))) S := rfl
@[simp] theorem eqD_str {u v : Str} : eqD (.str u) (.str v) S = .ok (.bl (decide (u = v))) S := rfl
@[simp] theorem neD_str {u v : Str} : neD (.str u) (.str v) S = .ok (.bl (!decide (u = v))) S := rfl
@[simp] theorem absD_int : absD [.int i] S = .ok (.int (if i < 0 then -i else i)) S := rfl
@[simp] theorem maxD_int : maxD [.int i, .int j] S = .ok (.int (if j > i then j else i)) S := rfl
@[simp] theorem minD_int : minD [.int i, .int j] S = .ok (.int (if j < i then j else i)) S := rfl
@[simp] theorem lenD_tup {u : List D} : lenD [.tup u] S = .ok (.int u.length) S := rfl
@[simp] theorem lenD_scr {u : List Int} : lenD [.scr u] S = .ok (.int u.length) S := rfl
@[simp] theorem ixD_tup {u : List D} : ixD (.tup u) (.int i) S = (match atI u i with | some d => .ok d S | none => .no) := rfl
@[simp] theorem ixD_pl {u : List D} : ixD (.pl u) (.int i) S = (match atI u i with | some d => .ok d S | none => .no) := rfl
@[simp] theorem lenD_pl {u : List D} : lenD [.pl u] S = .ok (.int u.length) S := rfl
@[simp] theorem ixD_scr {u : List Int} : ixD (.scr u) (.int i) S = (match atI u i with | some d => .ok (.int d) S | none => .no) := rfl
theorem ixD_ref {k : Nat} {fz : Bool} {u : List D} (h : S[k]? = some (.lst fz u)) : ixD (.ref k) (.int i) S = (match atI u i with | some d => .ok d S | none => .no) := by
  unfold ixD
  simp only [h]
  all_goals (cases atI u i <;> rfl)
@[simp] theorem tupleD_ev {u : List D} : tupleD u S = .ok (.tup u) S := rfl
end
/-- str(i) -/
def strI (i : Int) : Str := Str.ofString (toString i)
theorem strD_int {i : Int} {S : Sto} (h : i.natAbs.log2 < 1920) : strD [.int i] S = .ok (.str (strI i)) S := by
  unfold strD
  exact if_pos h
/-- ints, texts as data; simp leaves them as they are -/
def iD (l : List Int) : List D := l.map D.int
@[simp] theorem iD_length (l : List Int) : (iD l).length = l.length := by simp [iD]
@[simp] theorem iD_nil : iD [] = [] := rfl
theorem sizeL : sizeLine = 16777216 := sizeLine_eq

/-- a for: what holds between the turns; what is wanted behind it -/
theorem for_post {g : Sto → Prop} {tg : MG} {b : MS} {Post : RS → Prop} (Inv : Nat → Fr → Sto → Prop) : ∀ (items : List D) (k : Nat) (ρ : Fr) (S : Sto), Inv k ρ S → (∀ i ρ S, Inv i ρ S → g S) →
    (∀ ρ S, Inv (k + items.length) ρ S → Post (.nx ρ S)) →
    (∀ (i : Nat) d ρ S, items[i]? = some d → Inv (k + i) ρ S → ∃ ρ1, tg d ρ = some ρ1 ∧ match b ρ1 S with
      | .nx ρ' S' => Inv (k + i + 1) ρ' S'
      | .ct ρ' S' => Inv (k + i + 1) ρ' S'
      | .bk ρ' S' => Post (.nx ρ' S')
      | .rt d S' => Post (.rt d S')
      | .ex c ρ' S' => Post (.ex c ρ' S')
      | .no => False) → Post (forD g tg b items ρ S)
  | [], k, ρ, S, h0, hg, he, hs => by
    unfold forD
    rw [if_pos (hg k ρ S h0)]
    exact he ρ S (by simpa using h0)
  | d :: ds, k, ρ, S, h0, hg, he, hs => by
    unfold forD
    rw [if_pos (hg k ρ S h0)]
    obtain ⟨ρ1, e1, h1⟩ := hs 0 d ρ S rfl h0
    rw [e1]
    dsimp only
    have next : ∀ ρ' S', Inv (k + 1) ρ' S' → Post (forD g tg b ds ρ' S') := fun ρ' S' h' =>
      for_post Inv ds (k + 1) ρ' S' h' hg (fun ρ S h => he ρ S (by rw [List.length_cons, Nat.add_comm ds.length 1, ← Nat.add_assoc]; exact h)) fun i d ρ S hi hI => by
        have := hs (i + 1) d ρ S (by simpa using hi) (by rw [show k + (i + 1) = k + 1 + i by omega]; exact hI)
        rw [show k + (i + 1) + 1 = k + 1 + i + 1 by omega] at this
        exact this
    cases hb : b ρ1 S with
    | nx ρ' S' => rw [hb] at h1; exact next ρ' S' h1
    | ct ρ' S' => rw [hb] at h1; exact next ρ' S' h1
    | bk ρ' S' => rw [hb] at h1; exact h1
    | rt d S' => rw [hb] at h1; exact h1
    | ex c ρ' S' => rw [hb] at h1; exact h1
    | no => rw [hb] at h1; exact h1.elim
/-- a for that runs through -/
theorem for_run {g : Sto → Prop} {tg : MG} {b : MS} (Inv : Nat → Fr → Sto → Prop) {items : List D} {ρ : Fr} {S : Sto} (h0 : Inv 0 ρ S) (hg : ∀ i ρ S, Inv i ρ S → g S)
    (hs : ∀ (i : Nat) d ρ S, items[i]? = some d → Inv i ρ S → ∃ ρ1, tg d ρ = some ρ1 ∧ ∃ ρ' S', b ρ1 S = .nx ρ' S' ∧ Inv (i + 1) ρ' S') : ∃ ρ' S', forD g tg b items ρ S = .nx ρ' S' ∧ Inv items.length ρ' S' := by
  refine for_post (Post := fun r => ∃ ρ' S', r = .nx ρ' S' ∧ Inv items.length ρ' S') Inv items 0 ρ S h0 hg (fun ρ S h => ⟨ρ, S, rfl, by simpa using h⟩) fun i d ρ S hd hI => ?_
  rw [Nat.zero_add] at hI ⊢
  obtain ⟨ρ1, e1, ρ', S', e2, h2⟩ := hs i d ρ S hd hI
  exact ⟨ρ1, e1, by rw [e2]; exact h2⟩
/-- a while -/
theorem wh_post {t : MT} {b : MS} {Post : RS → Prop} (Inv : Fr → Sto → Prop) (μ : Fr → Sto → Nat)
    (hs : ∀ ρ S, Inv ρ S → ∃ x S1, t ρ S = .ok x S1 ∧ if x = true then (match b ρ S1 with
      | .nx ρ' S' => Inv ρ' S' ∧ μ ρ' S' < μ ρ S
      | .ct ρ' S' => Inv ρ' S' ∧ μ ρ' S' < μ ρ S
      | .bk ρ' S' => Post (.nx ρ' S')
      | .rt d S' => Post (.rt d S')
      | .ex c ρ' S' => Post (.ex c ρ' S')
      | .no => False) else Post (.nx ρ S1)) : ∀ (n : Nat) (ρ : Fr) (S : Sto), Inv ρ S → μ ρ S < n → Post (whN t b n ρ S)
  | 0, ρ, S, _, hm => absurd hm (Nat.not_lt_zero _)
  | n + 1, ρ, S, hI, hm => by
    obtain ⟨x, S1, e, h⟩ := hs ρ S hI
    unfold whN
    rw [e, of_ok]
    cases x with
    | false => simpa using h
    | true =>
      simp only [if_true] at h ⊢
      cases hb : b ρ S1 with
      | nx ρ' S' => rw [hb] at h; exact wh_post Inv μ hs n ρ' S' h.1 (by omega)
      | ct ρ' S' => rw [hb] at h; exact wh_post Inv μ hs n ρ' S' h.1 (by omega)
      | bk ρ' S' => rw [hb] at h; exact h
      | rt d S' => rw [hb] at h; exact h
      | ex c ρ' S' => rw [hb] at h; exact h
      | no => rw [hb] at h; exact h.elim
theorem while_post {t : MT} {b : MS} {Post : RS → Prop} (Inv : Fr → Sto → Prop) (μ : Fr → Sto → Nat)
    (hs : ∀ ρ S, Inv ρ S → ∃ x S1, t ρ S = .ok x S1 ∧ if x = true then (match b ρ S1 with
      | .nx ρ' S' => Inv ρ' S' ∧ μ ρ' S' < μ ρ S
      | .ct ρ' S' => Inv ρ' S' ∧ μ ρ' S' < μ ρ S
      | .bk ρ' S' => Post (.nx ρ' S')
      | .rt d S' => Post (.rt d S')
      | .ex c ρ' S' => Post (.ex c ρ' S')
      | .no => False) else Post (.nx ρ S1)) {ρ : Fr} {S : Sto} (h0 : Inv ρ S) (hm : μ ρ S < 2 ^ 64) : Post (sWhile t b ρ S) := by
  unfold sWhile
  exact wh_post Inv μ hs fuel ρ S h0 hm
theorem bools_map {α : Type} (f : α → Bool) : ∀ l : List α, bools (l.map fun x => D.bl (f x)) = some (l.map f)
  | [] => rfl
  | x :: r => by simp [bools, bools_map f r]
theorem txts_map {α : Type} (f : α → Str) : ∀ l : List α, txts (l.map fun x => D.str (f x)) = some (l.map f)
  | [] => rfl
  | x :: r => by simp [txts, txts_map f r]
theorem allD_map {α : Type} (f : α → Bool) (l : List α) (S : Sto) : allD (l.map fun x => D.bl (f x)) S = .ok (.bl (l.all f)) S := by
  unfold allD
  rw [bools_map]
  simp [List.all_map]
theorem anyD_map {α : Type} (f : α → Bool) (l : List α) (S : Sto) : anyD (l.map fun x => D.bl (f x)) S = .ok (.bl (l.any f)) S := by
  unfold anyD
  rw [bools_map]
  simp [List.any_map]
@[simp] theorem get_last (S : Sto) (o : O) : (S ++ [o])[S.length]? = some o := by simp
@[simp] theorem set_last (S : Sto) (o o' : O) : (S ++ [o]).set S.length o' = S ++ [o'] := by simp
theorem append_ev {S : Sto} {n : Nat} {xs : List D} {d : D} (h : S[n]? = some (.lst false xs)) (hl : xs.length < sizeLine) : appendD (.ref n) [d] S = .ok .non (S.set n (.lst false (xs ++ [d]))) := by
  unfold appendD
  simp [h, hl]
theorem extend_ev {S : Sto} {n : Nat} {xs l : List D} (h : S[n]? = some (.lst false xs)) (hl : xs.length + l.length ≤ sizeLine) : extendD (.ref n) l S = .ok .non (S.set n (.lst false (xs ++ l))) := by
  unfold extendD
  simp [h, hl]
theorem isLst_ev {S : Sto} {n : Nat} {fz : Bool} {xs : List D} (h : S[n]? = some (.lst fz xs)) : isLstD (.ref n) S = true := by
  unfold isLstD
  simp [h]
theorem setIx_ev {S : Sto} {n : Nat} {xs : List D} {d : D} {i : Int} {j : Nat} (h : S[n]? = some (.lst false xs)) (hj : ixN xs.length i = some j) : setIx (.ref n) (.int i) d S = some (S.set n (.lst false (xs.set j d))) := by
  unfold setIx
  simp [h, hj]
theorem atI_of {α : Type} {xs : List α} {i : Int} {j : Nat} {v : α} (e : i = (j : Int)) (h : xs[j]? = some v) : atI xs i = some v := by
  subst e
  exact atI_nat h
theorem bdL_iff {n : Nat} : ∀ {l : List D}, bdL n l ↔ ∀ d ∈ l, bdD n d
  | [] => by unfold bdL; simp
  | d :: r => by
    unfold bdL
    rw [bdL_iff]
    simp
@[simp] theorem bdD_int {n : Nat} {i : Int} : bdD n (.int i) := by unfold bdD; trivial
@[simp] theorem bdD_bl {n : Nat} {i : Bool} : bdD n (.bl i) := by unfold bdD; trivial
@[simp] theorem bdD_str {n : Nat} {i : Str} : bdD n (.str i) := by unfold bdD; trivial
@[simp] theorem bdD_non {n : Nat} : bdD n .non := by unfold bdD; trivial
@[simp] theorem bdD_scr {n : Nat} {i : List Int} : bdD n (.scr i) := by unfold bdD; trivial
@[simp] theorem bdD_tup {n : Nat} {l : List D} : bdD n (.tup l) ↔ bdL n l := by
  constructor
  · intro h; unfold bdD at h; exact h
  · intro h; unfold bdD; exact h
@[simp] theorem bdD_pl {n : Nat} {l : List D} : bdD n (.pl l) ↔ bdL n l := by
  constructor
  · intro h; unfold bdD at h; exact h
  · intro h; unfold bdD; exact h
@[simp] theorem bdD_ref {n m : Nat} : bdD n (.ref m) ↔ m < n := by
  constructor
  · intro h; unfold bdD at h; exact h
  · intro h; unfold bdD; exact h
@[simp] theorem bdL_nil {n : Nat} : bdL n [] := by unfold bdL; trivial
@[simp] theorem bdL_cons {n : Nat} {d : D} {l : List D} : bdL n (d :: l) ↔ bdD n d ∧ bdL n l := by
  constructor
  · intro h; unfold bdL at h; exact h
  · intro h; unfold bdL; exact h
@[simp] theorem bdL_iD {n : Nat} {l : List Int} : bdL n (iD l) := by
  rw [bdL_iff]
  intro d hd
  obtain ⟨i, _, rfl⟩ := List.mem_map.mp hd
  simp
mutual
theorem mapR_bd {g : Nat → Option D} {k : Nat} (hg : ∀ n, n < k → g n = some (.ref n)) : ∀ d, bdD k d → mapR g d = some d
  | .ref n, h => by unfold mapR; exact hg n (bdD_ref.mp h)
  | .tup l, h => by unfold mapR; rw [mapRL_bd hg l (bdD_tup.mp h)]; rfl
  | .pl l, h => by unfold mapR; rw [mapRL_bd hg l (bdD_pl.mp h)]; rfl
  | .non, _ => by unfold mapR; rfl
  | .bl _, _ => by unfold mapR; rfl
  | .int _, _ => by unfold mapR; rfl
  | .str _, _ => by unfold mapR; rfl
  | .scr _, _ => by unfold mapR; rfl
theorem mapRL_bd {g : Nat → Option D} {k : Nat} (hg : ∀ n, n < k → g n = some (.ref n)) : ∀ l, bdL k l → mapRL g l = some l
  | [], _ => by unfold mapRL; rfl
  | d :: r, h => by
    unfold mapRL
    rw [mapR_bd hg d (bdL_cons.mp h).1, mapRL_bd hg r (bdL_cons.mp h).2]
end
theorem rfz_low {T : Sto} {k f n : Nat} (h : n < k) : rfz T k f n = some (.ref n) := by
  cases f <;> (unfold rfz; exact if_pos h)
theorem rfzD_bd {T : Sto} {k : Nat} {d : D} (h : bdD k d) : rfzD T k d = some d := mapR_bd (fun _ h => rfz_low h) d h
theorem rfzD_new {T : Sto} {k n : Nat} {l : List D} {fz : Bool} (hn : k ≤ n) (h : T[n - k]? = some (.lst fz l)) (hl : bdL k l) : rfzD T k (.ref n) = some (.pl l) := by
  unfold rfzD mapR rfz
  rw [if_neg (by omega), h]
  show (mapRL _ l).map D.pl = _
  rw [mapRL_bd (fun _ h => rfz_low h) l hl]
  rfl
theorem Kept.refl {S : Sto} : Kept S S := fun _ _ h => .inl h
theorem Kept.trans {S S1 S2 : Sto} (h : Kept S S1) (g : Kept S1 S2) (hl : S1.length = S.length) : Kept S S2 := fun n o e => by
  rcases g n o e with q | q
  · exact h n o q
  · rw [hl] at q; exact .inr q
theorem Kept.set {S : Sto} {b : Nat} {fz : Bool} {l : List D} (h : bdL S.length l) : Kept S (S.set b (.lst fz l)) := fun n o e => by
  by_cases hb : b = n
  · subst hb
    have hl : b < S.length := by
      have := (List.getElem?_eq_some_iff.mp e).1
      simpa using this
    rw [List.getElem?_set_self hl] at e
    cases e
    exact .inr (show bdL S.length l from h)
  · rw [List.getElem?_set_ne hb] at e
    exact .inl e
theorem gc_ok {S S1 T : Sto} {d d' : D} (hl : S1.length = S.length) (hk : Kept S S1) (hr : rfzD T S.length d = some d') : gc S (.ok d (S1 ++ T)) = .ok d' S1 := by
  have h1 : (S1 ++ T).take S.length = S1 := by rw [← hl, List.take_left]
  have h2 : (S1 ++ T).drop S.length = T := by rw [← hl, List.drop_left]
  simp only [gc, h1, h2, hr]
  rw [if_pos ⟨by rw [h1]; exact hk, by simp; omega⟩]
/-- one new list, the answer -/
theorem gc_new {S S1 : Sto} {l : List D} {fz : Bool} {n : Nat} (hl : S1.length = S.length) (hk : Kept S S1) (hn : n = S.length) (hd : bdL S.length l) : gc S (.ok (.ref n) (S1 ++ [.lst fz l])) = .ok (.pl l) S1 :=
  gc_ok hl hk (rfzD_new (fz := fz) (by omega) (by rw [hn, Nat.sub_self]; rfl) hd)
@[simp] theorem gcF_ev {sp : FL} {ds : List D} {S : Sto} : gcF sp ds S = gc S (sp ds S) := rfl
def Nx (r : RS) (P : Fr → Sto → Prop) : Prop := ∃ ρ' S', r = .nx ρ' S' ∧ P ρ' S'
@[simp] theorem nx_nx {ρ : Fr} {S : Sto} {P : Fr → Sto → Prop} : Nx (.nx ρ S) P ↔ P ρ S := ⟨fun ⟨_, _, e, h⟩ => by cases e; exact h, fun h => ⟨_, _, rfl, h⟩⟩
/-- a for that runs through -/
theorem for_nx {g : Sto → Prop} {tg : MG} {b : MS} (Inv : Nat → Fr → Sto → Prop) {items : List D} {ρ : Fr} {S : Sto} (h0 : Inv 0 ρ S) (hg : ∀ i ρ S, Inv i ρ S → g S)
    (hs : ∀ (i : Nat) d ρ S, items[i]? = some d → Inv i ρ S → ∃ ρ1, tg d ρ = some ρ1 ∧ Nx (b ρ1 S) (Inv (i + 1))) : ∃ ρ' S', forD g tg b items ρ S = .nx ρ' S' ∧ Inv items.length ρ' S' :=
  for_run Inv h0 hg fun i d ρ S hd hI => hs i d ρ S hd hI
theorem rangeD_len {lo : Int} {n : Nat} : (rangeD lo n).length = n := by simp [rangeD]
theorem nx_of {r : RS} {P : Fr → Sto → Prop} (h : ∀ Q : Fr → Sto → Prop, (∀ ρ S, P ρ S → Q ρ S) → Nx r Q) : Nx r P := h P fun _ _ x => x
@[simp] theorem ite_okB {p : Prop} [Decidable p] {a b : Bool} {S : Sto} : (if p then (R.ok a S : R Bool) else R.ok b S) = R.ok (if p then a else b) S := by split <;> rfl
section
variable {α : Type} {x0 x1 x2 x3 x4 x5 : α} {l : List α}
@[simp] theorem atI_0 : atI (x0 :: l) 0 = some x0 := atI_nat (j := 0) rfl
@[simp] theorem atI_1 : atI (x0 :: x1 :: l) 1 = some x1 := atI_nat (j := 1) rfl
@[simp] theorem atI_2 : atI (x0 :: x1 :: x2 :: l) 2 = some x2 := atI_nat (j := 2) rfl
@[simp] theorem atI_3 : atI (x0 :: x1 :: x2 :: x3 :: l) 3 = some x3 := atI_nat (j := 3) rfl
@[simp] theorem atI_4 : atI (x0 :: x1 :: x2 :: x3 :: x4 :: l) 4 = some x4 := atI_nat (j := 4) rfl
@[simp] theorem atI_5 : atI (x0 :: x1 :: x2 :: x3 :: x4 :: x5 :: l) 5 = some x5 := atI_nat (j := 5) rfl
end
end MM

namespace MM
open PySem PySem.Spec PyProof.Rows L2
section
variable {X : Cx} {c : Cl} {W : WX} {o e : Expr} {mo me : ME} {pos apos : Pos}
end
end MM

namespace MM
open PySem PySem.Spec PyProof.Rows L2

theorem PE.or {X : Cx} {e : Expr} {t u : TE} (h : PE X e t) (g : PE X e u) : PE X e (fun σ H Q => t σ H Q ∨ u σ H Q) :=
  ⟨fun pins s σ H Q I q => q.elim (h.run pins s σ H Q I) (g.run pins s σ H Q I)⟩
theorem PS.or {X : Cx} {st : Stmt} {t u : TS} (h : PS X st t) (g : PS X st u) : PS X st (fun E σ H => t E σ H ∨ u E σ H) :=
  ⟨fun pins s σ H D I q => q.elim (h.run pins s σ H D I) (g.run pins s σ H D I)⟩
section
variable {X : Cx} {c : Cl} {W : WX} {e : Expr} {st : Stmt}
theorem ds_either {m1 m2 m : MS} (h1 : DS X c W st m1) (h2 : DS X c W st m2) (h : ∀ ρ S, m ρ S = m1 ρ S ∨ m ρ S = m2 ρ S ∨ m ρ S = .no) : DS X c W st m := by
  obtain ⟨t1, p1, h1⟩ := h1
  obtain ⟨t2, p2, h2⟩ := h2
  refine ⟨_, PS.or p1 p2, fun φ σ H ρ S E r f p => ?_⟩
  rcases h ρ S with q | q | q
  · rw [q] at p; exact .inl (h1 φ σ H ρ S E r f p)
  · rw [q] at p; exact .inr (h2 φ σ H ρ S E r f p)
  · rw [q] at p; exact False.elim p
theorem bin_either {f g h : F2} {a b : ME} (hs : ∀ x y S, h x y S = f x y S ∨ h x y S = g x y S) (ρ : Fr) (S : Sto) : eBin h a b ρ S = eBin f a b ρ S ∨ eBin h a b ρ S = eBin g a b ρ S ∨ eBin h a b ρ S = .no := by
  unfold eBin
  cases a ρ S with
  | ok x S1 =>
    dsimp only [R.bind]
    cases b ρ S1 with
    | ok y S2 =>
      dsimp only [R.bind]
      rcases hs x y S2 with q | q
      · exact .inl q
      · exact .inr (.inl q)
    | ex k S2 => exact .inl rfl
    | no => exact .inl rfl
  | ex k S1 => exact .inl rfl
  | no => exact .inl rfl
end

def keyD : D → Option Key
  | .int i => some (.inl i)
  | .str x => some (.inr x)
  | _ => none
def valD (l : List (Key × D)) (k : Key) : Option D := (l.find? fun kv => decide (kv.1 = k)).map (·.2)
def putD (l : List (Key × D)) (k : Key) (v : D) : List (Key × D) :=
  if (l.any fun kv => decide (kv.1 = k)) = true then l.map (fun kv => if kv.1 = k then (kv.1, v) else kv) else l ++ [(k, v)]
def dropD (l : List (Key × D)) (k : Key) : List (Key × D) := l.filter fun kv => decide (kv.1 ≠ k)
section
variable {K : PySem.W.Frag} {c : Cl} {φ : List Addr} {H : Hp} {S : Sto}
theorem key_rep {d : D} {v : V} {k : Key} (h : Rep K φ H d v) (e : keyD d = some k) : v = kV k := by
  cases d <;> first | (cases e; done) | skip
  · cases e; rw [h.int_]; rfl
  · cases e; rw [h.str_]; rfl
theorem RepKV.nil {κ : Type} : RepKV (κ := κ) K φ H [] [] := rfl
theorem RepKV.cons {κ : Type} {k : κ} {d : D} {v : V} {l : List (κ × D)} {vs : List (κ × V)} (h : Rep K φ H d v) (g : RepKV K φ H l vs) : RepKV K φ H ((k, d) :: l) ((k, v) :: vs) := ⟨v, vs, rfl, h, g⟩
theorem RepKV.length {κ : Type} : ∀ {l : List (κ × D)} {vs : List (κ × V)}, RepKV K φ H l vs → l.length = vs.length
  | [], _, h => by rw [show _ = [] from h]; rfl
  | d :: l, vs, h => by
    obtain ⟨v, r, rfl, _, g⟩ := h
    simp [RepKV.length g]
theorem RepKV.val {l : List (Key × D)} {vs : List (Key × V)} (g : RepKV K φ H l vs) (k : Key) : (∀ d, valD l k = some d → ∃ v, valV vs k = some v ∧ Rep K φ H d v) ∧ (valD l k = none → valV vs k = none) := by
  induction l generalizing vs with
  | nil => rw [show vs = [] from g]; exact ⟨fun d h => (nomatch h), fun _ => rfl⟩
  | cons d l ih =>
    obtain ⟨v, r, rfl, h1, h2⟩ := g
    obtain ⟨k', d'⟩ := d
    by_cases hk : k' = k
    · rw [valV_pos (p := (k', v)) hk]
      have : valD ((k', d') :: l) k = some d' := by simp [valD, List.find?_cons, hk]
      rw [this]
      exact ⟨fun d h => ⟨v, rfl, by cases h; exact h1⟩, fun h => (nomatch h)⟩
    · rw [valV_neg (p := (k', v)) hk]
      have : valD ((k', d') :: l) k = valD l k := by simp [valD, List.find?_cons, hk]
      rw [this]
      exact ih h2
theorem RepKV.any {l : List (Key × D)} {vs : List (Key × V)} (g : RepKV K φ H l vs) (k : Key) : (l.any fun kv => decide (kv.1 = k)) = vs.any fun kv => decide (kv.1 = k) := by
  induction l generalizing vs with
  | nil => rw [show vs = [] from g]; rfl
  | cons d l ih =>
    obtain ⟨v, r, rfl, h1, h2⟩ := g
    simp only [List.any_cons, ih h2]
theorem RepKV.put {l : List (Key × D)} {vs : List (Key × V)} {d : D} {v : V} (g : RepKV K φ H l vs) (k : Key) (h : Rep K φ H d v) : RepKV K φ H (putD l k d) (putK vs k v) := by
  unfold putD putK
  rw [g.any k]
  split
  · rename_i hany_
    clear hany_
    induction l generalizing vs with
    | nil => rw [show vs = [] from g]; exact RepKV.nil
    | cons x l ih =>
      obtain ⟨w, r, rfl, h1, h2⟩ := g
      obtain ⟨k', d'⟩ := x
      simp only [List.map_cons]
      by_cases hk : k' = k
      · rw [if_pos hk, if_pos hk]; exact RepKV.cons h (ih h2)
      · rw [if_neg hk, if_neg hk]; exact RepKV.cons h1 (ih h2)
  · rename_i hany_
    clear hany_
    induction l generalizing vs with
    | nil => rw [show vs = [] from g]; exact RepKV.cons h RepKV.nil
    | cons x l ih =>
      obtain ⟨w, r, rfl, h1, h2⟩ := g
      exact RepKV.cons h1 (ih h2)
theorem RepKV.drop {l : List (Key × D)} {vs : List (Key × V)} (g : RepKV K φ H l vs) (k : Key) : RepKV K φ H (dropD l k) (dropK vs k) := by
  unfold dropD dropK
  induction l generalizing vs with
  | nil => rw [show vs = [] from g]; exact RepKV.nil
  | cons x l ih =>
    obtain ⟨w, r, rfl, h1, h2⟩ := g
    obtain ⟨k', d'⟩ := x
    by_cases hk : k' = k
    · simp only [List.filter_cons, hk, ne_eq, not_true_eq_false, decide_false, Bool.false_eq_true, if_false]; exact ih h2
    · simp only [List.filter_cons, hk, ne_eq, not_false_eq_true, decide_true, if_true]; exact RepKV.cons h1 (ih h2)
/-- a dict of the store -/
theorem Rel.dct (r : Rel K c φ S H) {n : Nat} {a : Addr} {fz : Bool} {l : List (Key × D)} (h1 : φ[n]? = some a) (h2 : S[n]? = some (.dct fz l)) : ∃ vs, RepKV K φ H l vs ∧ Rd H a (.dK vs) ∧ (fz = false → H a = some (.dK vs)) ∧ (fz = true → ∃ ob, H a = some (.frz ob (.dK vs))) := by
  obtain ⟨vs, g, h⟩ := r.obj n a _ h1 h2
  refine ⟨vs, g, ?_, fun e => ?_, fun e => ?_⟩
  · split at h
    · exact .inr h
    · exact .inl h
  · subst e
    simpa using h
  · subst e
    simpa using h
theorem dget_of {a : Addr} {vs : List (Key × V)} {k : Key} (h : Rd H a (.dK vs)) : DGet H a (kV k) (valV vs k) := .inl ⟨vs, k, h, rfl, rfl⟩
end

section
variable {X : Cx} {c : Cl} {W : WX} {e o i : Expr} {st : Stmt} {me mo mi : ME} {pos apos cpos tpos : Pos}
def eDNew : ME := fun _ S => .ok (.ref S.length) (S ++ [.dct false []])
theorem de_dnew : DE X c W (.Dict [] [] pos) eDNew := by
  refine ⟨_, pe_dnewK, fun φ σ H ρ S Q r f p => fun q hq => ?_⟩
  obtain ⟨e, r'⟩ := r.alloc (u := .dK []) (o := .dct false []) hq ⟨[], rfl, by simp [upd_same]⟩
  exact p _ _ e r' _ (rep_ref (by rw [← r.len]; simp))
def isDR (x : D) (S : Sto) : Bool := match x with
  | .ref n => match S[n]? with
    | some (.dct _ _) => true
    | _ => false
  | _ => false
def dinB (x y : D) (S : Sto) : Option Bool := match keyD x, y with
  | some k, .ref n => match S[n]? with
    | some (.dct _ l) => some (valD l k).isSome
    | _ => none
  | _, _ => none
def dnotInD : F2 := fun x y S => match dinB x y S with
  | some b => .ok (.bl (!b)) S
  | none => .no
theorem din_of {K : PySem.W.Frag} {c : Cl} {φ : List Addr} {S : Sto} {H : Hp} {x y : D} {u v : V} {b : Bool} (r : Rel K c φ S H) (hx : Rep K φ H x u) (hy : Rep K φ H y v) (h : dinB x y S = some b) : ∃ a w, v = .ref a ∧ DGet H a u w ∧ w.isSome = b := by
  unfold dinB at h
  split at h
  · rename_i k n hk
    split at h
    · rename_i hl
      cases h
      obtain ⟨a, i1, rfl⟩ := hy.ref_
      obtain ⟨vs, g, rd, _⟩ := r.dct i1 hl
      rw [key_rep hx hk]
      refine ⟨a, _, rfl, dget_of rd, ?_⟩
      cases hv : valD _ k with
      | none => rw [(g.val k).2 hv]; rfl
      | some d =>
        obtain ⟨w, hw, _⟩ := (g.val k).1 d hv
        rw [hw]
        rfl
    · cases h
  · cases h
def notInAD : F2 := fun x y S => if isDR y S = true then dnotInD x y S else notInD x y S
def setKey (x i v : D) (S : Sto) : Option Sto := match x, keyD i with
  | .ref n, some k => match S[n]? with
    | some (.dct false l) => if l.length < sizeLine then some (S.set n (.dct false (putD l k v))) else none
    | _ => none
  | _, _ => none
def sDPutD (o i a : ME) : MS := fun ρ S => RS.of ρ (a ρ S) fun d S1 => RS.of ρ (o ρ S1) fun x S2 => RS.of ρ (i ρ S2) fun k S3 => match setKey x k d S3 with
  | some S4 => .nx ρ S4
  | none => .no
theorem ds_dput (hu : X.A.units + 1 < cLine) (he : DE X c W e me) (ho : DE X c W o mo) (hi : DE X c W i mi) (hs : swapsWith e (some (.Subscript o i tpos)) pos.line X.env = pure false := by rfl) : DS X c W (.Assign [.Subscript o i tpos] e pos) (sDPutD mo mi me) := by
  obtain ⟨t, p, h⟩ := he
  obtain ⟨to, po, ho⟩ := ho
  obtain ⟨ti, pi, hi⟩ := hi
  refine ⟨_, ps_dput hu po pi p hs, fun φ σ H ρ S E r f p => ?_⟩
  refine h φ σ H ρ S _ r f (PostS.expr r f p fun d S1 φ1 H1 e1 r1 f1 p1 => fun v hv => ?_)
  refine ho φ1 σ H1 ρ S1 _ r1 f1 (PostS.expr r1 f1 p1 fun x S2 φ2 H2 e2 r2 f2 p2 => fun xv hx => ?_)
  refine hi φ2 σ H2 ρ S2 _ r2 f2 (PostS.expr r2 f2 p2 fun k S3 φ3 H3 e3 r3 f3 p3 => fun kv hk => ?_)
  have hv3 := (hv.stay (e2.stays r1)).stay (e3.stays r2)
  have hx3 := hx.stay (e3.stays r2)
  unfold setKey at p3
  split at p3
  · rename_i S4 h4
    split at h4
    · rename_i n k' hk'
      split at h4
      · rename_i l hl
        split at h4
        · rename_i hz
          cases h4
          obtain ⟨a, i1, rfl⟩ := hx3.ref_
          obtain ⟨vs, g, _, s, _⟩ := r3.dct i1 hl
          rw [key_rep hk hk']
          refine ⟨a, _, rfl, DPut.k (s rfl) (by rw [← g.length]; exact hz), ?_⟩
          have st := stays_write (u := .dK (putK vs k' v)) r3 i1
          obtain ⟨e4, r4⟩ := r3.write (u := .dK (putK vs k' v)) i1 (o := .dct false (putD l k' d)) ⟨_, (g.put k' hv3).stay st, by simp [upd_same]⟩ (fun ob w q => by rw [s rfl] at q; cases q)
          exact p3 _ _ _ e4 r4 (f3.stay st)
        · cases h4
      · cases h4
    · cases h4
  · exact False.elim p3
def setAny (x i v : D) (S : Sto) : Option Sto := if isDR x S = true then setKey x i v S else setIx x i v S
def sSetA (o i a : ME) : MS := fun ρ S => RS.of ρ (a ρ S) fun d S1 => RS.of ρ (o ρ S1) fun x S2 => RS.of ρ (i ρ S2) fun k S3 => match setAny x k d S3 with
  | some S4 => .nx ρ S4
  | none => .no
theorem ds_setA (h1 : DS X c W st (sSetIx mo mi me)) (h2 : DS X c W st (sDPutD mo mi me)) : DS X c W st (sSetA mo mi me) := by
  refine ds_either h1 h2 fun ρ S => ?_
  unfold sSetA sSetIx sDPutD setAny
  cases me ρ S with
  | ok d S1 =>
    dsimp only [RS.of]
    cases mo ρ S1 with
    | ok x S2 =>
      dsimp only [RS.of]
      cases mi ρ S2 with
      | ok k S3 =>
        dsimp only [RS.of]
        by_cases hd : isDR x S3 = true
        · exact .inr (.inl (by rw [if_pos hd]))
        · exact .inl (by rw [if_neg hd] <;> rfl)
      | ex k S3 => exact .inl rfl
      | no => exact .inl rfl
    | ex k S2 => exact .inl rfl
    | no => exact .inl rfl
  | ex k S1 => exact .inl rfl
  | no => exact .inl rfl
theorem RepKV.get {κ : Type} {K : PySem.W.Frag} {φ : List Addr} {H : Hp} : ∀ {l : List (κ × D)} {vs : List (κ × V)}, RepKV K φ H l vs → ∀ {i : Nat} {k : κ} {d : D}, l[i]? = some (k, d) → ∃ v, vs[i]? = some (k, v) ∧ Rep K φ H d v
  | [], _, _, i, k, d, h => by simp at h
  | x :: l, vs, g, i, k, d, h => by
    obtain ⟨v, r, rfl, h1, h2⟩ := g
    cases i with
    | zero =>
      simp at h
      subst h
      exact ⟨v, rfl, h1⟩
    | succ i =>
      have h' : l[i]? = some (k, d) := by simpa using h
      obtain ⟨w, hw, rw'⟩ := RepKV.get h2 h'
      exact ⟨w, by simpa using hw, rw'⟩
section
variable {K : PySem.W.Frag} {φ0 : List Addr} {H0 : Hp} {S0 : Sto} {a : Addr} {od : Obj} {vs : List (Key × V)} {l : List (Key × D)}
end
end
end MM

namespace MM
open PySem PySem.Spec PyProof.Rows L2

section
variable {K : PySem.W.Frag} {c : Cl} {φ : List Addr} {H : Hp} {S : Sto}
theorem Rel.ins (r : Rel K c φ S H) {n : Nat} {a : Addr} {k : Nat} {fs : List (Str × D)} (h1 : φ[n]? = some a) (h2 : S[n]? = some (.ins k fs)) : ∃ dx vs, RepKV K φ H fs vs ∧ H a = some (.ins (c.cl k) dx vs) := r.obj n a _ h1 h2
end
section
variable {X : Cx} {c : Cl} {W : WX} {e o : Expr} {es : List Expr} {me mo : ME} {ml : ML} {pos apos tpos : Pos} {f : Str} {k : Nat}
end
section
variable {X : Cx} {CX : CXT} {k : Nat} {f C : Addr} {fd : FuncData} {ps : List Str} {sp : Sp} {E : L2.St → XK} {x m : Str} {p pos apos : Pos} {e o : Expr} {es : List Expr} {ta : TE} {t : TA}
end
section
variable {X : Cx} {c : Cl} {W : WX} {e o : Expr} {es : List Expr} {me mo : ME} {ml : ML} {pos apos p : Pos} {m x : Str} {k : Nat}
theorem PSs.imp {b : List Stmt} {t t' : TS} (h : PSs X b t) (hi : ∀ E σ H, t' E σ H → t E σ H) : PSs X b t' := ⟨fun pins s σ H D I q => h.run pins s σ H D I (hi D σ H q)⟩
end
end MM

namespace MM
open PySem PySem.Spec PyProof.Rows L2
section
variable {prog : Program} {w : World} {A : Around} {R : Result → Shared → Prop} {I : Addr} {fp wr : List Addr} {G : Array GenState → Array GenState → Prop} {n : Nat} {P : Nat → Value → Prop} {St : Nat → Shared → Prop}
end
section
variable {prog : Program} {w : World} {A : Around} {E : Value → Shared → Prop} {s : Shared}
end
def seqOf (S : Sto) : D → Option (List D)
  | .tup l => some l
  | d => lstOf S d
theorem seqOf_rd {K : PySem.W.Frag} {c : Cl} {φ : List Addr} {S : Sto} {H : Hp} {d : D} {x : V} {l : List D} (r : Rel K c φ S H) (hx : Rep K φ H d x) (h : seqOf S d = some l) : ∃ a vs, x = .ref a ∧ (SqL K H a vs ∨ SqT K H a vs) ∧ RepL K φ H l vs := by
  unfold seqOf at h
  split at h
  · cases h
    unfold Rep at hx
    obtain ⟨a, vs, rfl, s, g⟩ := hx
    exact ⟨a, vs, rfl, .inr s, g⟩
  · obtain ⟨a, vs, rfl, s, g⟩ := lstOf_rd r hx h
    exact ⟨a, vs, rfl, .inl (.inl s), g⟩
end MM

namespace MM
open PySem PySem.Spec PyProof.Rows L2
end MM

namespace MM
open PySem PySem.Spec PyProof.Rows L2
section
variable {X : Cx} {c : Cl} {W : WX} {e o i : Expr} {me mo mi : ME} {pos tpos : Pos}
end
section
variable {X : Cx} {c : Cl} {W : WX}
end
end MM

namespace MM
open PySem PySem.Spec PyProof.Rows L2
open PySem.Sem (wp)
def SubIt (t : Bool) (h : Heap) (a l : Addr) (i : Nat) : Prop := match t with
  | true => h.IsTupleIter a l i
  | false => h.IsListIter a l i
def SubSq (t : Bool) (h : Heap) (l : Addr) (xs : Array Value) : Prop := match t with
  | true => h.IsTuple l xs
  | false => h.IsList l xs
theorem SubIt.ob {t : Bool} {h : Heap} {a l : Addr} {i : Nat} (x : SubIt t h a l i) : ∃ o, h.get? a = some o ∧ ∀ v, o.data ≠ .cell v := by
  cases t
  · obtain ⟨o, ho, _, d⟩ := x; exact ⟨o, ho, fun v q => by rw [d] at q; cases q⟩
  · obtain ⟨o, ho, _, d⟩ := x; exact ⟨o, ho, fun v q => by rw [d] at q; cases q⟩
theorem SubSq.lt {t : Bool} {h : Heap} {l : Addr} {xs : Array Value} (x : SubSq t h l xs) : l < h.objs.size := by
  cases t
  · obtain ⟨o, ho, r⟩ := x; exact Heap.lt_size ho
  · obtain ⟨o, ho, r⟩ := x; exact Heap.lt_size ho
section
variable {prog : Program} {w : World} {A : Around} {E : Value → Shared → Prop} {s : Shared}
end
def SqX (K : PySem.W.Frag) (t : Bool) (H : Hp) (a : Addr) (xs : List V) : Prop := match t with
  | true => SqT K H a xs
  | false => SqL K H a xs
theorem SqX.sub {X : Cx} {pins : List (Addr × Obj)} {s : Shared} {σ : L2.St} {H : Hp} (I : Inv X pins σ H s) {t : Bool} {a : Addr} {xs : List V} (h : SqX X.K t H a xs) : ∃ its : List Value, Vals xs its ∧ SubSq t s.heap a its.toArray := by
  cases t
  · obtain ⟨its, r, p, _⟩ := I.list h; exact ⟨its, r, p.isList⟩
  · obtain ⟨its, r, p, _⟩ := I.tuple h; exact ⟨its, r, p⟩
theorem SqX.inj {X : Cx} {pins : List (Addr × Obj)} {s : Shared} {σ : L2.St} {H : Hp} (I : Inv X pins σ H s) {t : Bool} {a : Addr} {xs ys : List V} (h : SqX X.K t H a xs) (g : SqX X.K t H a ys) : xs = ys := by
  cases t
  · exact I.list_inj h g
  · exact I.tuple_inj h g
section
variable {prog : Program} {w : World} {A : Around} {E : Value → Shared → Prop} {s : Shared}
end
section
variable {prog : Program} {w : World} {A : Around} {E : Value → Shared → Prop} {s : Shared}
end
section
variable {K : PySem.W.Frag} {c : Cl} {φ0 : List Addr} {S0 : Sto} {H0 : Hp}
end

section
variable {K : PySem.W.Frag} {c : Cl} {φ0 : List Addr} {S0 : Sto} {H0 : Hp}
end
section
variable {K : PySem.W.Frag} {c : Cl} {φ0 : List Addr} {S0 : Sto} {H0 : Hp}
end
end MM

namespace MM
open PySem PySem.Spec PyProof.Rows L2
def insU (k : Int) : List Int → List Int
  | [] => [k]
  | a :: l => if k < a then k :: a :: l else if k = a then a :: l else a :: insU k l
def sortU (l : List Int) : List Int := l.foldr insU []
theorem insU_mem (k j : Int) : ∀ l : List Int, j ∈ insU k l ↔ j = k ∨ j ∈ l
  | [] => by simp [insU]
  | a :: l => by
    unfold insU
    split
    · simp
    · split
      · rename_i h
        subst h
        simp
      · rw [List.mem_cons, insU_mem k j l, List.mem_cons]
        constructor
        · rintro (h | h | h)
          · exact .inr (.inl h)
          · exact .inl h
          · exact .inr (.inr h)
        · rintro (h | h | h)
          · exact .inr (.inl h)
          · exact .inl h
          · exact .inr (.inr h)
theorem insU_srt (k : Int) : ∀ l : List Int, l.Pairwise (· < ·) → (insU k l).Pairwise (· < ·)
  | [], _ => by simp [insU]
  | a :: l, h => by
    obtain ⟨h1, h2⟩ := List.pairwise_cons.mp h
    unfold insU
    split
    · rename_i hk
      refine List.pairwise_cons.mpr ⟨fun x hx => ?_, h⟩
      rcases List.mem_cons.mp hx with rfl | hx
      · exact hk
      · have := h1 x hx; omega
    · split
      · exact h
      · refine List.pairwise_cons.mpr ⟨fun x hx => ?_, insU_srt k l h2⟩
        rcases (insU_mem k x l).mp hx with rfl | hx
        · omega
        · exact h1 x hx
theorem sortU_mem (j : Int) : ∀ l : List Int, j ∈ sortU l ↔ j ∈ l
  | [] => by simp [sortU]
  | a :: l => by
    show j ∈ insU a (sortU l) ↔ _
    rw [insU_mem, sortU_mem j l, List.mem_cons]
theorem sortU_srt : ∀ l : List Int, (sortU l).Pairwise (· < ·)
  | [] => List.Pairwise.nil
  | a :: l => insU_srt a _ (sortU_srt l)
theorem srt_uniq : ∀ {a b : List Int}, a.Pairwise (· < ·) → b.Pairwise (· < ·) → (∀ k, k ∈ a ↔ k ∈ b) → a = b
  | [], [], _, _, _ => rfl
  | [], y :: b, _, _, h => absurd ((h y).mpr List.mem_cons_self) (by simp)
  | x :: a, [], _, _, h => absurd ((h x).mp List.mem_cons_self) (by simp)
  | x :: a, y :: b, ha, hb, h => by
    obtain ⟨a1, a2⟩ := List.pairwise_cons.mp ha
    obtain ⟨b1, b2⟩ := List.pairwise_cons.mp hb
    have hxy : x = y := by
      have h1 := (h x).mp List.mem_cons_self
      have h2 := (h y).mpr List.mem_cons_self
      rcases List.mem_cons.mp h1 with e | e
      · exact e
      · rcases List.mem_cons.mp h2 with e2 | e2
        · exact e2.symm
        · have := a1 y e2
          have := b1 x e
          omega
    subst hxy
    rw [srt_uniq a2 b2 fun k => ?_]
    constructor
    · intro hk
      rcases List.mem_cons.mp ((h k).mp (List.mem_cons_of_mem _ hk)) with e | e
      · subst e; have := a1 k hk; omega
      · exact e
    · intro hk
      rcases List.mem_cons.mp ((h k).mpr (List.mem_cons_of_mem _ hk)) with e | e
      · subst e; have := b1 k hk; omega
      · exact e
abbrev setN0 (w : World) : Obj := { cls := .type "set", dict := none, data := .set #[] 0 (.fresh 0 0 (!w.params.followText "set-order")) }
section
variable {prog : Program} {w : World} {A : Around} {E : Value → Shared → Prop} {s : Shared}
set_option maxHeartbeats 3200000 in
theorem set_listI {l : Addr} {items : Array Value} (ns : List Int) {Q : Value → Shared → Prop} (hh : A.handled = none) (hl : s.heap.IsList l items) (hit : IntsAre items.toList ns) (hb : ns.length + 1 < scanBound)
    (h : ∀ (h' : Heap) (tk c : Nat), SetR w h' s.heap.objs.size (fun j => decide (j ∈ ns)) c → c ≤ ns.length → (∀ b o, s.heap.get? b = some o → h'.get? b = some o) → Q (.ref s.heap.objs.size) { s with heap := h', toks := tk }) :
    wpAny (model prog w) A (call (.type "set") [.ref l]) Q E s := by
  have hisz : items.size = ns.length := by have q := IntsAre.length hit; rw [Array.length_toList] at q; exact q
  obtain ⟨c, tl, hmro⟩ := PySem.F.called_set.mro; have hmade := PySem.F.called_set.made; have hsub := PySem.F.called_set.sub
  refine wpAny_call (codeAny_of_tree ?_); show wpAny _ _ (callAny (.type "set") _) _ _ _
  refine wpAny_pure ⟨Code.quiet_builtin _ (by decide +kernel), codeAny_builtin PySem.F.entry_type_call ?_⟩; rw [Around.under_plain (weight_type_call_type "set" [.ref l] []) rfl]
  have h1 := PySem.F.called_set.notType; have h2 := PySem.F.called_set.canCreate; have hct := PySem.F.typeCall_set_1 (.ref l)
  repeat (any_goals (first | assumption | wp_step))
  refine codeAny_mono (code_set_led1 (.ref l) (E := E) (Q₁ := fun obj s₁ => obj = .ref s.heap.objs.size ∧ s₁ = { s with heap := s.heap.push (setN0 w) }) ⟨rfl, rfl⟩) fun r s₁ hr => ?_
  cases r with
  | error e => exact hr
  | ok fl =>
    cases fl with
    | ret obj =>
      obtain ⟨rfl, rfl⟩ := hr
      have hS : (s.heap.push (setN0 w)).get? s.heap.objs.size = some (setN0 w) := Heap.get?_push_size _ rfl
      have hT : Shared.TypeIs { s with heap := s.heap.push (setN0 w) } (.ref s.heap.objs.size) "set" := ⟨_, hS, rfl⟩
      have hli := PySem.F.called_set.init.lookup; have hbi := PySem.F.called_set.init.bind (.ref s.heap.objs.size)
      repeat (any_goals (first | assumption | wp_step))
      refine codeAny_mono (codeAny_call_builtin (R := wants (fun r s₂ => r = .none ∧ ∃ h' tk c, s₂ = { s with heap := h', toks := tk } ∧ SetR w h' s.heap.objs.size (fun j => decide (j ∈ ns)) c ∧ c ≤ ns.length ∧ (∀ b o, s.heap.get? b = some o → h'.get? b = some o)) E) PySem.F.called_set.init.plain PySem.F.entry_set_init (check_set_init_1 hT ?_)) fun r₂ s₂ hr₂ => ?_
      · obtain ⟨⟨ocls, odict, odata, oslots⟩, hol, hcl, nl, hdl⟩ := hl
        simp only at hcl hdl; subst hcl hdl
        have hol' : (s.heap.push (setN0 w)).get? l = some { cls := .type "list", dict := odict, data := .seq items nl, slots := oslots } := Heap.get?_push_of_some _ hol
        have hsls := PySem.F.sub_list_set; have hslf := PySem.F.sub_list_frozenset; have hne : (Value.type "list" == Value.type "dict") = false := by decide
        have hl1 : (s.heap.push (setN0 w)).IsList l items := ⟨_, hol', rfl, nl, rfl⟩
        unfold Builtin.«set.__init__» noKeywords Builtin.Frozenset.updateFrom; generalize hPI : pyIter = PI
        wp_walk
        subst hPI; refine wpAny_pyIter_list hl1 (wpAny_bind (wpAny_runValue ?_))
        have hlS : l < s.heap.objs.size := Heap.lt_size hol
        have hh3 : A.in1.in1.in1.handled = none := by simp [hh]
        have hneI : l ≠ (s.heap.push (setN0 w)).objs.size := by rw [Heap.size_push]; exact Nat.ne_of_lt (Nat.lt_succ_of_lt hlS)
        have out : s.heap.objs.size ∉ [(s.heap.push (setN0 w)).objs.size, l] := by
          rw [Heap.size_push]; intro m; rcases List.mem_cons.mp m with z | z; · exact absurd z (Nat.ne_of_lt (Nat.lt_succ_self _))
          · exact absurd (List.mem_singleton.mp z) (Nat.ne_of_gt hlS)
        have hval : ∀ (i : Nat) (v : Value), items[i]? = some v → ∃ k t, ns[i]? = some k ∧ v = .int k t := fun i v hv => by
          have hi : i < ns.length := by rw [← hisz]; exact (Array.getElem?_eq_some_iff.mp hv).1
          obtain ⟨t, e⟩ := PyProof.Rows.IntsAre.int_at hit i v (by rw [Array.getElem?_toList]; exact hv)
          refine ⟨ns[i], t, List.getElem?_eq_getElem hi, ?_⟩; rw [e, List.getD_eq_getElem?_getD, List.getElem?_eq_getElem hi] <;> rfl
        refine set_update_ints ((Walks.list hh3 _ l hneI items).toS) s.heap.objs.size out ns hisz hb hval (items.size - 0) 0 _ (by omega) (Nat.zero_le _) ⟨⟨_, Heap.get?_push_size _ rfl, rfl, rfl⟩, (hl1.push _)⟩ ?z0 ?zR
        case z0 =>
          have hget : ((s.heap.push (setN0 w)).push { cls := .type "list_iterator", data := .fields #[.ref l, .int 0 0] }).get? s.heap.objs.size = some (setN0 w) := Heap.get?_push_of_some _ hS
          exact ⟨0, Nat.le_refl 0, setR_new_at hget⟩
        case zR =>
          rintro ⟨h', g', d', tk', os'⟩ c' hm hc' hS'
          obtain rfl : g' = s.gens := hm.gens; obtain rfl : d' = s.drawn := hm.drawn; obtain rfl : os' = s.os := hm.os
          show wpAny _ _ _ _ _ _; refine wpAny_pure ?_; show wpAny _ _ (ret Value.none) _ _ _
          rw [hisz] at hc'; refine wpAny_pure ⟨rfl, h', tk', c', rfl, hS', hc', fun b o e => hm.heap b o ?_ (Heap.get?_push_of_some _ (Heap.get?_push_of_some _ e))⟩
          have hb0 := Heap.lt_size e; rw [Heap.size_push]; intro m; rcases List.mem_cons.mp m with z | z; · exact absurd z (Nat.ne_of_lt hb0)
          · exact absurd (List.mem_singleton.mp z) (Nat.ne_of_lt (Nat.lt_succ_of_lt hb0))
      · cases r₂ with
        | error e => exact hr₂
        | ok fl₂ =>
          cases fl₂ <;> first | exact hr₂.elim | skip
          obtain ⟨rfl, h', tk, c', rfl, hS', hc', hk'⟩ := hr₂
          repeat (any_goals (first | assumption | wp_step))
          exact h _ _ _ hS' hc' hk'
    | _ => exact hr.elim
end
def tSortSet (K : PySem.W.Frag) (ta : TE) : TE := fun σ H Q => ta σ H fun x H1 => ∃ (l : Addr) (ns : List Int), x = .ref l ∧ (SqL K H1 l (ns.map V.int) ∨ SqT K H1 l (ns.map V.int)) ∧ ns.length < 64 ∧ ∀ p, H1 p = none → Q (.ref p) (upd H1 p (.lst ((sortU ns).map V.int)))
theorem pe_sortSet {X : Cx} {a : Expr} {ta : TE} {p p2 q pos : Pos} (hg : Gl X "sorted") (hm : X.mg "sorted" = none) (hg2 : Gl X "set") (hm2 : X.mg "set" = none) (ha : PE X a ta) (hc : X.calm = true) (na : starEach [a] X.env = (false, eval a X.env) :: starEach [] X.env := by rfl) :
    PE X (.Call (.Name "sorted" p) [.Call (.Name "set" p2) [a] [] q] [] pos) (tSortSet X.K ta) := ⟨fun pins s σ H Q I h => by
  refine Call_ (ld_blt I hg hm PyProof.Rows.boot_sorted (PyProof.Rows.callWith_builtin1 (PyProof.Rows.args_cons ?_ rfl) rfl rfl))
  refine Call_ (ld_blt I hg2 hm2 boot_set (PyProof.Rows.callWith_type1 (PyProof.Rows.args_cons (thn (ha.run pins s σ H _ I h) fun v s1 ⟨x, H1, I1, r1, q1⟩ => PyProof.Rows.args_nil ?_) na) na rfl))
  obtain ⟨l, ns, rfl, hq, hl, q1⟩ := q1
  cases r1
  have key : ∀ (h' : Heap) (tk c : Nat), SetR X.w h' s1.heap.objs.size (fun j => decide (j ∈ ns)) c → c ≤ ns.length → (∀ b o, s1.heap.get? b = some o → h'.get? b = some o) → wpAny (model X.prog X.w) X.A (call (.builtin "sorted") [.ref s1.heap.objs.size]) (EP X pins σ Q) X.xe { s1 with heap := h', toks := tk } := by
    intro h' tk c R hcn hk
    have I2 : Inv X pins σ H1 { s1 with heap := h', toks := tk } := I1.kept hk
    have R2 : SetR X.w (Shared.heap { s1 with heap := h', toks := tk }) s1.heap.objs.size (fun j => decide (j ∈ ns)) c := R
    generalize ({ s1 with heap := h', toks := tk } : Shared) = s2 at I2 R2 ⊢
    refine sorted_set R2 (I2.ok.hd hc) (by omega) fun s' p out c ns' k g o hp hg hi hs hm hl => ?_
    have hsu : ns' = sortU ns := srt_uniq hs (sortU_srt ns) fun j => by rw [hm, sortU_mem]; simp
    have hlen : ((sortU ns).map V.int).length ≤ sizeLine := by rw [← hsu, List.length_map, hl, sizeLine_eq]; omega
    rw [hsu] at hi
    have hn : H1 p = none := I2.hok.fresh hp
    have J : Inv X pins σ (upd H1 p (.lst ((sortU ns).map V.int))) { s2 with heap := s'.heap, gens := s'.gens, drawn := s'.drawn, toks := s'.toks } :=
      I2.call (ch := []) (Un.laid k hp hn) (I2.hok.laid k hp ⟨hlen, out.toList, c, vals_of_ints hi, hg⟩) (by rw [g]; exact I2.bare) (fun _ z => nomatch z)
    have e : s' = { s2 with heap := s'.heap, gens := s'.gens, drawn := s'.drawn, toks := s'.toks } := by
      obtain ⟨x1, x2, x3, x4, x5⟩ := s'
      cases o
      rfl
    rw [e]
    exact ⟨.ref p, _, J, rfl, q1 p hn⟩
  rcases hq with hq | hq
  · obtain ⟨its, r, pl, hz⟩ := I1.list hq
    exact set_listI ns (I1.ok.hd hc) pl.isList (by simpa using ints_of_vals r) (by unfold scanBound; omega) fun h' tk c R hcn hk => PyProof.Rows.args_nil (key h' tk c R hcn hk)
  · obtain ⟨its, r, pl, hz⟩ := I1.tuple hq
    exact call_set_tupI ns (I1.ok.hd hc) (show s1.heap.IsTuple l its.toArray from pl) (by simpa using ints_of_vals r) (by unfold scanBound; omega) fun h' tk c R hcn hk => PyProof.Rows.args_nil (key h' tk c R hcn hk)⟩
/-- sorted(set(t)), t a tuple or a list -/
def lSortSet (a : ME) : ML := fun ρ S => (a ρ S).bind fun d S1 => match seqOf S1 d with
  | some l => (match intsD l with
    | some ns => if ns.length < 64 then .ok ((sortU ns).map D.int) S1 else .no
    | none => .no)
  | none => .no
theorem rep_ints {K : PySem.W.Frag} {φ : List Addr} {H : Hp} : ∀ l : List Int, RepL K φ H (l.map D.int) (l.map V.int)
  | [] => RepL.nil
  | i :: l => RepL.cons rep_int (rep_ints l)
theorem dn_sortSet {X : Cx} {c : Cl} {W : WX} {a : Expr} {ma : ME} {p p2 q pos : Pos} (hg : Gl X "sorted") (hm : X.mg "sorted" = none) (hg2 : Gl X "set") (hm2 : X.mg "set" = none) (hc : X.calm = true) (ha : DE X c W a ma) (na : starEach [a] X.env = (false, eval a X.env) :: starEach [] X.env := by rfl) : DN X c W (.Call (.Name "sorted" p) [.Call (.Name "set" p2) [a] [] q] [] pos) (lSortSet ma) := by
  obtain ⟨ta, pa, ha⟩ := ha
  refine ⟨_, pe_sortSet hg hm hg2 hm2 pa hc na, fun φ σ H ρ S Q r f p => ?_⟩
  refine ha φ σ H ρ S _ r f (PostW.elim p fun d S1 φ1 H1 e1 r1 p1 => fun x hx => ?_)
  split at p1
  · rename_i l hl
    split at p1
    · rename_i ns hns
      split at p1
      · rename_i hz
        obtain ⟨b, vs, rfl, s, g⟩ := seqOf_rd r1 hx hl
        rw [ints_of g hns] at s
        refine ⟨b, ns, rfl, s, hz, fun q hq => ?_⟩
        obtain ⟨e2, r2⟩ := r1.fresh (u := .lst ((sortU ns).map V.int)) hq
        exact p1 φ1 _ e2 r2 q _ (e1.back r1 hq) upd_same (r1.free hq) (rep_ints _)
      · exact False.elim p1
    · exact False.elim p1
  · exact False.elim p1
end MM

namespace MM
open PySem PySem.Spec PyProof.Rows L2
theorem PT.or {X : Cx} {e : Expr} {t u : TT} (h : PT X e t) (g : PT X e u) : PT X e (fun σ H Q => t σ H Q ∨ u σ H Q) :=
  ⟨fun pins s σ H Q I q => q.elim (h.run pins s σ H Q I) (g.run pins s σ H Q I)⟩
section
variable {X : Cx} {c : Cl} {W : WX} {e i o : Expr} {mi mo : ME}
theorem dt_either {m1 m2 m : MT} (h1 : DT X c W e m1) (h2 : DT X c W e m2) (h : ∀ ρ S, m ρ S = m1 ρ S ∨ m ρ S = m2 ρ S ∨ m ρ S = .no) : DT X c W e m := by
  obtain ⟨t1, p1, h1⟩ := h1
  obtain ⟨t2, p2, h2⟩ := h2
  refine ⟨_, PT.or p1 p2, fun φ σ H ρ S Q r f p => ?_⟩
  rcases h ρ S with q | q | q
  · rw [q] at p; exact .inl (h1 φ σ H ρ S Q r f p)
  · rw [q] at p; exact .inr (h2 φ σ H ρ S Q r f p)
  · rw [q] at p; exact False.elim p
theorem dt_dnotin (hu : X.A.units + 1 < cLine) (hi : DE X c W i mi) (ho : DE X c W o mo) (hm : behindInMarks .NotIn o = false := by rfl) : DT X c W (.Compare i [.NotIn] [o] pos) (tV (eBin dnotInD mi mo)) := by
  obtain ⟨to, po, ho⟩ := ho
  obtain ⟨ti, pi, hi⟩ := hi
  refine dt_of (pt_cmp (pc_dnotin hu pi po) hm) fun φ σ H ρ S Q r f p => ?_
  refine hi φ σ H ρ S _ r f (PostW.elim p fun d S1 φ1 H1 e1 r1 p1 => fun x hx => ?_)
  refine ho φ1 σ H1 ρ S1 _ r1 (f.stay (e1.stays r)) (PostW.elim p1 fun d2 S2 φ2 H2 e2 r2 p2 => fun y hy => ?_)
  unfold dnotInD at p2
  split at p2
  · rename_i b hb
    obtain ⟨a, w, rfl, g, hw⟩ := din_of r2 (hx.stay (e2.stays r1)) hy hb
    exact ⟨a, w, rfl, g, PostW.here r2 p2 _ (by rw [hw]; exact rep_bl)⟩
  · exact False.elim p2
theorem tV_either {m1 m2 m : ME} (h : ∀ ρ S, m ρ S = m1 ρ S ∨ m ρ S = m2 ρ S ∨ m ρ S = .no) (ρ : Fr) (S : Sto) : tV m ρ S = tV m1 ρ S ∨ tV m ρ S = tV m2 ρ S ∨ tV m ρ S = .no := by
  unfold tV
  rcases h ρ S with q | q | q
  · left; rw [q]
  · right; left; rw [q]
  · right; right; rw [q]; rfl
theorem dt_notInA (h1 : DT X c W (.Compare i [.NotIn] [o] pos) (tV (eBin notInD mi mo))) (h2 : DT X c W (.Compare i [.NotIn] [o] pos) (tV (eBin dnotInD mi mo))) : DT X c W (.Compare i [.NotIn] [o] pos) (tV (eBin notInAD mi mo)) :=
  dt_either h1 h2 fun ρ S => tV_either (fun ρ S => bin_either (fun x y S => by unfold notInAD; split <;> simp) ρ S) ρ S
end
end MM

namespace MM
open PySem PySem.Spec PyProof.Rows L2
section
variable {prog : Program} {w : World} {A : Around} {E : Value → Shared → Prop} {s : Shared}
end
end MM

namespace MM
open PySem PySem.Spec PyProof.Rows L2
def strLt (a b : Str) : Bool := decide (a.cps.toList < b.cps.toList)
end MM

namespace MM
open PySem PySem.Spec PyProof.Rows L2
def insB {α : Type} (lt : α → α → Bool) (k : α) : List α → List α
  | [] => [k]
  | a :: l => if lt a k then a :: insB lt k l else k :: a :: l
def sortB {α : Type} (lt : α → α → Bool) (l : List α) : List α := l.foldr (insB lt) []
theorem insB_perm {α : Type} (lt : α → α → Bool) (k : α) : ∀ l : List α, (insB lt k l).Perm (k :: l)
  | [] => List.Perm.refl _
  | a :: l => by
    unfold insB
    split
    · exact ((insB_perm lt k l).cons a).trans (List.Perm.swap k a l)
    · exact List.Perm.refl _
theorem sortB_perm {α : Type} (lt : α → α → Bool) : ∀ l : List α, (sortB lt l).Perm l
  | [] => List.Perm.refl _
  | a :: l => (insB_perm lt a _).trans ((sortB_perm lt l).cons a)
/-- a strict order by which all unlike things stand -/
structure LinB {α : Type} (lt : α → α → Bool) : Prop where
  asym : ∀ a b, lt a b = true → lt b a = false
  trans : ∀ a b c, lt a b = true → lt b c = true → lt a c = true
  eq : ∀ a b, lt a b = false → lt b a = false → a = b
theorem LinB.ntrans {α : Type} {lt : α → α → Bool} (h : LinB lt) {a b c : α} (h1 : lt b a = false) (h2 : lt c b = false) : lt c a = false := by
  cases hq : lt c a with
  | false => rfl
  | true =>
    cases hb : lt b c with
    | true => have := h.trans b c a hb hq; rw [h1] at this; cases this
    | false =>
      have e := h.eq b c hb h2
      subst e
      rw [h1] at hq; cases hq
theorem insB_srt {α : Type} {lt : α → α → Bool} (h : LinB lt) (k : α) : ∀ l : List α, l.Pairwise (fun a b => lt b a = false) → (insB lt k l).Pairwise (fun a b => lt b a = false)
  | [], _ => by simp [insB]
  | a :: l, hp => by
    obtain ⟨h1, h2⟩ := List.pairwise_cons.mp hp
    unfold insB
    split
    · rename_i hl
      refine List.pairwise_cons.mpr ⟨fun x hx => ?_, insB_srt h k l h2⟩
      rcases List.mem_cons.mp ((insB_perm lt k l).mem_iff.mp hx) with rfl | hx
      · exact h.asym _ _ hl
      · exact h1 x hx
    · rename_i hl
      have hl : lt a k = false := by simpa using hl
      refine List.pairwise_cons.mpr ⟨fun x hx => ?_, hp⟩
      rcases List.mem_cons.mp hx with rfl | hx
      · exact hl
      · exact h.ntrans hl (h1 x hx)
theorem sortB_srt {α : Type} {lt : α → α → Bool} (h : LinB lt) : ∀ l : List α, (sortB lt l).Pairwise (fun a b => lt b a = false)
  | [] => List.Pairwise.nil
  | a :: l => insB_srt h a _ (sortB_srt h l)
theorem sortB_uniq {α : Type} {lt : α → α → Bool} (h : LinB lt) {l m : List α} (hp : m.Perm l) (hs : m.Pairwise (fun a b => lt b a = false)) : m = sortB lt l :=
  List.Perm.eq_of_pairwise (le := fun a b => lt b a = false) (fun a b _ _ p q => h.eq a b q p) hs (sortB_srt h l) (hp.trans (sortB_perm lt l).symm)
def intLt (a b : Int) : Bool := decide (a < b)
theorem lin_int : LinB intLt := ⟨fun a b h => by unfold intLt at *; simp at *; omega, fun a b c h g => by unfold intLt at *; simp at *; omega, fun a b h g => by unfold intLt at *; simp at *; omega⟩
theorem str_eq {a b : Str} (h : a.cps.toList = b.cps.toList) : a = b := by
  cases a; cases b
  simp at h
  exact congrArg _ h
theorem lin_str : LinB strLt := by
  refine ⟨fun a b h => ?_, fun a b c h g => ?_, fun a b h g => ?_⟩
  · unfold strLt at *
    simp only [decide_eq_true_eq, decide_eq_false_iff_not] at *
    exact fun q => List.lt_irrefl _ (List.lt_trans h q)
  · unfold strLt at *
    simp only [decide_eq_true_eq] at *
    exact List.lt_trans h g
  · unfold strLt at *
    simp only [decide_eq_false_iff_not] at *
    exact str_eq (List.le_antisymm (List.not_lt.mp g) (List.not_lt.mp h))
theorem rising_pw : ∀ (l : List Str) (p : Str), risingS p l = true → (p :: l).Pairwise (fun a b => strLt b a = false)
  | [], p, _ => by simp
  | x :: r, p, h => by
    unfold risingS at h
    rw [Bool.and_eq_true] at h
    have h2 := rising_pw r x h.2
    have h1 : strLt x p = false := by unfold strLt; rw [← ltCps_eq]; simpa using h.1
    refine List.pairwise_cons.mpr ⟨fun y hy => ?_, h2⟩
    rcases List.mem_cons.mp hy with rfl | hy
    · exact h1
    · exact lin_str.ntrans h1 ((List.pairwise_cons.mp h2).1 y hy)
theorem sorted_pw {l : List Str} (h : sortedS l = true) : l.Pairwise (fun a b => strLt b a = false) := by
  cases l with
  | nil => exact List.Pairwise.nil
  | cons a r => exact rising_pw r a h
/-- sorted(xs) -/
def lSorted (a : ML) : ML := fun ρ S => (a ρ S).bind fun l S1 => match intsD l with
  | some ns => if ns.length < 64 then .ok ((sortB intLt ns).map D.int) S1 else .no
  | none => (match txts l with
    | some xs => if xs.length < 64 then .ok ((sortB strLt xs).map D.str) S1 else .no
    | none => .no)
theorem rep_strs {K : PySem.W.Frag} {φ : List Addr} {H : Hp} : ∀ l : List Str, RepL K φ H (l.map D.str) (l.map V.str)
  | [] => RepL.nil
  | i :: l => RepL.cons rep_str (rep_strs l)
def rSortAll (K : PySem.W.Frag) : List V → Hp → VK → Prop := fun vs H Q => (rSorted K vs H Q) ∨ rSortedS K vs H Q
theorem cr_sortAll {X : Cx} : CallR X (.builtin "sorted") (rSortAll X.K) := cr_sorted.or cr_sortedS
theorem dn_sorted {X : Cx} {c : Cl} {W : WX} {e : Expr} {ml : ML} {p pos : Pos} (hg : Gl X "sorted") (hm : X.mg "sorted" = none) (ha : DL X c W e ml)
    (hs : starEach [e] X.env = (false, eval e X.env) :: starEach [] X.env := by rfl) (hpl : (backTo pos (starEach [] X.env)).any (·.1) = false := by rfl) : DN X c W (.Call (.Name "sorted" p) [e] [] pos) (lSorted ml) := by
  obtain ⟨ta, pa, ha⟩ := ha
  refine ⟨_, pe_callB cr_sortAll hg hm PyProof.Rows.boot_sorted (pa_cons pa pa_nil hs) (by decide) (by decide) hs hpl, fun φ σ H ρ S Q r f p => ?_⟩
  refine ha φ σ H ρ S _ r f (PostW.elim p fun ds S1 φ1 H1 e1 r1 p1 => fun a vs s hv => ?_)
  split at p1
  · rename_i ns hns
    split at p1
    · rename_i hz
      rw [ints_of hv hns] at s
      refine .inl ⟨a, ns, rfl, s, hz, fun ns' q hp hw hq => ?_⟩
      have hu : ns' = sortB intLt ns := sortB_uniq lin_int hp (hw.imp fun {x y} h => by unfold intLt; simpa using h)
      subst hu
      obtain ⟨e2, r2⟩ := r1.fresh (u := .lst ((sortB intLt ns).map V.int)) hq
      exact p1 φ1 _ e2 r2 q _ (e1.back r1 hq) upd_same (r1.free hq) (rep_ints _)
    · exact False.elim p1
  · split at p1
    · rename_i xs hxs
      split at p1
      · rename_i hz
        rw [txts_of hv hxs] at s
        refine .inr ⟨a, xs, rfl, s, hz, fun ns' q hp hw hq => ?_⟩
        have hu : ns' = sortB strLt xs := sortB_uniq lin_str hp (sorted_pw hw)
        subst hu
        obtain ⟨e2, r2⟩ := r1.fresh (u := .lst ((sortB strLt xs).map V.str)) hq
        exact p1 φ1 _ e2 r2 q _ (e1.back r1 hq) upd_same (r1.free hq) (rep_strs _)
      · exact False.elim p1
    · exact False.elim p1
end MM

namespace CW
open PySem PySem.Spec PyProof.Rows L2 MM
def numS (ds : List Nat) : Str := ⟨(ds.map (· + 48)).toArray⟩
structure GoodN (ds : List Nat) : Prop where
  pos : 1 ≤ ds.length
  len : ds.length ≤ 4
  fig : ∀ d ∈ ds, 1 ≤ d ∧ d ≤ 9
  sum : ds.sum ≤ 24
def strokes (d : Nat) : List Int := (List.replicate d [1, 0]).flatten
def figR (d : Nat) : List Int := strokes d ++ [0, 0]
def figsR (ds : List Nat) : List Int := (ds.map figR).flatten
def rowN (ds : List Nat) : List Int := figsR ds ++ [0, 0]
@[simp] theorem numS_cps (ds : List Nat) : (numS ds).cps.toList = ds.map (· + 48) := rfl
@[simp] theorem numS_length (ds : List Nat) : (numS ds).length = ds.length := by
  unfold numS Str.length
  simp
theorem numS_inj {a b : List Nat} (h : numS a = numS b) : a = b := by
  have e : (numS a).cps.toList = (numS b).cps.toList := by rw [h]
  simp only [numS_cps] at e
  have : (a.map (· + 48)).map (· - 48) = (b.map (· + 48)).map (· - 48) := by rw [e]
  simpa [List.map_map, Function.comp_def] using this
end CW

namespace CW
open PySem PySem.Spec PyProof.Rows L2 MM
theorem str_ext {x y : Str} (h : x.cps.toList = y.cps.toList) : x = y := Str.ext' (Array.toList_inj.mp h)
end CW

namespace CW
open PySem PySem.Spec PyProof.Rows L2 MM
def fig : Int → Int → List Int → List Int → List Int × Int
  | _, k, cs, [] => (cs, k)
  | p, k, cs, b :: r => if b = 1 then fig b (k + 1) cs r else if 0 < k ∧ p = 0 then fig b 0 (cs ++ [k]) r else fig b k cs r
theorem toString_fig {d : Nat} (h1 : 1 ≤ d) (h9 : d ≤ 9) : strI (d : Int) = numS [d] := by
  have : d = 1 ∨ d = 2 ∨ d = 3 ∨ d = 4 ∨ d = 5 ∨ d = 6 ∨ d = 7 ∨ d = 8 ∨ d = 9 := by omega
  rcases this with rfl | rfl | rfl | rfl | rfl | rfl | rfl | rfl | rfl <;> decide +kernel
theorem log_small {c : Int} (h : 1 ≤ c ∧ c ≤ 58) : c.natAbs.log2 < 1920 := by
  have h1 : c.natAbs < 2 ^ 6 := by omega
  have := Nat.log2_lt (n := c.natAbs) (k := 6) (by omega)
  have h2 := this.mpr h1
  omega
end CW

namespace CW
open PySem PySem.Spec PyProof.Rows L2 MM
/-- _law_bag(_law_script, _law_at); slots 0 _law_script, 1 _law_at, 2 _law_cell, 3 _law_mix, 4 _law_k -/
noncomputable def m_law_bag : MS :=
  sSeq (sSet 2 (eC (.int 0)))
  (sSeq (sIf (tV (eBin ltD (eVar 1) (eCall lenD (aCons (eVar 0) (aNil))))) (sSet 2 (eCall absD (aCons (eBin ixD (eVar 0) (eVar 1)) (aNil)))) (sPass))
  (sSeq (sSet 3 (eBin addD (eC (.int 7919)) (eBin mulD (eC (.int 31)) (eVar 1))))
  (sSeq (sFor (iR1 (aCons (eCall minD (aCons (eCall lenD (aCons (eVar 0) (aNil))) (aCons (eC (.int 40)) (aNil)))) (aNil))) (tN 4) (sSet 3 (eBin modD (eBin addD (eBin addD (eBin powD (eVar 3) (eC (.int 3))) (eBin modD (eBin ixD (eVar 0) (eVar 4)) (eC (.int 1000000007)))) (eVar 4)) (eC (.int 2147483629)))))
  (sSeq (sIf (tV (eBin ltD (eVar 2) (eBin powD (eC (.int 10)) (eC (.int 18))))) (sSet 2 (eBin powD (eC (.int 10)) (eC (.int 18)))) (sPass))
  (sRet (eNew (lNew (aCons (eBin subD (eVar 2) (eBin powD (eC (.int 10)) (eC (.int 18)))) (aCons (eVar 3) (aCons (eBin modD (eVar 1) (eC (.int 11))) (aNil)))))))))))
noncomputable def sp_law_bag : FL := body 5 m_law_bag
/-- _law_draw(_law_bag_here, _law_many_here); slots 0 _law_bag_here, 1 _law_many_here, 2 _law_digit, 3 _law_primes, 4 _law_found, 5 _law_room -/
noncomputable def m_law_draw : MS :=
  sSeq (sIf (tV (eBin gtD (eBin ixD (eVar 0) (eC (.int 0))) (eC (.int 0)))) (sSeq (sSet 2 (eBin modD (eBin ixD (eVar 0) (eC (.int 0))) (eVar 1)))
  (sSeq (sSetIx (eVar 0) (eC (.int 0)) (eBin fdivD (eBin ixD (eVar 0) (eC (.int 0))) (eVar 1)))
  (sRet (eVar 2)))) (sPass))
  (sSeq (sSet 3 (eTup (aCons (eC (.int 99991)) (aCons (eC (.int 99989)) (aCons (eC (.int 99971)) (aCons (eC (.int 99961)) (aCons (eC (.int 99929)) (aCons (eC (.int 99923)) (aCons (eC (.int 99907)) (aCons (eC (.int 99901)) (aCons (eC (.int 99881)) (aCons (eC (.int 99877)) (aCons (eC (.int 99871)) (aNil))))))))))))))
  (sSeq (sSet 4 (eC (.int 0)))
  (sSeq (sSet 5 (eC (.int 1)))
  (sSeq (sWhile (tV (eBin ltD (eVar 5) (eBin mulD (eVar 1) (eC (.int 100))))) (sSeq (sSetIx (eVar 0) (eC (.int 1)) (eBin modD (eBin addD (eBin mulD (eBin ixD (eVar 0) (eC (.int 1))) (eC (.int 48271))) (eC (.int 12345))) (eC (.int 2147483629))))
  (sSeq (sSetIx (eVar 0) (eC (.int 2)) (eBin modD (eBin addD (eBin ixD (eVar 0) (eC (.int 2))) (eC (.int 1))) (eC (.int 11))))
  (sSeq (sSet 4 (eBin addD (eBin mulD (eVar 4) (eC (.int 99000))) (eBin modD (eBin powD (eBin ixD (eVar 0) (eC (.int 1))) (eC (.int 5))) (eBin ixD (eVar 3) (eBin ixD (eVar 0) (eC (.int 2)))))))
  (sSet 5 (eBin mulD (eVar 5) (eC (.int 99000))))))))
  (sRet (eBin modD (eVar 4) (eVar 1)))))))
noncomputable def sp_law_draw : FL := body 6 m_law_draw
/-- _law_many(_law_script, _law_least, _law_most); slots 0 _law_script, 1 _law_least, 2 _law_most -/
noncomputable def m_law_many : MS :=
  sRet (ePl (lR1 (eCall maxD (aCons (eVar 1) (aCons (eCall minD (aCons (eVar 2) (aCons (eCall lenD (aCons (eVar 0) (aNil))) (aNil)))) (aNil))))))
noncomputable def sp_law_many : FL := body 3 m_law_many
/-- _law_figures(_law_bag_here); slots 0 _law_bag_here, 1 _law_many_here, 2 _law_great, 3 _law_left, 4 _law_found, 5 _law_place, 6 _law_more -/
noncomputable def m_law_figures : MS :=
  sSeq (sSet 1 (eBin addD (eC (.int 1)) (eCall sp_law_draw (aCons (eVar 0) (aCons (eC (.int 4)) (aNil))))))
  (sSeq (sSet 2 (eCall sp_law_draw (aCons (eVar 0) (aCons (eC (.int 4)) (aNil)))))
  (sSeq (sSet 3 (eBin subD (eC (.int 24)) (eVar 1)))
  (sSeq (sSet 4 (eC (.str "")))
  (sSeq (sFor (iR1 (aCons (eVar 1) (aNil))) (tN 5) (sSeq (sSet 6 (eCall sp_law_draw (aCons (eVar 0) (aCons (eBin addD (eCall minD (aCons (eVar 3) (aCons (eBin ixD (eTup (aCons (eC (.int 2)) (aCons (eC (.int 2)) (aCons (eC (.int 3)) (aCons (eC (.int 8)) (aNil)))))) (eVar 2)) (aNil)))) (eC (.int 1))) (aNil)))))
  (sSeq (sSet 3 (eBin subD (eVar 3) (eVar 6)))
  (sSet 4 (eBin addD (eVar 4) (eCall strD (aCons (eBin addD (eC (.int 1)) (eVar 6)) (aNil))))))))
  (sRet (eVar 4))))))
noncomputable def sp_law_figures : FL := body 7 m_law_figures
/-- a bag stands at b -/
def BagAt (S : Sto) (b : Nat) : Prop := ∃ a m k : Int, S[b]? = some (.lst false [.int a, .int m, .int k]) ∧ 0 ≤ a ∧ 0 ≤ m ∧ m < 2147483629 ∧ 0 ≤ k ∧ k < 11
/-- nothing but the bag at b was changed -/
def Drew (b : Nat) (S S' : Sto) : Prop := BagAt S' b ∧ ∃ l, S' = S.set b (.lst false l)
theorem BagAt.lt {S : Sto} {b : Nat} (h : BagAt S b) : b < S.length := by
  obtain ⟨a, m, k, h, _⟩ := h
  exact (List.getElem?_eq_some_iff.mp h).1
theorem Drew.trans {b : Nat} {S S1 S2 : Sto} (h : Drew b S S1) (g : Drew b S1 S2) : Drew b S S2 := by
  obtain ⟨_, l, rfl⟩ := h
  obtain ⟨g, m, rfl⟩ := g
  exact ⟨g, m, by rw [List.set_set]⟩
theorem Drew.refl {b : Nat} {S : Sto} (h : BagAt S b) : Drew b S S := by
  refine ⟨h, ?_⟩
  obtain ⟨a, m, k, e, _⟩ := h
  refine ⟨[.int a, .int m, .int k], ?_⟩
  apply List.ext_getElem?
  intro i
  by_cases hi : b = i
  · subst hi
    rw [List.getElem?_set_self (List.getElem?_eq_some_iff.mp e).1, e]
  · rw [List.getElem?_set_ne hi]
theorem Drew.get {b n : Nat} {S S' : Sto} (h : Drew b S S') (hn : n ≠ b) : S'[n]? = S[n]? := by
  obtain ⟨_, l, rfl⟩ := h
  rw [List.getElem?_set_ne (Ne.symm hn)]
theorem Drew.len {b : Nat} {S S' : Sto} (h : Drew b S S') : S'.length = S.length := by
  obtain ⟨_, l, rfl⟩ := h
  simp
def primesD : List D := [.int 99991, .int 99989, .int 99971, .int 99961, .int 99929, .int 99923, .int 99907, .int 99901, .int 99881, .int 99877, .int 99871]
theorem prime_at {k : Int} (h0 : 0 ≤ k) (h1 : k < 11) : ∃ p : Int, atI primesD k = some (.int p) ∧ 0 < p := by
  have : k = 0 ∨ k = 1 ∨ k = 2 ∨ k = 3 ∨ k = 4 ∨ k = 5 ∨ k = 6 ∨ k = 7 ∨ k = 8 ∨ k = 9 ∨ k = 10 := by omega
  rcases this with rfl | rfl | rfl | rfl | rfl | rfl | rfl | rfl | rfl | rfl | rfl <;> exact ⟨_, rfl, by decide⟩
theorem draw_ev {b : Nat} {S : Sto} {n : Int} (hb : BagAt S b) (h1 : 1 ≤ n) (h2 : n < 2 ^ 120) : ∃ d S', sp_law_draw [.ref b, .int n] S = .ok (.int d) S' ∧ 0 ≤ d ∧ d < n ∧ Drew b S S' := by
  have hlt := hb.lt
  obtain ⟨a, m, k, hs, ha, hm0, hm1, hk0, hk1⟩ := hb
  have g0 : ∀ (S : Sto) (x y z : D), S[b]? = some (.lst false [x, y, z]) → ixD (.ref b) (.int 0) S = .ok x S := fun S x y z h => by rw [ixD_ref h]; rfl
  have g1 : ∀ (S : Sto) (x y z : D), S[b]? = some (.lst false [x, y, z]) → ixD (.ref b) (.int 1) S = .ok y S := fun S x y z h => by rw [ixD_ref h]; rfl
  have g2 : ∀ (S : Sto) (x y z : D), S[b]? = some (.lst false [x, y, z]) → ixD (.ref b) (.int 2) S = .ok z S := fun S x y z h => by rw [ixD_ref h]; rfl
  have p0 : ∀ (S : Sto) (x y z v : D), S[b]? = some (.lst false [x, y, z]) → setIx (.ref b) (.int 0) v S = some (S.set b (.lst false [v, y, z])) := fun S x y z v h => setIx_ev (j := 0) h rfl
  have p1 : ∀ (S : Sto) (x y z v : D), S[b]? = some (.lst false [x, y, z]) → setIx (.ref b) (.int 1) v S = some (S.set b (.lst false [x, v, z])) := fun S x y z v h => setIx_ev (j := 1) h rfl
  have p2 : ∀ (S : Sto) (x y z v : D), S[b]? = some (.lst false [x, y, z]) → setIx (.ref b) (.int 2) v S = some (S.set b (.lst false [x, y, v])) := fun S x y z v h => setIx_ev (j := 2) h rfl
  unfold sp_law_draw m_law_draw
  by_cases hp : 0 < a
  · refine ⟨a % n, S.set b (.lst false [.int (a / n), .int m, .int k]), ?_, Int.emod_nonneg _ (by omega), Int.emod_lt_of_pos _ (by omega), ⟨a / n, m, k, List.getElem?_set_self hlt, Int.ediv_nonneg ha (by omega), hm0, hm1, hk0, hk1⟩, _, rfl⟩
    simp [g0 S _ _ _ hs, hp, modD_pos (show 0 < n by omega), fdivD_pos (show 0 < n by omega) (by omega), p0 S _ _ _ _ hs]
  · simp [g0 S _ _ _ hs, hp, sizeL]
    rw [show [D.int 99991, D.int 99989, D.int 99971, D.int 99961, D.int 99929, D.int 99923, D.int 99907, D.int 99901, D.int 99881, D.int 99877, D.int 99871] = primesD from rfl]
    generalize hB : sSeq (sSetIx (eVar 0) (eC (.int 1)) _) _ = B
    refine while_post (Post := fun r => ∃ d S', ((r.then (sRet (eBin modD (eVar 4) (eVar 1)))).end) = .ok (.int d) S' ∧ 0 ≤ d ∧ d < n ∧ Drew b S S')
      (fun ρ S' => ∃ f r, ρ = [some (.ref b), some (.int n), none, some (.tup primesD), some (.int f), some (.int r)] ∧ 1 ≤ r ∧ Drew b S S')
      (fun ρ S' => match ρ with | [_, _, _, _, _, some (.int r)] => 200 - r.toNat.log2 | _ => 0) ?_ ⟨0, 1, rfl, by omega, Drew.refl ⟨a, m, k, hs, ha, hm0, hm1, hk0, hk1⟩⟩ (by dsimp only; omega)
    rintro ρ S' ⟨f, r, rfl, hr, hd⟩
    refine ⟨decide (r < n * 100), S', by simp [mulD_r (i := n) (j := 100) (S := S') (by decide)], ?_⟩
    by_cases hrn : r < n * 100
    · simp only [hrn, decide_true, if_true]
      obtain ⟨⟨a', m', k', hs', ha', hm0', hm1', hk0', hk1'⟩, l, hl⟩ := hd
      have hlt' : b < S'.length := (List.getElem?_eq_some_iff.mp hs').1
      obtain ⟨p, hp, hp0⟩ := prime_at (k := (k' + 1) % 11) (Int.emod_nonneg _ (by decide)) (Int.emod_lt_of_pos _ (by decide))
      have hm2 : 0 ≤ (m' * 48271 + 12345) % 2147483629 := Int.emod_nonneg _ (by decide)
      have hm3 : (m' * 48271 + 12345) % 2147483629 < 2147483629 := Int.emod_lt_of_pos _ (by decide)
      have hk2 : 0 ≤ (k' + 1) % 11 := Int.emod_nonneg _ (by decide)
      have hk3 : (k' + 1) % 11 < 11 := Int.emod_lt_of_pos _ (by decide)
      generalize hm1 : (m' * 48271 + 12345) % 2147483629 = m1 at *
      generalize hk1 : (k' + 1) % 11 = k1 at *
      have s1 : (S'.set b (.lst false [.int a', .int m1, .int k']))[b]? = some (.lst false [.int a', .int m1, .int k']) := List.getElem?_set_self hlt'
      have s2 : (S'.set b (.lst false [.int a', .int m1, .int k1]))[b]? = some (.lst false [.int a', .int m1, .int k1]) := List.getElem?_set_self hlt'
      have e : B [some (.ref b), some (.int n), none, some (.tup primesD), some (.int f), some (.int r)] S' = .nx [some (.ref b), some (.int n), none, some (.tup primesD), some (.int (f * 99000 + m1 ^ 5 % p)), some (.int (r * 99000))] (S'.set b (.lst false [.int a', .int m1, .int k1])) := by
        subst hB
        have c1 : mulD (.int m') (.int 48271) S' = .ok (.int (m' * 48271)) S' := mulD_r (by decide)
        have c2 : modD (.int (m' * 48271 + 12345)) (.int 2147483629) S' = .ok (.int m1) S' := by rw [modD_pos (by decide), hm1]
        have c3 : modD (.int (k' + 1)) (.int 11) (S'.set b (.lst false [.int a', .int m1, .int k'])) = .ok (.int k1) (S'.set b (.lst false [.int a', .int m1, .int k'])) := by rw [modD_pos (by decide), hk1]
        have c4 : mulD (.int f) (.int 99000) (S'.set b (.lst false [.int a', .int m1, .int k1])) = .ok (.int (f * 99000)) (S'.set b (.lst false [.int a', .int m1, .int k1])) := mulD_r (by decide)
        have c5 : mulD (.int r) (.int 99000) (S'.set b (.lst false [.int a', .int m1, .int k1])) = .ok (.int (r * 99000)) (S'.set b (.lst false [.int a', .int m1, .int k1])) := mulD_r (by decide)
        have c6 : powD (.int m1) (.int 5) (S'.set b (.lst false [.int a', .int m1, .int k1])) = .ok (.int (m1 ^ 5)) (S'.set b (.lst false [.int a', .int m1, .int k1])) := powD_pos (by decide) (by decide) (by omega)
        simp [g1 _ _ _ _ hs', c1, c2, p1 _ _ _ _ _ hs', g2 _ _ _ _ s1, c3, p2 _ _ _ _ _ s1, c4, g1 _ _ _ _ s2, c6, g2 _ _ _ _ s2, hp, modD_pos hp0, c5]
      rw [e]
      refine ⟨⟨_, _, rfl, by omega, ⟨a', m1, k1, s2, ha', hm2, hm3, hk2, hk3⟩, [.int a', .int m1, .int k1], by rw [hl, List.set_set]⟩, ?_⟩
      dsimp only
      have h0 : r.toNat ≠ 0 := by omega
      have h0' : (r * 99000).toNat ≠ 0 := by omega
      have q1 : r.toNat.log2 < 130 := (Nat.log2_lt h0).mpr (by omega)
      have q2 : r.toNat.log2 + 1 ≤ (r * 99000).toNat.log2 := (Nat.le_log2 h0').mpr (by
        have := Nat.log2_self_le h0
        rw [Nat.pow_succ]
        omega)
      omega
    · simp only [hrn, decide_false, Bool.false_eq_true, if_false]
      refine ⟨f % n, S', by simp [modD_pos (show 0 < n by omega)], Int.emod_nonneg _ (by omega), Int.emod_lt_of_pos _ (by omega), hd⟩

theorem emod_bounds (x : Int) {n : Int} (h : 0 < n) : 0 ≤ x % n ∧ x % n < n := ⟨Int.emod_nonneg _ (by omega), Int.emod_lt_of_pos _ h⟩
theorem bag_ev {ns : List Int} {at_ : Int} {S : Sto} (h0 : 0 ≤ at_) (h1 : at_ ≤ 1000) (hl : ns.length ≤ 63) : ∃ l, sp_law_bag [.scr ns, .int at_] S = .ok (.ref S.length) (S ++ [.lst false l]) ∧ BagAt (S ++ [.lst false l]) S.length := by
  have hc : ∃ cell : Int, 0 ≤ cell ∧ ∀ (k : Fr → Sto → RS), (sIf (tV (eBin ltD (eVar 1) (eCall lenD (aCons (eVar 0) (aNil))))) (sSet 2 (eCall absD (aCons (eBin ixD (eVar 0) (eVar 1)) (aNil)))) (sPass) [some (.scr ns), some (.int at_), some (.int 0), none, none] S).then k = k [some (.scr ns), some (.int at_), some (.int cell), none, none] S := by
    by_cases hlt : at_ < (ns.length : Int)
    · have hx : atI ns at_ = some (ns[at_.toNat]'(by omega)) := atI_of (j := at_.toNat) (by omega) (List.getElem?_eq_getElem (by omega))
      refine ⟨if ns[at_.toNat]'(by omega) < 0 then -ns[at_.toNat]'(by omega) else ns[at_.toNat]'(by omega), by split <;> omega, fun k => ?_⟩
      simp [hlt, hx]
    · exact ⟨0, by omega, fun k => by simp [hlt]⟩
  obtain ⟨cell, hc0, hc⟩ := hc
  have c1 : mulD (.int 31) (.int at_) S = .ok (.int (31 * at_)) S := mulD_l (by decide)
  unfold sp_law_bag m_law_bag
  rw [body_ev, sSeq_ev]
  simp only [startF_ev, List.map_cons, List.map_nil, List.length_cons, List.length_nil, sSet_ev, eC_ev, of_ok, then_nx]
  rw [show ([some (D.scr ns), some (D.int at_)] ++ List.replicate (5 - (0 + 1 + 1)) (none : Option D)).set 2 (some (D.int 0)) = [some (.scr ns), some (.int at_), some (.int 0), none, none] from rfl]
  rw [sSeq_ev, hc]
  simp [c1]
  generalize hB : sSet 3 (eBin modD _ (eC (.int 2147483629))) = B
  have loop := for_run (g := noG) (tg := tN 4) (b := B) (items := rangeD 0 (if 40 < (ns.length : Int) then 40 else (ns.length : Int)).toNat) (ρ := [some (.scr ns), some (.int at_), some (.int cell), some (.int (7919 + 31 * at_)), none]) (S := S)
    (fun i ρ S' => S' = S ∧ ∃ m x, ρ = [some (.scr ns), some (.int at_), some (.int cell), some (.int m), x] ∧ 0 ≤ m ∧ m < 2147483629) ⟨rfl, _, _, rfl, by omega, by omega⟩ (fun _ _ _ _ => trivial) (by
      rintro i d ρ S' hd ⟨rfl, m, x, rfl, hm0, hm1⟩
      unfold rangeD at hd
      rw [List.getElem?_map] at hd
      obtain ⟨j, hj, rfl⟩ := Option.map_eq_some_iff.mp hd
      have hi : i < (if 40 < (ns.length : Int) then 40 else (ns.length : Int)).toNat := by
        have := (List.getElem?_eq_some_iff.mp hj).1
        simpa using this
      have hji : j = i := by simpa [List.getElem?_range hi] using hj.symm
      subst hji
      have hjn : j < ns.length := by
        split at hi <;> omega
      have hx : atI ns (j : Int) = some ns[j] := atI_nat (List.getElem?_eq_getElem hjn)
      subst hB
      have c2 : powD (.int m) (.int 3) S' = .ok (.int (m ^ 3)) S' := powD_pos (by decide) (by decide) (by omega)
      have b1 := emod_bounds (m ^ 3 + ns[j] % 1000000007 + (j : Int)) (n := 2147483629) (by decide)
      refine ⟨_, rfl, [some (.scr ns), some (.int at_), some (.int cell), some (.int ((m ^ 3 + ns[j] % 1000000007 + (j : Int)) % 2147483629)), some (.int j)], S', ?_, rfl, _, _, rfl, b1.1, b1.2⟩
      simp [c2, hx, modD_pos])
  obtain ⟨ρ', S', e, rfl, m, x, rfl, hm0, hm1⟩ := loop
  have hcond : Wd (if 40 < (ns.length : Int) then 40 else (ns.length : Int)) := by
    apply wd_of <;> split <;> omega
  have c3 : powD (.int 10) (.int 18) S' = .ok (.int (10 ^ 18)) S' := rfl
  have c4 : modD (.int at_) (.int 11) S' = .ok (.int (at_ % 11)) S' := modD_pos (by decide)
  have b2 := emod_bounds at_ (n := 11) (by decide)
  have hA : ∃ A : Int, 0 ≤ A ∧ A = (if cell < 1000000000000000000 then 1000000000000000000 else cell) - 1000000000000000000 := ⟨_, by split <;> omega, rfl⟩
  obtain ⟨A, hA0, hA⟩ := hA
  refine ⟨[.int A, .int m, .int (at_ % 11)], ?_, A, m, at_ % 11, by simp, hA0, hm0, hm1, b2.1, b2.2⟩
  simp only [hcond, if_true, of_ok, e, then_nx]
  by_cases hcell : cell < 1000000000000000000
  · rw [if_pos hcell] at hA
    simp [c3, c4, hcell, sizeL, hA]
  · rw [if_neg hcell] at hA
    simp [c3, c4, hcell, sizeL, hA]

def manyN (least most : Int) (n : Nat) : Int := if (if (n : Int) < most then (n : Int) else most) > least then (if (n : Int) < most then (n : Int) else most) else least
theorem many_ev {ns : List Int} {a b : Int} {S : Sto} (h1 : -1000 ≤ a) (h2 : a ≤ 1000) (h3 : b ≤ 1000) : sp_law_many [.scr ns, .int a, .int b] S = .ok (.pl (rangeD 0 (manyN a b ns.length).toNat)) S := by
  have hc : WdL (manyN a b ns.length) := by
    unfold manyN
    apply wdl_of <;> split <;> (try split) <;> omega
  unfold sp_law_many m_law_many
  have e : (if (if (ns.length : Int) < b then (ns.length : Int) else b) > a then (if (ns.length : Int) < b then (ns.length : Int) else b) else a) = manyN a b ns.length := rfl
  simp only [body_ev, startF_ev, sRet_ev, ePl_ev, lR1_ev, eCall_ev, aCons_ev, aNil_ev, eVar_ev, List.map_cons, List.map_nil, List.length_cons, List.length_nil, List.cons_append, List.getElem?_cons_zero, List.getElem?_cons_succ, bind_ok, lenD_scr, minD_int, maxD_int, e]
  simp [hc]

theorem cap_at {g : Int} (h0 : 0 ≤ g) (h1 : g < 4) : ∃ c : Int, atI [D.int 2, D.int 2, D.int 3, D.int 8] g = some (.int c) ∧ 2 ≤ c ∧ c ≤ 8 := by
  have : g = 0 ∨ g = 1 ∨ g = 2 ∨ g = 3 := by omega
  rcases this with rfl | rfl | rfl | rfl <;> exact ⟨_, rfl, by decide, by decide⟩
theorem strI_fig {d : Nat} (h1 : 1 ≤ d) (h9 : d ≤ 9) : strI (d : Int) = numS [d] := toString_fig h1 h9
theorem numS_app (a b : List Nat) : numS a ++ numS b = numS (a ++ b) := by
  apply str_ext
  show (numS a ++ numS b).cps.toList = _
  rw [show (numS a ++ numS b).cps.toList = (numS a).cps.toList ++ (numS b).cps.toList from TL.tl_append _ _, numS_cps, numS_cps, numS_cps, List.map_append]
theorem figures_ev {b : Nat} {S : Sto} (hb : BagAt S b) : ∃ ds S', sp_law_figures [.ref b] S = .ok (.str (numS ds)) S' ∧ GoodN ds ∧ Drew b S S' := by
  obtain ⟨d1, S1, e1, h10, h11, w1⟩ := draw_ev (n := 4) hb (by decide) (by decide)
  obtain ⟨d2, S2, e2, h20, h21, w2⟩ := draw_ev (n := 4) w1.1 (by decide) (by decide)
  have w12 := w1.trans w2
  obtain ⟨c, hc, hc1, hc2⟩ := cap_at h20 h21
  unfold sp_law_figures m_law_figures
  simp [e1, e2]
  have hcond : Wd (1 + d1) := wd_of (by omega) (by omega)
  simp [hcond]
  generalize hB : sSeq (sSet 6 (eCall sp_law_draw _)) _ = B
  have loop := for_run (g := noG) (tg := tN 5) (b := B) (items := rangeD 0 (1 + d1).toNat) (ρ := [some (.ref b), some (.int (1 + d1)), some (.int d2), some (.int (24 - (1 + d1))), some (.str (Str.ofString "")), none, none]) (S := S2)
    (fun i ρ S' => Drew b S S' ∧ ∃ (ds : List Nat) (left : Int) (x5 x6 : Option D), ρ = [some (.ref b), some (.int (1 + d1)), some (.int d2), some (.int left), some (.str (numS ds)), x5, x6] ∧ ds.length = i ∧ (∀ d ∈ ds, 1 ≤ d ∧ d ≤ 9) ∧ 0 ≤ left ∧ left = 24 - (1 + d1) - ((ds.sum : Int) - (i : Int)))
    ⟨w12, [], _, none, none, rfl, rfl, by simp, by omega, by simp⟩ (fun _ _ _ _ => trivial) (by
      rintro i d ρ S' hd ⟨w, ds, left, x5, x6, rfl, hlen, hfig, hl0, hl⟩
      have hi : i < (1 + d1).toNat := by
        have := (List.getElem?_eq_some_iff.mp hd).1
        simpa [rangeD] using this
      have hcap : 1 ≤ (if c < left then c else left) + 1 := by split <;> omega
      obtain ⟨more, S3, e3, h30, h31, w3⟩ := draw_ev (n := (if c < left then c else left) + 1) w.1 hcap (by split <;> omega)
      have hm9 : more ≤ 8 := by
        have : more < (if c < left then c else left) + 1 := h31
        split at this <;> omega
      have hml : more ≤ left := by
        have : more < (if c < left then c else left) + 1 := h31
        split at this <;> omega
      have hs : strD [.int (1 + more)] S3 = .ok (.str (numS [(1 + more).toNat])) S3 := by
        have hsI := strI_fig (d := (1 + more).toNat) (by omega) (by omega)
        rw [show (((1 + more).toNat : Nat) : Int) = 1 + more by omega] at hsI
        rw [strD_int (log_small (by omega)), hsI]
      have ha : addD (.str (numS ds)) (.str (numS [(1 + more).toNat])) S3 = .ok (.str (numS (ds ++ [(1 + more).toNat]))) S3 := by
        rw [addD_str (by simp [sizeL]; omega), numS_app]
      refine ⟨_, rfl, [some (.ref b), some (.int (1 + d1)), some (.int d2), some (.int (left - more)), some (.str (numS (ds ++ [(1 + more).toNat]))), some d, some (.int more)], S3, ?_, w.trans w3, ds ++ [(1 + more).toNat], left - more, _, _, rfl, by simp [hlen], ?_, by omega, ?_⟩
      · subst hB
        simp [hc, e3, hs, ha, sizeL]
      · intro x hx
        rcases List.mem_append.mp hx with hx | hx
        · exact hfig x hx
        · simp at hx
          omega
      · simp
        omega)
  obtain ⟨ρ', S', e, w, ds, left, x5, x6, rfl, hlen, hfig, hl0, hl⟩ := loop
  have e' : numS [] = Str.ofString "" := by decide +kernel
  have hlen' : ds.length = (1 + d1).toNat := by simpa [rangeD] using hlen
  refine ⟨ds, S', ?_, ⟨by omega, by omega, hfig, ?_⟩, w⟩
  · rw [e]
    simp
  · have : (rangeD 0 (1 + d1).toNat).length = (1 + d1).toNat := by simp [rangeD]
    rw [this] at hl
    omega
end CW

namespace CW
open PySem PySem.Spec PyProof.Rows L2 MM
theorem range_get {lo : Int} {n i : Nat} {d : D} (h : (rangeD lo n)[i]? = some d) : i < n ∧ d = .int (lo + (i : Int)) := by
  unfold rangeD at h
  rw [List.getElem?_map] at h
  obtain ⟨j, hj, rfl⟩ := Option.map_eq_some_iff.mp h
  have hi : i < n := by
    have := (List.getElem?_eq_some_iff.mp hj).1
    simpa using this
  have hji : j = i := by simpa [List.getElem?_range hi] using hj.symm
  subst hji
  exact ⟨hi, rfl⟩
end CW

namespace CW
open PySem PySem.Spec PyProof.Rows L2 MM
theorem manyN_bd {a b : Int} {n : Nat} (h : a ≤ b) (h0 : 0 ≤ a) : a ≤ manyN a b n ∧ manyN a b n ≤ b := by
  unfold manyN
  split <;> split at * <;> omega
def nD (l : List (List Nat)) : List D := l.map fun ds => .str (numS ds)
@[simp] theorem nD_length (l : List (List Nat)) : (nD l).length = l.length := by simp [nD]
theorem cut_to {l : List D} {n : Nat} : MM.cutD l none (some (n : Int)) = l.take n := by
  unfold MM.cutD
  rw [HT.sIx_none, HT.sIx_nat, List.drop_zero, Nat.sub_zero]
  exact (List.take_eq_take_min).symm
def Uni (z : Str) : Prop := ∀ c ∈ z.cps.toList, c < 1114112
theorem Uni.ok {z : Str} (h : Uni z) : PyData.strOk z = true := by
  unfold PyData.strOk
  rw [Array.all_eq_true']
  intro c hc
  have := h c (Array.mem_toList_iff.mpr hc)
  simpa using this
theorem toPl_strs : ∀ F : List D, (∀ d ∈ F, ∃ z, d = .str z ∧ PyData.strOk z = true) → ∃ ps, toPl F = some ps ∧ ps.length = F.length ∧ PyData.depthAll ps = 0
  | [], _ => ⟨[], by simp [toPl], rfl, by simp [PyData.depthAll]⟩
  | d :: F, h => by
    obtain ⟨z, rfl, hz⟩ := h d List.mem_cons_self
    obtain ⟨ps, e1, e2, e3⟩ := toPl_strs F fun d hd => h d (List.mem_cons_of_mem _ hd)
    exact ⟨.str z :: ps, by simp [toPl, toP, hz, e1], by simp [e2], by simp [PyData.depthAll, PyData.depth, e3]⟩
structure Fine (n : Nat) (z : Str) : Prop where
  len : z.length ≤ n
  uni : Uni z
theorem len_list (z : Str) : z.length = z.cps.toList.length := by simp [Str.length]
theorem app_list (x y : Str) : (x ++ y).cps.toList = x.cps.toList ++ y.cps.toList := TL.tl_append _ _
theorem app_len (x y : Str) : (x ++ y).length = x.length + y.length := by rw [len_list, len_list, len_list, app_list, List.length_append]
theorem Fine.app {a b : Nat} {x y : Str} (hx : Fine a x) (hy : Fine b y) : Fine (a + b) (x ++ y) := ⟨by rw [app_len]; have := hx.len; have := hy.len; omega, fun c hc => by
  rw [app_list] at hc
  rcases List.mem_append.mp hc with hc | hc
  · exact hx.uni c hc
  · exact hy.uni c hc⟩
theorem Fine.mono {a b : Nat} {x : Str} (h : Fine a x) (hab : a ≤ b) : Fine b x := ⟨Nat.le_trans h.len hab, h.uni⟩
theorem cut_list (z : Str) (lo hi : Option Int) : (cutS z lo hi).cps.toList = (z.cps.toList.drop (HT.sIx z.length 0 lo)).take (HT.sIx z.length z.length hi - HT.sIx z.length 0 lo) := by simp [cutS]
theorem Fine.cut {a : Nat} {x : Str} (h : Fine a x) (lo hi : Option Int) : Fine a (cutS x lo hi) := ⟨by
  rw [len_list, cut_list]
  have := h.len
  rw [len_list] at this
  exact Nat.le_trans (List.length_take_le' _ _) (Nat.le_trans (by rw [List.length_drop]; omega) this), fun c hc => by
  rw [cut_list] at hc
  exact h.uni c (List.mem_of_mem_drop (List.mem_of_mem_take hc))⟩
theorem fine_num {ds : List Nat} (h : ∀ d ∈ ds, 1 ≤ d ∧ d ≤ 9) : Fine ds.length (numS ds) := ⟨by rw [len_list, numS_cps, List.length_map]; exact Nat.le_refl _, fun c hc => by
  rw [numS_cps] at hc
  obtain ⟨d, hd, rfl⟩ := List.mem_map.mp hc
  have := h d hd
  omega⟩
theorem sl_str {z : Str} {lo hi : Option Int} {S : Sto} (h : z.length ≤ 1000) : slD (.str z) lo hi S = .ok (.str (cutS z lo hi)) S := by
  unfold slD
  exact if_pos (by rw [sizeL]; omega)
theorem lc_run {g : Sto → Prop} {tg : MG} {m : ME} {ρ : Fr} (Inv : Nat → List D → Sto → Prop) (hg : ∀ i l S, Inv i l S → g S) : ∀ {items : List D} {k : Nat} {acc : List D} {S : Sto},
    (∀ (i : Nat) d l S, items[i]? = some d → Inv (k + i) l S → ∃ ρ1 x S', tg d ρ = some ρ1 ∧ m ρ1 S = .ok x S' ∧ Inv (k + i + 1) (l ++ [x]) S') → Inv k acc S →
    ∃ out S', lcD g tg tYs m ρ items S = .ok out S' ∧ Inv (k + items.length) (acc ++ out) S'
  | [], k, acc, S, _, h0 => ⟨[], S, by unfold lcD; rw [if_pos (hg _ _ _ h0)], by simpa using h0⟩
  | d :: ds, k, acc, S, hs, h0 => by
    obtain ⟨ρ1, x, S1, e1, e2, h1⟩ := hs 0 d acc S rfl h0
    obtain ⟨out, S', e3, h3⟩ := lc_run Inv hg (items := ds) (k := k + 1) (acc := acc ++ [x]) (S := S1) (fun i d l S hd hI => by
      have := hs (i + 1) d l S (by simpa using hd) (by rw [show k + (i + 1) = k + 1 + i by omega]; exact hI)
      rw [show k + (i + 1) + 1 = k + 1 + i + 1 by omega] at this
      exact this) h1
    refine ⟨x :: out, S', ?_, ?_⟩
    · unfold lcD
      rw [if_pos (hg _ _ _ h0)]
      simp [e1, e2, e3]
    · rw [List.length_cons, show k + (ds.length + 1) = k + 1 + ds.length by omega]
      simpa using h3
def Ran (Shape : Fr → Prop) (r : RS) : Prop := ∃ ρ' S', r = .nx ρ' S' ∧ Shape ρ'
theorem cells_range {M : Nat} {b : MS} {v : Nat} {ρ : Fr} {S : Sto} (tail : MS) (Shape : Fr → Prop) (h0 : Shape ρ)
    (hs : ∀ (i : Nat) ρ S', i < M → Shape ρ → Ran Shape (b (ρ.set v (some (.int (i : Int)))) S'))
    (ht : ∀ ρ S, Shape ρ → ∃ S', (tail ρ S).end = .ok (.bl true) S') : ∃ S', ((forD noG (tN v) b (rangeD 0 M) ρ S).then tail).end = .ok (.bl true) S' := by
  have L := for_run (g := noG) (tg := tN v) (b := b) (items := rangeD 0 M) (ρ := ρ) (S := S)
    (fun _ ρ S' => Shape ρ) h0 (fun _ _ _ h => trivial) (by
      rintro i d ρ S' hd hsh
      obtain ⟨hi, rfl⟩ := range_get hd
      obtain ⟨ρ', S'', e, h1⟩ := hs i ρ S' hi hsh
      refine ⟨_, rfl, ρ', S'', ?_, h1⟩
      rw [Int.zero_add]
      exact e)
  obtain ⟨ρ', S', e, h1⟩ := L
  rw [e]
  exact ht ρ' S' h1
end CW

namespace CW
open PySem PySem.Spec PyProof.Rows L2 MM
def Bag2 (S : Sto) (b : Nat) : Prop := ∃ a m : Int, S[b]? = some (.lst false [.int a, .int m]) ∧ 0 ≤ a ∧ 0 ≤ m ∧ m ≤ 2147483647
def Took (b : Nat) (S S' : Sto) : Prop := Bag2 S' b ∧ ∃ l, S' = S.set b (.lst false l)
def Grown (b : Nat) (S S' : Sto) : Prop := Bag2 S' b ∧ S.length ≤ S'.length ∧ ∀ n, n < S.length → n ≠ b → S'[n]? = S[n]?
theorem Bag2.lt {S : Sto} {b : Nat} (h : Bag2 S b) : b < S.length := by
  obtain ⟨a, m, h, _⟩ := h
  exact (List.getElem?_eq_some_iff.mp h).1
theorem Took.trans {b : Nat} {S S1 S2 : Sto} (h : Took b S S1) (g : Took b S1 S2) : Took b S S2 := by
  obtain ⟨_, l, rfl⟩ := h
  obtain ⟨g, m, rfl⟩ := g
  exact ⟨g, m, by rw [List.set_set]⟩
theorem Took.refl {b : Nat} {S : Sto} (h : Bag2 S b) : Took b S S := by
  refine ⟨h, ?_⟩
  obtain ⟨a, m, e, _⟩ := h
  obtain ⟨hl, e⟩ := List.getElem?_eq_some_iff.mp e
  exact ⟨[.int a, .int m], by rw [← e]; simp⟩
theorem Took.get {b n : Nat} {S S' : Sto} (h : Took b S S') (hn : n ≠ b) : S'[n]? = S[n]? := by
  obtain ⟨_, l, rfl⟩ := h
  rw [List.getElem?_set_ne (Ne.symm hn)]
theorem Took.len {b : Nat} {S S' : Sto} (h : Took b S S') : S'.length = S.length := by
  obtain ⟨_, l, rfl⟩ := h
  simp
theorem Grown.refl {b : Nat} {S : Sto} (h : Bag2 S b) : Grown b S S := ⟨h, Nat.le_refl _, fun _ _ _ => rfl⟩
theorem Grown.trans {b : Nat} {S S1 S2 : Sto} (h : Grown b S S1) (g : Grown b S1 S2) : Grown b S S2 := ⟨g.1, Nat.le_trans h.2.1 g.2.1, fun n hn hb => by rw [g.2.2 n (by have := h.2.1; omega) hb, h.2.2 n hn hb]⟩
theorem Bag2.app {b : Nat} {S : Sto} (h : Bag2 S b) (T : Sto) : Bag2 (S ++ T) b := by
  have := h.lt
  obtain ⟨a, m, e, r⟩ := h
  exact ⟨a, m, by rw [List.getElem?_append_left this, e], r⟩
theorem Grown.app {b : Nat} {S S' : Sto} (h : Grown b S S') (T : Sto) : Grown b S (S' ++ T) := ⟨h.1.app T, by have := h.2.1; simp; omega, fun n hn hb => by rw [List.getElem?_append_left (by have := h.2.1; omega), h.2.2 n hn hb]⟩
section
variable {b : Nat} {S : Sto} {n : Int}
end
end CW

namespace CW
open PySem PySem.Spec PyProof.Rows L2 MM
end CW

namespace CW
open PySem PySem.Spec PyProof.Rows L2 MM
theorem Took.split {b : Nat} {S T S2 : Sto} (h : Took b (S ++ T) S2) (hb : b < S.length) : ∃ S1, S2 = S1 ++ T ∧ Took b S S1 ∧ Bag2 S1 b := by
  obtain ⟨⟨a, m, g, r⟩, l, rfl⟩ := h
  rw [List.set_append_left _ _ hb] at g ⊢
  rw [List.getElem?_append_left (by simpa using hb)] at g
  exact ⟨_, rfl, ⟨⟨a, m, g, r⟩, l, rfl⟩, ⟨a, m, g, r⟩⟩
theorem Took.lt {b : Nat} {S S' : Sto} (h : Took b S S') : b < S.length := by
  have := h.1.lt
  rw [h.len] at this
  exact this
theorem Took.kept {b : Nat} {S S' : Sto} (h : Took b S S') : Kept S S' := by
  have hlt := h.lt
  obtain ⟨⟨a, m, g, r⟩, l, rfl⟩ := h
  rw [List.getElem?_set_self hlt] at g
  cases g
  exact Kept.set (by simp)
theorem inL_num {ds : List Nat} : ∀ {l : List (List Nat)}, inL (.str (numS ds)) (nD l) = decide (ds ∈ l)
  | [] => by simp [inL, nD]
  | e :: l => by
    have ih := inL_num (ds := ds) (l := l)
    unfold inL nD at ih ⊢
    rw [List.map_cons, List.any_cons, ih]
    have : eqF (.str (numS e)) (.str (numS ds)) = decide (ds = e) := by
      show (numS e == numS ds) = _
      by_cases h : ds = e
      · subst h; simp
      · have hn : numS e ≠ numS ds := fun q => h (numS_inj q).symm
        simp [h, hn]
    rw [this]
    by_cases h : ds = e <;> simp [h]
theorem flat_nD {l : List (List Nat)} : (nD l).all flatD = true := by
  rw [List.all_eq_true]
  intro d hd
  obtain ⟨e, _, rfl⟩ := List.mem_map.mp hd
  rfl
theorem in_num {ds : List Nat} {l : List (List Nat)} {x : D} {S : Sto} (h : lstOf S x = some (nD l)) (hx : ∀ u, x ≠ .str u) (ht : ∀ u, x ≠ .tup u) : inD (.str (numS ds)) x S = .ok (.bl (decide (ds ∈ l))) S := by
  have : inB S (.str (numS ds)) x = some (decide (ds ∈ l)) := by
    cases x with
    | str u => exact absurd rfl (hx u)
    | tup u => exact absurd rfl (ht u)
    | _ => (first | (cases h; done) | (unfold inB; simp only [h, flat_nD, flatD, and_self, if_true, inL_num]))
  unfold inD
  rw [this]
theorem bdL_nD {n : Nat} {l : List (List Nat)} : bdL n (nD l) := by
  rw [bdL_iff]
  intro d hd
  obtain ⟨e, _, rfl⟩ := List.mem_map.mp hd
  simp
theorem nD_append (a b : List (List Nat)) : nD (a ++ b) = nD a ++ nD b := by simp [nD]
end CW

namespace CW
open PySem PySem.Spec PyProof.Rows L2 MM
end CW

namespace CW
open PySem PySem.Spec PyProof.Rows L2 MM
inductive Pc where
  | rnd (ds : List Nat) | odd (n : Nat) | spoilt (n : Nat) | begun (n : Nat) | quiet (n : Nat) | key (n : Nat)
def Pc.d : Pc → D
  | .rnd ds => .tup [.str (Str.ofString "round"), .str (numS ds)]
  | .odd n => .tup [.str (Str.ofString "odd"), .int n]
  | .spoilt n => .tup [.str (Str.ofString "spoilt"), .int n]
  | .begun n => .tup [.str (Str.ofString "begun"), .int n]
  | .quiet n => .tup [.str (Str.ofString "quiet"), .int n]
  | .key n => .tup [.str (Str.ofString "key"), .int n]
def Pc.ticks : Pc → Nat
  | .rnd ds => (rowN ds).length
  | .odd n => n
  | .spoilt n => n
  | .begun n => n
  | .quiet n => n
  | .key n => n
/-- like signs from here on -/
def runL (x : Int) : List Int → Nat
  | [] => 0
  | y :: r => if y = x then runL x r + 1 else 0
/-- a piece that begins with a break: how long, how many quiet ticks at its end -/
def brk : Nat → List Int → Nat × Nat
  | q, [] => (0, q)
  | q, x :: r => if x ≠ 2 ∧ q < 5 then ((brk (if x = 0 then q + 1 else 0) r).1 + 1, (brk (if x = 0 then q + 1 else 0) r).2) else (0, q)
open Classical in
noncomputable def numR (bits : List Int) : Option (List Nat) := if h : ∃ ds, GoodN ds ∧ bits = rowN ds then some (Classical.choose h) else none
/-- the first piece of a tape -/
noncomputable def piece1 (t : List Int) : Pc := match t with
  | [] => .quiet 0
  | x :: _ => if x = 1 then (if (brk 0 t).2 < 5 then (if (brk 0 t).1 < t.length then .spoilt (brk 0 t).1 else .begun (brk 0 t).1) else (match numR (t.take (brk 0 t).1) with | some ds => .rnd ds | none => .odd (brk 0 t).1))
    else if x = 2 then .key (runL x t) else .quiet (runL x t)
def len1 (t : List Int) : Nat := match t with
  | [] => 0
  | x :: _ => if x = 1 then (brk 0 t).1 else runL x t
noncomputable def ptF : Nat → List Int → List Pc
  | 0, _ => []
  | n + 1, t => match t with
    | [] => []
    | x :: r => piece1 (x :: r) :: ptF n ((x :: r).drop (len1 (x :: r)))
noncomputable def pt (t : List Int) : List Pc := ptF t.length t
@[simp] theorem pt_nil : pt [] = [] := rfl
def Pc.Ok (p : Pc) : Prop := ∀ ds, p = .rnd ds → GoodN ds
end CW

namespace CW
open PySem PySem.Spec PyProof.Rows L2 MM
mutual
def plD : Nat → D → Prop
  | _, .non => True
  | _, .bl _ => True
  | _, .int _ => True
  | _, .str x => PyData.strOk x = true
  | _, .ref _ => False
  | _, .scr _ => False
  | 0, .tup _ => False
  | 0, .pl _ => False
  | n + 1, .tup l => plL n l
  | n + 1, .pl l => plL n l
def plL : Nat → List D → Prop
  | _, [] => True
  | n, d :: ds => plD n d ∧ plL n ds
end
theorem plL_iff {n : Nat} : ∀ {l : List D}, plL n l ↔ ∀ d ∈ l, plD n d
  | [] => by unfold plL; simp
  | d :: r => by
    unfold plL
    rw [plL_iff]
    simp
mutual
theorem plD_toP : ∀ (n : Nat) (d : D), plD n d → ∃ p, toP d = some p ∧ p.depth ≤ n ∧ p.canLay0 = true
  | n, .non, h => ⟨_, by unfold toP; rfl, by simp [PyData.depth], by simp [PyData.canLay0]⟩
  | n, .bl _, h => ⟨_, by unfold toP; rfl, by simp [PyData.depth], by simp [PyData.canLay0]⟩
  | n, .int _, h => ⟨_, by unfold toP; rfl, by simp [PyData.depth], by simp [PyData.canLay0]⟩
  | n, .str x, h => by
    unfold plD at h
    exact ⟨_, by unfold toP; rw [if_pos h], by simp [PyData.depth], by simpa [PyData.canLay0] using h⟩
  | n, .ref _, h => by unfold plD at h; exact h.elim
  | n, .scr _, h => by unfold plD at h; exact h.elim
  | 0, .tup _, h => by unfold plD at h; exact h.elim
  | 0, .pl _, h => by unfold plD at h; exact h.elim
  | n + 1, .tup l, h => by
    unfold plD at h
    obtain ⟨ps, e, hd, hc⟩ := plL_toP n l h
    exact ⟨.tuple ps, by unfold toP; rw [e]; rfl, by simp [PyData.depth]; omega, by simpa [PyData.canLay0] using hc⟩
  | n + 1, .pl l, h => by
    unfold plD at h
    obtain ⟨ps, e, hd, hc⟩ := plL_toP n l h
    exact ⟨.list ps, by unfold toP; rw [e]; rfl, by simp [PyData.depth]; omega, by simpa [PyData.canLay0] using hc⟩
theorem plL_toP : ∀ (n : Nat) (l : List D), plL n l → ∃ ps, toPl l = some ps ∧ PyData.depthAll ps ≤ n ∧ PyData.canLayAll0 ps = true
  | n, [], h => ⟨[], by unfold toPl; rfl, by simp [PyData.depthAll], by simp [PyData.canLayAll0]⟩
  | n, d :: ds, h => by
    unfold plL at h
    obtain ⟨p, e1, d1, c1⟩ := plD_toP n d h.1
    obtain ⟨ps, e2, d2, c2⟩ := plL_toP n ds h.2
    exact ⟨p :: ps, by unfold toPl; rw [e1, e2], by simp [PyData.depthAll]; omega, by simp [PyData.canLayAll0, c1, c2]⟩
end
theorem view_pl {S : Sto} {d : D} (h : ∀ n, d ≠ .ref n) : view S d = toP d := by
  cases d <;> first | rfl | exact absurd rfl (h _)
/-- a thing is like itself -/
theorem eqB_same {S : Sto} {d : D} {n : Nat} (h : plD n d) (hn : n ≤ 64) : eqB S d d = some true := by
  obtain ⟨p, e, hd, hc⟩ := plD_toP n d h
  have hr := PySem.SeqAt.eqv_refl p hc
  unfold eqB
  split
  · cases d <;> first | (simp [sameD]; done) | (simp [scalD] at *; done)
  · rw [view_pl (fun k q => by rw [q] at h; unfold plD at h; exact h), e]
    simp only
    rw [if_pos ⟨by omega, by omega⟩, hr]
theorem eq_same {S : Sto} {d : D} {n : Nat} (h : plD n d) (hn : n ≤ 64) : eqD d d S = .ok (.bl true) S := by
  unfold eqD
  rw [eqB_same h hn]
theorem ne_same {S : Sto} {d : D} {n : Nat} (h : plD n d) (hn : n ≤ 64) : neD d d S = .ok (.bl false) S := by
  unfold neD
  rw [eqB_same h hn]
  rfl
theorem strOk_num (ds : List Nat) (h : ∀ d ∈ ds, d ≤ 9) : PyData.strOk (numS ds) = true := Uni.ok fun c hc => by
  rw [numS_cps] at hc
  obtain ⟨d, hd, rfl⟩ := List.mem_map.mp hc
  have := h d hd
  omega
theorem GoodN.strOk {ds : List Nat} (h : GoodN ds) : PyData.strOk (numS ds) = true := strOk_num ds fun d hd => (h.fig d hd).2
end CW

namespace CW
open PySem PySem.Spec PyProof.Rows L2 MM
def qaft : Nat → List Int → Nat
  | q, [] => q
  | q, x :: r => qaft (if x = 0 then q + 1 else 0) r
def calm : Nat → List Int → Prop
  | _, [] => True
  | q, x :: r => x ≠ 2 ∧ q < 5 ∧ calm (if x = 0 then q + 1 else 0) r
instance (ds : List Nat) : Decidable (GoodN ds) := if h : 1 ≤ ds.length ∧ ds.length ≤ 4 ∧ (∀ d ∈ ds, 1 ≤ d ∧ d ≤ 9) ∧ ds.sum ≤ 24 then .isTrue ⟨h.1, h.2.1, h.2.2.1, h.2.2.2⟩ else .isFalse fun g => h ⟨g.pos, g.len, g.fig, g.sum⟩
inductive Sg : Pc → List Int → Prop
  | rnd {ds : List Nat} (h : GoodN ds) : Sg (.rnd ds) (rowN ds)
  | quiet {n : Nat} (h : 1 ≤ n) : Sg (.quiet n) (List.replicate n 0)
  | key {n : Nat} (h : 1 ≤ n) : Sg (.key n) (List.replicate n 2)
  | spoilt {ds : List Nat} {n : Nat} (h : GoodN ds) (h1 : 1 ≤ n) (hn : n < (rowN ds).length) : Sg (.spoilt n) ((rowN ds).take n)
  | begun {ds : List Nat} {n : Nat} (h : GoodN ds) (h1 : 1 ≤ n) (hn : n < (rowN ds).length) : Sg (.begun n) ((rowN ds).take n)
  | odd {s : List Int} (h : calm 0 s) (hq : qaft 0 s = 5) (h1 : ∃ r, s = 1 :: r) (hn : numR s = none) : Sg (.odd s.length) s
theorem Sg.ticks {p : Pc} {s : List Int} (h : Sg p s) : p.ticks = s.length := by
  cases h <;> simp [Pc.ticks] <;> omega
theorem Sg.ok {p : Pc} {s : List Int} (h : Sg p s) : p.Ok := by
  intro ds e
  cases h <;> cases e
  assumption
abbrev LP := Pc × List Int
end CW

namespace CW
open PySem PySem.Spec PyProof.Rows L2 MM
def Pc.w : Pc → Str
  | .rnd _ => Str.ofString "round"
  | .odd _ => Str.ofString "odd"
  | .spoilt _ => Str.ofString "spoilt"
  | .begun _ => Str.ofString "begun"
  | .quiet _ => Str.ofString "quiet"
  | .key _ => Str.ofString "key"
def Pc.h : Pc → D
  | .rnd ds => .str (numS ds)
  | .odd n => .int n
  | .spoilt n => .int n
  | .begun n => .int n
  | .quiet n => .int n
  | .key n => .int n
def lpD (x : LP) : D := .tup [.str x.1.w, x.1.h, .pl (iD x.2)]
instance calmDec : ∀ (q : Nat) (l : List Int), Decidable (calm q l)
  | _, [] => .isTrue trivial
  | q, x :: r => match calmDec (if x = 0 then q + 1 else 0) r with
    | .isTrue h => if h2 : x ≠ 2 ∧ q < 5 then .isTrue ⟨h2.1, h2.2, h⟩ else .isFalse fun g => h2 ⟨g.1, g.2.1⟩
    | .isFalse h => .isFalse fun g => h g.2.2
end CW

namespace CW
open PySem PySem.Spec PyProof.Rows L2 MM
theorem set_right {S T : Sto} {n : Nat} {o : O} (h : S.length ≤ n) : (S ++ T).set n o = S ++ T.set (n - S.length) o := List.set_append_right _ _ h
theorem get_right {S T : Sto} {n : Nat} (h : S.length ≤ n) : (S ++ T)[n]? = T[n - S.length]? := List.getElem?_append_right h
/-- the list of pieces stands at n, behind the first k objects -/
structure At (b : Nat) (S : Sto) (l : List LP) (n : Nat) (S' : Sto) : Prop where
  ex : ∃ S1 T, S' = S1 ++ T ∧ Took b S S1 ∧ T[n - S.length]? = some (.lst false (l.map lpD))
  le : S.length ≤ n
  bd : ∀ x ∈ l, x.2.length ≤ 100
theorem At.get {b : Nat} {S : Sto} {l : List LP} {n : Nat} {S' : Sto} (h : At b S l n S') : S'[n]? = some (.lst false (l.map lpD)) := by
  obtain ⟨⟨S1, T, rfl, w, e⟩, hl, hbd⟩ := h
  rw [get_right (by rw [w.len]; exact hl), w.len, e]
theorem At.bag {b : Nat} {S : Sto} {l : List LP} {n : Nat} {S' : Sto} (h : At b S l n S') : Bag2 S' b := by
  obtain ⟨⟨S1, T, rfl, w, e⟩, hl, hbd⟩ := h
  exact w.1.app _
theorem bd_app {l m : List LP} (h : ∀ x ∈ l, x.2.length ≤ 100) (g : ∀ x ∈ m, x.2.length ≤ 100) : ∀ x ∈ l ++ m, x.2.length ≤ 100 := fun x hx => (List.mem_append.mp hx).elim (h x) (g x)
theorem At.app {b : Nat} {S : Sto} {l m : List LP} {n : Nat} {S' : Sto} (h : At b S l n S') (hm : ∀ x ∈ m, x.2.length ≤ 100) : At b S (l ++ m) n (S'.set n (.lst false (l.map lpD ++ m.map lpD))) := by
  obtain ⟨⟨S1, T, rfl, w1, e⟩, hl, hbd⟩ := h
  refine ⟨⟨S1, T.set (n - S.length) (.lst false (l.map lpD ++ m.map lpD)), by rw [set_right (by rw [w1.len]; exact hl), w1.len], w1, ?_⟩, hl, bd_app hbd hm⟩
  rw [List.getElem?_set_self (List.getElem?_eq_some_iff.mp e).1]
  simp
theorem At.new {b : Nat} {S : Sto} {l m : List LP} {n : Nat} {S' : Sto} (h : At b S l n S') (hm : ∀ x ∈ m, x.2.length ≤ 100) : At b S (l ++ m) S'.length (S' ++ [.lst false (l.map lpD ++ m.map lpD)]) := by
  obtain ⟨⟨S1, T, rfl, w1, e⟩, hl, hbd⟩ := h
  have := w1.len
  refine ⟨⟨S1, T ++ [.lst false (l.map lpD ++ m.map lpD)], by simp, w1, ?_⟩, by simp; omega, bd_app hbd hm⟩
  rw [List.length_append, w1.len, Nat.add_sub_cancel_left, List.getElem?_append_right (Nat.le_refl _)]
  simp
end CW

namespace CW
open PySem PySem.Spec PyProof.Rows L2 MM
end CW

namespace CW
open PySem PySem.Spec PyProof.Rows L2 MM
/-- only the bag at b was changed; things were made -/
def Grew (b : Nat) (S S' : Sto) : Prop := BagAt S' b ∧ S.length ≤ S'.length ∧ ∀ n, n < S.length → n ≠ b → S'[n]? = S[n]?
theorem Drew.grew {b : Nat} {S S' : Sto} (h : Drew b S S') : Grew b S S' := ⟨h.1, by rw [h.len]; exact Nat.le_refl _, fun n _ hb => h.get hb⟩
theorem Grew.refl {b : Nat} {S : Sto} (h : BagAt S b) : Grew b S S := ⟨h, Nat.le_refl _, fun _ _ _ => rfl⟩
theorem Grew.trans {b : Nat} {S S1 S2 : Sto} (h : Grew b S S1) (g : Grew b S1 S2) : Grew b S S2 := ⟨g.1, Nat.le_trans h.2.1 g.2.1, fun n hn hb => by rw [g.2.2 n (by have := h.2.1; omega) hb, h.2.2 n hn hb]⟩
theorem BagAt.app {b : Nat} {S : Sto} (h : BagAt S b) (T : Sto) : BagAt (S ++ T) b := by
  have := h.lt
  obtain ⟨a, m, k, e, r⟩ := h
  exact ⟨a, m, k, by rw [List.getElem?_append_left this, e], r⟩
theorem Grew.app {b : Nat} {S S' : Sto} (h : Grew b S S') (T : Sto) : Grew b S (S' ++ T) := ⟨h.1.app T, by have := h.2.1; simp; omega, fun n hn hb => by rw [List.getElem?_append_left (by have := h.2.1; omega), h.2.2 n hn hb]⟩
theorem draw_of {b : Nat} {S : Sto} {n : Int} {r : R D} (hr : sp_law_draw [.ref b, .int n] S = r) (hb : BagAt S b) (h1 : 1 ≤ n) (h2 : n < 2 ^ 120) : ∃ d S', r = .ok (.int d) S' ∧ 0 ≤ d ∧ d < n ∧ Drew b S S' ∧ BagAt S' b := by
  obtain ⟨d, S', e, h0, h1, w⟩ := draw_ev hb h1 h2
  exact ⟨d, S', hr ▸ e, h0, h1, w, w.1⟩
theorem figures_of {b : Nat} {S : Sto} {r : R D} (hr : sp_law_figures [.ref b] S = r) (hb : BagAt S b) : ∃ ds S', r = .ok (.str (numS ds)) S' ∧ GoodN ds ∧ Drew b S S' ∧ BagAt S' b := by
  obtain ⟨ds, S', e, hg, w⟩ := figures_ev hb
  exact ⟨ds, S', hr ▸ e, hg, w, w.1⟩
end CW

namespace CW
open PySem PySem.Spec PyProof.Rows L2 MM
end CW

namespace CW
open PySem PySem.Spec PyProof.Rows L2 MM
end CW

namespace CW
open PySem PySem.Spec PyProof.Rows L2 MM
end CW

namespace CW
open PySem PySem.Spec PyProof.Rows L2 MM
theorem lc_draws {n : Nat} {tg : MG} {m : ME} {ρ : Fr} {b : Nat} (P : D → Prop) {S : Sto} (hb : BagAt S b) (htg : ∀ d, ∃ ρ1, tg d ρ = some ρ1 ∧ ∀ S', BagAt S' b → ∃ x S'', m ρ1 S' = .ok x S'' ∧ P x ∧ Drew b S' S'') :
    ∃ out S', lcD noG tg tYs m ρ (rangeD 0 n) S = .ok out S' ∧ out.length = n ∧ (∀ d ∈ out, P d) ∧ Drew b S S' := by
  obtain ⟨out, S', e, h1, h2, h3⟩ := lc_run (g := noG) (tg := tg) (m := m) (ρ := ρ) (fun i l S' => l.length = i ∧ (∀ d ∈ l, P d) ∧ Drew b S S') (fun _ _ _ _ => trivial) (items := rangeD 0 n) (k := 0) (acc := []) (S := S) (by
    rintro i d l S1 hd ⟨h1, h2, h3⟩
    obtain ⟨ρ1, e1, h⟩ := htg d
    obtain ⟨x, S2, e2, hp, w⟩ := h S1 h3.1
    refine ⟨ρ1, x, S2, e1, e2, by simp [h1], ?_, h3.trans w⟩
    intro y hy
    rcases List.mem_append.mp hy with hy | hy
    · exact h2 y hy
    · rw [List.mem_singleton.mp hy]; exact hp) ⟨rfl, by simp, Drew.refl hb⟩
  refine ⟨out, S', e, ?_, by simpa using h2, h3⟩
  have : (rangeD 0 n).length = n := by simp [rangeD]
  simp [this] at h1
  exact h1
end CW

namespace CW
open PySem PySem.Spec PyProof.Rows L2 MM
section
variable {ρ : Fr} {S : Sto} {a b o i e x : ME} {l : ML} {m n : MS} {k : Nat} {f : Str}
@[simp] theorem eDNew_ev : eDNew ρ S = .ok (.ref S.length) (S ++ [.dct false []]) := rfl
@[simp] theorem sSetA_ev : sSetA o i a ρ S = RS.of ρ (a ρ S) fun d S1 => RS.of ρ (o ρ S1) fun x S2 => RS.of ρ (i ρ S2) fun k S3 => match setAny x k d S3 with | some S4 => .nx ρ S4 | none => .no := rfl
@[simp] theorem then_ex {c : Nat} {q : Fr → Sto → RS} : (RS.ex c ρ S).then q = .ex c ρ S := rfl
end
theorem isDR_ev {S : Sto} {n : Nat} {fz : Bool} {l : List (Key × D)} (h : S[n]? = some (.dct fz l)) : isDR (.ref n) S = true := by simp [isDR, h]
theorem setA_ev {S : Sto} {n : Nat} {l : List (Key × D)} {z : Str} {v : D} (h : S[n]? = some (.dct false l)) (hl : l.length ≤ 100000) : setAny (.ref n) (.str z) v S = some (S.set n (.dct false (putD l (.inr z) v))) := by
  have : l.length < sizeLine := by rw [sizeL]; omega
  simp [setAny, isDR_ev h, setKey, keyD, h, this]
theorem valD_nil (k : Key) : valD [] k = none := rfl
theorem valD_cons (k j : Key) (d : D) (l : List (Key × D)) : valD ((k, d) :: l) j = if k = j then some d else valD l j := by
  unfold valD
  rw [List.find?_cons]
  by_cases h : k = j <;> simp [h]
theorem valD_any (l : List (Key × D)) (k : Key) : (l.any fun kv => decide (kv.1 = k)) = (valD l k).isSome := by
  induction l with
  | nil => rfl
  | cons x l ih =>
    obtain ⟨j, d⟩ := x
    rw [List.any_cons, valD_cons, ih]
    by_cases h : j = k <;> simp [h]
theorem valD_put (l : List (Key × D)) (k j : Key) (v : D) : valD (putD l k v) j = if k = j then some v else valD l j := by
  unfold putD
  rw [valD_any]
  cases hv : valD l k with
  | none =>
    simp only [Option.isSome_none, Bool.false_eq_true, if_false]
    have : ∀ (l : List (Key × D)), valD l k = none → valD (l ++ [(k, v)]) j = if k = j then some v else valD l j := by
      intro l
      induction l with
      | nil => intro _; rw [List.nil_append, valD_cons]
      | cons x l ih =>
        obtain ⟨i, d⟩ := x
        intro h
        rw [valD_cons] at h
        by_cases hi : i = k
        · rw [if_pos hi] at h; cases h
        · rw [if_neg hi] at h
          rw [List.cons_append, valD_cons, ih h, valD_cons]
          by_cases hij : i = j
          · rw [if_pos hij, if_pos hij, if_neg (fun e => hi (hij.trans e.symm))]
          · rw [if_neg hij, if_neg hij]
    exact this l hv
  | some d0 =>
    simp only [Option.isSome_some, if_true]
    have : ∀ (l : List (Key × D)) d0, valD l k = some d0 → valD (l.map fun kv => if kv.1 = k then (kv.1, v) else kv) j = if k = j then some v else valD l j := by
      intro l
      induction l with
      | nil => intro d0 h; cases h
      | cons x l ih =>
        obtain ⟨i, d⟩ := x
        intro d0 h
        rw [List.map_cons, valD_cons i j]
        by_cases hi : i = k
        · subst hi
          simp only [if_true]
          rw [valD_cons]
          by_cases hij : i = j
          · rw [if_pos hij, if_pos hij]
          · rw [if_neg hij, if_neg hij, if_neg hij]
            have : ∀ (l : List (Key × D)), valD (l.map fun kv => if kv.1 = i then (kv.1, v) else kv) j = valD l j := by
              intro l
              induction l with
              | nil => rfl
              | cons y l ih2 =>
                obtain ⟨i2, d2⟩ := y
                rw [List.map_cons, valD_cons i2 j]
                by_cases h2 : i2 = i
                · simp only [h2, if_true]
                  rw [valD_cons, if_neg hij, if_neg hij, ih2]
                · simp only [h2, if_false]
                  rw [valD_cons, ih2]
            exact this l
        · simp only [hi, if_false]
          rw [valD_cons] at h
          rw [if_neg hi] at h
          rw [valD_cons, ih d0 h]
          by_cases hij : i = j
          · rw [if_pos hij, if_pos hij, if_neg (fun e => hi (hij.trans e.symm))]
          · rw [if_neg hij, if_neg hij]
    exact this l d0 hv
theorem putD_len (l : List (Key × D)) (k : Key) (v : D) : (putD l k v).length ≤ l.length + 1 := by unfold putD; split <;> simp
theorem lcOf {α : Type} {g : Sto → Prop} {tg : MG} {m : ME} {ρ : Fr} {S : Sto} (r f : α → D) (hg : g S) : ∀ {l : List α}, (∀ x ∈ l, ∃ ρ1, tg (r x) ρ = some ρ1 ∧ m ρ1 S = .ok (f x) S) → lcD g tg tYs m ρ (l.map r) S = .ok (l.map f) S
  | [], _ => by rw [List.map_nil]; unfold lcD; rw [if_pos hg]; rfl
  | d :: ds, h => by
    rw [List.map_cons]
    unfold lcD
    rw [if_pos hg]
    obtain ⟨ρ1, e1, e2⟩ := h d List.mem_cons_self
    rw [e1]
    simp [e2, lcOf r f hg (l := ds) fun d hd => h d (List.mem_cons_of_mem _ hd)]
/-- a dict that counts texts -/
structure Cnt (l : List (Key × D)) (f : Str → Int) (b : Nat) : Prop where
  get : ∀ z, (valD l (.inr z)).getD (.int 0) = .int (f z)
  len : l.length ≤ b
def setN (f : Str → Int) (z : Str) (v : Int) : Str → Int := fun y => if y = z then v else f y
@[simp] theorem setN_same (f : Str → Int) (z : Str) (v : Int) : setN f z v z = v := if_pos rfl
theorem Cnt.nil {b : Nat} : Cnt [] (fun _ => 0) b := ⟨fun _ => rfl, Nat.zero_le _⟩
theorem Cnt.put {l : List (Key × D)} {f : Str → Int} {b : Nat} (h : Cnt l f b) (z : Str) (v : Int) : Cnt (putD l (.inr z) (.int v)) (setN f z v) (b + 1) := by
  refine ⟨fun y => ?_, Nat.le_trans (putD_len _ _ _) (by have := h.len; omega)⟩
  rw [valD_put]
  unfold setN
  by_cases hy : y = z
  · subst hy; simp
  · have : ¬ (Sum.inr z : Key) = Sum.inr y := fun e => hy (by cases e; rfl)
    rw [if_neg this, if_neg hy]
    exact h.get y
end CW

namespace CW
open PySem PySem.Spec PyProof.Rows L2 MM
theorem sz {n : Nat} (h : n ≤ 1000) : (n ≤ sizeLine) = True := eq_true (by rw [sizeL]; omega)
/-- more pigeons than holes -/
theorem pigeon {α : Type} [DecidableEq α] : ∀ {A l : List α}, A.Nodup → (∀ x ∈ A, x ∈ l) → A.length ≤ l.length
  | [], _, _, _ => Nat.zero_le _
  | a :: A, l, nd, h => by
    have ha := h a List.mem_cons_self
    have h2 := List.nodup_cons.mp nd
    have := pigeon (A := A) (l := l.erase a) h2.2 fun x hx => (List.mem_erase_of_ne (fun e : x = a => h2.1 (by rw [← e]; exact hx))).mpr (h x (List.mem_cons_of_mem _ hx))
    rw [List.length_erase_of_mem ha] at this
    have hp : 0 < l.length := List.length_pos_of_mem ha
    simp only [List.length_cons]
    omega
theorem lc_ofF {α : Type} {g : Sto → Prop} {tg : MG} {t : MT} {m : ME} {ρ : Fr} {S : Sto} (r : α → D) (q : α → Bool) (f : α → D) (hg : g S) : ∀ {l : List α}, (∀ x ∈ l, ∃ ρ1, tg (r x) ρ = some ρ1 ∧ t ρ1 S = .ok (q x) S ∧ (q x = true → m ρ1 S = .ok (f x) S)) → lcD g tg t m ρ (l.map r) S = .ok ((l.filter q).map f) S
  | [], _ => by rw [List.map_nil]; unfold lcD; rw [if_pos hg]; rfl
  | d :: ds, h => by
    rw [List.map_cons]
    unfold lcD
    rw [if_pos hg]
    obtain ⟨ρ1, e1, e2, e3⟩ := h d List.mem_cons_self
    have ih := lc_ofF r q f hg (l := ds) fun d hd => h d (List.mem_cons_of_mem _ hd)
    rw [e1]
    cases hq : q d with
    | true => simp [e2, e3 hq, hq, ih]
    | false => simp [e2, hq, ih]
def two (n : Nat) : List Nat := [n / 10, n % 10]
def free (l : List (List Nat)) (n : Nat) : Bool := decide (0 < n % 10) && !decide (two n ∈ l)
theorem ints_of : ∀ {out : List D} {P : Int → Prop}, (∀ d ∈ out, ∃ v : Int, d = .int v ∧ P v) → ∃ l : List Int, out = iD l ∧ ∀ v ∈ l, P v
  | [], _, _ => ⟨[], rfl, by simp⟩
  | d :: r, P, h => by
    obtain ⟨v, rfl, hv⟩ := h d List.mem_cons_self
    obtain ⟨l, rfl, hl⟩ := ints_of fun d hd => h d (List.mem_cons_of_mem _ hd)
    exact ⟨v :: l, rfl, fun x hx => by
      rcases List.mem_cons.mp hx with rfl | hx
      · exact hv
      · exact hl x hx⟩
def ixsD (l : List Nat) : List D := l.map fun (k : Nat) => D.int (k : Int)
@[simp] theorem ixsD_length (l : List Nat) : (ixsD l).length = l.length := by simp [ixsD]
structure GoodR (n : Nat) (r : List Nat) : Prop where
  nd : r.Nodup
  lt : ∀ k ∈ r, k < n
theorem GoodR.len {n : Nat} {r : List Nat} (h : GoodR n r) : r.length ≤ n := by
  have := pigeon (A := r) (l := List.range n) h.nd fun x hx => List.mem_range.mpr (h.lt x hx)
  simpa using this
structure Crd where
  order : List Nat
  counts : List Int
  covers : List (Nat × Int)
def covD (p : Nat × Int) : D := .tup [.int (p.1 : Nat), .int p.2]
def crdL (c : Crd) : List D := [.tup (ixsD c.order), .tup (iD c.counts), .tup (c.covers.map covD)]
def crdD (c : Crd) : D := .tup (crdL c)
def cardD (ds : List Nat) (c : Crd) : D := .tup (.str (numS ds) :: crdL c)
/-- a card by the houses hs -/
structure GoodC (hs : List Int) (c : Crd) : Prop where
  order : GoodR hs.length c.order
  cnt : c.counts.length = 3
  cnt9 : ∀ v ∈ c.counts, 0 ≤ v ∧ v ≤ 9
  cov : ∀ p ∈ c.covers, p.1 < hs.length ∧ p.2 ∈ hs
  few : c.covers.length ≤ 9
end CW

namespace CW
open PySem PySem.Spec PyProof.Rows L2 MM
theorem all_true {l : List D} {S : Sto} (h : ∀ d ∈ l, d = .bl true) : allD l S = .ok (.bl true) S := by
  have e : l = (l.map fun _ => true).map fun b => D.bl b := by
    rw [List.map_map]
    conv => lhs; rw [← List.map_id l]
    apply List.map_congr_left
    intro d hd
    exact h d hd
  have := allD_map (fun b : Bool => b) (l.map fun _ => true) S
  rw [← e] at this
  rw [this]
  simp
structure GoodCs (hs : List Int) (cs : List (List Nat × Crd)) : Prop where
  num : ∀ x ∈ cs, GoodN x.1
  card : ∀ x ∈ cs, GoodC hs x.2
  nd : (cs.map (·.1)).Nodup
  len : cs.length ≤ 20
def cardsD (cs : List (List Nat × Crd)) : List D := cs.map fun x => cardD x.1 x.2
end CW

namespace CW
open PySem PySem.Spec PyProof.Rows L2 MM
inductive Std where
  | at_ (h : Int) | out (z : Str)
deriving DecidableEq
def inS : Str := Str.ofString "in"
def outS : Str := Str.ofString "out"
def stdD : Std → D
  | .at_ h => .tup [.str inS, .int h]
  | .out z => .tup [.str outS, .str z]
structure WSt where
  often : Int
  own : List Int
  cards : Str → Option Crd
  st : List Std
  rn : Str → Int
  cl : Str → Int
def fW (o : Int) (own : List Int) (n : Nat) : List (Str × D) := [("often", .int o), ("own", .tup (iD own)), ("by_number", .ref (n + 1)), ("stands", .ref (n + 2)), ("rounds_of", .ref (n + 3)), ("calls_of", .ref (n + 4))]
section
variable {o : Int} {own : List Int} {n : Nat}
end
structure WatchAt (S : Sto) (n : Nat) (w : WSt) (b : Nat) : Prop where
  ob : S[n]? = some (.ins 1 (fW w.often w.own n))
  by_ : ∃ l, S[n + 1]? = some (.dct false l) ∧ ∀ z, valD l (.inr z) = (w.cards z).map crdD
  st : S[n + 2]? = some (.lst false (w.st.map stdD))
  rn : ∃ l, S[n + 3]? = some (.dct false l) ∧ Cnt l w.rn b
  cl : ∃ l, S[n + 4]? = some (.dct false l) ∧ Cnt l w.cl b
  pos : 1 ≤ w.often
  len : w.st.length = w.own.length
  few : w.own.length ≤ 9
  good : ∀ z c, w.cards z = some c → GoodC w.own c
  txt : ∀ z, Std.out z ∈ w.st → PyData.strOk z = true
  bd : b ≤ 50000
/-- nothing but the watch at n was changed; things were made -/
def Wch (n : Nat) (S S' : Sto) : Prop := S.length ≤ S'.length ∧ ∀ i, i < S.length → (i < n ∨ n + 4 < i) → S'[i]? = S[i]?
theorem Wch.refl {n : Nat} {S : Sto} : Wch n S S := ⟨Nat.le_refl _, fun _ _ _ => rfl⟩
theorem Wch.trans {n : Nat} {S S1 S2 : Sto} (h : Wch n S S1) (g : Wch n S1 S2) : Wch n S S2 := ⟨Nat.le_trans h.1 g.1, fun i hi hn => by rw [g.2 i (by have := h.1; omega) hn, h.2 i hi hn]⟩
theorem Wch.app {n : Nat} {S S' : Sto} (h : Wch n S S') (T : Sto) : Wch n S (S' ++ T) := ⟨by have := h.1; simp; omega, fun i hi hn => by rw [List.getElem?_append_left (by have := h.1; omega), h.2 i hi hn]⟩
theorem Wch.set {n j : Nat} {S S' : Sto} {o : O} (h : Wch n S S') (hj : n ≤ j ∧ j ≤ n + 4 ∨ S.length ≤ j) : Wch n S (S'.set j o) := ⟨by rw [List.length_set]; exact h.1, fun i hi hn => by rw [List.getElem?_set_ne (by omega), h.2 i hi hn]⟩
theorem get_of {α : Type} {S : List α} {i : Nat} {o : α} (h : S[i]? = some o) : i < S.length := (List.getElem?_eq_some_iff.mp h).1
theorem WatchAt.lt {S : Sto} {n b : Nat} {w : WSt} (h : WatchAt S n w b) : n + 4 < S.length := by
  obtain ⟨l, e, _⟩ := h.cl
  exact get_of e
/-- other places may change -/
theorem WatchAt.other {S S' : Sto} {n b : Nat} {w : WSt} (h : WatchAt S n w b) (g : ∀ i, n ≤ i → i ≤ n + 4 → S'[i]? = S[i]?) : WatchAt S' n w b := by
  obtain ⟨h1, ⟨l2, h2, h2'⟩, h3, ⟨l4, h4, h4'⟩, ⟨l5, h5, h5'⟩, r1, r2, r3, r4, r5, r6⟩ := h
  exact ⟨by rw [g n (by omega) (by omega)]; exact h1, ⟨l2, by rw [g (n + 1) (by omega) (by omega)]; exact h2, h2'⟩, by rw [g (n + 2) (by omega) (by omega)]; exact h3, ⟨l4, by rw [g (n + 3) (by omega) (by omega)]; exact h4, h4'⟩, ⟨l5, by rw [g (n + 4) (by omega) (by omega)]; exact h5, h5'⟩, r1, r2, r3, r4, r5, r6⟩
theorem WatchAt.app {S : Sto} {n b : Nat} {w : WSt} (h : WatchAt S n w b) (T : Sto) : WatchAt (S ++ T) n w b := h.other fun i _ h2 => List.getElem?_append_left (by have := h.lt; omega)
theorem Cnt.mono {l : List (Key × D)} {f : Str → Int} {a b : Nat} (h : Cnt l f a) (hab : a ≤ b) : Cnt l f b := ⟨h.get, Nat.le_trans h.len hab⟩
theorem WatchAt.mono {S : Sto} {n a b : Nat} {w : WSt} (h : WatchAt S n w a) (hab : a ≤ b) (hb : b ≤ 50000) : WatchAt S n w b := by
  obtain ⟨h1, h2, h3, ⟨l4, h4, h4'⟩, ⟨l5, h5, h5'⟩, r1, r2, r3, r4, r5, _⟩ := h
  exact ⟨h1, h2, h3, ⟨l4, h4, h4'.mono hab⟩, ⟨l5, h5, h5'.mono hab⟩, r1, r2, r3, r4, r5, hb⟩
/-- the stands are put otherwise -/
theorem WatchAt.stands {S : Sto} {n b : Nat} {w : WSt} (h : WatchAt S n w b) {st : List Std} (hl : st.length = w.st.length) (ht : ∀ z, Std.out z ∈ st → PyData.strOk z = true) : WatchAt (S.set (n + 2) (.lst false (st.map stdD))) n { w with st := st } b := by
  have hlt := h.lt
  obtain ⟨h1, ⟨l2, h2, h2'⟩, h3, ⟨l4, h4, h4'⟩, ⟨l5, h5, h5'⟩, r1, r2, r3, r4, r5, r6⟩ := h
  exact ⟨by rw [List.getElem?_set_ne (by omega)]; exact h1, ⟨l2, by rw [List.getElem?_set_ne (by omega)]; exact h2, h2'⟩, List.getElem?_set_self (by omega), ⟨l4, by rw [List.getElem?_set_ne (by omega)]; exact h4, h4'⟩, ⟨l5, by rw [List.getElem?_set_ne (by omega)]; exact h5, h5'⟩, r1, hl.trans r2, r3, r4, ht, r6⟩
def cardOf (cs : List (List Nat × Crd)) (z : Str) : Option Crd := (cs.find? fun x => decide (numS x.1 = z)).map (·.2)
theorem mem_set {st : List Std} {k : Nat} {s x : Std} (h : x ∈ st.set k s) : x ∈ st ∨ x = s := List.mem_or_eq_of_mem_set h
end CW

namespace CW
open PySem PySem.Spec PyProof.Rows L2 MM
def noCard : Crd := ⟨[], [0, 0, 0], []⟩
def cardZ (w : WSt) (z : Str) : Crd := (w.cards z).getD noCard
theorem goodNo (hs : List Int) : GoodC hs noCard := ⟨⟨by simp [noCard], by simp [noCard]⟩, rfl, by simp [noCard], by simp [noCard], by simp [noCard]⟩
theorem WatchAt.card {S : Sto} {n b : Nat} {w : WSt} (h : WatchAt S n w b) (z : Str) : GoodC w.own (cardZ w z) := by
  unfold cardZ
  cases hc : w.cards z with
  | none => exact goodNo _
  | some c => exact h.good z c hc
end CW

namespace CW
open PySem PySem.Spec PyProof.Rows L2 MM
def emp : Str := Str.ofString ""
def goneS : Std → Str
  | .at_ _ => emp
  | .out z => z
def goneD (st : List Std) : List D := st.map fun s => D.str (goneS s)
def plF (o : Int) (own : List Int) (cs : List (List Nat × Crd)) (m : Nat) : List (Key × D) := [(.inr "often", .int o), (.inr "own", .tup (iD own)), (.inr "cards", .tup (cardsD cs)), (.inr "at", .ref (m + 1)), (.inr "gone", .ref (m + 2)), (.inr "many", .ref (m + 3)), (.inr "calls", .ref (m + 4))]
structure PlV (S : Sto) (m : Nat) (o : Int) (own : List Int) (cs : List (List Nat × Crd)) (st : List Std) (la : List Int) : Prop where
  ob : S[m]? = some (.dct false (plF o own cs m))
  at_ : S[m + 1]? = some (.lst false (iD la))
  gone : S[m + 2]? = some (.lst false (goneD st))
  ok : ∀ (k : Nat) h, st[k]? = some (.at_ h) → la[k]? = some h
  ll : la.length = st.length
  len : st.length = own.length
  few : own.length ≤ 9
  ne : ∀ z, Std.out z ∈ st → ¬ z = emp
section
variable {S S' : Sto} {m : Nat} {o : Int} {own : List Int} {cs : List (List Nat × Crd)} {st : List Std} {la : List Int}
theorem PlV.other (h : PlV S m o own cs st la) (g : ∀ i, m ≤ i → i ≤ m + 2 → S'[i]? = S[i]?) : PlV S' m o own cs st la :=
  ⟨by rw [g m (by omega) (by omega)]; exact h.ob, by rw [g (m + 1) (by omega) (by omega)]; exact h.at_, by rw [g (m + 2) (by omega) (by omega)]; exact h.gone, h.ok, h.ll, h.len, h.few, h.ne⟩
theorem PlV.lt (h : PlV S m o own cs st la) : m + 2 < S.length := get_of h.gone
/-- a crew goes out -/
theorem PlV.out (h : PlV S m o own cs st la) {z : Str} (hz : ¬ z = emp) (k : Nat) : PlV (S.set (m + 2) (.lst false (goneD (st.set k (.out z))))) m o own cs (st.set k (.out z)) la := by
  have hlt := h.lt
  refine ⟨by rw [List.getElem?_set_ne (by omega)]; exact h.ob, by rw [List.getElem?_set_ne (by omega)]; exact h.at_, List.getElem?_set_self hlt, fun j v hj => ?_, by rw [List.length_set]; exact h.ll, by rw [List.length_set]; exact h.len, h.few, fun y hy => ?_⟩
  · rw [List.getElem?_set] at hj
    split at hj
    · split at hj <;> cases hj
    · exact h.ok j v hj
  · rcases mem_set hy with h1 | h1
    · exact h.ne y h1
    · cases h1; exact hz
end
structure PlAt (S : Sto) (m : Nat) (w : WSt) (cs : List (List Nat × Crd)) (b : Nat) : Prop where
  v : ∃ la, PlV S m w.often w.own cs w.st la
  mn : ∃ l, S[m + 3]? = some (.dct false l) ∧ Cnt l w.rn b
  cl : ∃ l, S[m + 4]? = some (.dct false l) ∧ Cnt l w.cl b
  crd : w.cards = cardOf cs
  good : GoodCs w.own cs
  pos : 1 ≤ w.often
  bd : b ≤ 50000
/-- nothing but the plain watch at m was changed -/
def Plc (m : Nat) (S S' : Sto) : Prop := S'.length = S.length ∧ ∀ i, (i < m ∨ m + 4 < i) → S'[i]? = S[i]?
theorem Plc.refl {m : Nat} {S : Sto} : Plc m S S := ⟨rfl, fun _ _ => rfl⟩
theorem Plc.trans {m : Nat} {S S1 S2 : Sto} (h : Plc m S S1) (g : Plc m S1 S2) : Plc m S S2 := ⟨g.1.trans h.1, fun i hi => by rw [g.2 i hi, h.2 i hi]⟩
theorem Plc.set {m j : Nat} {S S' : Sto} {o : O} (h : Plc m S S') (h1 : m ≤ j) (h2 : j ≤ m + 4) : Plc m S (S'.set j o) := ⟨by rw [List.length_set]; exact h.1, fun i hi => by rw [List.getElem?_set_ne (by omega), h.2 i hi]⟩
section
variable {S S' : Sto} {m b : Nat} {w : WSt} {cs : List (List Nat × Crd)}
theorem PlAt.lt (h : PlAt S m w cs b) : m + 4 < S.length := by
  obtain ⟨l, e, _⟩ := h.cl
  exact get_of e
theorem PlAt.other (h : PlAt S m w cs b) (g : ∀ i, m ≤ i → i ≤ m + 4 → S'[i]? = S[i]?) : PlAt S' m w cs b := by
  obtain ⟨⟨la, h1⟩, ⟨l2, h2, h2'⟩, ⟨l3, h3, h3'⟩, r1, r2, r3, r4⟩ := h
  exact ⟨⟨la, h1.other fun i h1 h2 => g i h1 (by omega)⟩, ⟨l2, by rw [g _ (by omega) (by omega)]; exact h2, h2'⟩, ⟨l3, by rw [g _ (by omega) (by omega)]; exact h3, h3'⟩, r1, r2, r3, r4⟩
theorem PlAt.mono {a : Nat} (h : PlAt S m w cs a) (hab : a ≤ b) (hb : b ≤ 50000) : PlAt S m w cs b := by
  obtain ⟨h1, ⟨l2, h2, h2'⟩, ⟨l3, h3, h3'⟩, r1, r2, r3, _⟩ := h
  exact ⟨h1, ⟨l2, h2, h2'.mono hab⟩, ⟨l3, h3, h3'.mono hab⟩, r1, r2, r3, hb⟩
end
end CW

namespace CW
open PySem PySem.Spec PyProof.Rows L2 MM
section
variable {a b c : ME} {ρ : Fr} {S : Sto}
end
theorem PlV.back {S : Sto} {m : Nat} {o : Int} {own : List Int} {cs : List (List Nat × Crd)} {st : List Std} {la : List Int} (h : PlV S m o own cs st la) {k : Nat} (hk : k < st.length) (x : Int) : PlV ((S.set (m + 2) (.lst false (goneD (st.set k (.at_ x))))).set (m + 1) (.lst false (iD (la.set k x)))) m o own cs (st.set k (.at_ x)) (la.set k x) := by
  have hlt := h.lt
  refine ⟨by rw [List.getElem?_set_ne (by omega), List.getElem?_set_ne (by omega)]; exact h.ob, List.getElem?_set_self (by rw [List.length_set]; omega), by rw [List.getElem?_set_ne (by omega), List.getElem?_set_self (by omega)], fun j u hj => ?_, by simp [h.ll], by rw [List.length_set]; exact h.len, h.few, fun y hy => ?_⟩
  · rw [List.getElem?_set] at hj ⊢
    split at hj
    · rename_i e
      subst e
      rw [if_pos rfl, if_pos (by rw [h.ll]; exact hk)]
      cases hj
      rfl
    · rename_i e
      rw [if_neg e]
      exact h.ok j u hj
  · rcases mem_set hy with h1 | h1
    · exact h.ne y h1
    · cases h1
end CW

namespace CW
open PySem PySem.Spec PyProof.Rows L2 MM
/-- _law_town(_law_bag_here, _law_most); slots 0 _law_bag_here, 1 _law_most, 2 _law_loops, 3 _law_met, 4 _law_loop, 5 _law_numbers, 6 _law_place, 7 _law_number, 8 _law_texts, 9 _law_spare, 10 _law_k, 11 _law_text -/
noncomputable def m_law_town : MS :=
  sSeq (sSet 2 (eNew (lNew (aNil))))
  (sSeq (sSet 3 (eDNew))
  (sSeq (sFor (iR1 (aCons (eBin addD (eC (.int 1)) (eBin mulD (eCall sp_law_draw (aCons (eVar 0) (aCons (eC (.int 4)) (aNil)))) (eCall sp_law_draw (aCons (eVar 0) (aCons (eC (.int 2)) (aNil)))))) (aNil))) (tN 4) (sSeq (sSet 5 (eNew (lNew (aNil))))
  (sSeq (sFor (iR1 (aCons (eBin addD (eC (.int 1)) (eCall sp_law_draw (aCons (eVar 0) (aCons (eVar 1) (aNil))))) (aNil))) (tN 6) (sSeq (sSet 7 (eCall sp_law_figures (aCons (eVar 0) (aNil))))
  (sIf (tV (eBin notInAD (eVar 7) (eVar 3))) (sSeq (sSetA (eVar 3) (eVar 7) (eC (.bl true)))
  (sExpr (eMeth isLstD appendD (eVar 5) (aCons (eVar 7) (aNil))))) (sPass))))
  (sSeq (sIf (tV (eBin eqD (eVar 5) (ePl (lNew (aNil))))) (sSeq (sSet 8 (ePl (lComp (iR1 (aCons (eC (.int 81)) (aNil))) [10] (tN 10) tYs (eCall strD (aCons (eBin addD (eBin addD (eC (.int 11)) (eVar 10)) (eBin fdivD (eVar 10) (eC (.int 9)))) (aNil))))))
  (sSeq (sSet 9 (ePl (lComp (iA (eVar 8)) [11] (tN 11) (tV (eBin notInAD (eVar 11) (eVar 3))) (eVar 11))))
  (sSeq (sSetA (eVar 3) (eBin ixD (eVar 9) (eC (.int 0))) (eC (.bl true)))
  (sSet 5 (eSlM (eVar 9) (oN) (oS (eC (.int 1)))))))) (sPass))
  (sExpr (eMeth isLstD appendD (eVar 2) (aCons (eCall tupleA (aCons (eVar 5) (aNil))) (aNil))))))))
  (sRet (eTup (aCons (eCall tupleA (aCons (eVar 2) (aNil))) (aCons (eBin addD (eC (.int 1)) (eCall sp_law_draw (aCons (eVar 0) (aCons (eC (.int 4)) (aNil))))) (aCons (eBin addD (eC (.int 1)) (eCall sp_law_draw (aCons (eVar 0) (aCons (eC (.int 50)) (aNil))))) (aNil))))))))
noncomputable def sp_law_town : FL := gcF (body 12 m_law_town)
/-- _law_cuts(_law_bag_here, _law_town_here); slots 0 _law_bag_here, 1 _law_town_here, 2 _law_found, 3 _law_loop, 4 _law_many_here, 5 _law_turn -/
noncomputable def m_law_cuts : MS :=
  sSeq (sSet 2 (eNew (lNew (aNil))))
  (sSeq (sFor (iA (eBin ixD (eVar 1) (eC (.int 0)))) (tN 3) (sSeq (sSet 4 (eBin ixD (eTup (aCons (eC (.int 0)) (aCons (eC (.int 0)) (aCons (eC (.int 1)) (aCons (eC (.int 1)) (aCons (eC (.int 2)) (aCons (eC (.int 4)) (aNil)))))))) (eCall sp_law_draw (aCons (eVar 0) (aCons (eC (.int 6)) (aNil))))))
  (sExpr (eMeth isLstD appendD (eVar 2) (aCons (eLs tupleD (lSortSet (ePl (lComp (iR1 (aCons (eVar 4) (aNil))) [5] (tN 5) tYs (eCall sp_law_draw (aCons (eVar 0) (aCons (eBin addD (eCall lenD (aCons (eVar 3) (aNil))) (eC (.int 1))) (aNil)))))))) (aNil))))))
  (sRet (eCall tupleA (aCons (eVar 2) (aNil)))))
noncomputable def sp_law_cuts : FL := gcF (body 6 m_law_cuts)
/-- near_part(numbers, cuts); slots 0 numbers, 1 cuts -/
noncomputable def m_near_part : MS :=
  sSeq (sIf (tV (eBin eqD (eVar 1) (eTup (aNil)))) (sRet (eVar 0)) (sPass))
  (sRet (eSl (eVar 0) (oN) (oS (eBin ixD (eVar 1) (eC (.int 0))))))
noncomputable def sp_near_part : FL := body 2 m_near_part
/-- far_part(numbers, cuts); slots 0 numbers, 1 cuts -/
noncomputable def m_far_part : MS :=
  sSeq (sIf (tV (eBin eqD (eVar 1) (eTup (aNil)))) (sRet (eVar 0)) (sPass))
  (sRet (eSl (eVar 0) (oS (eBin ixD (eVar 1) (eUn negD (eC (.int 1))))) (oN)))
noncomputable def sp_far_part : FL := body 2 m_far_part
/-- loop_parts(numbers, cuts); slots 0 numbers, 1 cuts -/
noncomputable def m_loop_parts : MS :=
  sSeq (sIf (tV (eBin eqD (eVar 1) (eTup (aNil)))) (sRet (eTup (aCons (eVar 0) (aNil)))) (sPass))
  (sRet (eTup (aCons (eCall sp_near_part (aCons (eVar 0) (aCons (eVar 1) (aNil)))) (aCons (eCall sp_far_part (aCons (eVar 0) (aCons (eVar 1) (aNil)))) (aNil)))))
noncomputable def sp_loop_parts : FL := body 2 m_loop_parts
/-- wire_parts(town, cuts, joined); slots 0 town, 1 cuts, 2 joined, 3 found, 4 numbers, 5 here, 6 together, 7 part -/
noncomputable def m_wire_parts : MS :=
  sSeq (sSet 3 (eTup (aNil)))
  (sSeq (sFor (iZA (eBin ixD (eVar 0) (eC (.int 0))) (eVar 1)) (tTp 2 (tsCons (tN 4) (tsCons (tN 5) (tsNil)))) (sSet 3 (eBin addD (eVar 3) (eCall sp_loop_parts (aCons (eVar 4) (aCons (eVar 5) (aNil)))))))
  (sSeq (sIf (tNt (tV (eVar 2))) (sRet (eVar 3)) (sPass))
  (sSeq (sSet 6 (eTup (aNil)))
  (sSeq (sFor (iA (eVar 3)) (tN 7) (sSet 6 (eBin addD (eVar 6) (eVar 7))))
  (sRet (eTup (aCons (eVar 6) (aNil))))))))
noncomputable def sp_wire_parts : FL := body 8 m_wire_parts
theorem eq_empty {a : D} {l : List D} {n : Nat} (hp : plD n (.tup (a :: l))) (hn : n ≤ 64) (S : Sto) : eqB S (.tup (a :: l)) (.tup []) = some false := by
  obtain ⟨p, e, hd, _⟩ := plD_toP n _ hp
  have he : ∃ ps, p = .tuple ps ∧ ps ≠ [] := by
    unfold toP at e
    obtain ⟨ps, h1, h2⟩ := Option.map_eq_some_iff.mp e
    refine ⟨ps, h2.symm, fun h => ?_⟩
    rw [h] at h1
    unfold toPl at h1
    split at h1 <;> cases h1
  obtain ⟨ps, rfl, hps⟩ := he
  unfold eqB
  have hv : view S (.tup (a :: l)) = some (.tuple ps) := by rw [view_pl (fun n h => by cases h)]; exact e
  have hv2 : view S (.tup []) = some (.tuple []) := rfl
  have hs : scalD (.tup (a :: l)) (.tup []) = false := rfl
  rw [hs, hv, hv2]
  have hq : PyData.eqv (.tuple ps) (.tuple []) = false := by
    cases ps with
    | nil => exact absurd rfl hps
    | cons a r => simp [PyData.eqv, PyData.eqvAll]
  have hd2 : PyData.depth (.tuple []) ≤ 64 := by decide
  simp only [Bool.false_eq_true, if_false, hq]
  rw [if_pos ⟨by omega, hd2⟩]
theorem eqD_empty {a : D} {l : List D} {n : Nat} (hp : plD n (.tup (a :: l))) (hn : n ≤ 64) (S : Sto) : eqD (.tup (a :: l)) (.tup []) S = .ok (.bl false) S := by unfold eqD; rw [eq_empty hp hn S]
theorem plL_ixs {n : Nat} {l : List Nat} : plL n (ixsD l) := plL_iff.mpr fun d hd => by
  obtain ⟨x, _, rfl⟩ := List.mem_map.mp hd
  unfold plD
  trivial
/-- the boxes ahead of the first cut -/
def nearL (l : List (List Nat)) : List Nat → List (List Nat)
  | [] => l
  | a :: _ => l.take a
/-- the boxes behind the last cut -/
def farL (l : List (List Nat)) (c : List Nat) : List (List Nat) := match c.getLast? with
  | none => l
  | some a => l.drop a
def partsL (l : List (List Nat)) (c : List Nat) : List (List (List Nat)) := if c = [] then [l] else [nearL l c, farL l c]
theorem cut_toN (l : List D) (k : Nat) : MM.cutD l none (some (k : Int)) = l.take k := by
  rw [cut_to]
theorem near_part_ev {l : List (List Nat)} {c : List Nat} {S : Sto} : sp_near_part [.tup (nD l), .tup (ixsD c)] S = .ok (.tup (nD (nearL l c))) S := by
  unfold sp_near_part m_near_part
  cases c with
  | nil =>
    have e := eq_same (S := S) (n := 1) (d := .tup []) (by simp [plD, plL]) (by decide)
    rw [show ixsD [] = [] from rfl]
    simp -implicitDefEqProofs [e, sz]
    rfl
  | cons a r =>
    have e := eqD_empty (a := .int (a : Int)) (l := ixsD r) (n := 1) (by simp only [plD]; exact plL_ixs (l := a :: r)) (by decide) S
    have e2 : atI (D.int (a : Int) :: ixsD r) 0 = some (.int (a : Int)) := atI_nat (j := 0) rfl
    rw [show ixsD (a :: r) = .int (a : Int) :: ixsD r from rfl]
    simp -implicitDefEqProofs [e, e2, sz, cut_toN]
    unfold nearL nD
    rw [List.map_take]
theorem get_last {c : List Nat} {a : Nat} (h : c.getLast? = some a) : atI (ixsD c) (-1) = some (.int (a : Int)) := by
  obtain ⟨ys, rfl⟩ := List.getLast?_eq_some_iff.mp h
  unfold ixsD
  rw [List.map_append]
  exact atI_last _ _
theorem cut_fromN (l : List D) (k : Nat) : MM.cutD l (some (k : Int)) none = l.drop k := by
  unfold MM.cutD
  rw [HT.sIx_none, HT.sIx_nat, List.take_of_length_le (by rw [List.length_drop]; exact Nat.le_refl _)]
  by_cases h : k ≤ l.length
  · rw [Nat.min_eq_left h]
  · rw [Nat.min_eq_right (by omega), List.drop_eq_nil_of_le (Nat.le_refl _), List.drop_eq_nil_of_le (by omega)]
theorem far_part_ev {l : List (List Nat)} {c : List Nat} {S : Sto} : sp_far_part [.tup (nD l), .tup (ixsD c)] S = .ok (.tup (nD (farL l c))) S := by
  unfold sp_far_part m_far_part
  cases c with
  | nil =>
    have e := eq_same (S := S) (n := 1) (d := .tup []) (by simp [plD, plL]) (by decide)
    rw [show ixsD [] = [] from rfl]
    simp -implicitDefEqProofs [e, sz]
    rfl
  | cons a r =>
    obtain ⟨z, hz⟩ : ∃ z, (a :: r).getLast? = some z := by cases hq : (a :: r).getLast? with | none => simp at hq | some z => exact ⟨z, rfl⟩
    have e := eqD_empty (a := .int (a : Int)) (l := ixsD r) (n := 1) (by simp only [plD]; exact plL_ixs (l := a :: r)) (by decide) S
    have e2 := get_last hz
    unfold farL
    rw [hz]
    rw [show ixsD (a :: r) = .int (a : Int) :: ixsD r from rfl] at e2 ⊢
    simp -implicitDefEqProofs [e, e2, sz]
    rw [cut_fromN]
    unfold nD
    rw [List.map_drop]
theorem loop_parts_ev {l : List (List Nat)} {c : List Nat} {S : Sto} : sp_loop_parts [.tup (nD l), .tup (ixsD c)] S = .ok (.tup ((partsL l c).map fun p => .tup (nD p))) S := by
  unfold sp_loop_parts m_loop_parts partsL
  cases c with
  | nil =>
    have e := eq_same (S := S) (n := 1) (d := .tup []) (by simp [plD, plL]) (by decide)
    rw [show ixsD [] = [] from rfl]
    simp -implicitDefEqProofs [e, sz]
  | cons a r =>
    have e := eqD_empty (a := .int (a : Int)) (l := ixsD r) (n := 1) (by simp only [plD]; exact plL_ixs (l := a :: r)) (by decide) S
    have e1 := near_part_ev (l := l) (c := a :: r) (S := S)
    have e2 := far_part_ev (l := l) (c := a :: r) (S := S)
    rw [show ixsD (a :: r) = .int (a : Int) :: ixsD r from rfl] at e1 e2 ⊢
    simp -implicitDefEqProofs [e, e1, e2, sz]
/-- the parts of a town -/
def allParts (tw : List (List (List Nat) × List Nat)) : List (List (List Nat)) := tw.flatMap fun x => partsL x.1 x.2
def ptsD (l : List (List (List Nat))) : List D := l.map fun p => D.tup (nD p)
theorem partsL_len (l : List (List Nat)) (c : List Nat) : (partsL l c).length ≤ 2 := by unfold partsL; split <;> simp
theorem allParts_len : ∀ tw : List (List (List Nat) × List Nat), (allParts tw).length ≤ 2 * tw.length
  | [] => by simp [allParts]
  | x :: tw => by
    have h1 := allParts_len tw
    have h2 := partsL_len x.1 x.2
    unfold allParts at *
    rw [List.flatMap_cons, List.length_append, List.length_cons]
    omega
def loopsD (tw : List (List (List Nat) × List Nat)) : List D := tw.map fun x => D.tup (nD x.1)
def cutsD (tw : List (List (List Nat) × List Nat)) : List D := tw.map fun x => D.tup (ixsD x.2)
theorem zip_tw (tw : List (List (List Nat) × List Nat)) : zipD (loopsD tw) (cutsD tw) = tw.map fun x => D.tup [.tup (nD x.1), .tup (ixsD x.2)] := by
  have hl : (zipD (loopsD tw) (cutsD tw)).length = tw.length := by rw [zipD_len]; simp [loopsD, cutsD]
  apply List.ext_getElem?
  intro i
  by_cases hi : i < tw.length
  · have hg := List.getElem?_eq_getElem (l := zipD (loopsD tw) (cutsD tw)) (i := i) (by omega)
    obtain ⟨x, y, h1, h2, h3⟩ := zipD_get hg
    rw [hg, h3, List.getElem?_map, List.getElem?_eq_getElem hi]
    unfold loopsD at h1
    unfold cutsD at h2
    rw [List.getElem?_map, List.getElem?_eq_getElem hi] at h1 h2
    cases h1
    cases h2
    rfl
  · rw [List.getElem?_eq_none (by omega), List.getElem?_eq_none (by rw [List.length_map]; omega)]
theorem allParts_take {tw : List (List (List Nat) × List Nat)} {i : Nat} {x : List (List Nat) × List Nat} (h : tw[i]? = some x) : allParts (tw.take (i + 1)) = allParts (tw.take i) ++ partsL x.1 x.2 := by
  unfold allParts
  rw [List.take_add_one, h, Option.toList_some, List.flatMap_append]
  simp
theorem wire_parts_ev {tw : List (List (List Nat) × List Nat)} {r s : D} {S : Sto} (h4 : tw.length ≤ 4) : sp_wire_parts [.tup [.tup (loopsD tw), r, s], .tup (cutsD tw), .bl false] S = .ok (.tup (ptsD (allParts tw))) S := by
  unfold sp_wire_parts m_wire_parts
  generalize hB : sSet 3 (eBin addD (eVar 3) _) = B
  have L := for_nx (g := noG) (tg := tTp 2 (tsCons (tN 4) (tsCons (tN 5) tsNil))) (b := B) (items := zipD (loopsD tw) (cutsD tw)) (ρ := [some (.tup [.tup (loopsD tw), r, s]), some (.tup (cutsD tw)), some (.bl false), some (.tup []), none, none, none, none]) (S := S)
    (fun i ρ S' => S' = S ∧ ∃ x4 x5, ρ = [some (.tup [.tup (loopsD tw), r, s]), some (.tup (cutsD tw)), some (.bl false), some (.tup (ptsD (allParts (tw.take i)))), x4, x5, none, none])
    ⟨rfl, none, none, rfl⟩ (fun _ _ _ _ => trivial) (by
      rintro i d ρ S' hd ⟨rfl, x4, x5, rfl⟩
      rw [zip_tw, List.getElem?_map] at hd
      obtain ⟨x, hx, rfl⟩ := Option.map_eq_some_iff.mp hd
      have e := loop_parts_ev (l := x.1) (c := x.2) (S := S')
      have hl1 := allParts_len (tw.take i)
      have hl2 := partsL_len x.1 x.2
      have hl3 : (tw.take i).length ≤ tw.length := by rw [List.length_take]; omega
      have ea := addD_tup (S := S') (u := ptsD (allParts (tw.take i))) (v := (partsL x.1 x.2).map fun p => .tup (nD p)) (by unfold ptsD; rw [List.length_map, List.length_map, sizeL]; omega)
      subst hB
      refine ⟨_, rfl, nx_of fun Q hQ => ?_⟩
      simp -implicitDefEqProofs [e, ea]
      exact hQ _ _ ⟨rfl, _, _, by rw [allParts_take hx]; unfold ptsD; rw [List.map_append]⟩)
  obtain ⟨ρ', S', e, rfl, x4, x5, rfl⟩ := L
  rw [show (zipD (loopsD tw) (cutsD tw)).length = tw.length by rw [zip_tw, List.length_map], List.take_length] at e
  simp -implicitDefEqProofs [e, sz]
theorem wire_joined_ev {tw : List (List (List Nat) × List Nat)} {r s : D} {S : Sto} (h4 : tw.length ≤ 4) (hz : (allParts tw).flatten.length ≤ 1000) : sp_wire_parts [.tup [.tup (loopsD tw), r, s], .tup (cutsD tw), .bl true] S = .ok (.tup [.tup (nD (allParts tw).flatten)]) S := by
  unfold sp_wire_parts m_wire_parts
  generalize hB : sSet 3 (eBin addD (eVar 3) _) = B
  have L := for_nx (g := noG) (tg := tTp 2 (tsCons (tN 4) (tsCons (tN 5) tsNil))) (b := B) (items := zipD (loopsD tw) (cutsD tw)) (ρ := [some (.tup [.tup (loopsD tw), r, s]), some (.tup (cutsD tw)), some (.bl true), some (.tup []), none, none, none, none]) (S := S)
    (fun i ρ S' => S' = S ∧ ∃ x4 x5, ρ = [some (.tup [.tup (loopsD tw), r, s]), some (.tup (cutsD tw)), some (.bl true), some (.tup (ptsD (allParts (tw.take i)))), x4, x5, none, none])
    ⟨rfl, none, none, rfl⟩ (fun _ _ _ _ => trivial) (by
      rintro i d ρ S' hd ⟨rfl, x4, x5, rfl⟩
      rw [zip_tw, List.getElem?_map] at hd
      obtain ⟨x, hx, rfl⟩ := Option.map_eq_some_iff.mp hd
      have e := loop_parts_ev (l := x.1) (c := x.2) (S := S')
      have hl1 := allParts_len (tw.take i)
      have hl2 := partsL_len x.1 x.2
      have hl3 : (tw.take i).length ≤ tw.length := by rw [List.length_take]; omega
      have ea := addD_tup (S := S') (u := ptsD (allParts (tw.take i))) (v := (partsL x.1 x.2).map fun p => .tup (nD p)) (by unfold ptsD; rw [List.length_map, List.length_map, sizeL]; omega)
      subst hB
      refine ⟨_, rfl, nx_of fun Q hQ => ?_⟩
      simp -implicitDefEqProofs [e, ea]
      exact hQ _ _ ⟨rfl, _, _, by rw [allParts_take hx]; unfold ptsD; rw [List.map_append]⟩)
  obtain ⟨ρ', S', e, rfl, x4, x5, rfl⟩ := L
  rw [show (zipD (loopsD tw) (cutsD tw)).length = tw.length by rw [zip_tw, List.length_map], List.take_length] at e
  generalize allParts tw = P at *
  generalize hC : sSet 6 (eBin addD (eVar 6) (eVar 7)) = C
  have L2 := for_nx (g := noG) (tg := tN 7) (b := C) (items := ptsD P) (ρ := [some (.tup [.tup (loopsD tw), r, s]), some (.tup (cutsD tw)), some (.bl true), some (.tup (ptsD P)), x4, x5, some (.tup []), none]) (S := S')
    (fun i ρ S2 => S2 = S' ∧ ∃ x7, ρ = [some (.tup [.tup (loopsD tw), r, s]), some (.tup (cutsD tw)), some (.bl true), some (.tup (ptsD P)), x4, x5, some (.tup (nD (P.take i).flatten)), x7])
    ⟨rfl, none, rfl⟩ (fun _ _ _ _ => trivial) (by
      rintro i d ρ S2 hd ⟨rfl, x7, rfl⟩
      unfold ptsD at hd
      rw [List.getElem?_map] at hd
      obtain ⟨p, hp, rfl⟩ := Option.map_eq_some_iff.mp hd
      have hs : (P.take (i + 1)).flatten = (P.take i).flatten ++ p := by rw [List.take_add_one, hp, Option.toList_some, List.flatten_append]; simp
      have hle : (P.take (i + 1)).flatten.length ≤ 1000 := by
        have h1 := congrArg (fun l => (List.flatten l).length) (List.take_append_drop (i + 1) P)
        simp only [List.flatten_append, List.length_append] at h1
        omega
      rw [hs, List.length_append] at hle
      have ea := addD_tup (S := S2) (u := nD (P.take i).flatten) (v := nD p) (by unfold nD; rw [List.length_map, List.length_map, sizeL]; omega)
      subst hC
      refine ⟨_, rfl, nx_of fun Q hQ => ?_⟩
      simp -implicitDefEqProofs [ea]
      exact hQ _ _ ⟨rfl, _, by rw [hs]; unfold nD; rw [List.map_append]⟩)
  obtain ⟨ρ2, S2, e2, rfl, x7, rfl⟩ := L2
  rw [show (ptsD P).length = P.length by unfold ptsD; rw [List.length_map], List.take_length] at e2
  simp -implicitDefEqProofs [e, e2, sz]

theorem notInA_ev {S : Sto} {n : Nat} {fz : Bool} {M : List (Key × D)} {z : Str} (h : S[n]? = some (.dct fz M)) : notInAD (.str z) (.ref n) S = .ok (.bl (!(valD M (.inr z)).isSome)) S := by
  simp [notInAD, isDR_ev h, dnotInD, dinB, keyD, h]
theorem numS_mem {ds : List Nat} {l : List (List Nat)} : numS ds ∈ l.map numS ↔ ds ∈ l := by
  constructor
  · intro h
    obtain ⟨e, he, q⟩ := List.mem_map.mp h
    rw [← numS_inj q]; exact he
  · exact fun h => List.mem_map.mpr ⟨ds, h, rfl⟩
def loopD (l : List (List Nat)) : D := .tup (nD l)
theorem eq_nilS {S : Sto} {q : Nat} {fz : Bool} {l : List (List Nat)} (hg : ∀ ds ∈ l, GoodN ds) (h : S[q]? = some (.lst fz (nD l))) : eqD (.ref q) (.pl []) S = .ok (.bl l.isEmpty) S := by
  obtain ⟨ps, e1, e2, e3⟩ := toPl_strs (nD l) (fun d hd => by
    obtain ⟨ds, hds, rfl⟩ := List.mem_map.mp hd
    exact ⟨_, rfl, (fine_num (hg ds hds).fig).uni.ok⟩)
  unfold eqD eqB
  simp only [scalD, Bool.false_eq_true, if_false, view, h, toP, toPl, e1, Option.map_some]
  have he : l.isEmpty = ps.isEmpty := by
    rw [nD_length] at e2
    cases l <;> cases ps <;> simp at e2 ⊢
  rw [he]
  have hd1 : (PyData.list ps).depth ≤ 64 := by simp only [PyData.depth, e3]; decide
  have hd2 : (PyData.list []).depth ≤ 64 := by simp [PyData.depth, PyData.depthAll]
  rw [if_pos ⟨hd1, hd2⟩]
  cases ps <;> simp [PyData.eqv, PyData.eqvAll]
/-- how it stands while a town is drawn -/
structure Tw (b B : Nat) (S S' : Sto) (ls : List (List (List Nat))) (cur : List (List Nat)) : Prop where
  grew : Grew b S S'
  lt : b < S.length
  loops : S'[S.length]? = some (.lst false (ls.map loopD))
  met : ∃ M, S'[S.length + 1]? = some (.dct false M) ∧ (∀ z, (valD M (.inr z)).isSome = decide (z ∈ (ls.flatten ++ cur).map numS)) ∧ M.length ≤ (ls.flatten ++ cur).length
  nd : (ls.flatten ++ cur).Nodup
  good : ∀ ds ∈ ls.flatten ++ cur, GoodN ds
  sz : ∀ l ∈ ls, 1 ≤ l.length ∧ l.length ≤ B
theorem Tw.bag {b B : Nat} {S S' : Sto} {ls : List (List (List Nat))} {cur : List (List Nat)} (h : Tw b B S S' ls cur) : BagAt S' b := h.grew.1
theorem Tw.drew {b B : Nat} {S S' S2 : Sto} {ls : List (List (List Nat))} {cur : List (List Nat)} (h : Tw b B S S' ls cur) (w : Drew b S' S2) : Tw b B S S2 ls cur := by
  have hlt := h.lt
  refine ⟨h.grew.trans w.grew, h.lt, by rw [w.get (by omega)]; exact h.loops, ?_, h.nd, h.good, h.sz⟩
  obtain ⟨M, h1, h2⟩ := h.met
  exact ⟨M, by rw [w.get (by omega)]; exact h1, h2⟩
theorem Tw.app {b B : Nat} {S S' : Sto} {ls : List (List (List Nat))} {cur : List (List Nat)} (h : Tw b B S S' ls cur) (T : Sto) : Tw b B S (S' ++ T) ls cur := by
  have e : ∀ {n : Nat} {o : O}, S'[n]? = some o → (S' ++ T)[n]? = some o := fun e => by rw [List.getElem?_append_left (List.getElem?_eq_some_iff.mp e).1, e]
  refine ⟨h.grew.app T, h.lt, e h.loops, ?_, h.nd, h.good, h.sz⟩
  obtain ⟨M, h1, h2⟩ := h.met
  exact ⟨M, e h1, h2⟩
theorem Grew.set {b q : Nat} {S S' : Sto} {o : O} (h : Grew b S S') (hq : S.length ≤ q) (hb : b < S.length) : Grew b S (S'.set q o) := by
  refine ⟨?_, by rw [List.length_set]; exact h.2.1, fun n hn hb' => by rw [List.getElem?_set_ne (by omega)]; exact h.2.2 n hn hb'⟩
  obtain ⟨a, m, k, e, r⟩ := h.1
  exact ⟨a, m, k, by rw [List.getElem?_set_ne (by omega)]; exact e, r⟩
theorem Tw.set {b B q : Nat} {S S' : Sto} {ls : List (List (List Nat))} {cur : List (List Nat)} {o : O} (h : Tw b B S S' ls cur) (hq : S.length + 2 ≤ q) : Tw b B S (S'.set q o) ls cur := by
  refine ⟨h.grew.set (by omega) h.lt, h.lt, by rw [List.getElem?_set_ne (by omega)]; exact h.loops, ?_, h.nd, h.good, h.sz⟩
  obtain ⟨M, h1, h2⟩ := h.met
  exact ⟨M, by rw [List.getElem?_set_ne (by omega)]; exact h1, h2⟩
theorem Tw.put {b B : Nat} {S S' : Sto} {ls : List (List (List Nat))} {cur : List (List Nat)} {M : List (Key × D)} {ds : List Nat} (h : Tw b B S S' ls cur) (hM : S'[S.length + 1]? = some (.dct false M)) (hn : ds ∉ ls.flatten ++ cur) (hg : GoodN ds) :
    Tw b B S (S'.set (S.length + 1) (.dct false (putD M (.inr (numS ds)) (.bl true)))) ls (cur ++ [ds]) := by
  obtain ⟨M', h1, h2, h3⟩ := h.met
  rw [hM] at h1
  cases h1
  have hlt := (List.getElem?_eq_some_iff.mp hM).1
  refine ⟨h.grew.set (by omega) h.lt, h.lt, by rw [List.getElem?_set_ne (by omega)]; exact h.loops, ⟨_, List.getElem?_set_self hlt, fun z => ?_, ?_⟩, ?_, ?_, h.sz⟩
  · rw [valD_put]
    by_cases hz : z = numS ds
    · subst hz
      simp
    · have : ¬ (Sum.inr (numS ds) : Key) = Sum.inr z := fun e => hz (by cases e; rfl)
      rw [if_neg this, h2]
      simp only [List.map_append, List.mem_append, List.map_cons, List.map_nil, List.mem_singleton]
      simp [hz]
  · have := putD_len M (.inr (numS ds)) (.bl true)
    simp only [List.length_append, List.length_cons, List.length_nil] at *
    omega
  · rw [← List.append_assoc, List.nodup_append]
    refine ⟨h.nd, by simp, fun x hx y hy e => ?_⟩
    rw [List.mem_singleton.mp hy] at e
    exact hn (e ▸ hx)
  · intro x hx
    rw [← List.append_assoc] at hx
    rcases List.mem_append.mp hx with hx | hx
    · exact h.good x hx
    · rw [List.mem_singleton.mp hx]; exact hg
theorem Tw.next {b B : Nat} {S S' : Sto} {ls : List (List (List Nat))} {cur : List (List Nat)} (h : Tw b B S S' ls cur) (h1 : 1 ≤ cur.length) (h2 : cur.length ≤ B) : Tw b B S (S'.set S.length (.lst false ((ls ++ [cur]).map loopD))) (ls ++ [cur]) [] := by
  have hlt := (List.getElem?_eq_some_iff.mp h.loops).1
  have e : (ls ++ [cur]).flatten ++ [] = ls.flatten ++ cur := by simp
  refine ⟨h.grew.set (Nat.le_refl _) h.lt, h.lt, List.getElem?_set_self hlt, ?_, by rw [e]; exact h.nd, by rw [e]; exact h.good, fun l hl => ?_⟩
  · obtain ⟨M, q1, q2⟩ := h.met
    exact ⟨M, by rw [List.getElem?_set_ne (by omega)]; exact q1, by rw [e]; exact q2⟩
  · rcases List.mem_append.mp hl with hl | hl
    · exact h.sz l hl
    · rw [List.mem_singleton.mp hl]; exact ⟨h1, h2⟩
/-- two figures, no nought -/
def spareN : List (List Nat) := (List.range 81).map fun k => [1 + k / 9, 1 + k % 9]
theorem spare_text : ∀ k : Nat, k < 81 → strI (11 + (k : Int) + (k : Int) / 9) = numS [1 + k / 9, 1 + k % 9] := by decide +kernel
theorem spare_good : ∀ ds ∈ spareN, GoodN ds := by
  intro ds hd
  obtain ⟨k, hk, rfl⟩ := List.mem_map.mp hd
  have hk := List.mem_range.mp hk
  exact ⟨by simp, by simp, fun d hd => by simp at hd; omega, by simp; omega⟩
theorem spare_nd : spareN.Nodup := by decide +kernel
theorem spare_len : spareN.length = 81 := by simp [spareN]
/-- a list that is not all of it -/
theorem filter_pos {l m : List (List Nat)} (hn : l.Nodup) (hl : m.length < l.length) : ∃ x r, l.filter (fun ds => !decide (ds ∈ m)) = x :: r := by
  cases e : l.filter (fun ds => !decide (ds ∈ m)) with
  | cons x r => exact ⟨x, r, rfl⟩
  | nil =>
    exfalso
    rw [List.filter_eq_nil_iff] at e
    have hs : l ⊆ m := fun x hx => by
      have := e x hx
      simpa using this
    have := List.Nodup.length_le_of_subset hn hs
    omega

structure GoodT (B : Nat) (ls : List (List (List Nat))) : Prop where
  pos : 1 ≤ ls.length
  len : ls.length ≤ 4
  nd : ls.flatten.Nodup
  good : ∀ ds ∈ ls.flatten, GoodN ds
  sz : ∀ l ∈ ls, 1 ≤ l.length ∧ l.length ≤ B
noncomputable def townIn : MS := sSeq (sSet 7 (eCall sp_law_figures (aCons (eVar 0) (aNil))))
  (sIf (tV (eBin notInAD (eVar 7) (eVar 3))) (sSeq (sSetA (eVar 3) (eVar 7) (eC (.bl true)))
  (sExpr (eMeth isLstD appendD (eVar 5) (aCons (eVar 7) (aNil))))) (sPass))
theorem flatB_len {B : Nat} : ∀ {ls : List (List (List Nat))}, (∀ l ∈ ls, l.length ≤ B) → ls.flatten.length ≤ B * ls.length
  | [], _ => by simp
  | l :: ls, h => by
    have h1 := h l List.mem_cons_self
    have h2 := flatB_len (ls := ls) fun x hx => h x (List.mem_cons_of_mem _ hx)
    rw [List.flatten_cons, List.length_append, List.length_cons, Nat.mul_add]
    omega
theorem town_inner {b B q : Nat} {S S0 : Sto} {ls : List (List (List Nat))} {n : Nat} {r1 x4 x6 x7 x8 x9 x10 x11 : Option D} (hq : S.length + 2 ≤ q) (hl : ls.length ≤ 4) (hB : B ≤ 20) (hn : n ≤ B)
    (h : Tw b B S S0 ls []) (h0 : S0[q]? = some (.lst false [])) :
    ∃ cur S' y6 y7, forD noG (tN 6) townIn (rangeD 0 n) [some (.ref b), r1, some (.ref S.length), some (.ref (S.length + 1)), x4, some (.ref q), x6, x7, x8, x9, x10, x11] S0 =
      .nx [some (.ref b), r1, some (.ref S.length), some (.ref (S.length + 1)), x4, some (.ref q), y6, y7, x8, x9, x10, x11] S' ∧ Tw b B S S' ls cur ∧ S'[q]? = some (.lst false (nD cur)) ∧ cur.length ≤ n := by
  have L := for_nx (g := noG) (tg := tN 6) (b := townIn) (items := rangeD 0 n) (ρ := [some (.ref b), r1, some (.ref S.length), some (.ref (S.length + 1)), x4, some (.ref q), x6, x7, x8, x9, x10, x11]) (S := S0)
    (fun j ρ S' => ∃ cur y6 y7, ρ = [some (.ref b), r1, some (.ref S.length), some (.ref (S.length + 1)), x4, some (.ref q), y6, y7, x8, x9, x10, x11] ∧ Tw b B S S' ls cur ∧ S'[q]? = some (.lst false (nD cur)) ∧ cur.length ≤ j)
    ⟨[], x6, x7, rfl, h, h0, Nat.zero_le _⟩ (fun _ _ _ _ => trivial) (by
      rintro j d ρ S' hd ⟨cur, y6, y7, rfl, hT, hq', hc⟩
      obtain ⟨hj, rfl⟩ := range_get hd
      have hb := hT.bag
      have hlt := hT.lt
      unfold townIn
      refine ⟨_, rfl, nx_of fun Q hQ => ?_⟩
      simp
      generalize hr_ : sp_law_figures [D.ref _] _ = r_
      obtain ⟨ds, S2, hq_, hg, w2, hb2⟩ := figures_of hr_ (by assumption)
      clear hr_
      subst hq_
      have hT2 := hT.drew w2
      have hq2 : S2[q]? = some (.lst false (nD cur)) := by rw [w2.get (by omega)]; exact hq'
      obtain ⟨M, hM, hM2, hM3⟩ := hT2.met
      have hfl := flatB_len (B := B) (ls := ls) fun l hl => (hT2.sz l hl).2
      have hml : B * ls.length ≤ 20 * 4 := Nat.mul_le_mul hB hl
      rw [List.length_append] at hM3
      have e1 := notInA_ev (z := numS ds) hM
      rw [hM2] at e1
      by_cases hin : numS ds ∈ (ls.flatten ++ cur).map numS
      · rw [decide_eq_true hin] at e1
        simp [e1]
        exact hQ _ _ ⟨cur, _, _, rfl, hT2, hq2, by omega⟩
      · have hin' : ds ∉ ls.flatten ++ cur := fun h => hin (numS_mem.mpr h)
        rw [decide_eq_false hin] at e1
        have e2 := setA_ev (z := numS ds) (v := .bl true) hM (by omega)
        have hT3 := hT2.put hM hin' hg
        have hq3 : (S2.set (S.length + 1) (.dct false (putD M (.inr (numS ds)) (.bl true))))[q]? = some (.lst false (nD cur)) := by rw [List.getElem?_set_ne (by omega)]; exact hq2
        generalize S2.set (S.length + 1) (.dct false (putD M (.inr (numS ds)) (.bl true))) = S3 at e2 hT3 hq3
        have e3 := append_ev (d := .str (numS ds)) hq3 (by rw [nD_length, sizeL]; omega)
        have e4 := isLst_ev hq3
        have e5 : nD cur ++ [D.str (numS ds)] = nD (cur ++ [ds]) := by simp [nD]
        rw [e5] at e3
        simp [e1, e2, e3, e4]
        exact hQ _ _ ⟨cur ++ [ds], _, _, rfl, hT3.set hq, List.getElem?_set_self (List.getElem?_eq_some_iff.mp hq3).1, by simp; omega⟩)
  obtain ⟨ρ', S', e, cur, y6, y7, rfl, hT, hq', hc⟩ := L
  rw [rangeD_len] at hc
  exact ⟨cur, S', y6, y7, e, hT, hq', hc⟩

noncomputable def townOut : MS := sSeq (sSet 5 (eNew (lNew (aNil))))
  (sSeq (sFor (iR1 (aCons (eBin addD (eC (.int 1)) (eCall sp_law_draw (aCons (eVar 0) (aCons (eVar 1) (aNil))))) (aNil))) (tN 6) townIn)
  (sSeq (sIf (tV (eBin eqD (eVar 5) (ePl (lNew (aNil))))) (sSeq (sSet 8 (ePl (lComp (iR1 (aCons (eC (.int 81)) (aNil))) [10] (tN 10) tYs (eCall strD (aCons (eBin addD (eBin addD (eC (.int 11)) (eVar 10)) (eBin fdivD (eVar 10) (eC (.int 9)))) (aNil))))))
  (sSeq (sSet 9 (ePl (lComp (iA (eVar 8)) [11] (tN 11) (tV (eBin notInAD (eVar 11) (eVar 3))) (eVar 11))))
  (sSeq (sSetA (eVar 3) (eBin ixD (eVar 9) (eC (.int 0))) (eC (.bl true)))
  (sSet 5 (eSlM (eVar 9) (oN) (oS (eC (.int 1)))))))) (sPass))
  (sExpr (eMeth isLstD appendD (eVar 2) (aCons (eCall tupleA (aCons (eVar 5) (aNil))) (aNil))))))
theorem town_out {b B : Nat} {most : Int} {S S0 : Sto} {ls : List (List (List Nat))} {x4 x5 x6 x7 x8 x9 x10 x11 : Option D} (hm : most = B) (hB1 : 1 ≤ B) (hB : B ≤ 20) (hl : ls.length < 4) (h : Tw b B S S0 ls []) :
    Nx (townOut [some (.ref b), some (.int most), some (.ref S.length), some (.ref (S.length + 1)), x4, x5, x6, x7, x8, x9, x10, x11] S0)
      fun ρ S' => ∃ cur y5 y6 y7 y8 y9 y10 y11, ρ = [some (.ref b), some (.int most), some (.ref S.length), some (.ref (S.length + 1)), x4, y5, y6, y7, y8, y9, y10, y11] ∧ Tw b B S S' (ls ++ [cur]) [] := by
  refine nx_of fun Q hQ => ?_
  obtain ⟨M0, hM0, _, _⟩ := h.met
  have hq : S.length + 2 ≤ S0.length := by have := (List.getElem?_eq_some_iff.mp hM0).1; omega
  have hlt := h.lt
  have h0 := h.app [.lst false []]
  have hb0 := h0.bag
  have g0 : (S0 ++ [O.lst false []])[S0.length]? = some (.lst false []) := by simp
  unfold townOut
  simp [sizeL]
  generalize hr_ : sp_law_draw [D.ref _, D.int _] _ = r_
  obtain ⟨d, S1, hq_, a1, b1, w1, hb1⟩ := draw_of hr_ (by assumption) (by omega) (by omega)
  clear hr_
  subst hq_
  have h1 := h0.drew w1
  have g1 : S1[S0.length]? = some (.lst false []) := by rw [w1.get (by omega)]; exact g0
  have hwd : Wd (1 + d) := wd_of (by omega) (by omega)
  obtain ⟨cur, S2, y6, y7, e2, h2, g2, hc⟩ := town_inner (n := (1 + d).toNat) (r1 := some (.int most)) (x4 := x4) (x6 := x6) (x7 := x7) (x8 := x8) (x9 := x9) (x10 := x10) (x11 := x11) hq (by omega) hB (by omega) h1 g1
  have e3 := eq_nilS (fun ds hd => h2.good ds (List.mem_append_right _ hd)) g2
  simp [hwd, e2, e3, sizeL]
  cases cur with
  | cons c cs =>
    have e4 := isLst_ev h2.loops
    have e5 := append_ev (d := loopD (c :: cs)) h2.loops (by rw [List.length_map, sizeL]; omega)
    rw [show (ls.map loopD ++ [loopD (c :: cs)]) = (ls ++ [c :: cs]).map loopD by simp] at e5
    unfold loopD at e5
    simp [e4, g2, e5]
    have h3 := h2.next (by simp) (by omega)
    unfold loopD at h3
    simp at h3
    exact hQ _ _ ⟨c :: cs, _, _, _, _, _, _, _, rfl, h3⟩
  | nil =>
    have w81 : Wd 81 := wd_of (by decide) (by decide)
    obtain ⟨M, hM, hM2, hM3⟩ := h2.met
    simp only [List.append_nil] at hM2 hM3
    have hfl := flatB_len (B := B) (ls := ls) fun l hl => (h2.sz l hl).2
    have hml : B * ls.length ≤ 20 * 3 := Nat.mul_le_mul hB (by omega)
    have c1 : ∀ ρ : Fr, ρ.length = 12 → lcD noG (tN 10) tYs (eCall strD (aCons (eBin addD (eBin addD (eC (.int 11)) (eVar 10)) (eBin fdivD (eVar 10) (eC (.int 9)))) (aNil))) ρ (rangeD 0 81) S2 = .ok (nD spareN) S2 := fun ρ hρ => by
      have := lcOf (g := noG) (tg := tN 10) (m := (eCall strD (aCons (eBin addD (eBin addD (eC (.int 11)) (eVar 10)) (eBin fdivD (eVar 10) (eC (.int 9)))) (aNil)))) (ρ := ρ) (S := S2) (fun (i : Nat) => D.int (0 + (i : Int))) (fun k => D.str (numS [1 + k / 9, 1 + k % 9])) trivial (l := List.range 81) (fun k hk => ⟨_, rfl, by
        have hk := List.mem_range.mp hk
        have hg : (ρ.set 10 (some (D.int (0 + (k : Int)))))[10]? = some (some (D.int (k : Int))) := by rw [List.getElem?_set_self (by omega), Int.zero_add]
        have hlog : (11 + (k : Int) + (k : Int) / 9).natAbs.log2 < 1920 := by
          have : (11 + (k : Int) + (k : Int) / 9).natAbs.log2 ≤ 9 := by
            rw [← Nat.lt_succ_iff]
            exact (Nat.log2_lt (by omega)).mpr (by omega)
          omega
        simp only [eCall_ev, aCons_ev, eBin_ev, eC_ev, bind_ok, eVar_ev, hg, addD_int, aNil_ev, fdivD_pos (show (0 : Int) < 9 by decide) (by decide), strD_int hlog, spare_text k hk]⟩)
      rw [show nD spareN = (List.range 81).map (fun k => D.str (numS [1 + k / 9, 1 + k % 9])) by simp [nD, spareN]]
      exact this
    have c2 : ∀ ρ : Fr, ρ.length = 12 → ρ[3]? = some (some (.ref (S.length + 1))) → lcD noG (tN 11) (tV (eBin notInAD (eVar 11) (eVar 3))) (eVar 11) ρ (nD spareN) S2 = .ok (nD (spareN.filter fun ds => !decide (ds ∈ ls.flatten))) S2 := fun ρ hρ h3 => by
      refine lc_ofF (g := noG) (fun ds => D.str (numS ds)) (fun ds => !decide (ds ∈ ls.flatten)) (fun ds => D.str (numS ds)) trivial (l := spareN) (fun ds _ => ⟨_, rfl, ?_, fun _ => ?_⟩)
      · have hg : (ρ.set 11 (some (D.str (numS ds))))[11]? = some (some (D.str (numS ds))) := List.getElem?_set_self (by omega)
        have hg3 : (ρ.set 11 (some (D.str (numS ds))))[3]? = some (some (.ref (S.length + 1))) := by rw [List.getElem?_set_ne (by decide)]; exact h3
        have e := notInA_ev (z := numS ds) hM
        rw [hM2] at e
        simp only [tV_ev, eBin_ev, eVar_ev, hg, hg3, bind_ok, e]
        simp only [numS_mem]
      · have hg : (ρ.set 11 (some (D.str (numS ds))))[11]? = some (some (D.str (numS ds))) := List.getElem?_set_self (by omega)
        simp only [eVar_ev, hg]
    obtain ⟨x, r, hf⟩ := filter_pos spare_nd (m := ls.flatten) (by rw [spare_len]; omega)
    have c3 : ∀ ρ : Fr, ρ.length = 12 → ρ[3]? = some (some (.ref (S.length + 1))) → lcD noG (tN 11) (tV (eBin notInAD (eVar 11) (eVar 3))) (eVar 11) ρ (nD spareN) S2 = .ok (nD (x :: r)) S2 := fun ρ a b => by rw [c2 ρ a b, hf]
    have hx : x ∈ spareN ∧ x ∉ ls.flatten := by
      have : x ∈ spareN.filter (fun ds => !decide (ds ∈ ls.flatten)) := by rw [hf]; exact List.mem_cons_self
      simpa using this
    have e6 := setA_ev (z := numS x) (v := .bl true) hM (by omega)
    have h3 := h2.put hM (by simpa using hx.2) (spare_good x hx.1)
    generalize S2.set (S.length + 1) (.dct false (putD M (.inr (numS x)) (.bl true))) = S3 at e6 h3
    rw [List.nil_append] at h3
    have h4 := h3.app [.lst false (nD [x])]
    have e4 := isLst_ev h4.loops
    have e5 := append_ev (d := loopD [x]) h4.loops (by rw [List.length_map, sizeL]; omega)
    rw [show (ls.map loopD ++ [loopD [x]]) = (ls ++ [[x]]).map loopD by simp] at e5
    have h5 := h4.next (by simp) (by simpa using hB1)
    have e7 : (S3 ++ [O.lst false (nD [x])])[S3.length]? = some (.lst false (nD [x])) := by simp
    have e8 : slM (.pl (nD (x :: r))) none (some 1) S3 = .ok (.ref S3.length) (S3 ++ [.lst false (nD [x])]) := by
      show R.ok _ (S3 ++ [.lst false (MM.cutD (nD (x :: r)) none (some ((1 : Nat) : Int)))]) = _
      rw [cut_to]
      rfl
    have e9 : atI (nD (x :: r)) 0 = some (.str (numS x)) := atI_nat (j := 0) rfl
    simp [w81, c1, c3, rangeD_len, spare_len, sizeL, e6, e9, e8, e4, e7]
    rw [show D.tup (nD [x]) = loopD [x] from rfl, e5]
    simp
    simp only [List.map_append, List.map_cons, List.map_nil] at h5
    exact hQ _ _ ⟨[x], _, _, _, _, _, _, _, rfl, h5⟩

/-- what an answer is -/
def Rt (r : R D) (P : D → Sto → Prop) : Prop := ∃ d S', r = .ok d S' ∧ P d S'
@[simp] theorem rt_ok {d : D} {S : Sto} {P : D → Sto → Prop} : Rt (.ok d S) P ↔ P d S := ⟨fun ⟨_, _, e, h⟩ => by cases e; exact h, fun h => ⟨_, _, rfl, h⟩⟩
theorem rt_of {r : R D} {P : D → Sto → Prop} (h : ∀ Q : D → Sto → Prop, (∀ d S, P d S → Q d S) → Rt r Q) : Rt r P := h P fun _ _ x => x
theorem Drew.kept {b : Nat} {S S' : Sto} (h : Drew b S S') : Kept S S' := by
  have hlt := h.1.lt
  rw [h.len] at hlt
  obtain ⟨⟨a, m, k, g, r⟩, l, rfl⟩ := h
  rw [List.getElem?_set_self hlt] at g
  cases g
  exact Kept.set (by simp)
/-- what grew, cut back -/
theorem Grew.cut {b : Nat} {S S' : Sto} (h : Grew b S S') (hb : b < S.length) : Drew b S (S'.take S.length) := by
  obtain ⟨⟨a, m, k, e, r⟩, h2, h3⟩ := h
  have e' : (S'.take S.length)[b]? = some (.lst false [.int a, .int m, .int k]) := by rw [List.getElem?_take_of_lt hb]; exact e
  refine ⟨⟨a, m, k, e', r⟩, [.int a, .int m, .int k], ?_⟩
  apply List.ext_getElem?
  intro n
  by_cases hn : n < S.length
  · by_cases hnb : n = b
    · subst hnb
      rw [e', List.getElem?_set_self hb]
    · rw [List.getElem?_take_of_lt hn, h3 n hn hnb, List.getElem?_set_ne (Ne.symm hnb)]
  · rw [List.getElem?_eq_none (by rw [List.length_take]; omega), List.getElem?_eq_none (by rw [List.length_set]; omega)]
/-- what is made meanwhile is thrown away -/
theorem gc_grew {b : Nat} {S S' : Sto} {d : D} (h : Grew b S S') (hb : b < S.length) (hd : bdD S.length d) : gc S (.ok d S') = .ok d (S'.take S.length) ∧ Drew b S (S'.take S.length) := by
  have w := h.cut hb
  refine ⟨?_, w⟩
  have := gc_ok (S := S) (S1 := S'.take S.length) (T := S'.drop S.length) w.len w.kept (rfzD_bd hd)
  rwa [List.take_append_drop] at this
theorem bdL_loops {n : Nat} {ls : List (List (List Nat))} : bdL n (ls.map loopD) := by
  rw [bdL_iff]
  intro d hd
  obtain ⟨l, _, rfl⟩ := List.mem_map.mp hd
  simp [loopD, bdL_nD]
theorem town_ev {b : Nat} {S : Sto} {most : Int} (hb : BagAt S b) (h1 : 1 ≤ most) (h2 : most ≤ 20) : ∃ ls r s S', sp_law_town [.ref b, .int most] S = .ok (.tup [.tup (ls.map loopD), .int r, .int s]) S' ∧ GoodT most.toNat ls ∧ 1 ≤ r ∧ r ≤ 4 ∧ 1 ≤ s ∧ s ≤ 50 ∧ Drew b S S' := by
  have hlt := hb.lt
  have raw : Rt (body 12 m_law_town [.ref b, .int most] S) fun d S' => ∃ ls r s, d = .tup [.tup (ls.map loopD), .int r, .int s] ∧ GoodT most.toNat ls ∧ 1 ≤ r ∧ r ≤ 4 ∧ 1 ≤ s ∧ s ≤ 50 ∧ Grew b S S' := by
    refine rt_of fun Q hQ => ?_
    have em : m_law_town = sSeq (sSet 2 (eNew (lNew (aNil))))
      (sSeq (sSet 3 (eDNew))
      (sSeq (sFor (iR1 (aCons (eBin addD (eC (.int 1)) (eBin mulD (eCall sp_law_draw (aCons (eVar 0) (aCons (eC (.int 4)) (aNil)))) (eCall sp_law_draw (aCons (eVar 0) (aCons (eC (.int 2)) (aNil)))))) (aNil))) (tN 4) townOut)
      (sRet (eTup (aCons (eCall tupleA (aCons (eVar 2) (aNil))) (aCons (eBin addD (eC (.int 1)) (eCall sp_law_draw (aCons (eVar 0) (aCons (eC (.int 4)) (aNil))))) (aCons (eBin addD (eC (.int 1)) (eCall sp_law_draw (aCons (eVar 0) (aCons (eC (.int 50)) (aNil))))) (aNil)))))))) := rfl
    have h0 : Tw b most.toNat S (S ++ [.lst false [], .dct false []]) [] [] := by
      refine ⟨(Grew.refl hb).app _, hlt, by simp, ⟨[], by simp, by simp [valD_nil], by simp⟩, by simp, by simp, by simp⟩
    have hb0 := h0.bag
    rw [em]
    simp [sizeL]
    generalize hr_ : sp_law_draw [D.ref _, D.int _] _ = r_
    obtain ⟨d1, S1, hq_, a1, b1, w1, hb1⟩ := draw_of hr_ (by assumption) (by omega) (by omega)
    clear hr_
    subst hq_
    simp
    generalize hr_ : sp_law_draw [D.ref _, D.int _] _ = r_
    obtain ⟨d2, S2, hq_, a2, b2, w2, hb2⟩ := draw_of hr_ (by assumption) (by omega) (by omega)
    clear hr_
    subst hq_
    have h3 := (h0.drew w1).drew w2
    have hm : ∀ S, mulD (.int d1) (.int d2) S = .ok (.int (d1 * d2)) S := fun S => mulD_l (by omega)
    have hd : 0 ≤ d1 * d2 ∧ d1 * d2 ≤ 3 := by
      have : d2 = 0 ∨ d2 = 1 := by omega
      rcases this with rfl | rfl <;> omega
    have hwd : Wd (1 + d1 * d2) := wd_of (by omega) (by omega)
    have L := for_nx (g := noG) (tg := tN 4) (b := townOut) (items := rangeD 0 (1 + d1 * d2).toNat) (ρ := [some (.ref b), some (.int most), some (.ref S.length), some (.ref (S.length + 1)), none, none, none, none, none, none, none, none]) (S := S2)
      (fun i ρ S' => ∃ ls x4 x5 x6 x7 x8 x9 x10 x11, ρ = [some (.ref b), some (.int most), some (.ref S.length), some (.ref (S.length + 1)), x4, x5, x6, x7, x8, x9, x10, x11] ∧ Tw b most.toNat S S' ls [] ∧ ls.length = i)
      ⟨[], none, none, none, none, none, none, none, none, rfl, h3, rfl⟩ (fun _ _ _ _ => trivial) (by
        rintro i d ρ S' hd' ⟨ls, x4, x5, x6, x7, x8, x9, x10, x11, rfl, hT, hl⟩
        obtain ⟨hi, rfl⟩ := range_get hd'
        refine ⟨_, rfl, ?_⟩
        obtain ⟨ρ2, S3, e, cur, y5, y6, y7, y8, y9, y10, y11, rfl, h4⟩ := town_out (most := most) (x4 := some (.int (0 + (i : Int)))) (x5 := x5) (x6 := x6) (x7 := x7) (x8 := x8) (x9 := x9) (x10 := x10) (x11 := x11) (by omega) (by omega) (by omega) (by omega) hT
        exact ⟨_, S3, e, ls ++ [cur], _, _, _, _, _, _, _, _, rfl, h4, by simp [hl]⟩)
    obtain ⟨ρ', S', e, ls, x4, x5, x6, x7, x8, x9, x10, x11, rfl, hT, hl⟩ := L
    rw [rangeD_len] at hl
    have hb' := hT.bag
    have e1 := hT.loops
    simp [hm, hwd, e, e1]
    generalize hr_ : sp_law_draw [D.ref _, D.int _] _ = r_
    obtain ⟨d3, S3, hq_, a3, b3, w3, hb3⟩ := draw_of hr_ (by assumption) (by omega) (by omega)
    clear hr_
    subst hq_
    simp
    generalize hr_ : sp_law_draw [D.ref _, D.int _] _ = r_
    obtain ⟨d4, S4, hq_, a4, b4, w4, hb4⟩ := draw_of hr_ (by assumption) (by omega) (by omega)
    clear hr_
    subst hq_
    simp [sizeL]
    have hT2 := (hT.drew w3).drew w4
    exact hQ _ _ ⟨ls, _, _, rfl, ⟨by omega, by omega, by simpa using hT2.nd, by simpa using hT2.good, hT2.sz⟩, by omega, by omega, by omega, by omega, hT2.grew⟩
  obtain ⟨_, S', e, ls, r, s, rfl, hg, r1, r2, s1, s2, w⟩ := raw
  obtain ⟨q1, q2⟩ := gc_grew (d := .tup [.tup (ls.map loopD), .int r, .int s]) w hlt (by simp [bdL_loops])
  refine ⟨ls, r, s, S'.take S.length, ?_, hg, r1, r2, s1, s2, q2⟩
  show gc S _ = _
  rw [e]
  exact q1

/-- cuts of a loop -/
structure CutOk (n : Nat) (c : List Nat) : Prop where
  srt : c.Pairwise (· < ·)
  le : ∀ k ∈ c, k ≤ n
  len : c.length ≤ 4
def cutTD (c : List Nat) : D := .tup (ixsD c)
theorem insU_len (k : Int) : ∀ l : List Int, (insU k l).length ≤ l.length + 1
  | [] => by simp [insU]
  | a :: l => by
    unfold insU
    have := insU_len k l
    split <;> (try split) <;> simp <;> omega
theorem sortU_len : ∀ l : List Int, (sortU l).length ≤ l.length
  | [] => by simp [sortU]
  | a :: l => by
    show (insU a (sortU l)).length ≤ _
    have h1 := insU_len a (sortU l)
    have h2 := sortU_len l
    simp
    omega
theorem ints_nats {l : List Int} (h : ∀ k ∈ l, 0 ≤ k) : l.map D.int = ixsD (l.map Int.toNat) := by
  unfold ixsD
  rw [List.map_map]
  apply List.map_congr_left
  intro k hk
  have := h k hk
  show D.int k = D.int (k.toNat : Int)
  congr 1
  omega
theorem sort_cut {ns : List Int} {n : Nat} (h : ∀ k ∈ ns, 0 ≤ k ∧ k ≤ n) (hl : ns.length ≤ 4) : ∃ c, (sortU ns).map D.int = ixsD c ∧ CutOk n c := by
  have hm : ∀ k ∈ sortU ns, 0 ≤ k ∧ k ≤ n := fun k hk => h k ((sortU_mem k ns).mp hk)
  refine ⟨(sortU ns).map Int.toNat, ints_nats fun k hk => (hm k hk).1, ?_, ?_, ?_⟩
  · rw [List.pairwise_map]
    refine List.Pairwise.imp_of_mem ?_ (sortU_srt ns)
    intro a b ha hb hab
    have := hm a ha
    omega
  · intro k hk
    obtain ⟨z, hz, rfl⟩ := List.mem_map.mp hk
    have := hm z hz
    omega
  · rw [List.length_map]
    exact Nat.le_trans (sortU_len ns) hl
theorem intsD_all : ∀ {out : List D} {P : Int → Prop}, (∀ d ∈ out, ∃ k, d = .int k ∧ P k) → ∃ ns, intsD out = some ns ∧ ns.length = out.length ∧ ∀ k ∈ ns, P k
  | [], P, _ => ⟨[], rfl, rfl, by simp⟩
  | d :: out, P, h => by
    obtain ⟨k, rfl, hk⟩ := h d List.mem_cons_self
    obtain ⟨ns, e, hl, hp⟩ := intsD_all fun d hd => h d (List.mem_cons_of_mem _ hd)
    refine ⟨k :: ns, by simp [intsD, e], by simp [hl], ?_⟩
    intro x hx
    rcases List.mem_cons.mp hx with rfl | hx
    · exact hk
    · exact hp x hx
@[simp] theorem lSortSet_ev {a : ME} {ρ : Fr} {S : Sto} : lSortSet a ρ S = (a ρ S).bind fun d S1 => match seqOf S1 d with | some l => (match intsD l with | some ns => if ns.length < 64 then .ok ((sortU ns).map D.int) S1 else .no | none => .no) | none => .no := rfl
noncomputable def cutsIn : MS := sSeq (sSet 4 (eBin ixD (eTup (aCons (eC (.int 0)) (aCons (eC (.int 0)) (aCons (eC (.int 1)) (aCons (eC (.int 1)) (aCons (eC (.int 2)) (aCons (eC (.int 4)) (aNil)))))))) (eCall sp_law_draw (aCons (eVar 0) (aCons (eC (.int 6)) (aNil))))))
  (sExpr (eMeth isLstD appendD (eVar 2) (aCons (eLs tupleD (lSortSet (ePl (lComp (iR1 (aCons (eVar 4) (aNil))) [5] (tN 5) tYs (eCall sp_law_draw (aCons (eVar 0) (aCons (eBin addD (eCall lenD (aCons (eVar 3) (aNil))) (eC (.int 1))) (aNil)))))))) (aNil))))
theorem cuts_in {b q : Nat} {S0 : Sto} {r1 x4 x5 : Option D} {l : List (List Nat)} {F : List D} (hbq : b < q) (hb : BagAt S0 b) (hq : S0[q]? = some (.lst false F)) (hF : F.length ≤ 100) (hl : l.length ≤ 100) :
    Nx (cutsIn [some (.ref b), r1, some (.ref q), some (loopD l), x4, x5] S0) fun ρ S' => ∃ c y4 y5 S1, ρ = [some (.ref b), r1, some (.ref q), some (loopD l), y4, y5] ∧ CutOk l.length c ∧ Drew b S0 S1 ∧ S' = S1.set q (.lst false (F ++ [cutTD c])) ∧ BagAt S' b := by
  refine nx_of fun Q hQ => ?_
  unfold cutsIn
  simp [sizeL]
  generalize hr_ : sp_law_draw [D.ref _, D.int _] _ = r_
  obtain ⟨d, S1, hq_, a1, b1, w1, hb1⟩ := draw_of hr_ (by assumption) (by omega) (by omega)
  clear hr_
  subst hq_
  have hm : ∃ m : Nat, m ≤ 4 ∧ atI [D.int 0, D.int 0, D.int 1, D.int 1, D.int 2, D.int 4] d = some (.int (m : Int)) := by
    have : d = 0 ∨ d = 1 ∨ d = 2 ∨ d = 3 ∨ d = 4 ∨ d = 5 := by omega
    rcases this with rfl | rfl | rfl | rfl | rfl | rfl
    · exact ⟨0, by decide, rfl⟩
    · exact ⟨0, by decide, rfl⟩
    · exact ⟨1, by decide, rfl⟩
    · exact ⟨1, by decide, rfl⟩
    · exact ⟨2, by decide, rfl⟩
    · exact ⟨4, by decide, rfl⟩
  obtain ⟨m, hm4, hm⟩ := hm
  have hwd : Wd (m : Int) := wd_of (by omega) (by omega)
  obtain ⟨out, S2, e2, h21, h22, w2⟩ := lc_draws (n := m) (tg := tN 5) (m := (eCall sp_law_draw (aCons (eVar 0) (aCons (eBin addD (eCall lenD (aCons (eVar 3) (aNil))) (eC (.int 1))) (aNil))))) (ρ := [some (.ref b), r1, some (.ref q), some (loopD l), some (.int (m : Int)), none]) (b := b) (S := S1) (fun d => ∃ k, d = .int k ∧ (0 ≤ k ∧ k ≤ (l.length : Nat))) hb1 (fun d => ⟨_, rfl, fun S' hb' => by
      simp [loopD]
      generalize hr_ : sp_law_draw [D.ref _, D.int _] _ = r_
      obtain ⟨j, S6, hq_, a6, b6, w6, hb6⟩ := draw_of hr_ (by assumption) (by omega) (by omega)
      clear hr_
      subst hq_
      exact ⟨_, _, rfl, ⟨j, rfl, by omega, by omega⟩, w6⟩⟩)
  obtain ⟨ns, e3, h31, h32⟩ := intsD_all h22
  obtain ⟨c, e4, hc⟩ := sort_cut h32 (by omega)
  have w12 := w1.trans w2
  have q2 : S2[q]? = some (.lst false F) := by rw [w12.get (by omega)]; exact hq
  have q1 : S1[q]? = some (.lst false F) := by rw [w1.get (by omega)]; exact hq
  have e5 := isLst_ev q1
  have e6 := append_ev (d := cutTD c) q2 (by rw [sizeL]; omega)
  have hlt : ns.length < 64 := by omega
  have hrl : (rangeD 0 m).length ≤ 16777216 := by rw [rangeD_len]; omega
  have bq : BagAt (S2.set q (.lst false (F ++ [cutTD c]))) b := by
    obtain ⟨a, m, k, e, r⟩ := w2.1
    exact ⟨a, m, k, by rw [List.getElem?_set_ne (by omega)]; exact e, r⟩
  have e7 : ((sortU ns).map D.int) = ixsD c := e4
  unfold cutTD at e6
  have key : lcD noG (tN 5) tYs (eCall sp_law_draw (aCons (eVar 0) (aCons (eBin addD (eCall lenD (aCons (eVar 3) (aNil))) (eC (.int 1))) (aNil)))) [some (.ref b), r1, some (.ref q), some (loopD l), some (.int (m : Int)), none] (rangeD 0 m) S1 = .ok out S2 := e2
  simp [hm, hwd, sizeL, hrl, key, e5, seqOf, e3, hlt, e7, e6]
  exact hQ _ _ ⟨c, _, _, S2, rfl, hc, w12, rfl, bq⟩

/-- a town with its cuts -/
structure GoodTC (B : Nat) (tw : List (List (List Nat) × List Nat)) : Prop where
  town : GoodT B (tw.map (·.1))
  cut : ∀ x ∈ tw, CutOk x.1.length x.2
theorem loopsD_map (tw : List (List (List Nat) × List Nat)) : (tw.map (·.1)).map loopD = loopsD tw := by simp [loopsD, loopD]
theorem bdL_cuts {n : Nat} {tw : List (List (List Nat) × List Nat)} : bdL n (cutsD tw) := by
  rw [bdL_iff]
  intro d hd
  obtain ⟨x, _, rfl⟩ := List.mem_map.mp hd
  have : bdL n (ixsD x.2) := by
    rw [bdL_iff]
    intro d hd
    obtain ⟨x, _, rfl⟩ := List.mem_map.mp hd
    simp
  simp [this]
theorem cuts_ev {b B : Nat} {S : Sto} {ls : List (List (List Nat))} {r s : D} (hb : BagAt S b) (hT : GoodT B ls) (hB : B ≤ 20) : ∃ tw S', sp_law_cuts [.ref b, .tup [.tup (ls.map loopD), r, s]] S = .ok (.tup (cutsD tw)) S' ∧ tw.map (·.1) = ls ∧ GoodTC B tw ∧ Drew b S S' := by
  have hlt := hb.lt
  have raw : Rt (body 6 m_law_cuts [.ref b, .tup [.tup (ls.map loopD), r, s]] S) fun d S' => ∃ tw, d = .tup (cutsD tw) ∧ tw.map (·.1) = ls ∧ (∀ x ∈ tw, CutOk x.1.length x.2) ∧ Grew b S S' := by
    refine rt_of fun Q hQ => ?_
    have em : m_law_cuts = sSeq (sSet 2 (eNew (lNew (aNil)))) (sSeq (sFor (iA (eBin ixD (eVar 1) (eC (.int 0)))) (tN 3) cutsIn) (sRet (eCall tupleA (aCons (eVar 2) (aNil))))) := rfl
    rw [em]
    have L := for_nx (g := noG) (tg := tN 3) (b := cutsIn) (items := ls.map loopD) (ρ := [some (.ref b), some (.tup [.tup (ls.map loopD), r, s]), some (.ref S.length), none, none, none]) (S := S ++ [.lst false []])
      (fun i ρ S' => ∃ tw x3 x4 x5, ρ = [some (.ref b), some (.tup [.tup (ls.map loopD), r, s]), some (.ref S.length), x3, x4, x5] ∧ tw.map (·.1) = ls.take i ∧ (∀ x ∈ tw, CutOk x.1.length x.2) ∧ Grew b S S' ∧ S'[S.length]? = some (.lst false (cutsD tw)))
      ⟨[], none, none, none, rfl, by simp, by simp, (Grew.refl hb).app _, by simp [cutsD]⟩ (fun _ _ _ _ => trivial) (by
        rintro i d ρ S' hd ⟨tw, x3, x4, x5, rfl, h1, h2, h3, h4⟩
        rw [List.getElem?_map] at hd
        obtain ⟨l, hl, rfl⟩ := Option.map_eq_some_iff.mp hd
        have hlen : tw.length ≤ 4 := by
          have := congrArg List.length h1
          rw [List.length_map, List.length_take] at this
          have := hT.len
          omega
        have hl2 := (hT.sz l (List.mem_of_getElem? hl)).2
        refine ⟨_, rfl, ?_⟩
        obtain ⟨ρ2, S2, e, c, y4, y5, S1, rfl, hc, w, rfl, hb2⟩ := cuts_in (r1 := some (.tup [.tup (ls.map loopD), r, s])) (x4 := x4) (x5 := x5) (l := l) hlt h3.1 h4 (by unfold cutsD; rw [List.length_map]; omega) (by omega)
        have h4' : S1[S.length]? = some (.lst false (cutsD tw)) := by rw [w.get (by omega)]; exact h4
        refine ⟨_, _, e, tw ++ [(l, c)], _, _, _, rfl, ?_, ?_, (h3.trans w.grew).set (Nat.le_refl _) hlt, ?_⟩
        · rw [List.map_append, h1, List.take_add_one, hl]; rfl
        · intro x hx
          rcases List.mem_append.mp hx with hx | hx
          · exact h2 x hx
          · rw [List.mem_singleton.mp hx]; exact hc
        · rw [List.getElem?_set_self (List.getElem?_eq_some_iff.mp h4').1]
          simp [cutsD, cutTD])
    obtain ⟨ρ', S', e, tw, x3, x4, x5, rfl, h1, h2, h3, h4⟩ := L
    rw [List.length_map, List.take_length] at h1
    simp [sizeL, e, h4]
    exact hQ _ _ ⟨tw, rfl, h1, h2, h3⟩
  obtain ⟨_, S', e, tw, rfl, h1, h2, w⟩ := raw
  obtain ⟨q1, q2⟩ := gc_grew (d := .tup (cutsD tw)) w hlt (by simp [bdL_cuts])
  refine ⟨tw, S'.take S.length, ?_, h1, ⟨by rw [h1]; exact hT, h2⟩, q2⟩
  show gc S _ = _
  rw [e]
  exact q1
end CW

namespace CW
open PySem PySem.Spec PyProof.Rows L2 MM
/-- dumb_part(numbers, cuts); slots 0 numbers, 1 cuts -/
noncomputable def m_dumb_part : MS :=
  sSeq (sIf (tV (eBin eqD (eVar 1) (eTup (aNil)))) (sRet (eTup (aNil))) (sPass))
  (sRet (eSl (eVar 0) (oS (eBin ixD (eVar 1) (eC (.int 0)))) (oS (eBin ixD (eVar 1) (eUn negD (eC (.int 1)))))))
noncomputable def sp_dumb_part : FL := body 2 m_dumb_part
/-- dumb_numbers(town, cuts); slots 0 town, 1 cuts, 2 found, 3 numbers, 4 here -/
noncomputable def m_dumb_numbers : MS :=
  sSeq (sSet 2 (eTup (aNil)))
  (sSeq (sFor (iZA (eBin ixD (eVar 0) (eC (.int 0))) (eVar 1)) (tTp 2 (tsCons (tN 3) (tsCons (tN 4) (tsNil)))) (sSet 2 (eBin addD (eVar 2) (eCall sp_dumb_part (aCons (eVar 3) (aCons (eVar 4) (aNil)))))))
  (sRet (eVar 2)))
noncomputable def sp_dumb_numbers : FL := body 5 m_dumb_numbers
theorem plL_nD {n : Nat} {l : List (List Nat)} (h : ∀ ds ∈ l, GoodN ds) : plL n (nD l) := plL_iff.mpr fun d hd => by
  obtain ⟨ds, hds, rfl⟩ := List.mem_map.mp hd
  have := (fine_num (h ds hds).fig).uni.ok
  cases n <;> simpa [plD] using this

def dumbL (l : List (List Nat)) (c : List Nat) : List (List Nat) := match c, c.getLast? with
  | a :: _, some z => (l.take z).drop a
  | _, _ => []
theorem cut_midN (l : List D) (a z : Nat) : MM.cutD l (some (a : Int)) (some (z : Int)) = (l.take z).drop a := by
  unfold MM.cutD
  rw [HT.sIx_nat, HT.sIx_nat]
  apply List.ext_getElem?
  intro i
  rw [List.getElem?_take, List.getElem?_drop, List.getElem?_drop, List.getElem?_take]
  by_cases h1 : i < min z l.length - min a l.length
  · rw [if_pos h1, if_pos (by omega)]
    congr 1
    omega
  · rw [if_neg h1]
    by_cases h2 : a + i < z
    · rw [if_pos h2, List.getElem?_eq_none (by omega)]
    · rw [if_neg h2]
theorem dumb_part_ev {l : List (List Nat)} {c : List Nat} {S : Sto} : sp_dumb_part [.tup (nD l), .tup (ixsD c)] S = .ok (.tup (nD (dumbL l c))) S := by
  unfold sp_dumb_part m_dumb_part
  cases c with
  | nil =>
    have e := eq_same (S := S) (n := 1) (d := .tup []) (by simp [plD, plL]) (by decide)
    rw [show ixsD [] = [] from rfl]
    simp -implicitDefEqProofs [e, sz]
    rfl
  | cons a r =>
    obtain ⟨z, hz⟩ : ∃ z, (a :: r).getLast? = some z := by cases hq : (a :: r).getLast? with | none => simp at hq | some z => exact ⟨z, rfl⟩
    have e := eqD_empty (a := .int (a : Int)) (l := ixsD r) (n := 1) (by simp only [plD]; exact plL_ixs (l := a :: r)) (by decide) S
    have e2 := get_last hz
    have e3 : atI (D.int (a : Int) :: ixsD r) 0 = some (.int (a : Int)) := atI_nat (j := 0) rfl
    unfold dumbL
    rw [hz]
    rw [show ixsD (a :: r) = .int (a : Int) :: ixsD r from rfl] at e2 ⊢
    simp -implicitDefEqProofs [e, e2, e3, sz]
    rw [cut_midN]
    unfold nD
    rw [List.map_drop, List.map_take]
def dumbs (tw : List (List (List Nat) × List Nat)) : List (List Nat) := tw.flatMap fun x => dumbL x.1 x.2
theorem dumbL_len (l : List (List Nat)) (c : List Nat) : (dumbL l c).length ≤ l.length := by
  unfold dumbL
  split
  · rw [List.length_drop, List.length_take]; omega
  · simp
theorem dumbs_len {B : Nat} : ∀ {tw : List (List (List Nat) × List Nat)}, (∀ x ∈ tw, x.1.length ≤ B) → (dumbs tw).length ≤ B * tw.length
  | [], _ => by simp [dumbs]
  | x :: tw, h => by
    have h1 := h x List.mem_cons_self
    have h2 := dumbs_len (tw := tw) fun y hy => h y (List.mem_cons_of_mem _ hy)
    have h3 := dumbL_len x.1 x.2
    unfold dumbs at *
    rw [List.flatMap_cons, List.length_append, List.length_cons, Nat.mul_add]
    omega
theorem dumbs_take {tw : List (List (List Nat) × List Nat)} {i : Nat} {x : List (List Nat) × List Nat} (h : tw[i]? = some x) : dumbs (tw.take (i + 1)) = dumbs (tw.take i) ++ dumbL x.1 x.2 := by
  unfold dumbs
  rw [List.take_add_one, h, Option.toList_some, List.flatMap_append]
  simp
theorem dumb_numbers_ev {B : Nat} {tw : List (List (List Nat) × List Nat)} {r s : D} {S : Sto} (hB : ∀ x ∈ tw, x.1.length ≤ B) (hb : B ≤ 20) (h4 : tw.length ≤ 4) : sp_dumb_numbers [.tup [.tup (loopsD tw), r, s], .tup (cutsD tw)] S = .ok (.tup (nD (dumbs tw))) S := by
  unfold sp_dumb_numbers m_dumb_numbers
  generalize hC : sSet 2 (eBin addD (eVar 2) _) = C
  have L := for_nx (g := noG) (tg := tTp 2 (tsCons (tN 3) (tsCons (tN 4) tsNil))) (b := C) (items := zipD (loopsD tw) (cutsD tw)) (ρ := [some (.tup [.tup (loopsD tw), r, s]), some (.tup (cutsD tw)), some (.tup []), none, none]) (S := S)
    (fun i ρ S' => S' = S ∧ ∃ x3 x4, ρ = [some (.tup [.tup (loopsD tw), r, s]), some (.tup (cutsD tw)), some (.tup (nD (dumbs (tw.take i)))), x3, x4])
    ⟨rfl, none, none, rfl⟩ (fun _ _ _ _ => trivial) (by
      rintro i d ρ S' hd ⟨rfl, x3, x4, rfl⟩
      rw [zip_tw, List.getElem?_map] at hd
      obtain ⟨x, hx, rfl⟩ := Option.map_eq_some_iff.mp hd
      have e := dumb_part_ev (l := x.1) (c := x.2) (S := S')
      have hl1 := dumbs_len (tw := tw.take i) (B := B) fun y hy => hB y (List.mem_of_mem_take hy)
      have hl2 := dumbL_len x.1 x.2
      have hl3 := hB x (List.mem_of_getElem? hx)
      have hl4 : B * (tw.take i).length ≤ 20 * 4 := Nat.mul_le_mul hb (by rw [List.length_take]; omega)
      have ea := addD_tup (S := S') (u := nD (dumbs (tw.take i))) (v := nD (dumbL x.1 x.2)) (by rw [nD_length, nD_length, sizeL]; omega)
      subst hC
      refine ⟨_, rfl, nx_of fun Q hQ => ?_⟩
      simp -implicitDefEqProofs [e, ea]
      exact hQ _ _ ⟨rfl, _, _, by rw [dumbs_take hx, nD_append]⟩)
  obtain ⟨ρ', S', e, rfl, x3, x4, rfl⟩ := L
  rw [show (zipD (loopsD tw) (cutsD tw)).length = tw.length by rw [zip_tw, List.length_map], List.take_length] at e
  simp -implicitDefEqProofs [e, sz]
end CW

namespace LK10
open PySem PySem.Spec PyProof.Rows L2 MM CW
/-- _law_live(_law_parts); slots 0 _law_parts, 1 _law_found, 2 _law_part -/
noncomputable def m__law_live : MS :=
  sSeq (sSet 1 (eNew (lNew (aNil))))
  (sSeq (sFor (iA (eVar 0)) (tN 2) (sExpr (eMeth isLstD extendD (eVar 1) (lA (eVar 2)))))
  (sRet (eVar 1)))
noncomputable def sp__law_live : FL := gcF (body 3 m__law_live)
/-- _law_all(_law_town_here); slots 0 _law_town_here, 1 _law_found, 2 _law_numbers -/
noncomputable def m__law_all : MS :=
  sSeq (sSet 1 (eNew (lNew (aNil))))
  (sSeq (sFor (iA (eBin ixD (eVar 0) (eC (.int 0)))) (tN 2) (sExpr (eMeth isLstD extendD (eVar 1) (lA (eVar 2)))))
  (sRet (eVar 1)))
noncomputable def sp__law_all : FL := gcF (body 3 m__law_all)
/-- law(_law_script); slots 0 _law_script, 1 _law_k, 2 _law_bag_here, 3 _law_town_here, 4 _law_cuts_here, 5 _law_loop, 6 _law_stretch, 7 _law_more, 8 _law_joined, 9 _law_here, 10 _law_live_here, 11 _law_fewer, 12 _law_parts, 13 _law_part, 14 _law_none, 15 _law_numbers, 16 _law_number, 17 _law_other -/
noncomputable def m_law : MS :=
  sSeq (sFor (iA (eCall CW.sp_law_many (aCons (eVar 0) (aCons (eC (.int 2)) (aCons (eC (.int 6)) (aNil)))))) (tN 1) (sSeq (sSet 2 (eCall CW.sp_law_bag (aCons (eVar 0) (aCons (eVar 1) (aNil)))))
  (sSeq (sSet 3 (eCall CW.sp_law_town (aCons (eVar 2) (aCons (eBin ixD (eTup (aCons (eC (.int 3)) (aCons (eC (.int 6)) (aCons (eC (.int 12)) (aNil))))) (eCall CW.sp_law_draw (aCons (eVar 2) (aCons (eC (.int 3)) (aNil))))) (aNil)))))
  (sSeq (sSet 4 (eCall CW.sp_law_cuts (aCons (eVar 2) (aCons (eVar 3) (aNil)))))
  (sSeq (sSet 5 (eCall CW.sp_law_draw (aCons (eVar 2) (aCons (eCall lenD (aCons (eBin ixD (eVar 3) (eC (.int 0))) (aNil))) (aNil)))))
  (sSeq (sSet 6 (eCall CW.sp_law_draw (aCons (eVar 2) (aCons (eBin addD (eCall lenD (aCons (eBin ixD (eBin ixD (eVar 3) (eC (.int 0))) (eVar 5)) (aNil))) (eC (.int 1))) (aNil)))))
  (sSeq (sSet 7 (eBin addD (eBin addD (eSl (eVar 4) (oN) (oS (eVar 5))) (eTup (aCons (eLs tupleD (lSortSet (eBin addD (eBin ixD (eVar 4) (eVar 5)) (eTup (aCons (eVar 6) (aNil)))))) (aNil)))) (eSl (eVar 4) (oS (eBin addD (eVar 5) (eC (.int 1)))) (oN))))
  (sSeq (sFor (iA (eTup (aCons (eC (.bl false)) (aCons (eC (.bl true)) (aNil))))) (tN 8) (sSeq (sFor (iA (eTup (aCons (eVar 4) (aCons (eVar 7) (aNil))))) (tN 9) (sSeq (sSet 10 (eCall sp__law_live (aCons (eCall CW.sp_wire_parts (aCons (eVar 3) (aCons (eVar 9) (aCons (eVar 8) (aNil))))) (aNil))))
  (sIf (tV (eBin neD (ePl (lSorted (lOf (eBin addD (eVar 10) (ePl (lA (eCall CW.sp_dumb_numbers (aCons (eVar 3) (aCons (eVar 9) (aNil)))))))))) (ePl (lSorted (lOf (eCall sp__law_all (aCons (eVar 3) (aNil)))))))) (sRet (eC (.bl false))) (sPass))))
  (sSeq (sSet 11 (eCall sp__law_live (aCons (eCall CW.sp_wire_parts (aCons (eVar 3) (aCons (eVar 7) (aCons (eVar 8) (aNil))))) (aNil))))
  (sSeq (sIf (tNt (tV (eLs allD (lComp (iA (eVar 11)) [16] (tN 16) tYs (eBin inD (eVar 16) (eCall sp__law_live (aCons (eCall CW.sp_wire_parts (aCons (eVar 3) (aCons (eVar 4) (aCons (eVar 8) (aNil))))) (aNil)))))))) (sRet (eC (.bl false))) (sPass))
  (sSeq (sSet 12 (eCall CW.sp_wire_parts (aCons (eVar 3) (aCons (eVar 4) (aCons (eVar 8) (aNil))))))
  (sFor (iA (eCall CW.sp_wire_parts (aCons (eVar 3) (aCons (eVar 7) (aCons (eVar 8) (aNil)))))) (tN 13) (sIf (tNt (tV (eLs anyD (lComp (iA (eVar 12)) [17] (tN 17) tYs (eLs allD (lComp (iA (eVar 13)) [16] (tN 16) tYs (eBin inD (eVar 16) (eVar 17)))))))) (sRet (eC (.bl false))) (sPass))))))))
  (sSeq (sSet 14 (eLs tupleD (lComp (iA (eBin ixD (eVar 3) (eC (.int 0)))) [15] (tN 15) tYs (eTup (aNil)))))
  (sIf (tOo (tV (eBin neD (eCall CW.sp_dumb_numbers (aCons (eVar 3) (aCons (eVar 14) (aNil)))) (eTup (aNil)))) (tV (eBin neD (eCall CW.sp_wire_parts (aCons (eVar 3) (aCons (eVar 14) (aCons (eC (.bl false)) (aNil))))) (eBin ixD (eVar 3) (eC (.int 0)))))) (sRet (eC (.bl false))) (sPass)))))))))))
  (sRet (eC (.bl true)))
noncomputable def sp_law : FL := body 18 m_law
/-- the parts, joined or not -/
def wireL (j : Bool) (tw : List (List (List Nat) × List Nat)) : List (List (List Nat)) := if j = true then [(allParts tw).flatten] else allParts tw
theorem wire_flat (j : Bool) (tw : List (List (List Nat) × List Nat)) : (wireL j tw).flatten = (allParts tw).flatten := by cases j <;> simp [wireL]
theorem part_lenB {tw : List (List (List Nat) × List Nat)} {B : Nat} (h : ∀ x ∈ tw, x.1.length ≤ B) : (allParts tw).flatten.length ≤ (2 * B) * tw.length := by
  have h1 : ∀ p ∈ allParts tw, p.length ≤ B := by
    intro p hp
    unfold allParts at hp
    obtain ⟨x, hx, hp⟩ := List.mem_flatMap.mp hp
    have := h x hx
    unfold partsL at hp
    split at hp
    · rw [List.mem_singleton.mp hp]; exact this
    · simp only [List.mem_cons, List.not_mem_nil, or_false] at hp
      rcases hp with rfl | rfl
      · unfold nearL
        split
        · exact this
        · rw [List.length_take]; omega
      · unfold farL
        split
        · exact this
        · rw [List.length_drop]; omega
  have h2 := flatB_len h1
  have h3 := allParts_len tw
  have h4 : B * (allParts tw).length ≤ B * (2 * tw.length) := Nat.mul_le_mul_left _ h3
  have h5 : B * (2 * tw.length) = (2 * B) * tw.length := by rw [Nat.mul_comm 2 B, Nat.mul_assoc]
  omega
/-- a town of so many with cuts that rise -/
structure CutT (tw : List (List (List Nat) × List Nat)) : Prop where
  town : GoodT 12 (tw.map (·.1))
  srt : ∀ x ∈ tw, x.2.Pairwise (· < ·)
theorem CutT.len4 {tw : List (List (List Nat) × List Nat)} (h : CutT tw) : tw.length ≤ 4 := by simpa using h.town.len
theorem CutT.sz {tw : List (List (List Nat) × List Nat)} (h : CutT tw) : ∀ x ∈ tw, x.1.length ≤ 12 := fun x hx => (h.town.sz x.1 (List.mem_map.mpr ⟨x, hx, rfl⟩)).2
theorem CutT.flat {tw : List (List (List Nat) × List Nat)} (h : CutT tw) : (allParts tw).flatten.length ≤ 96 := by
  have h1 := part_lenB h.sz
  have h2 : (2 * 12) * tw.length ≤ 24 * 4 := Nat.mul_le_mul (by omega) h.len4
  omega
theorem wire_ev {tw : List (List (List Nat) × List Nat)} {r s : D} {S : Sto} {j : Bool} (h : CutT tw) : sp_wire_parts [.tup [.tup (loopsD tw), r, s], .tup (cutsD tw), .bl j] S = .ok (.tup (ptsD (wireL j tw))) S := by
  cases j with
  | false => exact wire_parts_ev h.len4
  | true => exact wire_joined_ev h.len4 (by have := h.flat; omega)
theorem live_ev {P : List (List (List Nat))} {S : Sto} (hl : P.flatten.length ≤ 1000) : sp__law_live [.tup (ptsD P)] S = .ok (.pl (nD P.flatten)) S := by
  have raw : body 3 m__law_live [.tup (ptsD P)] S = .ok (.ref S.length) (S ++ [.lst false (nD P.flatten)]) := by
    unfold m__law_live
    generalize hB : sExpr (eMeth isLstD extendD (eVar 1) (lA (eVar 2))) = B
    have L := for_nx (g := noG) (tg := tN 2) (b := B) (items := ptsD P) (ρ := [some (.tup (ptsD P)), some (.ref S.length), none]) (S := S ++ [.lst false []])
      (fun i ρ S' => S' = S ++ [.lst false (nD (P.take i).flatten)] ∧ ∃ x2, ρ = [some (.tup (ptsD P)), some (.ref S.length), x2])
      ⟨rfl, none, rfl⟩ (fun _ _ _ _ => trivial) (by
        rintro i d ρ S' hd ⟨rfl, x2, rfl⟩
        unfold ptsD at hd
        rw [List.getElem?_map] at hd
        obtain ⟨p, hp, rfl⟩ := Option.map_eq_some_iff.mp hd
        have hs : (P.take (i + 1)).flatten = (P.take i).flatten ++ p := by rw [List.take_add_one, hp, Option.toList_some, List.flatten_append]; simp
        have hle : (P.take (i + 1)).flatten.length ≤ 1000 := by
          have h1 := congrArg (fun l => (List.flatten l).length) (List.take_append_drop (i + 1) P)
          simp only [List.flatten_append, List.length_append] at h1
          omega
        rw [hs, List.length_append] at hle
        have g0 : (S ++ [O.lst false (nD (P.take i).flatten)])[S.length]? = some (.lst false (nD (P.take i).flatten)) := by simp
        have e1 := extend_ev (l := nD p) g0 (by rw [nD_length, nD_length, sizeL]; omega)
        have e2 := isLst_ev g0
        rw [set_last] at e1
        subst hB
        refine ⟨_, rfl, nx_of fun Q hQ => ?_⟩
        simp -implicitDefEqProofs [e1, e2]
        apply hQ
        exact ⟨by rw [hs, nD_append], _, rfl⟩)
    obtain ⟨ρ', S', e, rfl, x2, rfl⟩ := L
    rw [show (ptsD P).length = P.length by unfold ptsD; rw [List.length_map], List.take_length] at e
    simp -implicitDefEqProofs [e, sizeL]
  show gc S _ = _
  rw [raw]
  exact gc_new rfl Kept.refl rfl bdL_nD
theorem all_ev {tw : List (List (List Nat) × List Nat)} {r s : D} {S : Sto} (hl : (tw.map (·.1)).flatten.length ≤ 1000) : sp__law_all [.tup [.tup (loopsD tw), r, s]] S = .ok (.pl (nD (tw.map (·.1)).flatten)) S := by
  have raw : body 3 m__law_all [.tup [.tup (loopsD tw), r, s]] S = .ok (.ref S.length) (S ++ [.lst false (nD (tw.map (·.1)).flatten)]) := by
    unfold m__law_all
    generalize hB : sExpr (eMeth isLstD extendD (eVar 1) (lA (eVar 2))) = B
    have L := for_nx (g := noG) (tg := tN 2) (b := B) (items := loopsD tw) (ρ := [some (.tup [.tup (loopsD tw), r, s]), some (.ref S.length), none]) (S := S ++ [.lst false []])
      (fun i ρ S' => S' = S ++ [.lst false (nD ((tw.map (·.1)).take i).flatten)] ∧ ∃ x2, ρ = [some (.tup [.tup (loopsD tw), r, s]), some (.ref S.length), x2])
      ⟨rfl, none, rfl⟩ (fun _ _ _ _ => trivial) (by
        rintro i d ρ S' hd ⟨rfl, x2, rfl⟩
        rw [← loopsD_map, List.getElem?_map] at hd
        generalize tw.map (·.1) = P at *
        obtain ⟨p, hp, rfl⟩ := Option.map_eq_some_iff.mp hd
        have hs : (P.take (i + 1)).flatten = (P.take i).flatten ++ p := by rw [List.take_add_one, hp, Option.toList_some, List.flatten_append]; simp
        have hle : (P.take (i + 1)).flatten.length ≤ 1000 := by
          have h1 := congrArg (fun l => (List.flatten l).length) (List.take_append_drop (i + 1) P)
          simp only [List.flatten_append, List.length_append] at h1
          omega
        rw [hs, List.length_append] at hle
        have g0 : (S ++ [O.lst false (nD (P.take i).flatten)])[S.length]? = some (.lst false (nD (P.take i).flatten)) := by simp
        have e1 := extend_ev (l := nD p) g0 (by rw [nD_length, nD_length, sizeL]; omega)
        have e2 := isLst_ev g0
        rw [set_last] at e1
        subst hB
        unfold loopD
        refine ⟨_, rfl, nx_of fun Q hQ => ?_⟩
        simp -implicitDefEqProofs [e1, e2]
        apply hQ
        exact ⟨by rw [hs, nD_append], _, rfl⟩)
    obtain ⟨ρ', S', e, rfl, x2, rfl⟩ := L
    rw [show (loopsD tw).length = (tw.map (·.1)).length by unfold loopsD; rw [List.length_map, List.length_map], List.take_length] at e
    simp -implicitDefEqProofs [e, sizeL]
  show gc S _ = _
  rw [raw]
  exact gc_new rfl Kept.refl rfl bdL_nD
/-! ### each box is on one part or dumb -/
theorem last_ge {a z : Nat} {r : List Nat} (h : (a :: r).Pairwise (· < ·)) (hz : (a :: r).getLast? = some z) : a ≤ z := by
  rcases List.mem_cons.mp (List.mem_of_getLast? hz) with rfl | hm
  · exact Nat.le_refl _
  · exact Nat.le_of_lt ((List.pairwise_cons.mp h).1 z hm)
theorem loop_perm {l : List (List Nat)} {c : List Nat} (h : c.Pairwise (· < ·)) : ((partsL l c).flatten ++ dumbL l c).Perm l := by
  cases c with
  | nil => simp [partsL, dumbL]
  | cons a r =>
    obtain ⟨z, hz⟩ : ∃ z, (a :: r).getLast? = some z := by cases hq : (a :: r).getLast? with | none => simp at hq | some z => exact ⟨z, rfl⟩
    have haz := last_ge h hz
    have e1 : (partsL l (a :: r)).flatten ++ dumbL l (a :: r) = (l.take a ++ l.drop z) ++ (l.take z).drop a := by
      unfold partsL dumbL nearL farL
      rw [hz]
      simp
    rw [e1, List.append_assoc]
    have e2 : l.take a ++ ((l.take z).drop a ++ l.drop z) = l := by
      rw [← List.append_assoc]
      have : l.take a = (l.take z).take a := by rw [List.take_take, Nat.min_eq_left haz]
      rw [this, List.take_append_drop, List.take_append_drop]
    exact (List.Perm.append_left _ List.perm_append_comm).trans (by rw [e2])
theorem town_perm : ∀ {tw : List (List (List Nat) × List Nat)}, (∀ x ∈ tw, x.2.Pairwise (· < ·)) → ((allParts tw).flatten ++ dumbs tw).Perm (tw.map (·.1)).flatten
  | [], _ => by simp [allParts, dumbs]
  | x :: tw, h => by
    have h1 := loop_perm (l := x.1) (h x List.mem_cons_self)
    have h2 := town_perm (tw := tw) fun y hy => h y (List.mem_cons_of_mem _ hy)
    have e1 : allParts (x :: tw) = partsL x.1 x.2 ++ allParts tw := by simp [allParts]
    have e2 : dumbs (x :: tw) = dumbL x.1 x.2 ++ dumbs tw := by simp [dumbs]
    rw [e1, e2, List.flatten_append, List.map_cons, List.flatten_cons]
    have : ((partsL x.1 x.2).flatten ++ (allParts tw).flatten ++ (dumbL x.1 x.2 ++ dumbs tw)).Perm (((partsL x.1 x.2).flatten ++ dumbL x.1 x.2) ++ ((allParts tw).flatten ++ dumbs tw)) := by
      rw [List.append_assoc, List.append_assoc]
      apply List.Perm.append_left
      rw [← List.append_assoc, ← List.append_assoc]
      exact List.Perm.append_right _ List.perm_append_comm
    exact this.trans (h1.append h2)
theorem sort_perm {l m : List (List Nat)} (h : l.Perm m) : sortB strLt (l.map numS) = sortB strLt (m.map numS) :=
  sortB_uniq lin_str ((sortB_perm strLt _).trans (h.map numS)) (sortB_srt lin_str _)
@[simp] theorem lSorted_ev {a : ML} {ρ : Fr} {S : Sto} : lSorted a ρ S = (a ρ S).bind fun l S1 => match intsD l with | some ns => if ns.length < 64 then .ok ((sortB intLt ns).map D.int) S1 else .no | none => (match txts l with | some xs => if xs.length < 64 then .ok ((sortB strLt xs).map D.str) S1 else .no | none => .no) := rfl
theorem ints_nD {l : List (List Nat)} (h : 1 ≤ l.length) : intsD (nD l) = none := by
  cases l with
  | nil => simp at h
  | cons a r => simp [nD, intsD]
theorem txts_nD (l : List (List Nat)) : txts (nD l) = some (l.map numS) := txts_map numS l
theorem plD_sort {l : List (List Nat)} (h : ∀ ds ∈ l, GoodN ds) : plD 1 (.pl ((sortB strLt (l.map numS)).map D.str)) := by
  simp only [plD]
  refine plL_iff.mpr fun d hd => ?_
  obtain ⟨z, hz, rfl⟩ := List.mem_map.mp hd
  obtain ⟨ds, hds, rfl⟩ := List.mem_map.mp ((sortB_perm strLt _).mem_iff.mp hz)
  simpa [plD] using (fine_num (h ds hds).fig).uni.ok
noncomputable def body1 : MS := sSeq (sSet 10 (eCall sp__law_live (aCons (eCall CW.sp_wire_parts (aCons (eVar 3) (aCons (eVar 9) (aCons (eVar 8) (aNil))))) (aNil))))
  (sIf (tV (eBin neD (ePl (lSorted (lOf (eBin addD (eVar 10) (ePl (lA (eCall CW.sp_dumb_numbers (aCons (eVar 3) (aCons (eVar 9) (aNil)))))))))) (ePl (lSorted (lOf (eCall sp__law_all (aCons (eVar 3) (aNil)))))))) (sRet (eC (.bl false))) (sPass))
theorem body1_ev {tw : List (List (List Nat) × List Nat)} {r s : D} {S : Sto} {j : Bool} {x0 x1 x2 x4 x5 x6 x7 x10 x11 x12 x13 x14 x15 x16 x17 : Option D} (h : CutT tw) :
    body1 [x0, x1, x2, some (.tup [.tup (loopsD tw), r, s]), x4, x5, x6, x7, some (.bl j), some (.tup (cutsD tw)), x10, x11, x12, x13, x14, x15, x16, x17] S
      = .nx [x0, x1, x2, some (.tup [.tup (loopsD tw), r, s]), x4, x5, x6, x7, some (.bl j), some (.tup (cutsD tw)), some (.pl (nD (allParts tw).flatten)), x11, x12, x13, x14, x15, x16, x17] S := by
  have hp := town_perm h.srt
  have hl := hp.length_eq
  rw [List.length_append] at hl
  have hfl := flatB_len (B := 12) (ls := tw.map (·.1)) fun l hl => (h.town.sz l hl).2
  have h48 : 12 * (tw.map (·.1)).length ≤ 12 * 4 := Nat.mul_le_mul_left _ h.town.len
  have hpos : 1 ≤ (tw.map (·.1)).flatten.length := by
    have h0 := h.town.pos
    cases hq : tw.map (·.1) with
    | nil => rw [hq] at h0; simp at h0
    | cons a r =>
      have := (h.town.sz a (by rw [hq]; exact List.mem_cons_self)).1
      rw [List.flatten_cons, List.length_append]
      omega
  have e1 := wire_ev (r := r) (s := s) (S := S) (j := j) h
  have e2 := live_ev (P := wireL j tw) (S := S) (by rw [wire_flat]; have := h.flat; omega)
  rw [wire_flat] at e2
  have e3 := dumb_numbers_ev (r := r) (s := s) (S := S) h.sz (by decide) h.len4
  have e4 := all_ev (tw := tw) (r := r) (s := s) (S := S) (by omega)
  have e5 := addD_pl (S := S) (u := nD (allParts tw).flatten) (v := nD (dumbs tw)) (by rw [nD_length, nD_length, sizeL]; omega)
  rw [← nD_append] at e5
  have i1 := ints_nD (l := (allParts tw).flatten ++ dumbs tw) (by rw [List.length_append]; omega)
  have i2 := ints_nD (l := (tw.map (·.1)).flatten) hpos
  have t1 := txts_nD ((allParts tw).flatten ++ dumbs tw)
  have t2 := txts_nD (tw.map (·.1)).flatten
  have z1 : (((allParts tw).flatten ++ dumbs tw).map numS).length < 64 := by rw [List.length_map, List.length_append]; omega
  have z2 : ((tw.map (·.1)).flatten.map numS).length < 64 := by rw [List.length_map]; omega
  have n1 := ne_same (S := S) (plD_sort h.town.good) (by decide)
  have sp := sort_perm hp
  generalize (tw.map (·.1)).flatten = A at *
  generalize (allParts tw).flatten = P at *
  generalize hPD : P ++ dumbs tw = PD at *
  unfold body1
  simp -implicitDefEqProofs [e1, e2, e3, e4, e5, i1, i2, t1, t2]
  rw [List.length_map] at z1 z2
  simp -implicitDefEqProofs [z1, z2, sp, n1, e4, i2, t2]
/-! ### one cut more -/
theorem near_sub {l : List (List Nat)} {c c' : List Nat} (h' : c'.Pairwise (· < ·)) (hs : ∀ k ∈ c, k ∈ c') {ds : List Nat} (hd : ds ∈ nearL l c') : ds ∈ nearL l c := by
  cases c with
  | nil =>
    cases c' with
    | nil => exact hd
    | cons a r => exact List.mem_of_mem_take hd
  | cons b q =>
    cases c' with
    | nil => exact absurd (hs b List.mem_cons_self) (by simp)
    | cons a r =>
      have hab : a ≤ b := by
        rcases List.mem_cons.mp (hs b List.mem_cons_self) with rfl | hm
        · exact Nat.le_refl _
        · exact Nat.le_of_lt ((List.pairwise_cons.mp h').1 b hm)
      have : l.take a = (l.take b).take a := by rw [List.take_take, Nat.min_eq_left hab]
      have hd : ds ∈ l.take a := hd
      rw [this] at hd
      exact List.mem_of_mem_take hd
theorem far_sub {l : List (List Nat)} {c c' : List Nat} (h' : c'.Pairwise (· < ·)) (hs : ∀ k ∈ c, k ∈ c') {ds : List Nat} (hd : ds ∈ farL l c') : ds ∈ farL l c := by
  unfold farL at *
  cases hz : c.getLast? with
  | none =>
    split at hd
    · exact hd
    · exact List.mem_of_mem_drop hd
  | some z =>
    have hzc := hs z (List.mem_of_getLast? hz)
    cases hy : c'.getLast? with
    | none => rw [List.getLast?_eq_none_iff] at hy; subst hy; cases hzc
    | some y =>
      rw [hy] at hd
      have hzy : z ≤ y := by
        obtain ⟨ys, rfl⟩ := List.getLast?_eq_some_iff.mp hy
        rcases List.mem_append.mp hzc with hm | hm
        · exact Nat.le_of_lt ((List.pairwise_append.mp h').2.2 z hm y (by simp))
        · rw [List.mem_singleton.mp hm]; exact Nat.le_refl _
      have : l.drop y = (l.drop z).drop (y - z) := by rw [List.drop_drop]; congr 1; omega
      have hd : ds ∈ l.drop y := hd
      rw [this] at hd
      exact List.mem_of_mem_drop hd
theorem part_more {l : List (List Nat)} {c c' : List Nat} (h' : c'.Pairwise (· < ·)) (hs : ∀ k ∈ c, k ∈ c') {p : List (List Nat)} (hp : p ∈ partsL l c') : ∃ q ∈ partsL l c, ∀ ds ∈ p, ds ∈ q := by
  unfold partsL at hp ⊢
  by_cases hc : c = []
  · refine ⟨l, by simp [hc], fun ds hd => ?_⟩
    split at hp
    · rw [List.mem_singleton.mp hp] at hd; exact hd
    · simp only [List.mem_cons, List.not_mem_nil, or_false] at hp
      rcases hp with rfl | rfl
      · have := near_sub (c := []) h' (by simp) hd; exact this
      · have := far_sub (c := []) h' (by simp) hd; exact this
  · have hc' : c' ≠ [] := fun e => by
      cases c with
      | nil => exact hc rfl
      | cons a r => have := hs a List.mem_cons_self; rw [e] at this; cases this
    rw [if_neg hc'] at hp
    rw [if_neg hc]
    simp only [List.mem_cons, List.not_mem_nil, or_false] at hp
    rcases hp with rfl | rfl
    · exact ⟨nearL l c, by simp, fun ds hd => near_sub h' hs hd⟩
    · exact ⟨farL l c, by simp, fun ds hd => far_sub h' hs hd⟩
/-- a town with more cuts -/
def More (tw tv : List (List (List Nat) × List Nat)) : Prop := ∀ x' ∈ tv, ∃ x ∈ tw, x.1 = x'.1 ∧ ∀ k ∈ x.2, k ∈ x'.2
theorem wire_more {tw tv : List (List (List Nat) × List Nat)} (hv : CutT tv) (hm : More tw tv) {j : Bool} {p : List (List Nat)} (hp : p ∈ wireL j tv) : ∃ q ∈ wireL j tw, ∀ ds ∈ p, ds ∈ q := by
  have key : ∀ p ∈ allParts tv, ∃ q ∈ allParts tw, ∀ ds ∈ p, ds ∈ q := by
    intro p hp
    unfold allParts at hp
    obtain ⟨x', hx', hp⟩ := List.mem_flatMap.mp hp
    obtain ⟨x, hx, h1, h2⟩ := hm x' hx'
    rw [← h1] at hp
    obtain ⟨q, hq, h3⟩ := part_more (hv.srt x' hx') h2 hp
    exact ⟨q, List.mem_flatMap.mpr ⟨x, hx, hq⟩, h3⟩
  cases j with
  | false => exact key p hp
  | true =>
    have hp : p = (allParts tv).flatten := by simpa [wireL] using hp
    subst hp
    refine ⟨(allParts tw).flatten, by simp [wireL], fun ds hd => ?_⟩
    obtain ⟨p, hp, hd⟩ := List.mem_flatten.mp hd
    obtain ⟨q, hq, h3⟩ := key p hp
    exact List.mem_flatten.mpr ⟨q, hq, h3 ds hd⟩
theorem in_tupN {ds : List Nat} {l : List (List Nat)} {S : Sto} : inD (.str (numS ds)) (.tup (nD l)) S = .ok (.bl (decide (ds ∈ l))) S := by
  have : MM.inB S (.str (numS ds)) (.tup (nD l)) = some (decide (ds ∈ l)) := by
    unfold MM.inB
    simp only [flat_nD, flatD, and_self, if_true, inL_num]
  unfold inD
  rw [this]
theorem all_in {part other : List (List Nat)} {ρ : Fr} {S : Sto} (hρ : ρ.length = 18) (h17 : ρ[17]? = some (some (.tup (nD other)))) : lcD noG (tN 16) tYs (eBin inD (eVar 16) (eVar 17)) ρ (nD part) S = .ok (part.map fun ds => D.bl (decide (ds ∈ other))) S := by
  refine lcOf (g := noG) (fun ds => D.str (numS ds)) (fun ds => D.bl (decide (ds ∈ other))) trivial (l := part) (fun ds _ => ⟨_, rfl, ?_⟩)
  have g1 : (ρ.set 16 (some (D.str (numS ds))))[16]? = some (some (D.str (numS ds))) := List.getElem?_set_self (by omega)
  have g2 : (ρ.set 16 (some (D.str (numS ds))))[17]? = some (some (.tup (nD other))) := by rw [List.getElem?_set_ne (by decide)]; exact h17
  simp only [eBin_ev, eVar_ev, g1, g2, bind_ok, in_tupN]
noncomputable def body3 : MS := sIf (tNt (tV (eLs anyD (lComp (iA (eVar 12)) [17] (tN 17) tYs (eLs allD (lComp (iA (eVar 13)) [16] (tN 16) tYs (eBin inD (eVar 16) (eVar 17)))))))) (sRet (eC (.bl false))) (sPass)
theorem body3_ev {W : List (List (List Nat))} {part : List (List Nat)} {S : Sto} {x0 x1 x2 x3 x4 x5 x6 x7 x8 x9 x10 x11 x14 x15 x16 x17 : Option D} (hW : W.length ≤ 100) (hp : part.length ≤ 1000) (h : ∃ q ∈ W, ∀ ds ∈ part, ds ∈ q) :
    body3 [x0, x1, x2, x3, x4, x5, x6, x7, x8, x9, x10, x11, some (.tup (ptsD W)), some (.tup (nD part)), x14, x15, x16, x17] S = .nx [x0, x1, x2, x3, x4, x5, x6, x7, x8, x9, x10, x11, some (.tup (ptsD W)), some (.tup (nD part)), x14, x15, x16, x17] S := by
  have hz : (nD part).length ≤ 16777216 := by rw [nD_length]; omega
  have hz2 : (ptsD W).length ≤ 16777216 := by unfold ptsD; rw [List.length_map]; omega
  have e1 : lcD noG (tN 17) tYs (eLs allD (lComp (iA (eVar 13)) [16] (tN 16) tYs (eBin inD (eVar 16) (eVar 17)))) [x0, x1, x2, x3, x4, x5, x6, x7, x8, x9, x10, x11, some (.tup (ptsD W)), some (.tup (nD part)), x14, x15, x16, none] (ptsD W) S = .ok (W.map fun q => D.bl (part.all fun ds => decide (ds ∈ q))) S := by
    refine lcOf (g := noG) (fun q => D.tup (nD q)) (fun q => D.bl (part.all fun ds => decide (ds ∈ q))) trivial (l := W) (fun q _ => ⟨_, rfl, ?_⟩)
    have e := all_in (part := part) (other := q) (S := S) (ρ := [x0, x1, x2, x3, x4, x5, x6, x7, x8, x9, x10, x11, some (.tup (ptsD W)), some (.tup (nD part)), x14, x15, none, some (.tup (nD q))]) rfl rfl
    have e2 := allD_map (fun ds => decide (ds ∈ q)) part S
    rw [nD_length] at hz
    simp -implicitDefEqProofs [e, e2, hz, sizeL]
  have e2 := anyD_map (fun q : List (List Nat) => part.all fun ds => decide (ds ∈ q)) W S
  have e3 : (W.any fun q => part.all fun ds => decide (ds ∈ q)) = true := by
    obtain ⟨q, hq, h⟩ := h
    rw [List.any_eq_true]
    exact ⟨q, hq, by rw [List.all_eq_true]; intro ds hd; simpa using h ds hd⟩
  rw [e3] at e2
  unfold body3
  simp -implicitDefEqProofs [e1, e2, hz2, sizeL]
noncomputable def body2 : MS := sSeq (sFor (iA (eTup (aCons (eVar 4) (aCons (eVar 7) (aNil))))) (tN 9) body1)
  (sSeq (sSet 11 (eCall sp__law_live (aCons (eCall CW.sp_wire_parts (aCons (eVar 3) (aCons (eVar 7) (aCons (eVar 8) (aNil))))) (aNil))))
  (sSeq (sIf (tNt (tV (eLs allD (lComp (iA (eVar 11)) [16] (tN 16) tYs (eBin inD (eVar 16) (eCall sp__law_live (aCons (eCall CW.sp_wire_parts (aCons (eVar 3) (aCons (eVar 4) (aCons (eVar 8) (aNil))))) (aNil)))))))) (sRet (eC (.bl false))) (sPass))
  (sSeq (sSet 12 (eCall CW.sp_wire_parts (aCons (eVar 3) (aCons (eVar 4) (aCons (eVar 8) (aNil))))))
  (sFor (iA (eCall CW.sp_wire_parts (aCons (eVar 3) (aCons (eVar 7) (aCons (eVar 8) (aNil)))))) (tN 13) body3))))
theorem body2_ev {tw tv : List (List (List Nat) × List Nat)} {r s : D} {S : Sto} {j : Bool} {x0 x1 x2 x5 x6 x9 x10 x11 x12 x13 x14 x15 x16 x17 : Option D} (h : CutT tw) (hv : CutT tv) (hl : loopsD tv = loopsD tw) (hm : More tw tv) :
    Nx (body2 [x0, x1, x2, some (.tup [.tup (loopsD tw), r, s]), some (.tup (cutsD tw)), x5, x6, some (.tup (cutsD tv)), some (.bl j), x9, x10, x11, x12, x13, x14, x15, x16, x17] S)
      fun ρ S' => S' = S ∧ ∃ x9 x10 x11 x12 x13 x14 x15 x16 x17, ρ = [x0, x1, x2, some (.tup [.tup (loopsD tw), r, s]), some (.tup (cutsD tw)), x5, x6, some (.tup (cutsD tv)), some (.bl j), x9, x10, x11, x12, x13, x14, x15, x16, x17] := by
  refine nx_of fun Q hQ => ?_
  have L := for_nx (g := noG) (tg := tN 9) (b := body1) (items := [.tup (cutsD tw), .tup (cutsD tv)]) (ρ := [x0, x1, x2, some (.tup [.tup (loopsD tw), r, s]), some (.tup (cutsD tw)), x5, x6, some (.tup (cutsD tv)), some (.bl j), x9, x10, x11, x12, x13, x14, x15, x16, x17]) (S := S)
    (fun i ρ S' => S' = S ∧ ∃ x9 x10, ρ = [x0, x1, x2, some (.tup [.tup (loopsD tw), r, s]), some (.tup (cutsD tw)), x5, x6, some (.tup (cutsD tv)), some (.bl j), x9, x10, x11, x12, x13, x14, x15, x16, x17])
    ⟨rfl, _, _, rfl⟩ (fun _ _ _ _ => trivial) (by
      rintro i d ρ S' hd ⟨rfl, x9, x10, rfl⟩
      have hd := List.mem_of_getElem? hd
      simp only [List.mem_cons, List.not_mem_nil, or_false] at hd
      rcases hd with rfl | rfl
      · have e := body1_ev (r := r) (s := s) (S := S') (j := j) (x0 := x0) (x1 := x1) (x2 := x2) (x4 := some (.tup (cutsD tw))) (x5 := x5) (x6 := x6) (x7 := some (.tup (cutsD tv))) (x10 := x10) (x11 := x11) (x12 := x12) (x13 := x13) (x14 := x14) (x15 := x15) (x16 := x16) (x17 := x17) h
        exact ⟨_, rfl, _, _, e, rfl, _, _, rfl⟩
      · have e := body1_ev (r := r) (s := s) (S := S') (j := j) (x0 := x0) (x1 := x1) (x2 := x2) (x4 := some (.tup (cutsD tw))) (x5 := x5) (x6 := x6) (x7 := some (.tup (cutsD tv))) (x10 := x10) (x11 := x11) (x12 := x12) (x13 := x13) (x14 := x14) (x15 := x15) (x16 := x16) (x17 := x17) hv
        rw [hl] at e
        exact ⟨_, rfl, _, _, e, rfl, _, _, rfl⟩)
  obtain ⟨ρ1, S1, e1, rfl, y9, y10, rfl⟩ := L
  have e2 := wire_ev (r := r) (s := s) (S := S1) (j := j) h
  have e3 := wire_ev (r := r) (s := s) (S := S1) (j := j) hv
  rw [hl] at e3
  have e4 := live_ev (P := wireL j tv) (S := S1) (by rw [wire_flat]; have := hv.flat; omega)
  have e5 := live_ev (P := wireL j tw) (S := S1) (by rw [wire_flat]; have := h.flat; omega)
  have hfl := hv.flat
  have e6 : lcD noG (tN 16) tYs (eBin inD (eVar 16) (eCall sp__law_live (aCons (eCall CW.sp_wire_parts (aCons (eVar 3) (aCons (eVar 4) (aCons (eVar 8) (aNil))))) (aNil)))) [x0, x1, x2, some (.tup [.tup (loopsD tw), r, s]), some (.tup (cutsD tw)), x5, x6, some (.tup (cutsD tv)), some (.bl j), y9, y10, some (.pl (nD (wireL j tv).flatten)), x12, x13, x14, x15, none, x17] (nD (wireL j tv).flatten) S1 = .ok ((wireL j tv).flatten.map fun _ => D.bl true) S1 := by
    refine lcOf (g := noG) (fun ds => D.str (numS ds)) (fun _ => D.bl true) trivial (l := (wireL j tv).flatten) (fun ds hd => ⟨_, rfl, ?_⟩)
    have e7 := in_num (ds := ds) (l := (wireL j tw).flatten) (x := .pl (nD (wireL j tw).flatten)) (S := S1) rfl (fun _ h => nomatch h) (fun _ h => nomatch h)
    have hin : ds ∈ (wireL j tw).flatten := by
      obtain ⟨p, hp, hd⟩ := List.mem_flatten.mp hd
      obtain ⟨q, hq, h3⟩ := wire_more hv hm hp
      exact List.mem_flatten.mpr ⟨q, hq, h3 ds hd⟩
    rw [decide_eq_true hin] at e7
    simp -implicitDefEqProofs [e2, e5, e7]
  have e8 := all_true (l := (wireL j tv).flatten.map fun _ => D.bl true) (S := S1) (fun d hd => by obtain ⟨_, _, rfl⟩ := List.mem_map.mp hd; rfl)
  have hz : (wireL j tv).flatten.length ≤ 16777216 := by rw [wire_flat]; omega
  have hwl : (wireL j tw).length ≤ 100 := by
    cases j with
    | true => simp [wireL]
    | false =>
      have h1 := allParts_len tw
      have h2 := h.len4
      show (allParts tw).length ≤ 100
      omega
  have L3 := for_nx (g := noG) (tg := tN 13) (b := body3) (items := ptsD (wireL j tv)) (ρ := [x0, x1, x2, some (.tup [.tup (loopsD tw), r, s]), some (.tup (cutsD tw)), x5, x6, some (.tup (cutsD tv)), some (.bl j), y9, y10, some (.pl (nD (wireL j tv).flatten)), some (.tup (ptsD (wireL j tw))), x13, x14, x15, x16, x17]) (S := S1)
    (fun i ρ S' => S' = S1 ∧ ∃ x13, ρ = [x0, x1, x2, some (.tup [.tup (loopsD tw), r, s]), some (.tup (cutsD tw)), x5, x6, some (.tup (cutsD tv)), some (.bl j), y9, y10, some (.pl (nD (wireL j tv).flatten)), some (.tup (ptsD (wireL j tw))), x13, x14, x15, x16, x17])
    ⟨rfl, _, rfl⟩ (fun _ _ _ _ => trivial) (by
      rintro i d ρ S' hd ⟨rfl, x13, rfl⟩
      have hd := List.mem_of_getElem? hd
      obtain ⟨p, hp, rfl⟩ := List.mem_map.mp hd
      have hpl : p.length ≤ 1000 := by
        have h1 : p.length ≤ (wireL j tv).flatten.length := by
          obtain ⟨a, b, hab⟩ := List.append_of_mem hp
          rw [hab]
          simp
          omega
        rw [wire_flat] at h1
        omega
      have e := body3_ev (W := wireL j tw) (part := p) (S := S') (x0 := x0) (x1 := x1) (x2 := x2) (x3 := some (.tup [.tup (loopsD tw), r, s])) (x4 := some (.tup (cutsD tw))) (x5 := x5) (x6 := x6) (x7 := some (.tup (cutsD tv))) (x8 := some (.bl j)) (x9 := y9) (x10 := y10) (x11 := some (.pl (nD (wireL j tv).flatten))) (x14 := x14) (x15 := x15) (x16 := x16) (x17 := x17) hwl hpl (wire_more hv hm hp)
      exact ⟨_, rfl, _, _, e, rfl, _, rfl⟩)
  obtain ⟨ρ3, S3, e9, rfl, y13, rfl⟩ := L3
  generalize (wireL j tv).flatten = F at *
  unfold body2
  simp -implicitDefEqProofs [e1, e2, e3, e4, e6, e8, e9, hz, sizeL]
  exact hQ _ _ ⟨rfl, _, _, _, _, _, _, _, _, _, rfl⟩
theorem intsD_ixs : ∀ c : List Nat, intsD (ixsD c) = some (c.map fun (k : Nat) => (k : Int))
  | [] => rfl
  | a :: r => by
    have := intsD_ixs r
    unfold ixsD at this ⊢
    simp [intsD, this]
theorem intsD_app : ∀ (a b : List D) (x y : List Int), intsD a = some x → intsD b = some y → intsD (a ++ b) = some (x ++ y)
  | [], b, x, y, h, g => by cases h; exact g
  | d :: a, b, x, y, h, g => by
    cases d with
    | int i =>
      cases hq : intsD a with
      | none => simp [intsD, hq] at h
      | some x' =>
        have : x = i :: x' := by simpa [intsD, hq] using h.symm
        subst this
        have := intsD_app a b x' y hq g
        simp [intsD, this]
    | _ => simp [intsD] at h
theorem cut_more {c : List Nat} {d : Nat} : ∃ c', (sortU (c.map (fun (k : Nat) => (k : Int)) ++ [(d : Int)])).map D.int = ixsD c' ∧ c'.Pairwise (· < ·) ∧ ∀ k ∈ c, k ∈ c' := by
  have h0 : ∀ k ∈ sortU (c.map (fun (k : Nat) => (k : Int)) ++ [(d : Int)]), 0 ≤ k := fun k hk => by
    have := (sortU_mem _ _).mp hk
    rcases List.mem_append.mp this with h | h
    · obtain ⟨x, _, rfl⟩ := List.mem_map.mp h; omega
    · rw [List.mem_singleton.mp h]; omega
  refine ⟨_, ints_nats h0, ?_, fun k hk => ?_⟩
  · rw [List.pairwise_map]
    refine List.Pairwise.imp_of_mem ?_ (sortU_srt _)
    intro a b ha hb hab
    have := h0 a ha
    omega
  · refine List.mem_map.mpr ⟨(k : Int), (sortU_mem _ _).mpr (List.mem_append_left _ (List.mem_map.mpr ⟨k, hk, rfl⟩)), by omega⟩
theorem parts_none : ∀ tw : List (List (List Nat) × List Nat), allParts (tw.map fun x => (x.1, ([] : List Nat))) = tw.map (·.1)
  | [] => rfl
  | x :: t => by
    have := parts_none t
    unfold allParts at *
    rw [List.map_cons, List.flatMap_cons, this]
    rfl
noncomputable def bodyN : MS := sSeq (sSet 14 (eLs tupleD (lComp (iA (eBin ixD (eVar 3) (eC (.int 0)))) [15] (tN 15) tYs (eTup (aNil)))))
  (sIf (tOo (tV (eBin neD (eCall CW.sp_dumb_numbers (aCons (eVar 3) (aCons (eVar 14) (aNil)))) (eTup (aNil)))) (tV (eBin neD (eCall CW.sp_wire_parts (aCons (eVar 3) (aCons (eVar 14) (aCons (eC (.bl false)) (aNil))))) (eBin ixD (eVar 3) (eC (.int 0)))))) (sRet (eC (.bl false))) (sPass))
theorem bodyN_ev {tw : List (List (List Nat) × List Nat)} {r s : D} {S : Sto} {x0 x1 x2 x4 x5 x6 x7 x8 x9 x10 x11 x12 x13 x14 x15 x16 x17 : Option D} (h : CutT tw) :
    Nx (bodyN [x0, x1, x2, some (.tup [.tup (loopsD tw), r, s]), x4, x5, x6, x7, x8, x9, x10, x11, x12, x13, x14, x15, x16, x17] S) fun ρ S' => S' = S ∧ ∃ y14 y15, ρ = [x0, x1, x2, some (.tup [.tup (loopsD tw), r, s]), x4, x5, x6, x7, x8, x9, x10, x11, x12, x13, y14, y15, x16, x17] := by
  refine nx_of fun Q hQ => ?_
  let tn : List (List (List Nat) × List Nat) := tw.map fun x => (x.1, [])
  have l1 : loopsD tn = loopsD tw := by simp [tn, loopsD]
  have c1 : cutsD tn = tw.map fun _ => D.tup [] := by simp [tn, cutsD, ixsD]
  have d1 : dumbs tn = [] := by
    unfold dumbs
    rw [List.flatMap_eq_nil_iff]
    intro x hx
    obtain ⟨y, _, rfl⟩ := List.mem_map.mp hx
    rfl
  have p1 : allParts tn = tw.map (·.1) := parts_none tw
  have hn : CutT tn := by
    refine ⟨?_, fun x hx => ?_⟩
    · have : tn.map (·.1) = tw.map (·.1) := by simp [tn]
      rw [this]; exact h.town
    · obtain ⟨y, _, rfl⟩ := List.mem_map.mp hx
      exact List.Pairwise.nil
  have e1 := dumb_numbers_ev (tw := tn) (r := r) (s := s) (S := S) hn.sz (by decide) hn.len4
  have e2 := wire_ev (tw := tn) (r := r) (s := s) (S := S) (j := false) hn
  have q1 : ptsD (wireL false tn) = loopsD tw := by
    show ptsD (allParts tn) = _
    rw [p1, ← loopsD_map]
    rfl
  rw [l1, d1, show nD [] = [] from rfl] at e1
  rw [l1, q1] at e2
  have e3 : lcD noG (tN 15) tYs (eTup (aNil)) [x0, x1, x2, some (.tup [.tup (loopsD tw), r, s]), x4, x5, x6, x7, x8, x9, x10, x11, x12, x13, x14, none, x16, x17] (loopsD tw) S = .ok (cutsD tn) S := by
    rw [c1]
    exact lcOf (g := noG) (fun (x : List (List Nat) × List Nat) => D.tup (nD x.1)) (fun _ => D.tup []) trivial (l := tw) (fun x _ => ⟨_, rfl, by simp [sizeL]⟩)
  have e0 := ne_same (S := S) (n := 1) (d := .tup []) (by simp [plD, plL]) (by decide)
  have e4 := ne_same (S := S) (n := 2) (d := .tup (loopsD tw)) (by
    simp only [plD]
    refine plL_iff.mpr fun d hd => ?_
    obtain ⟨x, hx, rfl⟩ := List.mem_map.mp hd
    simp only [plD]
    exact plL_nD fun ds hds => h.town.good ds (List.mem_flatten.mpr ⟨x.1, List.mem_map.mpr ⟨x, hx, rfl⟩, hds⟩)) (by decide)
  have hz : (loopsD tw).length ≤ 16777216 := by unfold loopsD; rw [List.length_map]; have := h.len4; omega
  unfold bodyN
  simp -implicitDefEqProofs [e1, e2, e3, e0, e4, hz, sizeL]
  exact hQ _ _ ⟨rfl, _, _, rfl⟩
theorem law_turn {ns : List Int} (hns : ns.length ≤ 63) {i : Nat} (hi : i < 7) {S : Sto} {x2 x3 x4 x5 x6 x7 x8 x9 x10 x11 x12 x13 x14 x15 x16 x17 : Option D} :
    Ran (fun ρ => ∃ x1 x2 x3 x4 x5 x6 x7 x8 x9 x10 x11 x12 x13 x14 x15 x16 x17, ρ = [some (.scr ns), x1, x2, x3, x4, x5, x6, x7, x8, x9, x10, x11, x12, x13, x14, x15, x16, x17]) ((sSeq (sSet 2 (eCall CW.sp_law_bag (aCons (eVar 0) (aCons (eVar 1) (aNil)))))
  (sSeq (sSet 3 (eCall CW.sp_law_town (aCons (eVar 2) (aCons (eBin ixD (eTup (aCons (eC (.int 3)) (aCons (eC (.int 6)) (aCons (eC (.int 12)) (aNil))))) (eCall CW.sp_law_draw (aCons (eVar 2) (aCons (eC (.int 3)) (aNil))))) (aNil)))))
  (sSeq (sSet 4 (eCall CW.sp_law_cuts (aCons (eVar 2) (aCons (eVar 3) (aNil)))))
  (sSeq (sSet 5 (eCall CW.sp_law_draw (aCons (eVar 2) (aCons (eCall lenD (aCons (eBin ixD (eVar 3) (eC (.int 0))) (aNil))) (aNil)))))
  (sSeq (sSet 6 (eCall CW.sp_law_draw (aCons (eVar 2) (aCons (eBin addD (eCall lenD (aCons (eBin ixD (eBin ixD (eVar 3) (eC (.int 0))) (eVar 5)) (aNil))) (eC (.int 1))) (aNil)))))
  (sSeq (sSet 7 (eBin addD (eBin addD (eSl (eVar 4) (oN) (oS (eVar 5))) (eTup (aCons (eLs tupleD (lSortSet (eBin addD (eBin ixD (eVar 4) (eVar 5)) (eTup (aCons (eVar 6) (aNil)))))) (aNil)))) (eSl (eVar 4) (oS (eBin addD (eVar 5) (eC (.int 1)))) (oN))))
  (sSeq (sFor (iA (eTup (aCons (eC (.bl false)) (aCons (eC (.bl true)) (aNil))))) (tN 8) body2) bodyN))))))) [some (.scr ns), some (.int (i : Int)), x2, x3, x4, x5, x6, x7, x8, x9, x10, x11, x12, x13, x14, x15, x16, x17] S) := by
  show Nx _ (fun ρ _ => _)
  refine nx_of fun Q hQ => ?_
  obtain ⟨l0, e1, hb1⟩ := bag_ev (ns := ns) (at_ := (i : Int)) (S := S) (by omega) (by omega) hns
  simp [e1, sizeL]
  generalize hr_ : sp_law_draw [D.ref _, D.int _] _ = r_
  obtain ⟨k, S2, hq_, a2, b2, w2, hb2⟩ := draw_of hr_ (by assumption) (by omega) (by omega)
  clear hr_
  subst hq_
  have hm : ∃ most : Int, atI [D.int 3, D.int 6, D.int 12] k = some (.int most) ∧ 1 ≤ most ∧ most ≤ 12 := by
    have : k = 0 ∨ k = 1 ∨ k = 2 := by omega
    rcases this with rfl | rfl | rfl <;> exact ⟨_, rfl, by decide, by decide⟩
  obtain ⟨most, hm, m1, m2⟩ := hm
  obtain ⟨ls, r, s, S3, e3, hg, _, _, _, _, w3⟩ := town_ev hb2 m1 (by omega)
  obtain ⟨tw, S4, e4, h4, hc, w4⟩ := cuts_ev (r := .int r) (s := .int s) w3.1 hg (by omega)
  subst h4
  rw [loopsD_map] at e3 e4
  have hb4 := w4.1
  have hT : CutT tw := ⟨⟨hc.town.pos, hc.town.len, hc.town.nd, hc.town.good, fun l hl => ⟨(hc.town.sz l hl).1, by have := (hc.town.sz l hl).2; omega⟩⟩, fun x hx => (hc.cut x hx).srt⟩
  have h4 := hT.len4
  have hpos : 1 ≤ tw.length := by simpa using hc.town.pos
  have hll : (loopsD tw).length = tw.length := by simp [loopsD]
  simp [hm, e3, e4, hll]
  generalize hr_ : sp_law_draw [D.ref _, D.int _] _ = r_
  obtain ⟨d5, S5, hq_, a5, b5, w5, hb5⟩ := draw_of hr_ (by assumption) (by omega) (by omega)
  clear hr_
  subst hq_
  obtain ⟨n, rfl⟩ : ∃ n : Nat, d5 = n := ⟨d5.toNat, by omega⟩
  have hn : n < tw.length := by omega
  have hx : tw[n]? = some tw[n] := List.getElem?_eq_getElem hn
  generalize tw[n] = x at hx
  have hxm := List.mem_of_getElem? hx
  have g1 : atI (loopsD tw) (n : Int) = some (.tup (nD x.1)) := atI_nat (j := n) (by unfold loopsD; rw [List.getElem?_map, hx]; rfl)
  have g2 : atI (cutsD tw) (n : Int) = some (.tup (ixsD x.2)) := atI_nat (j := n) (by unfold cutsD; rw [List.getElem?_map, hx]; rfl)
  have hx12 := hT.sz x hxm
  simp [g1]
  generalize hr_ : sp_law_draw [D.ref _, D.int _] _ = r_
  obtain ⟨d6, S6, hq_, a6, b6, w6, hb6⟩ := draw_of hr_ (by assumption) (by omega) (by omega)
  clear hr_
  subst hq_
  obtain ⟨m, rfl⟩ : ∃ m : Nat, d6 = m := ⟨d6.toNat, by omega⟩
  obtain ⟨c', f1, f2, f3⟩ := cut_more (c := x.2) (d := m)
  have hc4 := (hc.cut x hxm).len
  have e7 := addD_tup (S := S6) (u := ixsD x.2) (v := [.int (m : Int)]) (by unfold ixsD; rw [List.length_map, sizeL]; simp; omega)
  have e8 := intsD_app (ixsD x.2) [.int (m : Int)] _ [(m : Int)] (intsD_ixs x.2) rfl
  let tv : List (List (List Nat) × List Nat) := tw.take n ++ [(x.1, c')] ++ tw.drop (n + 1)
  have htw : tw.take n ++ [x] ++ tw.drop (n + 1) = tw := by
    have : tw.take n ++ [x] = tw.take (n + 1) := by rw [List.take_add_one, hx]; rfl
    rw [this, List.take_append_drop]
  have hfst : tv.map (·.1) = tw.map (·.1) := by
    rw [← htw]
    simp [tv]
  have hv : CutT tv := ⟨by rw [hfst]; exact hT.town, fun y hy => by
    simp only [tv, List.mem_append, List.mem_singleton] at hy
    rcases hy with (hy | rfl) | hy
    · exact hT.srt y (List.mem_of_mem_take hy)
    · exact f2
    · exact hT.srt y (List.mem_of_mem_drop hy)⟩
  have hl : loopsD tv = loopsD tw := by rw [← loopsD_map, ← loopsD_map, hfst]
  have hmore : More tw tv := fun y hy => by
    simp only [tv, List.mem_append, List.mem_singleton] at hy
    rcases hy with (hy | rfl) | hy
    · exact ⟨y, List.mem_of_mem_take hy, rfl, fun _ h => h⟩
    · exact ⟨x, hxm, rfl, f3⟩
    · exact ⟨y, List.mem_of_mem_drop hy, rfl, fun _ h => h⟩
  have q1 : MM.cutD (cutsD tw) none (some (n : Int)) = cutsD (tw.take n) := by rw [cut_toN]; unfold cutsD; rw [List.map_take]
  have q2 : MM.cutD (cutsD tw) (some ((n : Int) + 1)) none = cutsD (tw.drop (n + 1)) := by
    rw [show (n : Int) + 1 = ((n + 1 : Nat) : Int) by omega, cut_fromN]; unfold cutsD; rw [List.map_drop]
  have e9 := addD_tup (S := S6) (u := cutsD (tw.take n)) (v := [.tup (ixsD c')]) (by unfold cutsD; rw [List.length_map, List.length_take, sizeL]; simp; omega)
  have e10 := addD_tup (S := S6) (u := cutsD (tw.take n) ++ [.tup (ixsD c')]) (v := cutsD (tw.drop (n + 1))) (by unfold cutsD; rw [List.length_append, List.length_map, List.length_map, List.length_take, List.length_drop, sizeL]; simp; omega)
  have q3 : cutsD (tw.take n) ++ [.tup (ixsD c')] ++ cutsD (tw.drop (n + 1)) = cutsD tv := by simp [tv, cutsD]
  rw [q3] at e10
  have L := for_nx (g := noG) (tg := tN 8) (b := body2) (items := [.bl false, .bl true]) (ρ := [some (.scr ns), some (.int (i : Int)), some (.ref S.length), some (.tup [.tup (loopsD tw), .int r, .int s]), some (.tup (cutsD tw)), some (.int (n : Int)), some (.int (m : Int)), some (.tup (cutsD tv)), x8, x9, x10, x11, x12, x13, x14, x15, x16, x17]) (S := S6)
    (fun i' ρ S' => S' = S6 ∧ ∃ x8 x9 x10 x11 x12 x13 x14 x15 x16 x17, ρ = [some (.scr ns), some (.int (i : Int)), some (.ref S.length), some (.tup [.tup (loopsD tw), .int r, .int s]), some (.tup (cutsD tw)), some (.int (n : Int)), some (.int (m : Int)), some (.tup (cutsD tv)), x8, x9, x10, x11, x12, x13, x14, x15, x16, x17])
    ⟨rfl, _, _, _, _, _, _, _, _, _, _, rfl⟩ (fun _ _ _ _ => trivial) (by
      rintro i' d ρ S' hd ⟨rfl, x8, x9, x10, x11, x12, x13, x14, x15, x16, x17, rfl⟩
      have hd' : ∃ k, d = .bl k := by
        have := List.mem_of_getElem? hd
        simp only [List.mem_cons, List.not_mem_nil, or_false] at this
        rcases this with rfl | rfl <;> exact ⟨_, rfl⟩
      obtain ⟨k, rfl⟩ := hd'
      obtain ⟨ρ3, S7, e, rfl, y9, y10, y11, y12, y13, y14, y15, y16, y17, rfl⟩ := body2_ev (r := .int r) (s := .int s) (S := S') (j := k) (x0 := some (.scr ns)) (x1 := some (.int (i : Int))) (x2 := some (.ref S.length)) (x5 := some (.int (n : Int))) (x6 := some (.int (m : Int))) (x9 := x9) (x10 := x10) (x11 := x11) (x12 := x12) (x13 := x13) (x14 := x14) (x15 := x15) (x16 := x16) (x17 := x17) hT hv hl hmore
      exact ⟨_, rfl, _, _, e, rfl, _, _, _, _, _, _, _, _, _, _, rfl⟩)
  obtain ⟨ρ3, S7, e11, rfl, y8, y9, y10, y11, y12, y13, y14, y15, y16, y17, rfl⟩ := L
  obtain ⟨ρ4, S8, e12, rfl, z14, z15, rfl⟩ := bodyN_ev (r := .int r) (s := .int s) (S := S7) (x0 := some (.scr ns)) (x1 := some (.int (i : Int))) (x2 := some (.ref S.length)) (x4 := some (.tup (cutsD tw))) (x5 := some (.int (n : Int))) (x6 := some (.int (m : Int))) (x7 := some (.tup (cutsD tv))) (x8 := y8) (x9 := y9) (x10 := y10) (x11 := y11) (x12 := y12) (x13 := y13) (x14 := y14) (x15 := y15) (x16 := y16) (x17 := y17) hT
  have hlen64 : (x.2.map (fun (k : Nat) => (k : Int)) ++ [(m : Int)]).length < 64 := by rw [List.length_append, List.length_map]; simp; omega
  have hlen64' : x.2.length + 1 < 64 := by omega
  simp -implicitDefEqProofs [q1, q2, g2, e7, seqOf, e8, f1, sizeL, hlen64']
  simp -implicitDefEqProofs [e9, e10, e11, e12, sizeL]
  exact hQ _ _ ⟨_, _, _, _, _, _, _, _, _, _, _, _, _, _, _, _, _, rfl⟩
theorem law_true : ∀ ns : List Int, ns.length ≤ 63 → ∃ S, sp_law [.scr ns] [] = .ok (.bl true) S := by
  intro ns hl
  have e := many_ev (ns := ns) (a := 2) (b := 6) (S := []) (by decide) (by decide) (by decide)
  have hb := manyN_bd (a := 2) (b := 6) (n := ns.length) (by decide) (by decide)
  unfold sp_law m_law
  simp [e]
  refine cells_range (v := 1) _ (fun ρ => ∃ x1 x2 x3 x4 x5 x6 x7 x8 x9 x10 x11 x12 x13 x14 x15 x16 x17, ρ = [some (.scr ns), x1, x2, x3, x4, x5, x6, x7, x8, x9, x10, x11, x12, x13, x14, x15, x16, x17]) ⟨_, _, _, _, _, _, _, _, _, _, _, _, _, _, _, _, _, rfl⟩ ?_ ?_
  · rintro i ρ S' hi ⟨x1, x2, x3, x4, x5, x6, x7, x8, x9, x10, x11, x12, x13, x14, x15, x16, x17, rfl⟩
    exact law_turn hl (by omega)
  · rintro ρ S ⟨x1, x2, x3, x4, x5, x6, x7, x8, x9, x10, x11, x12, x13, x14, x15, x16, x17, rfl⟩
    exact ⟨S, by simp⟩
end LK10

namespace LK10
open PySem PySem.Spec PyProof.Rows L2 MM CW
def topS (i : Nat) : Stmt := PySem.Challenge.pw_callwheel_k10_whole_each_box_once.main.body.getD i (.Pass ⟨0, 0, 0, 0⟩)
abbrev s__law_many : Stmt := topS 10
abbrev N__law_many : List Str := ["_law_script", "_law_least", "_law_most"]
theorem sc__law_many : FnScope N__law_many ["_law_script", "_law_least", "_law_most"] (defScope s__law_many) := ⟨rfl, rfl, rfl, by decide +kernel, rfl, by decide +kernel, by decide +kernel⟩
abbrev s__law_bag : Stmt := topS 8
abbrev N__law_bag : List Str := ["_law_script", "_law_at", "_law_cell", "_law_mix", "_law_k"]
theorem sc__law_bag : FnScope N__law_bag ["_law_script", "_law_at"] (defScope s__law_bag) := ⟨rfl, rfl, rfl, by decide +kernel, rfl, by decide +kernel, by decide +kernel⟩
abbrev s__law_draw : Stmt := topS 9
abbrev N__law_draw : List Str := ["_law_bag_here", "_law_many_here", "_law_digit", "_law_primes", "_law_found", "_law_room"]
theorem sc__law_draw : FnScope N__law_draw ["_law_bag_here", "_law_many_here"] (defScope s__law_draw) := ⟨rfl, rfl, rfl, by decide +kernel, rfl, by decide +kernel, by decide +kernel⟩
abbrev s__law_figures : Stmt := topS 11
abbrev N__law_figures : List Str := ["_law_bag_here", "_law_many_here", "_law_great", "_law_left", "_law_found", "_law_place", "_law_more"]
theorem sc__law_figures : FnScope N__law_figures ["_law_bag_here"] (defScope s__law_figures) := ⟨rfl, rfl, rfl, by decide +kernel, rfl, by decide +kernel, by decide +kernel⟩
abbrev s__law_town : Stmt := topS 12
abbrev N__law_town : List Str := ["_law_bag_here", "_law_most", "_law_loops", "_law_met", "_law_loop", "_law_numbers", "_law_place", "_law_number", "_law_texts", "_law_spare", "_law_k", "_law_text"]
theorem sc__law_town : FnScope N__law_town ["_law_bag_here", "_law_most"] (defScope s__law_town) := ⟨rfl, rfl, rfl, by decide +kernel, rfl, by decide +kernel, by decide +kernel⟩
abbrev s__law_cuts : Stmt := topS 13
abbrev N__law_cuts : List Str := ["_law_bag_here", "_law_town_here", "_law_found", "_law_loop", "_law_many_here", "_law_turn"]
theorem sc__law_cuts : FnScope N__law_cuts ["_law_bag_here", "_law_town_here"] (defScope s__law_cuts) := ⟨rfl, rfl, rfl, by decide +kernel, rfl, by decide +kernel, by decide +kernel⟩
abbrev s__law_live : Stmt := topS 15
abbrev N__law_live : List Str := ["_law_parts", "_law_found", "_law_part"]
theorem sc__law_live : FnScope N__law_live ["_law_parts"] (defScope s__law_live) := ⟨rfl, rfl, rfl, by decide +kernel, rfl, by decide +kernel, by decide +kernel⟩
abbrev s_near_part : Stmt := topS 1
abbrev N_near_part : List Str := ["numbers", "cuts"]
theorem sc_near_part : FnScope N_near_part ["numbers", "cuts"] (defScope s_near_part) := ⟨rfl, rfl, rfl, by decide +kernel, rfl, by decide +kernel, by decide +kernel⟩
abbrev s_far_part : Stmt := topS 2
abbrev N_far_part : List Str := ["numbers", "cuts"]
theorem sc_far_part : FnScope N_far_part ["numbers", "cuts"] (defScope s_far_part) := ⟨rfl, rfl, rfl, by decide +kernel, rfl, by decide +kernel, by decide +kernel⟩
abbrev s_loop_parts : Stmt := topS 4
abbrev N_loop_parts : List Str := ["numbers", "cuts"]
theorem sc_loop_parts : FnScope N_loop_parts ["numbers", "cuts"] (defScope s_loop_parts) := ⟨rfl, rfl, rfl, by decide +kernel, rfl, by decide +kernel, by decide +kernel⟩
abbrev s_wire_parts : Stmt := topS 5
abbrev N_wire_parts : List Str := ["town", "cuts", "joined", "found", "numbers", "here", "together", "part"]
theorem sc_wire_parts : FnScope N_wire_parts ["town", "cuts", "joined"] (defScope s_wire_parts) := ⟨rfl, rfl, rfl, by decide +kernel, rfl, by decide +kernel, by decide +kernel⟩
abbrev s_dumb_part : Stmt := topS 3
abbrev N_dumb_part : List Str := ["numbers", "cuts"]
theorem sc_dumb_part : FnScope N_dumb_part ["numbers", "cuts"] (defScope s_dumb_part) := ⟨rfl, rfl, rfl, by decide +kernel, rfl, by decide +kernel, by decide +kernel⟩
abbrev s_dumb_numbers : Stmt := topS 6
abbrev N_dumb_numbers : List Str := ["town", "cuts", "found", "numbers", "here"]
theorem sc_dumb_numbers : FnScope N_dumb_numbers ["town", "cuts"] (defScope s_dumb_numbers) := ⟨rfl, rfl, rfl, by decide +kernel, rfl, by decide +kernel, by decide +kernel⟩
abbrev s__law_all : Stmt := topS 14
abbrev N__law_all : List Str := ["_law_town_here", "_law_found", "_law_numbers"]
theorem sc__law_all : FnScope N__law_all ["_law_town_here"] (defScope s__law_all) := ⟨rfl, rfl, rfl, by decide +kernel, rfl, by decide +kernel, by decide +kernel⟩
abbrev s_law : Stmt := topS 16
abbrev N_law : List Str := ["_law_script", "_law_k", "_law_bag_here", "_law_town_here", "_law_cuts_here", "_law_loop", "_law_stretch", "_law_more", "_law_joined", "_law_here", "_law_live_here", "_law_fewer", "_law_parts", "_law_part", "_law_none", "_law_numbers", "_law_number", "_law_other"]
theorem sc_law : FnScope N_law ["_law_script"] (defScope s_law) := ⟨rfl, rfl, rfl, by decide +kernel, rfl, by decide +kernel, by decide +kernel⟩
structure Txt (K : PySem.W.Frag) (mg : Str → Option Value) (c : Cl) : Prop where
  d__law_many : Def K mg "_law_many" ["_law_script", "_law_least", "_law_most"] s__law_many
  d__law_bag : Def K mg "_law_bag" ["_law_script", "_law_at"] s__law_bag
  d__law_draw : Def K mg "_law_draw" ["_law_bag_here", "_law_many_here"] s__law_draw
  d__law_figures : Def K mg "_law_figures" ["_law_bag_here"] s__law_figures
  d__law_town : Def K mg "_law_town" ["_law_bag_here", "_law_most"] s__law_town
  d__law_cuts : Def K mg "_law_cuts" ["_law_bag_here", "_law_town_here"] s__law_cuts
  d__law_live : Def K mg "_law_live" ["_law_parts"] s__law_live
  d_near_part : Def K mg "near_part" ["numbers", "cuts"] s_near_part
  d_far_part : Def K mg "far_part" ["numbers", "cuts"] s_far_part
  d_loop_parts : Def K mg "loop_parts" ["numbers", "cuts"] s_loop_parts
  d_wire_parts : Def K mg "wire_parts" ["town", "cuts", "joined"] s_wire_parts
  d_dumb_part : Def K mg "dumb_part" ["numbers", "cuts"] s_dumb_part
  d_dumb_numbers : Def K mg "dumb_numbers" ["town", "cuts"] s_dumb_numbers
  d__law_all : Def K mg "_law_all" ["_law_town_here"] s__law_all
  d_law : Def K mg "law" ["_law_script"] s_law
  n_abs : mg "abs" = none
  n_all : mg "all" = none
  n_any : mg "any" = none
  n_len : mg "len" = none
  n_list : mg "list" = none
  n_max : mg "max" = none
  n_min : mg "min" = none
  n_range : mg "range" = none
  n_set : mg "set" = none
  n_sorted : mg "sorted" = none
  n_str : mg "str" = none
  n_tuple : mg "tuple" = none
  n_zip : mg "zip" = none
section
variable {P : Program} {w : World} {K : PySem.W.Frag} {mg : Str → Option Value} {base : Heap} {c : Cl}
set_option maxHeartbeats 4000000 in
theorem ok__law_many (T : Txt K mg c) : FnG P w K mg base c 1 "_law_many" ["_law_script", "_law_least", "_law_most"] CW.sp_law_many :=
  fnG_of (k := 0) (N := N__law_many) T.d__law_many sc__law_many fun f cdv A outer s H E hr tk hp => dss_one (ds_ret (de_pl (dn_range1 rfl rfl T.n_list rfl T.n_range (de_callB (call_max2 rfl) fits_max rfl T.n_max boot_max (da_cons (de_var (pv 1)) (da_cons (de_callB (call_min2 rfl) fits_min rfl T.n_min boot_min (da_cons (de_var (pv 2)) (da_cons (de_callB call_len fits_len rfl T.n_len boot_len (da_cons (de_var (pv 0)) (da_nil))) (da_nil)))) (da_nil)))))))
set_option maxHeartbeats 4000000 in
theorem ok__law_bag (T : Txt K mg c) : FnG P w K mg base c 1 "_law_bag" ["_law_script", "_law_at"] CW.sp_law_bag :=
  fnG_of (k := 0) (N := N__law_bag) T.d__law_bag sc__law_bag fun f cdv A outer s H E hr tk hp => dss_cons (ds_set (i := 2) sc__law_bag.nd rfl (Or.inl rfl) (de_int))
    (dss_cons (ds_if (dt_cmp op_ltA fits_ord (de_var (pv 1)) (de_callB call_len fits_len rfl T.n_len boot_len (da_cons (de_var (pv 0)) (da_nil))) (nomark _)) (dss_one (ds_set (i := 2) sc__law_bag.nd rfl (Or.inl rfl) (de_callB call_abs fits_abs rfl T.n_abs boot_abs (da_cons (de_ix (de_var (pv 0)) (de_var (pv 1))) (da_nil))))) (dss_nil))
    (dss_cons (ds_set (i := 3) sc__law_bag.nd rfl (Or.inl rfl) (de_binF op_addA fits_add (de_int) (de_binF op_mulA fits_mul (de_int) (de_var (pv 1)))))
    (dss_cons (ds_for hp rfl (di_range1 rfl T.n_range (da_cons (de_callB (call_min2 rfl) fits_min rfl T.n_min boot_min (da_cons (de_callB call_len fits_len rfl T.n_len boot_len (da_cons (de_var (pv 0)) (da_nil))) (da_cons (de_int) (da_nil)))) (da_nil))) (dg_name (pg_name (i := 4) sc__law_bag.nd rfl (Or.inl rfl))) (dss_one (ds_set (i := 3) sc__law_bag.nd rfl (Or.inl rfl) (de_bin op_mod fits_mod (de_binF op_addA fits_add (de_binF op_addA fits_add (de_bin op_pow fits_pow (de_var (pv 3)) (de_int)) (de_bin op_mod fits_mod (de_ix (de_var (pv 0)) (de_var (pv 4))) (de_int))) (de_var (pv 4))) (de_int)))))
    (dss_cons (ds_if (dt_cmp op_ltA fits_ord (de_var (pv 2)) (de_bin op_pow fits_pow (de_int) (de_int)) (nomark _)) (dss_one (ds_set (i := 2) sc__law_bag.nd rfl (Or.inl rfl) (de_bin op_pow fits_pow (de_int) (de_int)))) (dss_nil))
    (dss_one (ds_ret (de_new (dn_lst (da_cons (de_bin op_sub fits_sub (de_var (pv 2)) (de_bin op_pow fits_pow (de_int) (de_int))) (da_cons (de_var (pv 3)) (da_cons (de_bin op_mod fits_mod (de_var (pv 1)) (de_int)) (da_nil))))))))))))
set_option maxHeartbeats 4000000 in
theorem ok__law_draw (T : Txt K mg c) : FnG P w K mg base c 1 "_law_draw" ["_law_bag_here", "_law_many_here"] CW.sp_law_draw :=
  fnG_of (k := 0) (N := N__law_draw) T.d__law_draw sc__law_draw fun f cdv A outer s H E hr tk hp => dss_cons (ds_if (dt_cmp op_gtA fits_ord (de_ix (de_var (pv 0)) (de_int)) (de_int) (nomark _)) (dss_cons (ds_set (i := 2) sc__law_draw.nd rfl (Or.inl rfl) (de_bin op_mod fits_mod (de_ix (de_var (pv 0)) (de_int)) (de_var (pv 1))))
    (dss_cons (ds_setIx (de_bin op_fdivW fits_fdiv (de_ix (de_var (pv 0)) (de_int)) (de_var (pv 1))) (de_var (pv 0)) (de_int))
    (dss_one (ds_ret (de_var (pv 2)))))) (dss_nil))
    (dss_cons (ds_set (i := 3) sc__law_draw.nd rfl (Or.inl rfl) (de_tup (da_cons (de_int) (da_cons (de_int) (da_cons (de_int) (da_cons (de_int) (da_cons (de_int) (da_cons (de_int) (da_cons (de_int) (da_cons (de_int) (da_cons (de_int) (da_cons (de_int) (da_cons (de_int) (da_nil))))))))))))))
    (dss_cons (ds_set (i := 4) sc__law_draw.nd rfl (Or.inl rfl) (de_int))
    (dss_cons (ds_set (i := 5) sc__law_draw.nd rfl (Or.inl rfl) (de_int))
    (dss_cons (ds_while hp (dt_cmp op_ltA fits_ord (de_var (pv 5)) (de_binF op_mulA fits_mul (de_var (pv 1)) (de_int)) (nomark _)) (dss_cons (ds_setIx (de_bin op_mod fits_mod (de_binF op_addA fits_add (de_binF op_mulA fits_mul (de_ix (de_var (pv 0)) (de_int)) (de_int)) (de_int)) (de_int)) (de_var (pv 0)) (de_int))
    (dss_cons (ds_setIx (de_bin op_mod fits_mod (de_binF op_addA fits_add (de_ix (de_var (pv 0)) (de_int)) (de_int)) (de_int)) (de_var (pv 0)) (de_int))
    (dss_cons (ds_set (i := 4) sc__law_draw.nd rfl (Or.inl rfl) (de_binF op_addA fits_add (de_binF op_mulA fits_mul (de_var (pv 4)) (de_int)) (de_bin op_mod fits_mod (de_bin op_pow fits_pow (de_ix (de_var (pv 0)) (de_int)) (de_int)) (de_ix (de_var (pv 3)) (de_ix (de_var (pv 0)) (de_int))))))
    (dss_one (ds_set (i := 5) sc__law_draw.nd rfl (Or.inl rfl) (de_binF op_mulA fits_mul (de_var (pv 5)) (de_int))))))))
    (dss_one (ds_ret (de_bin op_mod fits_mod (de_var (pv 4)) (de_var (pv 1)))))))))
set_option maxHeartbeats 4000000 in
theorem ok__law_figures (T : Txt K mg c) : FnG P w K mg base c 2 "_law_figures" ["_law_bag_here"] CW.sp_law_figures :=
  fnG_of (k := 1) (N := N__law_figures) T.d__law_figures sc__law_figures fun f cdv A outer s H E hr tk hp => dss_cons (ds_set (i := 1) sc__law_figures.nd rfl (Or.inl rfl) (de_binF op_addA fits_add (de_int) (de_callG (ok__law_draw T) hr (by decide) rfl tk (da_cons (de_var (pv 0)) (da_cons (de_int) (da_nil))) rfl (aCons_len (aCons_len aNil_len)))))
    (dss_cons (ds_set (i := 2) sc__law_figures.nd rfl (Or.inl rfl) (de_callG (ok__law_draw T) hr (by decide) rfl tk (da_cons (de_var (pv 0)) (da_cons (de_int) (da_nil))) rfl (aCons_len (aCons_len aNil_len))))
    (dss_cons (ds_set (i := 3) sc__law_figures.nd rfl (Or.inl rfl) (de_bin op_sub fits_sub (de_int) (de_var (pv 1))))
    (dss_cons (ds_set (i := 4) sc__law_figures.nd rfl (Or.inl rfl) (de_str))
    (dss_cons (ds_for hp rfl (di_range1 rfl T.n_range (da_cons (de_var (pv 1)) (da_nil))) (dg_name (pg_name (i := 5) sc__law_figures.nd rfl (Or.inl rfl))) (dss_cons (ds_set (i := 6) sc__law_figures.nd rfl (Or.inl rfl) (de_callG (ok__law_draw T) hr (by decide) rfl tk (da_cons (de_var (pv 0)) (da_cons (de_binF op_addA fits_add (de_callB (call_min2 rfl) fits_min rfl T.n_min boot_min (da_cons (de_var (pv 3)) (da_cons (de_ix (de_tup (da_cons (de_int) (da_cons (de_int) (da_cons (de_int) (da_cons (de_int) (da_nil)))))) (de_var (pv 2))) (da_nil)))) (de_int)) (da_nil))) rfl (aCons_len (aCons_len aNil_len))))
    (dss_cons (ds_set (i := 3) sc__law_figures.nd rfl (Or.inl rfl) (de_bin op_sub fits_sub (de_var (pv 3)) (de_var (pv 6))))
    (dss_one (ds_set (i := 4) sc__law_figures.nd rfl (Or.inl rfl) (de_binF op_addA fits_add (de_var (pv 4)) (de_callTy call_str_int fits_str rfl T.n_str boot_str (da_cons (de_binF op_addA fits_add (de_int) (de_var (pv 6))) (da_nil)))))))))
    (dss_one (ds_ret (de_var (pv 4))))))))
set_option maxHeartbeats 4000000 in
theorem ok__law_town (T : Txt K mg c) : FnG P w K mg base c 3 "_law_town" ["_law_bag_here", "_law_most"] (body 12 CW.m_law_town) :=
  fnG_of (k := 2) (N := N__law_town) T.d__law_town sc__law_town fun f cdv A outer s H E hr tk hp => dss_cons (ds_set (i := 2) sc__law_town.nd rfl (Or.inl rfl) (de_new (dn_lst (da_nil))))
    (dss_cons (ds_set (i := 3) sc__law_town.nd rfl (Or.inr rfl) (de_dnew))
    (dss_cons (ds_for hp rfl (di_range1 rfl T.n_range (da_cons (de_binF op_addA fits_add (de_int) (de_binF op_mulA fits_mul (de_callG (ok__law_draw T) hr (by decide) rfl tk (da_cons (de_var (pv 0)) (da_cons (de_int) (da_nil))) rfl (aCons_len (aCons_len aNil_len))) (de_callG (ok__law_draw T) hr (by decide) rfl tk (da_cons (de_var (pv 0)) (da_cons (de_int) (da_nil))) rfl (aCons_len (aCons_len aNil_len))))) (da_nil))) (dg_name (pg_name (i := 4) sc__law_town.nd rfl (Or.inl rfl))) (dss_cons (ds_set (i := 5) sc__law_town.nd rfl (Or.inl rfl) (de_new (dn_lst (da_nil))))
    (dss_cons (ds_for hp rfl (di_range1 rfl T.n_range (da_cons (de_binF op_addA fits_add (de_int) (de_callG (ok__law_draw T) hr (by decide) rfl tk (da_cons (de_var (pv 0)) (da_cons (de_var (pv 1)) (da_nil))) rfl (aCons_len (aCons_len aNil_len)))) (da_nil))) (dg_name (pg_name (i := 6) sc__law_town.nd rfl (Or.inl rfl))) (dss_cons (ds_set (i := 7) sc__law_town.nd rfl (Or.inl rfl) (de_callG (ok__law_figures T) hr (by decide) rfl tk (da_cons (de_var (pv 0)) (da_nil)) rfl (aCons_len aNil_len)))
    (dss_one (ds_if (dt_notInA (dt_cmp (op_notInA hr.units) fits_notIn (de_var (pv 7)) (de_var (pv 3)) (by rfl)) (dt_dnotin (hu_of hr) (de_var (pv 7)) (de_var (pv 3)))) (dss_cons (ds_setA (ds_setIx (de_bl) (de_var (pv 3)) (de_var (pv 7))) (ds_dput (hu_of hr) (de_bl) (de_var (pv 3)) (de_var (pv 7))))
    (dss_one (ds_expr (de_bm PySem.F.plainAttrs_list PySem.F.slot_list_append PySem.F.type_list_append mt_append fits_append typed_lst (de_var (pv 5)) (da_cons (de_var (pv 7)) (da_nil)))))) (dss_nil)))))
    (dss_cons (ds_if (dt_cmp (op_eqA hr.units) fits_eq (de_var (pv 5)) (de_pl (dn_lst (da_nil))) (nomark _)) (dss_cons (ds_setLcQ (i := 8) (own := [("_law_k", 10)]) rfl sc__law_town.nd rfl rfl (sw_true rfl rfl rfl (by decide +kernel)) (di_range1 rfl T.n_range (da_cons (de_int) (da_nil))) (blkOk_by (own := [("_law_k", 10)]) (N := N__law_town) (sc := defScope s__law_town) (by decide +kernel)) (fun _ _ _ _ _ => dgo_name (pg_name (i := 10) sc__law_town.nd rfl (Or.inl rfl)) (by decide)) (fun _ _ _ _ _ => de_callTy call_str_int fits_str rfl T.n_str boot_str (da_cons (de_binF op_addA fits_add (de_binF op_addA fits_add (de_int) (de_var (pv 10))) (de_bin op_fdivW fits_fdiv (de_var (pv 10)) (de_int))) (da_nil))))
    (dss_cons (ds_setLcIfQ (i := 9) (own := [("_law_text", 11)]) rfl sc__law_town.nd rfl rfl (sw_true rfl rfl rfl (by decide +kernel)) (di_any (de_var (pv 8))) (blkOk_by (own := [("_law_text", 11)]) (N := N__law_town) (sc := defScope s__law_town) (by decide +kernel)) (fun _ _ _ _ _ => dgo_name (pg_name (i := 11) sc__law_town.nd rfl (Or.inl rfl)) (by decide)) (fun _ _ _ _ _ => dt_notInA (dt_cmp (op_notInA hr.units) fits_notIn (de_var (pv 11)) (de_var (pv 3)) (by rfl)) (dt_dnotin (hu_of hr) (de_var (pv 11)) (de_var (pv 3)))) (fun _ _ _ _ _ => de_var (pv 11)))
    (dss_cons (ds_setA (ds_setIx (de_bl) (de_var (pv 3)) (de_ix (de_var (pv 9)) (de_int))) (ds_dput (hu_of hr) (de_bl) (de_var (pv 3)) (de_ix (de_var (pv 9)) (de_int))))
    (dss_one (ds_set (i := 5) sc__law_town.nd rfl (Or.inl rfl) (de_slM (de_var (pv 9)) (do_none) (do_some (de_int)))))))) (dss_nil))
    (dss_one (ds_expr (de_bm PySem.F.plainAttrs_list PySem.F.slot_list_append PySem.F.type_list_append mt_append fits_append typed_lst (de_var (pv 2)) (da_cons (de_callTy call_tuple_of fits_tupleA rfl T.n_tuple boot_tuple (da_cons (de_var (pv 5)) (da_nil))) (da_nil)))))))))
    (dss_one (ds_ret (de_tup (da_cons (de_callTy call_tuple_of fits_tupleA rfl T.n_tuple boot_tuple (da_cons (de_var (pv 2)) (da_nil))) (da_cons (de_binF op_addA fits_add (de_int) (de_callG (ok__law_draw T) hr (by decide) rfl tk (da_cons (de_var (pv 0)) (da_cons (de_int) (da_nil))) rfl (aCons_len (aCons_len aNil_len)))) (da_cons (de_binF op_addA fits_add (de_int) (de_callG (ok__law_draw T) hr (by decide) rfl tk (da_cons (de_var (pv 0)) (da_cons (de_int) (da_nil))) rfl (aCons_len (aCons_len aNil_len)))) (da_nil)))))))))
set_option maxHeartbeats 4000000 in
theorem ok__law_cuts (T : Txt K mg c) : FnG P w K mg base c 2 "_law_cuts" ["_law_bag_here", "_law_town_here"] (body 6 CW.m_law_cuts) :=
  fnG_of (k := 1) (N := N__law_cuts) T.d__law_cuts sc__law_cuts fun f cdv A outer s H E hr tk hp => dss_cons (ds_set (i := 2) sc__law_cuts.nd rfl (Or.inl rfl) (de_new (dn_lst (da_nil))))
    (dss_cons (ds_for hp rfl (di_any (de_ix (de_var (pv 1)) (de_int))) (dg_name (pg_name (i := 3) sc__law_cuts.nd rfl (Or.inr rfl))) (dss_cons (ds_set (i := 4) sc__law_cuts.nd rfl (Or.inl rfl) (de_ix (de_tup (da_cons (de_int) (da_cons (de_int) (da_cons (de_int) (da_cons (de_int) (da_cons (de_int) (da_cons (de_int) (da_nil)))))))) (de_callG (ok__law_draw T) hr (by decide) rfl tk (da_cons (de_var (pv 0)) (da_cons (de_int) (da_nil))) rfl (aCons_len (aCons_len aNil_len)))))
    (dss_one (ds_expr (de_bm PySem.F.plainAttrs_list PySem.F.slot_list_append PySem.F.type_list_append mt_append fits_append typed_lst (de_var (pv 2)) (da_cons (de_lsTy call_tuple_of fits_tuple rfl T.n_tuple boot_tuple (dl_new (dn_sortSet rfl T.n_sorted rfl T.n_set rfl (de_pl (dn_lc (own := [("_law_turn", 5)]) rfl sc__law_cuts.nd (di_range1 rfl T.n_range (da_cons (de_var (pv 4)) (da_nil))) (blkOk_by (own := [("_law_turn", 5)]) (N := N__law_cuts) (sc := defScope s__law_cuts) (by decide +kernel)) (fun _ _ _ _ _ => dgo_name (pg_name (i := 5) sc__law_cuts.nd rfl (Or.inl rfl)) (by decide)) (fun _ _ _ _ _ => de_callG (ok__law_draw T) hr (by decide) rfl takes0 (da_cons (de_var (pv 0)) (da_cons (de_binF op_addA fits_add (de_callB call_len fits_len rfl T.n_len boot_len (da_cons (de_var (pv 3)) (da_nil))) (de_int)) (da_nil))) rfl (aCons_len (aCons_len aNil_len)))))))) (da_nil)))))))
    (dss_one (ds_ret (de_callTy call_tuple_of fits_tupleA rfl T.n_tuple boot_tuple (da_cons (de_var (pv 2)) (da_nil))))))
set_option maxHeartbeats 4000000 in
theorem ok__law_live (T : Txt K mg c) : FnG P w K mg base c 1 "_law_live" ["_law_parts"] (body 3 m__law_live) :=
  fnG_of (k := 0) (N := N__law_live) T.d__law_live sc__law_live fun f cdv A outer s H E hr tk hp => dss_cons (ds_set (i := 1) sc__law_live.nd rfl (Or.inl rfl) (de_new (dn_lst (da_nil))))
    (dss_cons (ds_for hp rfl (di_any (de_var (pv 0))) (dg_name (pg_name (i := 2) sc__law_live.nd rfl (Or.inl rfl))) (dss_one (ds_expr (de_extend (de_var (pv 1)) (du_new (dn_listA rfl T.n_list boot_list (de_var (pv 2))))))))
    (dss_one (ds_ret (de_var (pv 1)))))
set_option maxHeartbeats 4000000 in
theorem ok_near_part (T : Txt K mg c) : FnG P w K mg base c 1 "near_part" ["numbers", "cuts"] CW.sp_near_part :=
  fnG_of (k := 0) (N := N_near_part) T.d_near_part sc_near_part fun f cdv A outer s H E hr tk hp => dss_cons (ds_if (dt_cmp (op_eqA hr.units) fits_eq (de_var (pv 1)) (de_tup (da_nil)) (nomark _)) (dss_one (ds_ret (de_var (pv 0)))) (dss_nil))
    (dss_one (ds_ret (de_sl (de_var (pv 0)) (do_none) (do_some (de_ix (de_var (pv 1)) (de_int))))))
set_option maxHeartbeats 4000000 in
theorem ok_far_part (T : Txt K mg c) : FnG P w K mg base c 1 "far_part" ["numbers", "cuts"] CW.sp_far_part :=
  fnG_of (k := 0) (N := N_far_part) T.d_far_part sc_far_part fun f cdv A outer s H E hr tk hp => dss_cons (ds_if (dt_cmp (op_eqA hr.units) fits_eq (de_var (pv 1)) (de_tup (da_nil)) (nomark _)) (dss_one (ds_ret (de_var (pv 0)))) (dss_nil))
    (dss_one (ds_ret (de_sl (de_var (pv 0)) (do_some (de_ix (de_var (pv 1)) (de_neg (de_int)))) (do_none))))
set_option maxHeartbeats 4000000 in
theorem ok_loop_parts (T : Txt K mg c) : FnG P w K mg base c 2 "loop_parts" ["numbers", "cuts"] CW.sp_loop_parts :=
  fnG_of (k := 1) (N := N_loop_parts) T.d_loop_parts sc_loop_parts fun f cdv A outer s H E hr tk hp => dss_cons (ds_if (dt_cmp (op_eqA hr.units) fits_eq (de_var (pv 1)) (de_tup (da_nil)) (nomark _)) (dss_one (ds_ret (de_tup (da_cons (de_var (pv 0)) (da_nil))))) (dss_nil))
    (dss_one (ds_ret (de_tup (da_cons (de_callG (ok_near_part T) hr (by decide) rfl tk (da_cons (de_var (pv 0)) (da_cons (de_var (pv 1)) (da_nil))) rfl (aCons_len (aCons_len aNil_len))) (da_cons (de_callG (ok_far_part T) hr (by decide) rfl tk (da_cons (de_var (pv 0)) (da_cons (de_var (pv 1)) (da_nil))) rfl (aCons_len (aCons_len aNil_len))) (da_nil))))))
set_option maxHeartbeats 4000000 in
theorem ok_wire_parts (T : Txt K mg c) : FnG P w K mg base c 3 "wire_parts" ["town", "cuts", "joined"] CW.sp_wire_parts :=
  fnG_of (k := 2) (N := N_wire_parts) T.d_wire_parts sc_wire_parts fun f cdv A outer s H E hr tk hp => dss_cons (ds_set (i := 3) sc_wire_parts.nd rfl (Or.inl rfl) (de_tup (da_nil)))
    (dss_cons (ds_for hp rfl (di_zipA rfl T.n_zip (de_ix (de_var (pv 0)) (de_int)) (de_var (pv 1))) (dg_tup rfl (dgs_cons (dg_name (pg_name (i := 4) sc_wire_parts.nd rfl (Or.inl rfl))) (dgs_cons (dg_name (pg_name (i := 5) sc_wire_parts.nd rfl (Or.inl rfl))) (dgs_nil)))) (dss_one (ds_set (i := 3) sc_wire_parts.nd rfl (Or.inl rfl) (de_binF op_addA fits_add (de_var (pv 3)) (de_callG (ok_loop_parts T) hr (by decide) rfl tk (da_cons (de_var (pv 4)) (da_cons (de_var (pv 5)) (da_nil))) rfl (aCons_len (aCons_len aNil_len)))))))
    (dss_cons (ds_if (dt_not (dt_val (de_var (pv 2)))) (dss_one (ds_ret (de_var (pv 3)))) (dss_nil))
    (dss_cons (ds_set (i := 6) sc_wire_parts.nd rfl (Or.inl rfl) (de_tup (da_nil)))
    (dss_cons (ds_for hp rfl (di_any (de_var (pv 3))) (dg_name (pg_name (i := 7) sc_wire_parts.nd rfl (Or.inl rfl))) (dss_one (ds_set (i := 6) sc_wire_parts.nd rfl (Or.inl rfl) (de_binF op_addA fits_add (de_var (pv 6)) (de_var (pv 7))))))
    (dss_one (ds_ret (de_tup (da_cons (de_var (pv 6)) (da_nil)))))))))
set_option maxHeartbeats 4000000 in
theorem ok_dumb_part (T : Txt K mg c) : FnG P w K mg base c 1 "dumb_part" ["numbers", "cuts"] CW.sp_dumb_part :=
  fnG_of (k := 0) (N := N_dumb_part) T.d_dumb_part sc_dumb_part fun f cdv A outer s H E hr tk hp => dss_cons (ds_if (dt_cmp (op_eqA hr.units) fits_eq (de_var (pv 1)) (de_tup (da_nil)) (nomark _)) (dss_one (ds_ret (de_tup (da_nil)))) (dss_nil))
    (dss_one (ds_ret (de_sl (de_var (pv 0)) (do_some (de_ix (de_var (pv 1)) (de_int))) (do_some (de_ix (de_var (pv 1)) (de_neg (de_int)))))))
set_option maxHeartbeats 4000000 in
theorem ok_dumb_numbers (T : Txt K mg c) : FnG P w K mg base c 2 "dumb_numbers" ["town", "cuts"] CW.sp_dumb_numbers :=
  fnG_of (k := 1) (N := N_dumb_numbers) T.d_dumb_numbers sc_dumb_numbers fun f cdv A outer s H E hr tk hp => dss_cons (ds_set (i := 2) sc_dumb_numbers.nd rfl (Or.inl rfl) (de_tup (da_nil)))
    (dss_cons (ds_for hp rfl (di_zipA rfl T.n_zip (de_ix (de_var (pv 0)) (de_int)) (de_var (pv 1))) (dg_tup rfl (dgs_cons (dg_name (pg_name (i := 3) sc_dumb_numbers.nd rfl (Or.inl rfl))) (dgs_cons (dg_name (pg_name (i := 4) sc_dumb_numbers.nd rfl (Or.inl rfl))) (dgs_nil)))) (dss_one (ds_set (i := 2) sc_dumb_numbers.nd rfl (Or.inl rfl) (de_binF op_addA fits_add (de_var (pv 2)) (de_callG (ok_dumb_part T) hr (by decide) rfl tk (da_cons (de_var (pv 3)) (da_cons (de_var (pv 4)) (da_nil))) rfl (aCons_len (aCons_len aNil_len)))))))
    (dss_one (ds_ret (de_var (pv 2)))))
set_option maxHeartbeats 4000000 in
theorem ok__law_all (T : Txt K mg c) : FnG P w K mg base c 1 "_law_all" ["_law_town_here"] (body 3 m__law_all) :=
  fnG_of (k := 0) (N := N__law_all) T.d__law_all sc__law_all fun f cdv A outer s H E hr tk hp => dss_cons (ds_set (i := 1) sc__law_all.nd rfl (Or.inl rfl) (de_new (dn_lst (da_nil))))
    (dss_cons (ds_for hp rfl (di_any (de_ix (de_var (pv 0)) (de_int))) (dg_name (pg_name (i := 2) sc__law_all.nd rfl (Or.inl rfl))) (dss_one (ds_expr (de_extend (de_var (pv 1)) (du_new (dn_listA rfl T.n_list boot_list (de_var (pv 2))))))))
    (dss_one (ds_ret (de_var (pv 1)))))
set_option maxHeartbeats 4000000 in
theorem ok_law (T : Txt K mg c) {f : Addr} {fd : FuncData} (F : Fun K "law" "law" s_law f fd) : FnD P w K mg base c 4 f fd ["_law_script"] sp_law :=
  fnD_of (k := 3) (N := N_law) F sc_law fun cdv A outer s H E hr tk hp => dss_cons (ds_for hp rfl (di_any (de_callG (ok__law_many T) hr (by decide) rfl tk (da_cons (de_var (pv 0)) (da_cons (de_int) (da_cons (de_int) (da_nil)))) rfl (aCons_len (aCons_len (aCons_len aNil_len))))) (dg_name (pg_name (i := 1) sc_law.nd rfl (Or.inl rfl))) (dss_cons (ds_set (i := 2) sc_law.nd rfl (Or.inl rfl) (de_callG (ok__law_bag T) hr (by decide) rfl tk (da_cons (de_var (pv 0)) (da_cons (de_var (pv 1)) (da_nil))) rfl (aCons_len (aCons_len aNil_len))))
    (dss_cons (ds_set (i := 3) sc_law.nd rfl (Or.inr rfl) (de_callC (ok__law_town T) hr (by decide) rfl tk (da_cons (de_var (pv 2)) (da_cons (de_ix (de_tup (da_cons (de_int) (da_cons (de_int) (da_cons (de_int) (da_nil))))) (de_callG (ok__law_draw T) hr (by decide) rfl tk (da_cons (de_var (pv 2)) (da_cons (de_int) (da_nil))) rfl (aCons_len (aCons_len aNil_len)))) (da_nil))) rfl (aCons_len (aCons_len aNil_len))))
    (dss_cons (ds_set (i := 4) sc_law.nd rfl (Or.inr rfl) (de_callC (ok__law_cuts T) hr (by decide) rfl tk (da_cons (de_var (pv 2)) (da_cons (de_var (pv 3)) (da_nil))) rfl (aCons_len (aCons_len aNil_len))))
    (dss_cons (ds_set (i := 5) sc_law.nd rfl (Or.inl rfl) (de_callG (ok__law_draw T) hr (by decide) rfl tk (da_cons (de_var (pv 2)) (da_cons (de_callB call_len fits_len rfl T.n_len boot_len (da_cons (de_ix (de_var (pv 3)) (de_int)) (da_nil))) (da_nil))) rfl (aCons_len (aCons_len aNil_len))))
    (dss_cons (ds_set (i := 6) sc_law.nd rfl (Or.inl rfl) (de_callG (ok__law_draw T) hr (by decide) rfl tk (da_cons (de_var (pv 2)) (da_cons (de_binF op_addA fits_add (de_callB call_len fits_len rfl T.n_len boot_len (da_cons (de_ix (de_ix (de_var (pv 3)) (de_int)) (de_var (pv 5))) (da_nil))) (de_int)) (da_nil))) rfl (aCons_len (aCons_len aNil_len))))
    (dss_cons (ds_set (i := 7) sc_law.nd rfl (Or.inl rfl) (de_binF op_addA fits_add (de_binF op_addA fits_add (de_sl (de_var (pv 4)) (do_none) (do_some (de_var (pv 5)))) (de_tup (da_cons (de_lsTy call_tuple_of fits_tuple rfl T.n_tuple boot_tuple (dl_new (dn_sortSet rfl T.n_sorted rfl T.n_set rfl (de_binF op_addA fits_add (de_ix (de_var (pv 4)) (de_var (pv 5))) (de_tup (da_cons (de_var (pv 6)) (da_nil))))))) (da_nil)))) (de_sl (de_var (pv 4)) (do_some (de_binF op_addA fits_add (de_var (pv 5)) (de_int))) (do_none))))
    (dss_cons (ds_for hp rfl (di_any (de_tup (da_cons (de_bl) (da_cons (de_bl) (da_nil))))) (dg_name (pg_name (i := 8) sc_law.nd rfl (Or.inr rfl))) (dss_cons (ds_for hp rfl (di_any (de_tup (da_cons (de_var (pv 4)) (da_cons (de_var (pv 7)) (da_nil))))) (dg_name (pg_name (i := 9) sc_law.nd rfl (Or.inl rfl))) (dss_cons (ds_set (i := 10) sc_law.nd rfl (Or.inl rfl) (de_callC (ok__law_live T) hr (by decide) rfl tk (da_cons (de_callG (ok_wire_parts T) hr (by decide) rfl tk (da_cons (de_var (pv 3)) (da_cons (de_var (pv 9)) (da_cons (de_var (pv 8)) (da_nil)))) rfl (aCons_len (aCons_len (aCons_len aNil_len)))) (da_nil)) rfl (aCons_len aNil_len)))
    (dss_one (ds_if (dt_cmp (op_neA hr.units) fits_ne (de_pl (dn_sorted rfl T.n_sorted (dl_of (de_binF op_addA fits_add (de_var (pv 10)) (de_pl (dn_listA rfl T.n_list boot_list (de_callG (ok_dumb_numbers T) hr (by decide) rfl tk (da_cons (de_var (pv 3)) (da_cons (de_var (pv 9)) (da_nil))) rfl (aCons_len (aCons_len aNil_len))))))))) (de_pl (dn_sorted rfl T.n_sorted (dl_of (de_callC (ok__law_all T) hr (by decide) rfl tk (da_cons (de_var (pv 3)) (da_nil)) rfl (aCons_len aNil_len))))) (nomark _)) (dss_one (ds_ret (de_bl))) (dss_nil)))))
    (dss_cons (ds_set (i := 11) sc_law.nd rfl (Or.inl rfl) (de_callC (ok__law_live T) hr (by decide) rfl tk (da_cons (de_callG (ok_wire_parts T) hr (by decide) rfl tk (da_cons (de_var (pv 3)) (da_cons (de_var (pv 7)) (da_cons (de_var (pv 8)) (da_nil)))) rfl (aCons_len (aCons_len (aCons_len aNil_len)))) (da_nil)) rfl (aCons_len aNil_len)))
    (dss_cons (ds_if (dt_not (dt_val (de_lsB (cr_all rfl) fits_all rfl T.n_all boot_all (dl_new (dn_lc (own := [("_law_number", 16)]) rfl sc_law.nd (di_any (de_var (pv 11))) (blkOk_by (own := [("_law_number", 16)]) (N := N_law) (sc := defScope s_law) (by decide +kernel)) (fun _ _ _ _ _ => dgo_name (pg_name (i := 16) sc_law.nd rfl (Or.inl rfl)) (by decide)) (fun _ _ _ _ _ => de_cmp (op_inA hr.units) fits_in (de_var (pv 16)) (de_callC (ok__law_live T) hr (by decide) rfl takes0 (da_cons (de_callG (ok_wire_parts T) hr (by decide) rfl takes0 (da_cons (de_var (pv 3)) (da_cons (de_var (pv 4)) (da_cons (de_var (pv 8)) (da_nil)))) rfl (aCons_len (aCons_len (aCons_len aNil_len)))) (da_nil)) rfl (aCons_len aNil_len)) (by rfl))))))) (dss_one (ds_ret (de_bl))) (dss_nil))
    (dss_cons (ds_set (i := 12) sc_law.nd rfl (Or.inl rfl) (de_callG (ok_wire_parts T) hr (by decide) rfl tk (da_cons (de_var (pv 3)) (da_cons (de_var (pv 4)) (da_cons (de_var (pv 8)) (da_nil)))) rfl (aCons_len (aCons_len (aCons_len aNil_len)))))
    (dss_one (ds_for hp rfl (di_any (de_callG (ok_wire_parts T) hr (by decide) rfl tk (da_cons (de_var (pv 3)) (da_cons (de_var (pv 7)) (da_cons (de_var (pv 8)) (da_nil)))) rfl (aCons_len (aCons_len (aCons_len aNil_len))))) (dg_name (pg_name (i := 13) sc_law.nd rfl (Or.inr rfl))) (dss_one (ds_if (dt_not (dt_val (de_lsB (cr_any rfl) fits_any rfl T.n_any boot_any (dl_new (dn_lc (own := [("_law_other", 17)]) rfl sc_law.nd (di_any (de_var (pv 12))) (blkOk_by (own := [("_law_other", 17)]) (N := N_law) (sc := defScope s_law) (by decide +kernel)) (fun _ _ _ _ _ => dgo_name (pg_name (i := 17) sc_law.nd rfl (Or.inr rfl)) (by decide)) (fun _ _ _ _ _ => de_lsB (cr_all rfl) fits_all rfl T.n_all boot_all (dl_new (dn_lc (own := [("_law_number", 16)]) rfl sc_law.nd (di_any (de_var (pv 13))) (blkOk_by (own := [("_law_number", 16)]) (N := N_law) (sc := { kind := .function, names := [(".0", .local), ("_law_other", .cell), ("all", .globalImplicit), ("_law_part", .cell)], isGenerator := false, isCoroutine := false }) (by decide +kernel)) (fun _ _ _ _ _ => dgo_name (pg_name (i := 16) sc_law.nd rfl (Or.inl rfl)) (by decide)) (fun _ _ _ _ _ => de_cmp (op_inA hr.units) fits_in (de_var (pv 16)) (de_var (pv 17)) (by rfl)))))))))) (dss_one (ds_ret (de_bl))) (dss_nil))))))))))
    (dss_cons (ds_set (i := 14) sc_law.nd rfl (Or.inl rfl) (de_lsTy call_tuple_of fits_tuple rfl T.n_tuple boot_tuple (dl_new (dn_lc (own := [("_law_numbers", 15)]) rfl sc_law.nd (di_any (de_ix (de_var (pv 3)) (de_int))) (blkOk_by (own := [("_law_numbers", 15)]) (N := N_law) (sc := defScope s_law) (by decide +kernel)) (fun _ _ _ _ _ => dgo_name (pg_name (i := 15) sc_law.nd rfl (Or.inl rfl)) (by decide)) (fun _ _ _ _ _ => de_tup (da_nil))))))
    (dss_one (ds_if (dt_w (dw_or (dt_cmp (op_neA hr.units) fits_ne (de_callG (ok_dumb_numbers T) hr (by decide) rfl tk (da_cons (de_var (pv 3)) (da_cons (de_var (pv 14)) (da_nil))) rfl (aCons_len (aCons_len aNil_len))) (de_tup (da_nil)) (nomark _)) (dw_or1 (dt_cmp (op_neA hr.units) fits_ne (de_callG (ok_wire_parts T) hr (by decide) rfl tk (da_cons (de_var (pv 3)) (da_cons (de_var (pv 14)) (da_cons (de_bl) (da_nil)))) rfl (aCons_len (aCons_len (aCons_len aNil_len)))) (de_ix (de_var (pv 3)) (de_int)) (nomark _))))) (dss_one (ds_ret (de_bl))) (dss_nil))))))))))))
    (dss_one (ds_ret (de_bl)))
end
end LK10

namespace LK10
open PySem PySem.Spec PyProof.Rows L2 MM CW
set_option maxHeartbeats 4000000 in
theorem txt_mk {K : PySem.W.Frag} {h : Heap} {mg : Str → Option Value} (X : K.In h) (G : h.Ns mainGlobals mg)
  {f1 : Addr} {oc1 kV1 dc1 pm1 cd1 ct1 : Value} {od1 an1 : Option Addr} {sl1 : Array (Option Value)}
  {f2 : Addr} {oc2 kV2 dc2 pm2 cd2 ct2 : Value} {od2 an2 : Option Addr} {sl2 : Array (Option Value)}
  {f3 : Addr} {oc3 kV3 dc3 pm3 cd3 ct3 : Value} {od3 an3 : Option Addr} {sl3 : Array (Option Value)}
  {f4 : Addr} {oc4 kV4 dc4 pm4 cd4 ct4 : Value} {od4 an4 : Option Addr} {sl4 : Array (Option Value)}
  {f5 : Addr} {oc5 kV5 dc5 pm5 cd5 ct5 : Value} {od5 an5 : Option Addr} {sl5 : Array (Option Value)}
  {f6 : Addr} {oc6 kV6 dc6 pm6 cd6 ct6 : Value} {od6 an6 : Option Addr} {sl6 : Array (Option Value)}
  {f7 : Addr} {oc7 kV7 dc7 pm7 cd7 ct7 : Value} {od7 an7 : Option Addr} {sl7 : Array (Option Value)}
  {f8 : Addr} {oc8 kV8 dc8 pm8 cd8 ct8 : Value} {od8 an8 : Option Addr} {sl8 : Array (Option Value)}
  {f9 : Addr} {oc9 kV9 dc9 pm9 cd9 ct9 : Value} {od9 an9 : Option Addr} {sl9 : Array (Option Value)}
  {f10 : Addr} {oc10 kV10 dc10 pm10 cd10 ct10 : Value} {od10 an10 : Option Addr} {sl10 : Array (Option Value)}
  {f11 : Addr} {oc11 kV11 dc11 pm11 cd11 ct11 : Value} {od11 an11 : Option Addr} {sl11 : Array (Option Value)}
  {f12 : Addr} {oc12 kV12 dc12 pm12 cd12 ct12 : Value} {od12 an12 : Option Addr} {sl12 : Array (Option Value)}
  {f13 : Addr} {oc13 kV13 dc13 pm13 cd13 ct13 : Value} {od13 an13 : Option Addr} {sl13 : Array (Option Value)}
  {f14 : Addr} {oc14 kV14 dc14 pm14 cd14 ct14 : Value} {od14 an14 : Option Addr} {sl14 : Array (Option Value)}
  {fL : Addr} {ocL kVL dcL pmL cdL ctL : Value} {odL anL : Option Addr} {slL : Array (Option Value)}
  (a1 : PySem.W.nsIn K mainGlobals "_law_many" = some (some (.ref f1))) (l1 : K.lookup f1 = some ⟨oc1, od1, .func (PySem.W.fnOf "_law_many" "_law_many" (defArgs s__law_many) (defBody s__law_many) (defScope s__law_many) .none kV1 dc1 pm1 an1 cd1 ct1), sl1⟩) (c1 : PySem.W.codeIn K cd1 "_law_many" = true) (k1 : PySem.W.keepIn K (.ref f1) = true)
  (a2 : PySem.W.nsIn K mainGlobals "_law_bag" = some (some (.ref f2))) (l2 : K.lookup f2 = some ⟨oc2, od2, .func (PySem.W.fnOf "_law_bag" "_law_bag" (defArgs s__law_bag) (defBody s__law_bag) (defScope s__law_bag) .none kV2 dc2 pm2 an2 cd2 ct2), sl2⟩) (c2 : PySem.W.codeIn K cd2 "_law_bag" = true) (k2 : PySem.W.keepIn K (.ref f2) = true)
  (a3 : PySem.W.nsIn K mainGlobals "_law_draw" = some (some (.ref f3))) (l3 : K.lookup f3 = some ⟨oc3, od3, .func (PySem.W.fnOf "_law_draw" "_law_draw" (defArgs s__law_draw) (defBody s__law_draw) (defScope s__law_draw) .none kV3 dc3 pm3 an3 cd3 ct3), sl3⟩) (c3 : PySem.W.codeIn K cd3 "_law_draw" = true) (k3 : PySem.W.keepIn K (.ref f3) = true)
  (a4 : PySem.W.nsIn K mainGlobals "_law_figures" = some (some (.ref f4))) (l4 : K.lookup f4 = some ⟨oc4, od4, .func (PySem.W.fnOf "_law_figures" "_law_figures" (defArgs s__law_figures) (defBody s__law_figures) (defScope s__law_figures) .none kV4 dc4 pm4 an4 cd4 ct4), sl4⟩) (c4 : PySem.W.codeIn K cd4 "_law_figures" = true) (k4 : PySem.W.keepIn K (.ref f4) = true)
  (a5 : PySem.W.nsIn K mainGlobals "_law_town" = some (some (.ref f5))) (l5 : K.lookup f5 = some ⟨oc5, od5, .func (PySem.W.fnOf "_law_town" "_law_town" (defArgs s__law_town) (defBody s__law_town) (defScope s__law_town) .none kV5 dc5 pm5 an5 cd5 ct5), sl5⟩) (c5 : PySem.W.codeIn K cd5 "_law_town" = true) (k5 : PySem.W.keepIn K (.ref f5) = true)
  (a6 : PySem.W.nsIn K mainGlobals "_law_cuts" = some (some (.ref f6))) (l6 : K.lookup f6 = some ⟨oc6, od6, .func (PySem.W.fnOf "_law_cuts" "_law_cuts" (defArgs s__law_cuts) (defBody s__law_cuts) (defScope s__law_cuts) .none kV6 dc6 pm6 an6 cd6 ct6), sl6⟩) (c6 : PySem.W.codeIn K cd6 "_law_cuts" = true) (k6 : PySem.W.keepIn K (.ref f6) = true)
  (a7 : PySem.W.nsIn K mainGlobals "_law_live" = some (some (.ref f7))) (l7 : K.lookup f7 = some ⟨oc7, od7, .func (PySem.W.fnOf "_law_live" "_law_live" (defArgs s__law_live) (defBody s__law_live) (defScope s__law_live) .none kV7 dc7 pm7 an7 cd7 ct7), sl7⟩) (c7 : PySem.W.codeIn K cd7 "_law_live" = true) (k7 : PySem.W.keepIn K (.ref f7) = true)
  (a8 : PySem.W.nsIn K mainGlobals "near_part" = some (some (.ref f8))) (l8 : K.lookup f8 = some ⟨oc8, od8, .func (PySem.W.fnOf "near_part" "near_part" (defArgs s_near_part) (defBody s_near_part) (defScope s_near_part) .none kV8 dc8 pm8 an8 cd8 ct8), sl8⟩) (c8 : PySem.W.codeIn K cd8 "near_part" = true) (k8 : PySem.W.keepIn K (.ref f8) = true)
  (a9 : PySem.W.nsIn K mainGlobals "far_part" = some (some (.ref f9))) (l9 : K.lookup f9 = some ⟨oc9, od9, .func (PySem.W.fnOf "far_part" "far_part" (defArgs s_far_part) (defBody s_far_part) (defScope s_far_part) .none kV9 dc9 pm9 an9 cd9 ct9), sl9⟩) (c9 : PySem.W.codeIn K cd9 "far_part" = true) (k9 : PySem.W.keepIn K (.ref f9) = true)
  (a10 : PySem.W.nsIn K mainGlobals "loop_parts" = some (some (.ref f10))) (l10 : K.lookup f10 = some ⟨oc10, od10, .func (PySem.W.fnOf "loop_parts" "loop_parts" (defArgs s_loop_parts) (defBody s_loop_parts) (defScope s_loop_parts) .none kV10 dc10 pm10 an10 cd10 ct10), sl10⟩) (c10 : PySem.W.codeIn K cd10 "loop_parts" = true) (k10 : PySem.W.keepIn K (.ref f10) = true)
  (a11 : PySem.W.nsIn K mainGlobals "wire_parts" = some (some (.ref f11))) (l11 : K.lookup f11 = some ⟨oc11, od11, .func (PySem.W.fnOf "wire_parts" "wire_parts" (defArgs s_wire_parts) (defBody s_wire_parts) (defScope s_wire_parts) .none kV11 dc11 pm11 an11 cd11 ct11), sl11⟩) (c11 : PySem.W.codeIn K cd11 "wire_parts" = true) (k11 : PySem.W.keepIn K (.ref f11) = true)
  (a12 : PySem.W.nsIn K mainGlobals "dumb_part" = some (some (.ref f12))) (l12 : K.lookup f12 = some ⟨oc12, od12, .func (PySem.W.fnOf "dumb_part" "dumb_part" (defArgs s_dumb_part) (defBody s_dumb_part) (defScope s_dumb_part) .none kV12 dc12 pm12 an12 cd12 ct12), sl12⟩) (c12 : PySem.W.codeIn K cd12 "dumb_part" = true) (k12 : PySem.W.keepIn K (.ref f12) = true)
  (a13 : PySem.W.nsIn K mainGlobals "dumb_numbers" = some (some (.ref f13))) (l13 : K.lookup f13 = some ⟨oc13, od13, .func (PySem.W.fnOf "dumb_numbers" "dumb_numbers" (defArgs s_dumb_numbers) (defBody s_dumb_numbers) (defScope s_dumb_numbers) .none kV13 dc13 pm13 an13 cd13 ct13), sl13⟩) (c13 : PySem.W.codeIn K cd13 "dumb_numbers" = true) (k13 : PySem.W.keepIn K (.ref f13) = true)
  (a14 : PySem.W.nsIn K mainGlobals "_law_all" = some (some (.ref f14))) (l14 : K.lookup f14 = some ⟨oc14, od14, .func (PySem.W.fnOf "_law_all" "_law_all" (defArgs s__law_all) (defBody s__law_all) (defScope s__law_all) .none kV14 dc14 pm14 an14 cd14 ct14), sl14⟩) (c14 : PySem.W.codeIn K cd14 "_law_all" = true) (k14 : PySem.W.keepIn K (.ref f14) = true)
  (aL : PySem.W.nsIn K mainGlobals "law" = some (some (.ref fL))) (lL : K.lookup fL = some ⟨ocL, odL, .func (PySem.W.fnOf "law" "law" (defArgs s_law) (defBody s_law) (defScope s_law) .none kVL dcL pmL anL cdL ctL), slL⟩) (cL : PySem.W.codeIn K cdL "law" = true) (kL : PySem.W.keepIn K (.ref fL) = true)
  (z_abs : PySem.W.nsIn K mainGlobals "abs" = some none)
  (z_all : PySem.W.nsIn K mainGlobals "all" = some none)
  (z_any : PySem.W.nsIn K mainGlobals "any" = some none)
  (z_len : PySem.W.nsIn K mainGlobals "len" = some none)
  (z_list : PySem.W.nsIn K mainGlobals "list" = some none)
  (z_max : PySem.W.nsIn K mainGlobals "max" = some none)
  (z_min : PySem.W.nsIn K mainGlobals "min" = some none)
  (z_range : PySem.W.nsIn K mainGlobals "range" = some none)
  (z_set : PySem.W.nsIn K mainGlobals "set" = some none)
  (z_sorted : PySem.W.nsIn K mainGlobals "sorted" = some none)
  (z_str : PySem.W.nsIn K mainGlobals "str" = some none)
  (z_tuple : PySem.W.nsIn K mainGlobals "tuple" = some none)
  (z_zip : PySem.W.nsIn K mainGlobals "zip" = some none) : Txt K mg (⟨fun _ => 0⟩ : Cl) where
  d__law_many := def_mk X G a1 l1 c1 k1 fun _ _ _ _ _ _ us hl => match us, hl with | [_, _, _], _ => rfl
  d__law_bag := def_mk X G a2 l2 c2 k2 fun _ _ _ _ _ _ us hl => match us, hl with | [_, _], _ => rfl
  d__law_draw := def_mk X G a3 l3 c3 k3 fun _ _ _ _ _ _ us hl => match us, hl with | [_, _], _ => rfl
  d__law_figures := def_mk X G a4 l4 c4 k4 fun _ _ _ _ _ _ us hl => match us, hl with | [_], _ => rfl
  d__law_town := def_mk X G a5 l5 c5 k5 fun _ _ _ _ _ _ us hl => match us, hl with | [_, _], _ => rfl
  d__law_cuts := def_mk X G a6 l6 c6 k6 fun _ _ _ _ _ _ us hl => match us, hl with | [_, _], _ => rfl
  d__law_live := def_mk X G a7 l7 c7 k7 fun _ _ _ _ _ _ us hl => match us, hl with | [_], _ => rfl
  d_near_part := def_mk X G a8 l8 c8 k8 fun _ _ _ _ _ _ us hl => match us, hl with | [_, _], _ => rfl
  d_far_part := def_mk X G a9 l9 c9 k9 fun _ _ _ _ _ _ us hl => match us, hl with | [_, _], _ => rfl
  d_loop_parts := def_mk X G a10 l10 c10 k10 fun _ _ _ _ _ _ us hl => match us, hl with | [_, _], _ => rfl
  d_wire_parts := def_mk X G a11 l11 c11 k11 fun _ _ _ _ _ _ us hl => match us, hl with | [_, _, _], _ => rfl
  d_dumb_part := def_mk X G a12 l12 c12 k12 fun _ _ _ _ _ _ us hl => match us, hl with | [_, _], _ => rfl
  d_dumb_numbers := def_mk X G a13 l13 c13 k13 fun _ _ _ _ _ _ us hl => match us, hl with | [_, _], _ => rfl
  d__law_all := def_mk X G a14 l14 c14 k14 fun _ _ _ _ _ _ us hl => match us, hl with | [_], _ => rfl
  d_law := def_mk X G aL lL cL kL fun _ _ _ _ _ _ us hl => match us, hl with | [_], _ => rfl
  n_abs := PySem.W.mg_none_of X G z_abs
  n_all := PySem.W.mg_none_of X G z_all
  n_any := PySem.W.mg_none_of X G z_any
  n_len := PySem.W.mg_none_of X G z_len
  n_list := PySem.W.mg_none_of X G z_list
  n_max := PySem.W.mg_none_of X G z_max
  n_min := PySem.W.mg_none_of X G z_min
  n_range := PySem.W.mg_none_of X G z_range
  n_set := PySem.W.mg_none_of X G z_set
  n_sorted := PySem.W.mg_none_of X G z_sorted
  n_str := PySem.W.mg_none_of X G z_str
  n_tuple := PySem.W.mg_none_of X G z_tuple
  n_zip := PySem.W.mg_none_of X G z_zip
set_option maxHeartbeats 4000000 in
theorem all_mk {l : PySem.W.OpenLaw} {w : World} {K : PySem.W.Frag} {h : Heap} {mg : Str → Option Value} {fa : Addr} (X : K.In h) (G : h.Ns mainGlobals mg) (hfa : mg "law" = some (.ref fa))
  {f1 : Addr} {oc1 kV1 dc1 pm1 cd1 ct1 : Value} {od1 an1 : Option Addr} {sl1 : Array (Option Value)}
  {f2 : Addr} {oc2 kV2 dc2 pm2 cd2 ct2 : Value} {od2 an2 : Option Addr} {sl2 : Array (Option Value)}
  {f3 : Addr} {oc3 kV3 dc3 pm3 cd3 ct3 : Value} {od3 an3 : Option Addr} {sl3 : Array (Option Value)}
  {f4 : Addr} {oc4 kV4 dc4 pm4 cd4 ct4 : Value} {od4 an4 : Option Addr} {sl4 : Array (Option Value)}
  {f5 : Addr} {oc5 kV5 dc5 pm5 cd5 ct5 : Value} {od5 an5 : Option Addr} {sl5 : Array (Option Value)}
  {f6 : Addr} {oc6 kV6 dc6 pm6 cd6 ct6 : Value} {od6 an6 : Option Addr} {sl6 : Array (Option Value)}
  {f7 : Addr} {oc7 kV7 dc7 pm7 cd7 ct7 : Value} {od7 an7 : Option Addr} {sl7 : Array (Option Value)}
  {f8 : Addr} {oc8 kV8 dc8 pm8 cd8 ct8 : Value} {od8 an8 : Option Addr} {sl8 : Array (Option Value)}
  {f9 : Addr} {oc9 kV9 dc9 pm9 cd9 ct9 : Value} {od9 an9 : Option Addr} {sl9 : Array (Option Value)}
  {f10 : Addr} {oc10 kV10 dc10 pm10 cd10 ct10 : Value} {od10 an10 : Option Addr} {sl10 : Array (Option Value)}
  {f11 : Addr} {oc11 kV11 dc11 pm11 cd11 ct11 : Value} {od11 an11 : Option Addr} {sl11 : Array (Option Value)}
  {f12 : Addr} {oc12 kV12 dc12 pm12 cd12 ct12 : Value} {od12 an12 : Option Addr} {sl12 : Array (Option Value)}
  {f13 : Addr} {oc13 kV13 dc13 pm13 cd13 ct13 : Value} {od13 an13 : Option Addr} {sl13 : Array (Option Value)}
  {f14 : Addr} {oc14 kV14 dc14 pm14 cd14 ct14 : Value} {od14 an14 : Option Addr} {sl14 : Array (Option Value)}
  {fL : Addr} {ocL kVL dcL pmL cdL ctL : Value} {odL anL : Option Addr} {slL : Array (Option Value)}
  (a1 : PySem.W.nsIn K mainGlobals "_law_many" = some (some (.ref f1))) (l1 : K.lookup f1 = some ⟨oc1, od1, .func (PySem.W.fnOf "_law_many" "_law_many" (defArgs s__law_many) (defBody s__law_many) (defScope s__law_many) .none kV1 dc1 pm1 an1 cd1 ct1), sl1⟩) (c1 : PySem.W.codeIn K cd1 "_law_many" = true) (k1 : PySem.W.keepIn K (.ref f1) = true)
  (a2 : PySem.W.nsIn K mainGlobals "_law_bag" = some (some (.ref f2))) (l2 : K.lookup f2 = some ⟨oc2, od2, .func (PySem.W.fnOf "_law_bag" "_law_bag" (defArgs s__law_bag) (defBody s__law_bag) (defScope s__law_bag) .none kV2 dc2 pm2 an2 cd2 ct2), sl2⟩) (c2 : PySem.W.codeIn K cd2 "_law_bag" = true) (k2 : PySem.W.keepIn K (.ref f2) = true)
  (a3 : PySem.W.nsIn K mainGlobals "_law_draw" = some (some (.ref f3))) (l3 : K.lookup f3 = some ⟨oc3, od3, .func (PySem.W.fnOf "_law_draw" "_law_draw" (defArgs s__law_draw) (defBody s__law_draw) (defScope s__law_draw) .none kV3 dc3 pm3 an3 cd3 ct3), sl3⟩) (c3 : PySem.W.codeIn K cd3 "_law_draw" = true) (k3 : PySem.W.keepIn K (.ref f3) = true)
  (a4 : PySem.W.nsIn K mainGlobals "_law_figures" = some (some (.ref f4))) (l4 : K.lookup f4 = some ⟨oc4, od4, .func (PySem.W.fnOf "_law_figures" "_law_figures" (defArgs s__law_figures) (defBody s__law_figures) (defScope s__law_figures) .none kV4 dc4 pm4 an4 cd4 ct4), sl4⟩) (c4 : PySem.W.codeIn K cd4 "_law_figures" = true) (k4 : PySem.W.keepIn K (.ref f4) = true)
  (a5 : PySem.W.nsIn K mainGlobals "_law_town" = some (some (.ref f5))) (l5 : K.lookup f5 = some ⟨oc5, od5, .func (PySem.W.fnOf "_law_town" "_law_town" (defArgs s__law_town) (defBody s__law_town) (defScope s__law_town) .none kV5 dc5 pm5 an5 cd5 ct5), sl5⟩) (c5 : PySem.W.codeIn K cd5 "_law_town" = true) (k5 : PySem.W.keepIn K (.ref f5) = true)
  (a6 : PySem.W.nsIn K mainGlobals "_law_cuts" = some (some (.ref f6))) (l6 : K.lookup f6 = some ⟨oc6, od6, .func (PySem.W.fnOf "_law_cuts" "_law_cuts" (defArgs s__law_cuts) (defBody s__law_cuts) (defScope s__law_cuts) .none kV6 dc6 pm6 an6 cd6 ct6), sl6⟩) (c6 : PySem.W.codeIn K cd6 "_law_cuts" = true) (k6 : PySem.W.keepIn K (.ref f6) = true)
  (a7 : PySem.W.nsIn K mainGlobals "_law_live" = some (some (.ref f7))) (l7 : K.lookup f7 = some ⟨oc7, od7, .func (PySem.W.fnOf "_law_live" "_law_live" (defArgs s__law_live) (defBody s__law_live) (defScope s__law_live) .none kV7 dc7 pm7 an7 cd7 ct7), sl7⟩) (c7 : PySem.W.codeIn K cd7 "_law_live" = true) (k7 : PySem.W.keepIn K (.ref f7) = true)
  (a8 : PySem.W.nsIn K mainGlobals "near_part" = some (some (.ref f8))) (l8 : K.lookup f8 = some ⟨oc8, od8, .func (PySem.W.fnOf "near_part" "near_part" (defArgs s_near_part) (defBody s_near_part) (defScope s_near_part) .none kV8 dc8 pm8 an8 cd8 ct8), sl8⟩) (c8 : PySem.W.codeIn K cd8 "near_part" = true) (k8 : PySem.W.keepIn K (.ref f8) = true)
  (a9 : PySem.W.nsIn K mainGlobals "far_part" = some (some (.ref f9))) (l9 : K.lookup f9 = some ⟨oc9, od9, .func (PySem.W.fnOf "far_part" "far_part" (defArgs s_far_part) (defBody s_far_part) (defScope s_far_part) .none kV9 dc9 pm9 an9 cd9 ct9), sl9⟩) (c9 : PySem.W.codeIn K cd9 "far_part" = true) (k9 : PySem.W.keepIn K (.ref f9) = true)
  (a10 : PySem.W.nsIn K mainGlobals "loop_parts" = some (some (.ref f10))) (l10 : K.lookup f10 = some ⟨oc10, od10, .func (PySem.W.fnOf "loop_parts" "loop_parts" (defArgs s_loop_parts) (defBody s_loop_parts) (defScope s_loop_parts) .none kV10 dc10 pm10 an10 cd10 ct10), sl10⟩) (c10 : PySem.W.codeIn K cd10 "loop_parts" = true) (k10 : PySem.W.keepIn K (.ref f10) = true)
  (a11 : PySem.W.nsIn K mainGlobals "wire_parts" = some (some (.ref f11))) (l11 : K.lookup f11 = some ⟨oc11, od11, .func (PySem.W.fnOf "wire_parts" "wire_parts" (defArgs s_wire_parts) (defBody s_wire_parts) (defScope s_wire_parts) .none kV11 dc11 pm11 an11 cd11 ct11), sl11⟩) (c11 : PySem.W.codeIn K cd11 "wire_parts" = true) (k11 : PySem.W.keepIn K (.ref f11) = true)
  (a12 : PySem.W.nsIn K mainGlobals "dumb_part" = some (some (.ref f12))) (l12 : K.lookup f12 = some ⟨oc12, od12, .func (PySem.W.fnOf "dumb_part" "dumb_part" (defArgs s_dumb_part) (defBody s_dumb_part) (defScope s_dumb_part) .none kV12 dc12 pm12 an12 cd12 ct12), sl12⟩) (c12 : PySem.W.codeIn K cd12 "dumb_part" = true) (k12 : PySem.W.keepIn K (.ref f12) = true)
  (a13 : PySem.W.nsIn K mainGlobals "dumb_numbers" = some (some (.ref f13))) (l13 : K.lookup f13 = some ⟨oc13, od13, .func (PySem.W.fnOf "dumb_numbers" "dumb_numbers" (defArgs s_dumb_numbers) (defBody s_dumb_numbers) (defScope s_dumb_numbers) .none kV13 dc13 pm13 an13 cd13 ct13), sl13⟩) (c13 : PySem.W.codeIn K cd13 "dumb_numbers" = true) (k13 : PySem.W.keepIn K (.ref f13) = true)
  (a14 : PySem.W.nsIn K mainGlobals "_law_all" = some (some (.ref f14))) (l14 : K.lookup f14 = some ⟨oc14, od14, .func (PySem.W.fnOf "_law_all" "_law_all" (defArgs s__law_all) (defBody s__law_all) (defScope s__law_all) .none kV14 dc14 pm14 an14 cd14 ct14), sl14⟩) (c14 : PySem.W.codeIn K cd14 "_law_all" = true) (k14 : PySem.W.keepIn K (.ref f14) = true)
  (aL : PySem.W.nsIn K mainGlobals "law" = some (some (.ref fL))) (lL : K.lookup fL = some ⟨ocL, odL, .func (PySem.W.fnOf "law" "law" (defArgs s_law) (defBody s_law) (defScope s_law) .none kVL dcL pmL anL cdL ctL), slL⟩) (cL : PySem.W.codeIn K cdL "law" = true) (kL : PySem.W.keepIn K (.ref fL) = true)
  (z_abs : PySem.W.nsIn K mainGlobals "abs" = some none)
  (z_all : PySem.W.nsIn K mainGlobals "all" = some none)
  (z_any : PySem.W.nsIn K mainGlobals "any" = some none)
  (z_len : PySem.W.nsIn K mainGlobals "len" = some none)
  (z_list : PySem.W.nsIn K mainGlobals "list" = some none)
  (z_max : PySem.W.nsIn K mainGlobals "max" = some none)
  (z_min : PySem.W.nsIn K mainGlobals "min" = some none)
  (z_range : PySem.W.nsIn K mainGlobals "range" = some none)
  (z_set : PySem.W.nsIn K mainGlobals "set" = some none)
  (z_sorted : PySem.W.nsIn K mainGlobals "sorted" = some none)
  (z_str : PySem.W.nsIn K mainGlobals "str" = some none)
  (z_tuple : PySem.W.nsIn K mainGlobals "tuple" = some none)
  (z_zip : PySem.W.nsIn K mainGlobals "zip" = some none) :
  ∃ fd : FuncData, (∀ (s : Shared) (v : Value), BindsTo s fd ⟨[v], []⟩ [("_law_script", v)]) ∧ ∀ base : Heap, K.In base → base.Ns mainGlobals mg → FnOk l.prog w K mg base (L2.CX l.prog w) 4 fa fd ["_law_script"] (spLaw K) := by
  have T : Txt K mg _ := txt_mk X G a1 l1 c1 k1 a2 l2 c2 k2 a3 l3 c3 k3 a4 l4 c4 k4 a5 l5 c5 k5 a6 l6 c6 k6 a7 l7 c7 k7 a8 l8 c8 k8 a9 l9 c9 k9 a10 l10 c10 k10 a11 l11 c11 k11 a12 l12 c12 k12 a13 l13 c13 k13 a14 l14 c14 k14 aL lL cL kL z_abs z_all z_any z_len z_list z_max z_min z_range z_set z_sorted z_str z_tuple z_zip
  have e := hfa.symm.trans (PySem.W.mg_of X G aL)
  cases e
  refine ⟨PySem.W.fnOf "law" "law" (defArgs s_law) (defBody s_law) (defScope s_law) .none kVL dcL pmL anL cdL ctL, fun s v => .of_eq rfl, fun base _ _ => ?_⟩
  exact law_end (ok_law T (fun_mk lL cL kL)) law_true
end LK10
open PySem PySem.W PyProof.Rows
set_option maxHeartbeats 0 in
theorem PySem.Challenge.cw_callwheel_k10_whole_each_box_once_holds : PySem.Challenge.rw_callwheel_k10_whole_each_box_once.Holds := by
  w_on; o_law; k_head; (case hw => w_witness2)
  k_fill
  refine L2.walk_of (l := PySem.Challenge.rw_callwheel_k10_whole_each_box_once) (n := 63) (k := 4) (x := "_law_script") (CX := fun w => L2.CX PySem.Challenge.rw_callwheel_k10_whole_each_box_once.prog w) (sp := fun w => MM.spLaw _) rfl (by decide) rfl ⟨rfl, by decide, by decide⟩ (fun w h Y => PySem.W.kIn_of Y) ?F (fun _ H a ns hl hO hS => ⟨a, ns, rfl, hO, hS, hl, fun _ => rfl⟩) (fun w H s e s' h => MM.cx_never h)
  case F =>
    intro w mg fa h KX G hmg
    refine' LK10.all_mk KX G hmg ?a1 ?l1 ?c1 ?k1 ?a2 ?l2 ?c2 ?k2 ?a3 ?l3 ?c3 ?k3 ?a4 ?l4 ?c4 ?k4 ?a5 ?l5 ?c5 ?k5 ?a6 ?l6 ?c6 ?k6 ?a7 ?l7 ?c7 ?k7 ?a8 ?l8 ?c8 ?k8 ?a9 ?l9 ?c9 ?k9 ?a10 ?l10 ?c10 ?k10 ?a11 ?l11 ?c11 ?k11 ?a12 ?l12 ?c12 ?k12 ?a13 ?l13 ?c13 ?k13 ?a14 ?l14 ?c14 ?k14 ?aL ?lL ?cL ?kL ?z_abs ?z_all ?z_any ?z_len ?z_list ?z_max ?z_min ?z_range ?z_set ?z_sorted ?z_str ?z_tuple ?z_zip
    (case a1 => k_is); (case l1 => k_is); (case c1 => k_is); (case k1 => k_is); (case a2 => k_is); (case l2 => k_is); (case c2 => k_is); (case k2 => k_is); (case a3 => k_is); (case l3 => k_is); (case c3 => k_is); (case k3 => k_is); (case a4 => k_is); (case l4 => k_is); (case c4 => k_is); (case k4 => k_is); (case a5 => k_is); (case l5 => k_is); (case c5 => k_is); (case k5 => k_is); (case a6 => k_is); (case l6 => k_is); (case c6 => k_is); (case k6 => k_is); (case a7 => k_is); (case l7 => k_is); (case c7 => k_is); (case k7 => k_is); (case a8 => k_is); (case l8 => k_is); (case c8 => k_is); (case k8 => k_is); (case a9 => k_is); (case l9 => k_is); (case c9 => k_is); (case k9 => k_is); (case a10 => k_is); (case l10 => k_is); (case c10 => k_is); (case k10 => k_is); (case a11 => k_is); (case l11 => k_is); (case c11 => k_is); (case k11 => k_is); (case a12 => k_is); (case l12 => k_is); (case c12 => k_is); (case k12 => k_is); (case a13 => k_is); (case l13 => k_is); (case c13 => k_is); (case k13 => k_is); (case a14 => k_is); (case l14 => k_is); (case c14 => k_is); (case k14 => k_is); (case aL => k_is); (case lL => k_is); (case cL => k_is); (case kL => k_is); (case z_abs => k_is); (case z_all => k_is); (case z_any => k_is); (case z_len => k_is); (case z_list => k_is); (case z_max => k_is); (case z_min => k_is); (case z_range => k_is); (case z_set => k_is); (case z_sorted => k_is); (case z_str => k_is); (case z_tuple => k_is); (case z_zip => k_is)

