import PyProof.Rows.All
import Wide.All
import OpenK.AllK
import Wide.FinOn
import HandS.ForMost
import HandS.Walk
import HandS.TupMul
import KE.GoesEnum
import HandS.Wide
import HandS.TupAny
import HandS.Zip
import HandS.IsInst
import HandS.ForExc
import HandS.Conv
import HandS.Style
import HandS.Replace
import HandS.RaiseMore
import HandS.TryOnly
import HandS.ExcOwn
import HandS.SetKeys
import HandS.Strs
import HandS.Zip0
import HandS.SetFor
import HandS.Set
import HandS.TupLe
import KE.DataMinMax
import HandS.SortKw
import PySem.Challenge.RW_callwheel_k19_meetings_of_some
set_option Elab.async false
set_option linter.all false
set_option maxRecDepth 100000
namespace MM
open PySem PySem.Spec PyProof.Rows L2
open Builtin
theorem tuple_mul1 (l : Addr) (items : Array Value) (n : Nat) (dd : Option Addr) (sl : Array (Option Value)) (u : Tok) :
    Meets (Builtin.«tuple.__mul__» ⟨[.ref l, .int 1 u], []⟩) (fun A R s => s.heap.get? l = some { cls := .type "tuple", dict := dd, data := .seq items n, slots := sl } ∧ R (.ok (.ret (.ref l))) s) :=
  .of_wp fun prog w A R s h => by
    obtain ⟨hp, g, d, tk, os⟩ := s
    obtain ⟨hl, h⟩ := h
    have f1 := AutoSeq1.idx_int
    have c0 : (decide ((1 : Int) < -(2 ^ 63)) || decide ((1 : Int) ≥ 2 ^ 63)) = false := by decide
    have c1 : (items.isEmpty || (1 : Int) == 1) = true := by simp
    wp_walk using wpAny_loadPart' hl
    repeat (first
      | (refine wpAny_ite_false (decide_eq_false (by rw [c0]; exact Bool.false_ne_true)) ?_; wp_walk using wpAny_loadPart' hl)
      | (refine wpAny_ite_true (decide_eq_true c1) ?_; wp_walk using wpAny_loadPart' hl))
    exact ⟨_, rfl, h⟩
def rRep1 (K : PySem.W.Frag) : R2 := fun x y H Q => ∃ l xs, x = .ref l ∧ y = .int 1 ∧ SqT K H l xs ∧ Q (.ref l) H
theorem op_rep1 {X : Cx} : OpR X (binaryOp .Mult) (rRep1 X.K) := by
  intro pins s σ H x y v u Q I rx ry h
  obtain ⟨l, xs, rfl, rfl, hT, q⟩ := h
  cases rx
  obtain ⟨t, rfl⟩ := ry
  obtain ⟨its, r, ⟨⟨cls, dd, data, sl⟩, ho, hc, n, hd⟩, hs⟩ := I.tuple hT
  simp only at hc hd
  subst hc hd
  refine wpAny_binaryOp_repeat_ref (T := "tuple") (U := "int") (by decide) ⟨_, ho, rfl⟩ (fun s' => typeIs_int s' 1 t) noFill_tuple_mul F.fills_int_mul F.slot_int_rmul repeat_tuple F.slot_int_index.lookup
    (call_meets F.slot_int_rmul (typeIs_int s 1 t) F.entry_int_rmul (F.args_int_rmul_2 _ _) (int_rmul_tuple 1 t l its.toArray n dd sl)
      ⟨ho, rfl, ⟨_, ho, rfl⟩, call_meets F.slot_tuple_mul ⟨_, ho, rfl⟩ F.entry_tuple_mul (F.args_tuple_mul_2 _ _) (tuple_mul1 l its.toArray n dd sl t) ⟨ho, ?_⟩⟩)
  exact ⟨.ref l, H, I, rfl, q⟩
end MM

namespace MM
open PySem PySem.Spec PyProof.Rows L2
def FrzBy (as : List Addr) (H H' : Hp) : Prop := (∀ b, b ∉ as → H' b = H b) ∧ ∀ a ∈ as, ∃ ob vs, H a = some (.lst vs) ∧ H' a = some (.frz ob (.lst vs))
def FrzTo (H : Hp) (R : Hp → Prop) : Prop := ∃ as : List Addr, (∀ a ∈ as, ∃ vs, H a = some (.lst vs)) ∧ ∀ H', FrzBy as H H' → R H'
theorem FrzBy.nil {H H' : Hp} (h : FrzBy [] H H') : H' = H := by
  funext b
  exact h.1 b (by simp)
theorem FrzTo.nil {H : Hp} {R : Hp → Prop} (h : R H) : FrzTo H R := ⟨[], by simp, fun H' q => by rw [q.nil]; exact h⟩
open Classical in
theorem inv_frz {X : Cx} {pins : List (Addr × Obj)} {σ : List (Option V)} {H : Hp} {s : Shared} (I : Inv X pins σ H s) {as : List Addr} (ha : ∀ a ∈ as, ∃ vs, H a = some (.lst vs)) : ∃ H', FrzBy as H H' ∧ Inv X pins σ H' s := by
  have obj : ∀ a ∈ as, ∃ ob vs, H a = some (.lst vs) ∧ s.heap.get? a = some ob := fun a h => by
    obtain ⟨vs, e⟩ := ha a h
    obtain ⟨_, its, n, _, g⟩ := I.hok a _ e
    exact ⟨_, vs, e, g⟩
  let H' : Hp := fun b => if h : b ∈ as then some (.frz (obj b h).choose (.lst (obj b h).choose_spec.choose)) else H b
  have out : ∀ b, b ∉ as → H' b = H b := fun b h => dif_neg h
  have ins : ∀ b, b ∈ as → ∃ ob vs, H b = some (.lst vs) ∧ H' b = some (.frz ob (.lst vs)) ∧ s.heap.get? b = some ob := fun b h => by
    have q := (obj b h).choose_spec.choose_spec
    exact ⟨_, _, q.1, dif_pos h, q.2⟩
  have not : ∀ b (u : HO), H b = some u → (∀ vs, u ≠ .lst vs) → H' b = some u := fun b u e n => by
    have nb : b ∉ as := fun h => by
      obtain ⟨ob, vs, q, _⟩ := ins b h
      rw [e] at q
      exact n vs (Option.some.inj q)
    rw [out b nb, e]
  refine ⟨H', ⟨out, fun a h => let ⟨ob, vs, q1, q2, _⟩ := ins a h; ⟨ob, vs, q1, q2⟩⟩, ?_⟩
  have hok : HOk X.prog X.w H' s.heap := fun b u e => by
    have st : ∀ o, ObjOk X.prog X.w H s.heap b o → ObjOk X.prog X.w H' s.heap b o := fun o x =>
      x.stay (fun c v _ q => q) (fun c q => not c _ q (fun _ z => nomatch z)) (fun c xs q => not c _ q (fun _ z => nomatch z))
    by_cases h : b ∈ as
    · obtain ⟨ob, vs, q1, q2, q3⟩ := ins b h
      rw [q2] at e
      cases e
      exact ⟨q3, st _ (I.hok b _ q1)⟩
    · rw [out b h] at e
      exact st _ (I.hok b u e)
  have := I.step (H' := H') (h' := s.heap) (g' := s.gens) (t' := s.toks) (d' := s.drawn) (ch := []) (fun _ z => nomatch z) (fun b o _ _ _ e _ => e) (fun b o _ _ _ e _ => ⟨o.slots, e⟩)
    (fun b o _ _ n => by
      have nb : b ∉ as := fun h => by
        obtain ⟨_, _, q, _⟩ := ins b h
        rw [n] at q; cases q
      rw [out b nb, n])
    (fun b o _ e => ⟨o, e⟩) (fun b xs e => not b _ e (fun _ z => nomatch z)) (fun b o u e => not b _ e (fun _ z => nomatch z)) (fun b ps e => ⟨#[], by rw [not b _ e (fun _ z => nomatch z)]; simp⟩) (fun m q => q) hok I.bare
  exact this
/-- an expression, and then some new lists are locked -/
def tFrz (t : TE) : TE := fun σ H Q => t σ H fun v H' => FrzTo H' (Q v)
theorem pe_frz {X : Cx} {e : Expr} {t : TE} (h : PE X e t) : PE X e (tFrz t) := ⟨fun pins s σ H Q I q => thn (h.run pins s σ H _ I q) fun u s1 ⟨v, H1, I1, rv, as, ha, r⟩ => by
  obtain ⟨H2, f, I2⟩ := inv_frz I1 ha
  exact ⟨v, H2, I2, rv, r H2 f⟩⟩
theorem ps_frz {X : Cx} {st : Stmt} {t : TS} (h : PS X st t) : PS X st (fun E σ H => t { E with nx := fun σ' H' => FrzTo H' (E.nx σ') } σ H) := ⟨fun pins s σ H D I q => thn (h.run pins s σ H _ I q) fun f s1 z => by
  cases f with
  | next =>
    obtain ⟨σ1, H1, I1, as, ha, r⟩ := z
    obtain ⟨H2, f, I2⟩ := inv_frz I1 ha
    exact ⟨σ1, H2, I2, r H2 f⟩
  | _ => exact z⟩
theorem rd_obj {X : Cx} {pins : List (Addr × Obj)} {σ : List (Option V)} {H : Hp} {s : Shared} {a : Addr} {xs : List V} (I : Inv X pins σ H s) (h : Rd H a (.lst xs)) : ∃ (its : List Value) (n : Nat), xs.length ≤ sizeLine ∧ Vals xs its ∧ xs.length = its.length ∧ s.heap.get? a = some { cls := .type "list", data := .seq its.toArray n } := by
  obtain ⟨z, its, n, r, e⟩ := h.ok I.hok
  exact ⟨its, n, z, r, r.length, e⟩
def rCatR : R2 := fun x y H Q => ∃ l b xs zs, x = .ref l ∧ y = .ref b ∧ Rd H l (.lst xs) ∧ Rd H b (.lst zs) ∧ xs.length + zs.length ≤ sizeLine ∧
  ∀ q, H q = none → Q (.ref q) (upd H q (.lst (xs ++ zs)))
theorem op_catR {X : Cx} : OpR X (binaryOp .Add) rCatR := by
  rintro pins s σ H _ _ v u Q I rx ry ⟨l, b, xs, zs, rfl, rfl, h1, h2, hz, q⟩
  cases rx; cases ry
  obtain ⟨i1, n1, _, r1, l1, e1⟩ := rd_obj I h1
  obtain ⟨i2, n2, _, r2, l2, e2⟩ := rd_obj I h2
  refine PySem.P.add_list e1 e2 ?_ (by simp only [List.size_toArray]; omega)
  rw [show i1.toArray ++ i2.toArray = (i1 ++ i2).toArray from by simp]
  exact ⟨.ref _, _, I.lnew (t' := s.toks) (r1.append r2) (by simp only [List.length_append]; omega), rfl, q _ I.fresh⟩
def rRepR : R2 := fun x y H Q => ∃ l k xs, x = .ref l ∧ y = .int k ∧ Rd H l (.lst xs) ∧ -(2 ^ 63) ≤ k ∧ k < 2 ^ 63 ∧ xs.length * k.toNat ≤ sizeLine ∧
  ∀ q, H q = none → Q (.ref q) (upd H q (.lst (List.replicate k.toNat xs).flatten))
theorem op_repR {X : Cx} : OpR X (binaryOp .Mult) rRepR := by
  rintro pins s σ H _ _ v u Q I rx ry ⟨l, k, xs, rfl, rfl, h, h1, h2, hz, q⟩
  cases rx
  obtain ⟨t, rfl⟩ := ry
  obtain ⟨its, n, _, r, hl, e⟩ := rd_obj I h
  have hlen : its.length * k.toNat ≤ sizeLine := hl ▸ hz
  have big : (sizeLine : Nat) ≤ (2 ^ 63 - 1) / 8 := by decide
  have c1 : ¬ (!Builtin.List.listFitsIndex k) = true := by simp [fitsIndex_both h1 h2]
  have c2 : ¬ its.toArray.size * k.toNat > (2 ^ 63 - 1) / 8 := by rw [List.size_toArray]; omega
  have c3 : ¬ Builtin.List.listTooLong (its.toArray.size * k.toNat) = true := by rw [notLongL (show its.toArray.size * k.toNat ≤ sizeLine by rw [List.size_toArray]; exact hlen)]; decide
  have f : ∀ m : Nat, (List.replicate m its.toArray).foldl (· ++ ·) #[] = (List.replicate m its).flatten.toArray := fun m => by simpa using foldl_rep its m []
  have f2 : (List.replicate (if its.toArray.isEmpty = true then 0 else k.toNat) its.toArray).foldl (· ++ ·) #[] = (List.replicate k.toNat its).flatten.toArray := by
    rw [f]
    cases its <;> simp
  have m1 := AutoListH.list___mul___list_int_3 l its.toArray n k t c1 c2 c3
  refine wpAny_binaryOp_repeat_ref (T := "list") (U := "int") (by decide) ⟨_, e, rfl⟩ (fun s' => typeIs_int s' k t) noFill_list_mul F.fills_int_mul F.slot_int_rmul repeat_list F.slot_int_index.lookup
    (call_meets F.slot_int_rmul (typeIs_int s k t) F.entry_int_rmul (F.args_int_rmul_2 _ _) (int___rmul___int_list k t l its.toArray n) ⟨e, rfl, ⟨_, e, rfl⟩, call_meets F.slot_list_mul ⟨_, e, rfl⟩ F.entry_list_mul (F.args_list_mul_2 _ _) m1 ⟨e, ?_⟩⟩)
  rw [f2]
  exact ⟨.ref _, _, I.lnew (t' := s.toks) (r.rep k.toNat) (by rw [PyProof.Rows.lm_len_rep_flat, Nat.mul_comm]; exact hz), rfl, q _ I.fresh⟩
end MM

namespace MM
open PySem PySem.Spec PyProof.Rows L2

inductive D where
  | non | bl (b : Bool) | int (i : Int) | str (x : Str) | tup (l : List D) | ref (n : Nat) | scr (ns : List Int) | pl (l : List D)

inductive O where
  | lst (fz : Bool) (l : List D) | dct (fz : Bool) (l : List (Key × D)) | ins (c : Nat) (fs : List (Str × D))

abbrev Sto := List O
abbrev Fr := List (Option D)

inductive R (α : Type) where
  | ok (a : α) (s : Sto) | ex (c : Nat) (s : Sto) | no

inductive RS where
  | nx (r : Fr) (s : Sto) | rt (d : D) (s : Sto) | bk (r : Fr) (s : Sto) | ct (r : Fr) (s : Sto) | ex (c : Nat) (r : Fr) (s : Sto) | no

def R.bind {α β : Type} : R α → (α → Sto → R β) → R β
  | .ok a s, f => f a s
  | .ex c s, _ => .ex c s
  | .no, _ => .no

abbrev ME := Fr → Sto → R D
abbrev MT := Fr → Sto → R Bool
abbrev ML := Fr → Sto → R (List D)
abbrev MS := Fr → Sto → RS

/-- a locked list that the store does not know -/
def Pul (φ : List Addr) (H : Hp) (a : Addr) (xs : List V) : Prop := a ∉ φ ∧ ∃ o, H a = some (.frz o (.lst xs))
theorem Pul.rd {φ : List Addr} {H : Hp} {a : Addr} {xs : List V} (h : Pul φ H a xs) : Rd H a (.lst xs) := .inr h.2
theorem Pul.sq {K : PySem.W.Frag} {φ : List Addr} {H : Hp} {a : Addr} {xs : List V} (h : Pul φ H a xs) : SqL K H a xs := .inl (.inr h.2)
/-- the law's script: locked, or an object of the module's own -/
def Fro (K : PySem.W.Frag) (φ : List Addr) (H : Hp) (a : Addr) (xs : List V) : Prop :=
  (a ∉ φ ∧ ∃ o, H a = some (.frz o (.lst xs))) ∨
    ∃ (o : Obj) (its : Array Value) (n : Nat), K.lookup a = some o ∧ o.cls = .type "list" ∧ o.dict = none ∧ o.data = .seq its n ∧ its.size ≤ sizeLine ∧ Vals xs its.toList
theorem Fro.sq {K : PySem.W.Frag} {φ : List Addr} {H : Hp} {a : Addr} {xs : List V} (h : Fro K φ H a xs) : SqL K H a xs := by
  rcases h with ⟨_, h⟩ | h
  · exact .inl (.inr h)
  · exact .inr h
mutual
def Rep (K : PySem.W.Frag) (φ : List Addr) (H : Hp) : D → V → Prop
  | .non, v => v = .non
  | .bl b, v => v = .bl b
  | .int i, v => v = .int i
  | .str x, v => v = .str x
  | .ref n, v => ∃ a, φ[n]? = some a ∧ v = .ref a
  | .tup l, v => ∃ a vs, v = .ref a ∧ SqT K H a vs ∧ RepL K φ H l vs
  | .scr ns, v => ∃ a, v = .ref a ∧ Fro K φ H a (ns.map V.int)
  | .pl l, v => ∃ a vs, v = .ref a ∧ Pul φ H a vs ∧ RepL K φ H l vs
def RepL (K : PySem.W.Frag) (φ : List Addr) (H : Hp) : List D → List V → Prop
  | [], vs => vs = []
  | d :: ds, vs => ∃ v r, vs = v :: r ∧ Rep K φ H d v ∧ RepL K φ H ds r
end

/-- pairs of a dict, fields of an instance -/
def RepKV {κ : Type} (K : PySem.W.Frag) (φ : List Addr) (H : Hp) : List (κ × D) → List (κ × V) → Prop
  | [], vs => vs = []
  | d :: ds, vs => ∃ v r, vs = (d.1, v) :: r ∧ Rep K φ H d.2 v ∧ RepKV K φ H ds r

/-- what is known around: the classes' addresses -/
structure Cl where
  cl : Nat → Addr

def RepO (K : PySem.W.Frag) (c : Cl) (φ : List Addr) (H : Hp) (a : Addr) : O → Prop
  | .lst fz l => ∃ vs, RepL K φ H l vs ∧ if fz = true then ∃ ob, H a = some (.frz ob (.lst vs)) else H a = some (.lst vs)
  | .dct fz l => ∃ vs, RepKV K φ H l vs ∧ if fz = true then ∃ ob, H a = some (.frz ob (.dK vs)) else H a = some (.dK vs)
  | .ins k fs => ∃ dx vs, RepKV K φ H fs vs ∧ H a = some (.ins (c.cl k) dx vs)

structure Rel (K : PySem.W.Frag) (c : Cl) (φ : List Addr) (S : Sto) (H : Hp) : Prop where
  len : φ.length = S.length
  nd : φ.Nodup
  obj : ∀ (n : Nat) a o, φ[n]? = some a → S[n]? = some o → RepO K c φ H a o

structure Ext (φ : List Addr) (H : Hp) (φ' : List Addr) (H' : Hp) : Prop where
  more : ∃ ψ, φ' = φ ++ ψ ∧ ∀ a ∈ ψ, H a = none
  nd : φ'.Nodup
  keep : ∀ a o, H a = some o → a ∉ φ → H' a = some o
  frz : ∀ a ob u, H a = some (.frz ob u) → H' a = some (.frz ob u)

def FrRel (K : PySem.W.Frag) (φ : List Addr) (H : Hp) (σ : L2.St) (ρ : Fr) : Prop :=
  ρ.length = σ.length ∧ ∀ (i : Nat) d, ρ[i]? = some (some d) → ∃ v, σ[i]? = some (some v) ∧ Rep K φ H d v

section
variable {K : PySem.W.Frag} {c : Cl} {φ φ' φ1 φ2 : List Addr} {H H' H1 H2 : Hp} {S S' : Sto}

theorem Ext.refl (nd : φ.Nodup) : Ext φ H φ H := ⟨⟨[], by simp, by simp⟩, nd, fun _ _ h _ => h, fun _ _ _ h => h⟩
theorem Ext.notin (e : Ext φ H φ' H') {a : Addr} {o : HO} (h : H a = some o) (n : a ∉ φ) : a ∉ φ' := by
  obtain ⟨ψ, rfl, hψ⟩ := e.more
  intro q
  rcases List.mem_append.mp q with q | q
  · exact n q
  · rw [hψ a q] at h; cases h
theorem Ext.trans (e : Ext φ H φ1 H1) (f : Ext φ1 H1 φ2 H2) : Ext φ H φ2 H2 := by
  refine ⟨?_, f.nd, fun a o h n => f.keep a o (e.keep a o h n) (e.notin h n), fun a ob u h => f.frz a ob u (e.frz a ob u h)⟩
  obtain ⟨ψ, e1, hψ⟩ := e.more
  obtain ⟨χ, e2, hχ⟩ := f.more
  refine ⟨ψ ++ χ, by rw [e2, e1, List.append_assoc], fun a ha => ?_⟩
  rcases List.mem_append.mp ha with q | q
  · exact hψ a q
  · cases h : H a with
    | none => rfl
    | some o =>
      by_cases n : a ∈ φ
      · have nd := f.nd
        rw [e2, e1, List.append_assoc] at nd
        exact absurd rfl ((List.nodup_append.mp nd).2.2 a n a (List.mem_append_right _ q))
      · have := hχ a q
        rw [e.keep a o h n] at this
        cases this
theorem Ext.ix (e : Ext φ H φ' H') {n : Nat} {a : Addr} (h : φ[n]? = some a) : φ'[n]? = some a := by
  obtain ⟨ψ, rfl, _⟩ := e.more
  rw [List.getElem?_append_left (List.getElem?_eq_some_iff.mp h).1]
  exact h
theorem Rel.there (r : Rel K c φ S H) {a : Addr} (h : a ∈ φ) : ∃ (n : Nat) (o : O), φ[n]? = some a ∧ S[n]? = some o ∧ RepO K c φ H a o := by
  obtain ⟨n, hn, e⟩ := List.getElem_of_mem h
  have h1 : φ[n]? = some a := by rw [List.getElem?_eq_getElem hn, e]
  have h2 : n < S.length := by rw [← r.len]; exact hn
  have h3 : S[n]? = some S[n] := List.getElem?_eq_getElem h2
  exact ⟨n, _, h1, h3, r.obj n a _ h1 h3⟩
theorem RepO.some (r : RepO K c φ H a o) : ∃ u, H a = some u ∧ (∀ xs, u ≠ .tup xs) ∧ ∀ ob xs, u ≠ .frz ob (.tup xs) := by
  cases o with
  | lst fz l =>
    obtain ⟨vs, _, h⟩ := r
    split at h
    · obtain ⟨ob, h⟩ := h
      exact ⟨_, h, fun _ q => (nomatch q), fun _ _ q => (nomatch q)⟩
    · exact ⟨_, h, fun _ q => (nomatch q), fun _ _ q => (nomatch q)⟩
  | dct fz l =>
    obtain ⟨vs, _, h⟩ := r
    split at h
    · obtain ⟨ob, h⟩ := h
      exact ⟨_, h, fun _ q => (nomatch q), fun _ _ q => (nomatch q)⟩
    · exact ⟨_, h, fun _ q => (nomatch q), fun _ _ q => (nomatch q)⟩
  | ins k fs =>
    obtain ⟨dx, vs, _, h⟩ := r
    exact ⟨_, h, fun _ q => (nomatch q), fun _ _ q => (nomatch q)⟩
theorem Rel.tupNot (r : Rel K c φ S H) {a : Addr} {xs : List V} (h : Rd H a (.tup xs)) : a ∉ φ := fun q => by
  obtain ⟨n, o, _, _, ro⟩ := r.there q
  obtain ⟨u, hu, n1, n2⟩ := ro.some
  rcases h with h | ⟨ob, h⟩
  · rw [h] at hu; exact n1 _ (Option.some.inj hu).symm
  · rw [h] at hu; exact n2 _ _ (Option.some.inj hu).symm
theorem Rel.free (r : Rel K c φ S H) {a : Addr} (h : H a = none) : a ∉ φ := fun q => by
  obtain ⟨n, o, _, _, ro⟩ := r.there q
  obtain ⟨u, hu, _⟩ := ro.some
  rw [h] at hu; cases hu
theorem Ext.tup (e : Ext φ H φ' H') (r : Rel K c φ S H) {a : Addr} {xs : List V} (h : SqT K H a xs) : SqT K H' a xs := by
  rcases h with h | h
  · have n := r.tupNot h
    rcases h with h | ⟨ob, h⟩
    · exact .inl (.inl (e.keep _ _ h n))
    · exact .inl (.inr ⟨ob, e.keep _ _ h n⟩)
  · exact .inr h
/-- heaps in which all tuples stay, addresses stay -/
structure Stays (K : PySem.W.Frag) (φ : List Addr) (H : Hp) (φ' : List Addr) (H' : Hp) : Prop where
  ix : ∀ (n : Nat) a, φ[n]? = some a → φ'[n]? = some a
  tup : ∀ a xs, SqT K H a xs → SqT K H' a xs
  pul : ∀ a xs, Pul φ H a xs → Pul φ' H' a xs
theorem Stays.fro (st : Stays K φ H φ' H') (a : Addr) (xs : List V) (h : Fro K φ H a xs) : Fro K φ' H' a xs := by
  rcases h with h | h
  · exact .inl (st.pul a xs h)
  · exact .inr h
theorem Ext.stays (e : Ext φ H φ' H') (r : Rel K c φ S H) : Stays K φ H φ' H' := ⟨fun _ _ h => e.ix h, fun _ _ h => e.tup r h, fun a xs h => by
  obtain ⟨n, o, h⟩ := h
  exact ⟨e.notin h n, o, e.keep _ _ h n⟩⟩
mutual
theorem Rep.stay (e : Stays K φ H φ' H') : ∀ (d : D) (v : V), Rep K φ H d v → Rep K φ' H' d v
  | .non, _, h => h
  | .bl _, _, h => h
  | .int _, _, h => h
  | .str _, _, h => h
  | .ref n, v, h => by
    unfold Rep at h ⊢
    obtain ⟨a, h1, h2⟩ := h
    exact ⟨a, e.ix _ _ h1, h2⟩
  | .tup l, v, h => by
    unfold Rep at h ⊢
    obtain ⟨a, vs, h1, h2, h3⟩ := h
    exact ⟨a, vs, h1, e.tup _ _ h2, RepL.stay e l vs h3⟩
  | .scr ns, v, h => by
    unfold Rep at h ⊢
    obtain ⟨a, h1, h2⟩ := h
    exact ⟨a, h1, e.fro _ _ h2⟩
  | .pl l, v, h => by
    unfold Rep at h ⊢
    obtain ⟨a, vs, h1, h2, h3⟩ := h
    exact ⟨a, vs, h1, e.pul _ _ h2, RepL.stay e l vs h3⟩
theorem RepL.stay (e : Stays K φ H φ' H') : ∀ (d : List D) (v : List V), RepL K φ H d v → RepL K φ' H' d v
  | [], _, h => h
  | d :: ds, vs, h => by
    unfold RepL at h ⊢
    obtain ⟨v, r, h1, h2, h3⟩ := h
    exact ⟨v, r, h1, Rep.stay e d v h2, RepL.stay e ds r h3⟩
end
theorem RepKV.stay {κ : Type} (e : Stays K φ H φ' H') : ∀ (d : List (κ × D)) (v : List (κ × V)), RepKV K φ H d v → RepKV K φ' H' d v
  | [], _, h => h
  | d :: ds, vs, h => by
    unfold RepKV at h ⊢
    obtain ⟨v, r, h1, h2, h3⟩ := h
    exact ⟨v, r, h1, Rep.stay e d.2 v h2, RepKV.stay e ds r h3⟩
theorem FrRel.stay {σ : L2.St} {ρ : Fr} (e : Stays K φ H φ' H') (f : FrRel K φ H σ ρ) : FrRel K φ' H' σ ρ := ⟨f.1, fun i d h => by
  obtain ⟨v, h1, h2⟩ := f.2 i d h
  exact ⟨v, h1, h2.stay e⟩⟩
end

def PostW {α : Type} (K : PySem.W.Frag) (c : Cl) (W : WX) (σ : L2.St) (φ : List Addr) (H : Hp) (good : α → Sto → List Addr → Hp → Prop) : R α → Prop
  | .ok d S' => ∀ φ' H', Ext φ H φ' H' → Rel K c φ' S' H' → good d S' φ' H'
  | .ex k S' => ∀ φ' H', Ext φ H φ' H' → Rel K c φ' S' H' → W (.ref (c.cl k)) none σ H'
  | .no => False
section
variable {K : PySem.W.Frag} {c : Cl} {W : WX} {σ : L2.St} {φ φ' φ1 : List Addr} {H H' H1 : Hp} {α β : Type} {good : α → Sto → List Addr → Hp → Prop} {good' : β → Sto → List Addr → Hp → Prop}
theorem PostW.from {r : R α} (e : Ext φ H φ1 H1) (h : PostW K c W σ φ H good r) : PostW K c W σ φ1 H1 good r := by
  cases r with
  | ok d S' => exact fun φ' H' e' r' => h φ' H' (e.trans e') r'
  | ex k S' => exact fun φ' H' e' r' => h φ' H' (e.trans e') r'
  | no => exact h
theorem PostW.elim {r : R β} {f : β → Sto → R α} (h : PostW K c W σ φ H good (r.bind f))
    (k : ∀ a S1 φ1 H1, Ext φ H φ1 H1 → Rel K c φ1 S1 H1 → PostW K c W σ φ1 H1 good (f a S1) → good' a S1 φ1 H1) : PostW K c W σ φ H good' r := by
  cases r with
  | ok d S' => exact fun φ1 H1 e1 r1 => k d S' φ1 H1 e1 r1 (PostW.from e1 h)
  | ex k S' => exact h
  | no => exact h
theorem PostW.here {a : α} {S : Sto} (r : Rel K c φ S H) (h : PostW K c W σ φ H good (.ok a S)) : good a S φ H := h φ H (Ext.refl r.nd) r
theorem PostW.imp {r : R α} {good2 : α → Sto → List Addr → Hp → Prop} (h : PostW K c W σ φ H good r) (k : ∀ a S φ' H', good a S φ' H' → good2 a S φ' H') : PostW K c W σ φ H good2 r := by
  cases r with
  | ok d S' => exact fun φ' H' e' r' => k _ _ _ _ (h φ' H' e' r')
  | ex k S' => exact h
  | no => exact h
end

/-- a value, a test, arguments, a list to be read, a new list -/
abbrev gE (K : PySem.W.Frag) (Q : VK) : D → Sto → List Addr → Hp → Prop := fun d _ φ H => ∀ v, Rep K φ H d v → Q v H
abbrev gT (Q : Bool → Hp → Prop) : Bool → Sto → List Addr → Hp → Prop := fun b _ _ H => Q b H
abbrev gA (K : PySem.W.Frag) (Q : List V → Hp → Prop) : List D → Sto → List Addr → Hp → Prop := fun ds _ φ H => ∀ vs, RepL K φ H ds vs → Q vs H
abbrev gL (K : PySem.W.Frag) (Q : VK) : List D → Sto → List Addr → Hp → Prop := fun ds _ φ H => ∀ a vs, SqL K H a vs → RepL K φ H ds vs → Q (.ref a) H
abbrev gN (K : PySem.W.Frag) (H0 : Hp) (Q : VK) : List D → Sto → List Addr → Hp → Prop := fun ds _ φ H => ∀ a vs, H0 a = none → H a = some (.lst vs) → a ∉ φ → RepL K φ H ds vs → Q (.ref a) H

def DE (X : Cx) (c : Cl) (W : WX) (e : Expr) (m : ME) : Prop :=
  ∃ t, PE X e t ∧ ∀ φ σ H ρ S Q, Rel X.K c φ S H → FrRel X.K φ H σ ρ → PostW X.K c W σ φ H (gE X.K Q) (m ρ S) → t σ H Q
def DT (X : Cx) (c : Cl) (W : WX) (e : Expr) (m : MT) : Prop :=
  ∃ t, PT X e t ∧ ∀ φ σ H ρ S Q, Rel X.K c φ S H → FrRel X.K φ H σ ρ → PostW X.K c W σ φ H (gT Q) (m ρ S) → t σ H Q
/-- and, or as tests -/
def DW (X : Cx) (c : Cl) (W : WX) (e : Expr) (m : MT) : Prop :=
  ∃ t, PW X e t ∧ ∀ φ σ H ρ S Q, Rel X.K c φ S H → FrRel X.K φ H σ ρ → PostW X.K c W σ φ H (gT Q) (m ρ S) → t σ H Q
def DA (X : Cx) (c : Cl) (W : WX) (es : List Expr) (m : ML) : Prop :=
  ∃ t, PA X es t ∧ ∀ φ σ H ρ S Q, Rel X.K c φ S H → FrRel X.K φ H σ ρ → PostW X.K c W σ φ H (gA X.K Q) (m ρ S) → t σ H Q
def DL (X : Cx) (c : Cl) (W : WX) (e : Expr) (m : ML) : Prop :=
  ∃ t, PE X e t ∧ ∀ φ σ H ρ S Q, Rel X.K c φ S H → FrRel X.K φ H σ ρ → PostW X.K c W σ φ H (gL X.K Q) (m ρ S) → t σ H Q
def DN (X : Cx) (c : Cl) (W : WX) (e : Expr) (m : ML) : Prop :=
  ∃ t, PE X e t ∧ ∀ φ σ H ρ S Q, Rel X.K c φ S H → FrRel X.K φ H σ ρ → PostW X.K c W σ φ H (gN X.K H Q) (m ρ S) → t σ H Q

def eVar (i : Nat) : ME := fun ρ S => match ρ[i]? with
  | some (some d) => .ok d S
  | _ => .no
def eC (d : D) : ME := fun _ S => .ok d S
section
variable {X : Cx} {c : Cl} {W : WX}
theorem de_var {i : Nat} {x : Str} {pos : Pos} (h : PE X (.Name x pos) (tVar i)) : DE X c W (.Name x pos) (eVar i) := by
  refine ⟨_, h, fun φ σ H ρ S Q r f p => ?_⟩
  unfold eVar at p
  split at p
  · rename_i d e
    obtain ⟨v, h1, h2⟩ := f.2 i d e
    exact ⟨v, h1, PostW.here r p v h2⟩
  · exact False.elim p
/-- a constant without an address -/
theorem de_c {e : Expr} {v : V} {d : D} (h : PE X e (tC v)) (hv : ∀ φ H, Rep X.K φ H d v) : DE X c W e (eC d) :=
  ⟨_, h, fun φ σ H ρ S Q r f p => PostW.here r p v (hv φ H)⟩
theorem de_int {i j pos} : DE X c W (.Constant (.int i) j pos) (eC (.int i)) := de_c pe_int fun _ _ => by unfold Rep; rfl
theorem de_bl {i j pos} : DE X c W (.Constant (.bool i) j pos) (eC (.bl i)) := de_c pe_bl fun _ _ => by unfold Rep; rfl
theorem de_str {i j pos} : DE X c W (.Constant (.str i) j pos) (eC (.str i)) := de_c pe_str fun _ _ => by unfold Rep; rfl
theorem de_non {j pos} : DE X c W (.Constant .none j pos) (eC .non) := de_c pe_non fun _ _ => by unfold Rep; rfl
end

/-- rules that may lock what is new -/
theorem PostW.frz {K : PySem.W.Frag} {c : Cl} {W : WX} {σ : L2.St} {φ : List Addr} {H : Hp} {Q : VK} {r : R D} (h : PostW K c W σ φ H (gE K Q) r) : PostW K c W σ φ H (gE K fun v H' => FrzTo H' (Q v)) r :=
  h.imp fun _ _ _ _ g v hv => FrzTo.nil (g v hv)
abbrev F1 := D → Sto → R D
abbrev F2 := D → D → Sto → R D
def eUn (f : F1) (a : ME) : ME := fun ρ S => (a ρ S).bind f
def eBin (f : F2) (a b : ME) : ME := fun ρ S => (a ρ S).bind fun x S1 => (b ρ S1).bind fun y S2 => f x y S2
/-- f is what the rule r says -/
def Fits2 (K : PySem.W.Frag) (c : Cl) (r : R2) (f : F2) : Prop := ∀ W σ φ H S x y dx dy Q, Rel K c φ S H → Rep K φ H dx x → Rep K φ H dy y → PostW K c W σ φ H (gE K Q) (f dx dy S) → r x y H Q
/-- the same, with locking -/
def Fits2F (K : PySem.W.Frag) (c : Cl) (r : R2) (f : F2) : Prop := ∀ W σ φ H S x y dx dy Q, Rel K c φ S H → Rep K φ H dx x → Rep K φ H dy y → PostW K c W σ φ H (gE K Q) (f dx dy S) → r x y H (fun v H' => FrzTo H' (Q v))
theorem Fits2.frz {K : PySem.W.Frag} {c : Cl} {r : R2} {f : F2} (h : Fits2 K c r f) : Fits2F K c r f := fun W σ φ H S x y dx dy Q r hx hy p => h W σ φ H S x y dx dy _ r hx hy p.frz
section
variable {X : Cx} {c : Cl} {W : WX} {a b : Expr} {ma mb : ME} {pos : Pos}
theorem de_binF {op : Operator} {r : R2} {f : F2} (ho : OpR X (binaryOp op) r) (hf : Fits2F X.K c r f) (ha : DE X c W a ma) (hb : DE X c W b mb) : DE X c W (.BinOp a op b pos) (eBin f ma mb) := by
  obtain ⟨ta, pa, ha⟩ := ha
  obtain ⟨tb, pb, hb⟩ := hb
  refine ⟨_, pe_frz (pe_op ho pa pb), fun φ σ H ρ S Q r f p => ?_⟩
  refine ha φ σ H ρ S _ r f (PostW.elim p fun d S1 φ1 H1 e1 r1 p1 => fun x hx => ?_)
  refine hb φ1 σ H1 ρ S1 _ r1 (f.stay (e1.stays r)) (PostW.elim p1 fun d2 S2 φ2 H2 e2 r2 p2 => fun y hy => ?_)
  exact hf W σ φ2 H2 S2 x y _ _ Q r2 (hx.stay (e2.stays r1)) hy p2
theorem de_bin {op : Operator} {r : R2} {f : F2} (ho : OpR X (binaryOp op) r) (hf : Fits2 X.K c r f) (ha : DE X c W a ma) (hb : DE X c W b mb) : DE X c W (.BinOp a op b pos) (eBin f ma mb) := by
  obtain ⟨ta, pa, ha⟩ := ha
  obtain ⟨tb, pb, hb⟩ := hb
  refine ⟨_, pe_op ho pa pb, fun φ σ H ρ S Q r f p => ?_⟩
  refine ha φ σ H ρ S _ r f (PostW.elim p fun d S1 φ1 H1 e1 r1 p1 => fun x hx => ?_)
  refine hb φ1 σ H1 ρ S1 _ r1 (f.stay (e1.stays r)) (PostW.elim p1 fun d2 S2 φ2 H2 e2 r2 p2 => fun y hy => ?_)
  exact hf W σ φ2 H2 S2 x y _ _ Q r2 (hx.stay (e2.stays r1)) hy p2
theorem de_cmp {op : CmpOp} {r : R2} {f : F2} (ho : OpR X (compareOp op) r) (hf : Fits2 X.K c r f) (ha : DE X c W a ma) (hb : DE X c W b mb) (hm : behindInMarks op b = false) : DE X c W (.Compare a [op] [b] pos) (eBin f ma mb) := by
  obtain ⟨ta, pa, ha⟩ := ha
  obtain ⟨tb, pb, hb⟩ := hb
  refine ⟨_, pe_cmpR ho pa pb hm, fun φ σ H ρ S Q r f p => ?_⟩
  refine ha φ σ H ρ S _ r f (PostW.elim p fun d S1 φ1 H1 e1 r1 p1 => fun x hx => ?_)
  refine hb φ1 σ H1 ρ S1 _ r1 (f.stay (e1.stays r)) (PostW.elim p1 fun d2 S2 φ2 H2 e2 r2 p2 => fun y hy => ?_)
  exact hf W σ φ2 H2 S2 x y _ _ Q r2 (hx.stay (e2.stays r1)) hy p2
end
end MM

namespace MM
open PySem PySem.Spec PyProof.Rows L2
section
variable {K : PySem.W.Frag} {c : Cl} {φ φ' φ1 φ2 : List Addr} {H H' H1 H2 : Hp} {S S' : Sto} {a p : Addr} {o : O} {u : HO}
theorem RepO.stay (e : Stays K φ H φ' H') (h : H' a = H a) (r : RepO K c φ H a o) : RepO K c φ' H' a o := by
  cases o with
  | lst fz l =>
    obtain ⟨vs, h1, h2⟩ := r
    refine ⟨vs, h1.stay e, ?_⟩
    rw [h]; exact h2
  | dct fz l =>
    obtain ⟨vs, h1, h2⟩ := r
    refine ⟨vs, h1.stay e, ?_⟩
    rw [h]; exact h2
  | ins k fs =>
    obtain ⟨dx, vs, h1, h2⟩ := r
    refine ⟨dx, vs, h1.stay e, ?_⟩
    rw [h]; exact h2
theorem stays_free (h : H p = none) : Stays K φ H φ (upd H p u) := ⟨fun _ _ q => q, fun a xs q => by
  rcases q with (q | ⟨ob, q⟩) | q
  · exact .inl (.inl (by rw [upd_ne (ne_of_none q h)]; exact q))
  · exact .inl (.inr ⟨ob, by rw [upd_ne (ne_of_none q h)]; exact q⟩)
  · exact .inr q, fun a xs q => by
  obtain ⟨n, o, q⟩ := q
  exact ⟨n, o, by rw [upd_ne (ne_of_none q h)]; exact q⟩⟩
/-- a new object that the store does not know -/
theorem Rel.fresh (r : Rel K c φ S H) (h : H p = none) : Ext φ H φ (upd H p u) ∧ Rel K c φ S (upd H p u) := by
  refine ⟨⟨⟨[], by simp, by simp⟩, r.nd, fun a o e _ => by rw [upd_ne (ne_of_none e h)]; exact e, fun a ob u e => by rw [upd_ne (ne_of_none e h)]; exact e⟩, r.len, r.nd, fun n a o h1 h2 => ?_⟩
  refine (r.obj n a o h1 h2).stay (stays_free h) (upd_ne ?_)
  obtain ⟨w, hw, _⟩ := (r.obj n a o h1 h2).some
  exact ne_of_none hw h
theorem Ext.fresh (nd : φ.Nodup) (h : H p = none) : Ext φ H φ (upd H p u) :=
  ⟨⟨[], by simp, by simp⟩, nd, fun a o e _ => by rw [upd_ne (ne_of_none e h)]; exact e, fun a ob u e => by rw [upd_ne (ne_of_none e h)]; exact e⟩
theorem stays_write (r : Rel K c φ S H) {n : Nat} (h1 : φ[n]? = some a) : Stays K φ H φ (upd H a u) := by
  refine ⟨fun _ _ q => q, fun b xs q => ?_, fun b xs q => ?_⟩
  rotate_left
  · obtain ⟨n, o, q⟩ := q
    exact ⟨n, o, by rw [upd_ne (fun e => n (by rw [e]; exact List.mem_of_getElem? h1))]; exact q⟩
  rcases q with q | q
  · have nb : b ≠ a := fun e => r.tupNot q (by rw [e]; exact List.mem_of_getElem? h1)
    rcases q with q | ⟨ob, q⟩
    · exact .inl (.inl (by rw [upd_ne nb]; exact q))
    · exact .inl (.inr ⟨ob, by rw [upd_ne nb]; exact q⟩)
  · exact .inr q
theorem nodup_ne {l : List Addr} (nd : l.Nodup) {n m : Nat} {a b : Addr} (h1 : l[n]? = some a) (h2 : l[m]? = some b) (h : n ≠ m) : b ≠ a := by
  intro e
  subst e
  obtain ⟨i1, e1⟩ := List.getElem?_eq_some_iff.mp h1
  obtain ⟨i2, e2⟩ := List.getElem?_eq_some_iff.mp h2
  exact h ((List.getElem_inj nd).mp (e1.trans e2.symm))
/-- an object of the store is changed -/
theorem Rel.write (r : Rel K c φ S H) {n : Nat} (h1 : φ[n]? = some a) (ho : RepO K c φ (upd H a u) a o) (hz : ∀ ob w, H a ≠ some (.frz ob w)) : Ext φ H φ (upd H a u) ∧ Rel K c φ (S.set n o) (upd H a u) := by
  refine ⟨⟨⟨[], by simp, by simp⟩, r.nd, fun b w e nb => by rw [upd_ne (fun q => nb (by rw [q]; exact List.mem_of_getElem? h1))]; exact e, fun b ob w e => by rw [upd_ne (fun q => hz ob w (by rw [← q]; exact e))]; exact e⟩, by simp [r.len], r.nd, fun m b o' h2 h3 => ?_⟩
  by_cases hm : n = m
  · subst hm
    rw [h1] at h2
    cases h2
    rw [List.getElem?_set_self (by rw [← r.len]; exact (List.getElem?_eq_some_iff.mp h1).1)] at h3
    cases h3
    exact ho
  · rw [List.getElem?_set_ne hm] at h3
    exact (r.obj m b o' h2 h3).stay (stays_write r h1) (upd_ne (nodup_ne r.nd h1 h2 hm))
theorem Ext.back (e : Ext φ H φ' H') (r : Rel K c φ' S' H') (h : H' p = none) : H p = none := by
  cases q : H p with
  | none => rfl
  | some o =>
    by_cases n : p ∈ φ
    · obtain ⟨ψ, e1, _⟩ := e.more
      exact absurd (by rw [e1]; exact List.mem_append_left _ n) (r.free h)
    · rw [e.keep p o q n] at h
      cases h
theorem RepL.length : ∀ {ds : List D} {vs : List V}, RepL K φ H ds vs → ds.length = vs.length
  | [], vs, h => by unfold RepL at h; subst h; rfl
  | d :: ds, vs, h => by
    unfold RepL at h
    obtain ⟨v, r, rfl, _, h3⟩ := h
    simp [RepL.length h3]
theorem RepL.append : ∀ {ds es : List D} {vs us : List V}, RepL K φ H ds vs → RepL K φ H es us → RepL K φ H (ds ++ es) (vs ++ us)
  | [], es, vs, us, h, g => by unfold RepL at h; subst h; exact g
  | d :: ds, es, vs, us, h, g => by
    unfold RepL at h
    obtain ⟨v, r, rfl, h2, h3⟩ := h
    show RepL K φ H (d :: (ds ++ es)) _
    unfold RepL
    exact ⟨v, r ++ us, rfl, h2, RepL.append h3 g⟩
theorem RepL.nil : RepL K φ H [] [] := by unfold RepL; rfl
theorem RepL.cons {d : D} {ds : List D} {v : V} {vs : List V} (h : Rep K φ H d v) (g : RepL K φ H ds vs) : RepL K φ H (d :: ds) (v :: vs) := by
  unfold RepL
  exact ⟨v, vs, rfl, h, g⟩
theorem RepL.uncons {d : D} {ds : List D} {vs : List V} (h : RepL K φ H (d :: ds) vs) : ∃ v r, vs = v :: r ∧ Rep K φ H d v ∧ RepL K φ H ds r := by
  unfold RepL at h
  exact h
theorem RepL.isNil {vs : List V} (h : RepL K φ H [] vs) : vs = [] := by
  unfold RepL at h
  exact h
theorem RepL.get : ∀ {ds : List D} {vs : List V} {i : Nat} {d : D}, RepL K φ H ds vs → ds[i]? = some d → ∃ v, vs[i]? = some v ∧ Rep K φ H d v
  | [], _, _, _, _, e => by simp at e
  | d :: ds, vs, 0, d', h, e => by
    obtain ⟨v, r, rfl, h2, h3⟩ := h.uncons
    simp at e
    subst e
    exact ⟨v, rfl, h2⟩
  | d :: ds, vs, i + 1, d', h, e => by
    obtain ⟨v, r, rfl, h2, h3⟩ := h.uncons
    simpa using RepL.get h3 (by simpa using e)
theorem RepL.take : ∀ {ds : List D} {vs : List V} (i : Nat), RepL K φ H ds vs → RepL K φ H (ds.take i) (vs.take i)
  | ds, vs, 0, h => by simp; exact RepL.nil
  | [], vs, i + 1, h => by rw [h.isNil]; simp; exact RepL.nil
  | d :: ds, vs, i + 1, h => by
    obtain ⟨v, r, rfl, h2, h3⟩ := h.uncons
    simp
    exact RepL.cons h2 (RepL.take i h3)
theorem RepL.drop : ∀ {ds : List D} {vs : List V} (i : Nat), RepL K φ H ds vs → RepL K φ H (ds.drop i) (vs.drop i)
  | ds, vs, 0, h => by simpa using h
  | [], vs, i + 1, h => by rw [h.isNil]; simp; exact RepL.nil
  | d :: ds, vs, i + 1, h => by
    obtain ⟨v, r, rfl, h2, h3⟩ := h.uncons
    simp
    exact RepL.drop i h3
theorem RepL.set : ∀ {ds : List D} {vs : List V} {d : D} {v : V} (i : Nat), RepL K φ H ds vs → Rep K φ H d v → RepL K φ H (ds.set i d) (vs.set i v)
  | [], vs, d, v, i, h, g => by rw [h.isNil]; simp; exact RepL.nil
  | d :: ds, vs, d', v', 0, h, g => by
    obtain ⟨v, r, rfl, h2, h3⟩ := h.uncons
    simp
    exact RepL.cons g h3
  | d :: ds, vs, d', v', i + 1, h, g => by
    obtain ⟨v, r, rfl, h2, h3⟩ := h.uncons
    simp
    exact RepL.cons h2 (RepL.set i h3 g)
theorem RepL.flatRep {ds : List D} {vs : List V} (h : RepL K φ H ds vs) : ∀ n : Nat, RepL K φ H (List.replicate n ds).flatten (List.replicate n vs).flatten
  | 0 => by simp; exact RepL.nil
  | n + 1 => by
    rw [List.replicate_succ, List.replicate_succ, List.flatten_cons, List.flatten_cons]
    exact RepL.append h (RepL.flatRep h n)
theorem Rep.int_ {i : Int} {v : V} (h : Rep K φ H (.int i) v) : v = .int i := by unfold Rep at h; exact h
theorem Rep.bl_ {i : Bool} {v : V} (h : Rep K φ H (.bl i) v) : v = .bl i := by unfold Rep at h; exact h
theorem Rep.str_ {i : Str} {v : V} (h : Rep K φ H (.str i) v) : v = .str i := by unfold Rep at h; exact h
theorem Rep.non_ {v : V} (h : Rep K φ H .non v) : v = .non := by unfold Rep at h; exact h
theorem Rep.tup_ {l : List D} {v : V} (h : Rep K φ H (.tup l) v) : ∃ a vs, v = .ref a ∧ SqT K H a vs ∧ RepL K φ H l vs := by unfold Rep at h; exact h
theorem Rep.ref_ {n : Nat} {v : V} (h : Rep K φ H (.ref n) v) : ∃ a, φ[n]? = some a ∧ v = .ref a := by unfold Rep at h; exact h
theorem Rep.scr_ {l : List Int} {v : V} (h : Rep K φ H (.scr l) v) : ∃ a, v = .ref a ∧ Fro K φ H a (l.map V.int) := by unfold Rep at h; exact h
theorem Rep.pl_ {l : List D} {v : V} (h : Rep K φ H (.pl l) v) : ∃ a vs, v = .ref a ∧ Pul φ H a vs ∧ RepL K φ H l vs := by unfold Rep at h; exact h
theorem rep_pl {l : List D} {vs : List V} {a : Addr} (h : Pul φ H a vs) (g : RepL K φ H l vs) : Rep K φ H (.pl l) (.ref a) := by unfold Rep; exact ⟨a, vs, rfl, h, g⟩
theorem rep_int {i : Int} : Rep K φ H (.int i) (.int i) := by unfold Rep; rfl
theorem rep_bl {i : Bool} : Rep K φ H (.bl i) (.bl i) := by unfold Rep; rfl
theorem rep_str {i : Str} : Rep K φ H (.str i) (.str i) := by unfold Rep; rfl
theorem rep_non : Rep K φ H .non .non := by unfold Rep; rfl
theorem rep_tup {l : List D} {vs : List V} {a : Addr} (h : SqT K H a vs) (g : RepL K φ H l vs) : Rep K φ H (.tup l) (.ref a) := by unfold Rep; exact ⟨a, vs, rfl, h, g⟩
theorem rep_ref {n : Nat} {a : Addr} (h : φ[n]? = some a) : Rep K φ H (.ref n) (.ref a) := by unfold Rep; exact ⟨a, h, rfl⟩
/-- a list of the store -/
theorem Rel.lst (r : Rel K c φ S H) {n : Nat} {l : List D} (h1 : φ[n]? = some a) {fz : Bool} (h2 : S[n]? = some (.lst fz l)) : ∃ vs, RepL K φ H l vs ∧ SqL K H a vs ∧ (fz = false → H a = some (.lst vs)) := by
  obtain ⟨vs, g, h⟩ := r.obj n a _ h1 h2
  refine ⟨vs, g, ?_, fun e => ?_⟩
  · split at h
    · exact .inl (.inr h)
    · exact .inl (.inl h)
  · subst e
    simpa using h
end

/-- a new tuple -/
theorem post_tup {K : PySem.W.Frag} {c : Cl} {W : WX} {σ : L2.St} {φ : List Addr} {H : Hp} {S : Sto} {Q : VK} {l : List D} {vs : List V} {p : Addr} (r : Rel K c φ S H) (g : RepL K φ H l vs) (hp : H p = none)
    (h : PostW K c W σ φ H (gE K Q) (.ok (.tup l) S)) : Q (.ref p) (upd H p (.tup vs)) := by
  obtain ⟨e, r'⟩ := r.fresh (u := .tup vs) hp
  exact h φ _ e r' _ (rep_tup (SqT.of upd_same) (g.stay (stays_free hp)))
/-- an object that the store does not know is locked -/
theorem Rel.lock {K : PySem.W.Frag} {c : Cl} {φ : List Addr} {S : Sto} {H : Hp} (r : Rel K c φ S H) {p : Addr} {vs : List V} {ob : Obj} (hp : H p = some (.lst vs)) (hn : p ∉ φ) : Rel K c φ S (upd H p (.frz ob (.lst vs))) ∧ Stays K φ H φ (upd H p (.frz ob (.lst vs))) := by
  have st : Stays K φ H φ (upd H p (.frz ob (.lst vs))) := ⟨fun _ _ q => q, fun b zs q => by
    rcases q with (q | ⟨o, q⟩) | q
    · exact .inl (.inl (by rw [upd_ne (fun e => by rw [e, hp] at q; cases q)]; exact q))
    · exact .inl (.inr ⟨o, by rw [upd_ne (fun e => by rw [e, hp] at q; cases q)]; exact q⟩)
    · exact .inr q, fun b zs q => by
    obtain ⟨n, o, q⟩ := q
    exact ⟨n, o, by rw [upd_ne (fun e => by rw [e, hp] at q; cases q)]; exact q⟩⟩
  refine ⟨⟨r.len, r.nd, fun m b o h1 h2 => (r.obj m b o h1 h2).stay st (upd_ne fun e => hn (by rw [← e]; exact List.mem_of_getElem? h1))⟩, st⟩
theorem frzBy_one {H H' : Hp} {p : Addr} (h : FrzBy [p] H H') : ∃ ob vs, H p = some (.lst vs) ∧ H' = upd H p (.frz ob (.lst vs)) := by
  obtain ⟨ob, vs, h1, h2⟩ := h.2 p (by simp)
  refine ⟨ob, vs, h1, ?_⟩
  funext b
  by_cases e : b = p
  · subst e; rw [upd_same, h2]
  · rw [upd_ne e, h.1 b (by simpa using e)]
/-- a new list that is locked at once -/
theorem post_pl {K : PySem.W.Frag} {c : Cl} {W : WX} {σ : L2.St} {φ : List Addr} {H : Hp} {S : Sto} {Q : VK} {l : List D} {vs : List V} {p : Addr} (r : Rel K c φ S H) (g : RepL K φ H l vs) (hp : H p = none)
    (h : PostW K c W σ φ H (gE K Q) (.ok (.pl l) S)) : FrzTo (upd H p (.lst vs)) (Q (.ref p)) := by
  refine ⟨[p], fun a ha => by rw [List.mem_singleton.mp ha]; exact ⟨vs, upd_same⟩, fun H' f => ?_⟩
  obtain ⟨ob, vs', h1, rfl⟩ := frzBy_one f
  rw [upd_same] at h1
  cases h1
  rw [upd_upd]
  obtain ⟨e, r'⟩ := r.fresh (u := .frz ob (.lst vs)) hp
  exact h φ _ e r' _ (rep_pl ⟨r.free hp, ob, upd_same⟩ (g.stay (stays_free hp)))
/-- what stands in a list, of the store or locked -/
def lstOf (S : Sto) : D → Option (List D)
  | .pl l => some l
  | .ref n => match S[n]? with
    | some (.lst _ l) => some l
    | _ => none
  | _ => none
theorem lstOf_rd {K : PySem.W.Frag} {c : Cl} {φ : List Addr} {H : Hp} {S : Sto} {d : D} {v : V} {l : List D} (r : Rel K c φ S H) (h : Rep K φ H d v) (e : lstOf S d = some l) : ∃ a vs, v = .ref a ∧ Rd H a (.lst vs) ∧ RepL K φ H l vs := by
  cases d with
  | pl l' =>
    cases e
    obtain ⟨a, vs, rfl, h1, h2⟩ := h.pl_
    exact ⟨a, vs, rfl, h1.rd, h2⟩
  | ref n =>
    simp only [lstOf] at e
    split at e
    · rename_i fz l' hl
      cases e
      obtain ⟨a, i1, rfl⟩ := h.ref_
      obtain ⟨vs, g, h⟩ := r.obj n a _ i1 hl
      refine ⟨a, vs, rfl, ?_, g⟩
      split at h
      · exact .inr h
      · exact .inl h
    · cases e
  | _ => cases e
/-- the sum of lists is never written -/
def addD : F2
  | .int i, .int j, S => .ok (.int (i + j)) S
  | .str x, .str y, S => if x.length + y.length ≤ sizeLine then .ok (.str (x ++ y)) S else .no
  | .tup a, .tup b, S => if a.length + b.length ≤ sizeLine then .ok (.tup (a ++ b)) S else .no
  | x, y, S => match lstOf S x, lstOf S y with
    | some a, some b => if a.length + b.length ≤ sizeLine then .ok (.pl (a ++ b)) S else .no
    | _, _ => .no
def rAddA (K : PySem.W.Frag) : R2 := fun x y H Q => (∃ i j, x = .int i ∧ y = .int j ∧ Q (.int (i + j)) H) ∨ (∃ i j, x = .str i ∧ y = .str j ∧ i.length + j.length ≤ sizeLine ∧ Q (.str (i ++ j)) H) ∨ rCatA K x y H Q ∨ rCatR x y H Q
theorem op_addA {X : Cx} : OpR X (binaryOp .Add) (rAddA X.K) := op_add.or (op_add_str.or (op_catA.or op_catR))
theorem fits_add_tup {K : PySem.W.Frag} {c : Cl} {W : WX} {σ : L2.St} {φ : List Addr} {H : Hp} {S : Sto} {Q : VK} {a b : List D} {x y : V} (r : Rel K c φ S H) (hx : Rep K φ H (.tup a) x) (hy : Rep K φ H (.tup b) y) (hz : a.length + b.length ≤ sizeLine)
    (p : PostW K c W σ φ H (gE K Q) (.ok (.tup (a ++ b)) S)) : rCatA K x y H Q := by
  obtain ⟨a1, v1, rfl, s1, g1⟩ := hx.tup_
  obtain ⟨a2, v2, rfl, s2, g2⟩ := hy.tup_
  have e1 := g1.length
  have e2 := g2.length
  refine ⟨a1, a2, v1, v2, rfl, rfl, s1, s2, by omega, fun e => ?_, fun _ e => ?_, fun _ _ q hq => ?_⟩
  · subst e
    have z : a = [] := List.eq_nil_of_length_eq_zero (by simpa using e1)
    subst z
    exact PostW.here r p _ (rep_tup s2 (by simpa using g2))
  · subst e
    have z : b = [] := List.eq_nil_of_length_eq_zero (by simpa using e2)
    subst z
    exact PostW.here r p _ (rep_tup s1 (by simpa using g1))
  · exact post_tup r (g1.append g2) hq p
theorem fits_add {K : PySem.W.Frag} {c : Cl} : Fits2F K c (rAddA K) addD := by
  intro W σ φ H S x y dx dy Q r hx hy p
  unfold addD at p
  split at p
  · rw [hx.int_, hy.int_]
    exact .inl ⟨_, _, rfl, rfl, PostW.here r p.frz _ rep_int⟩
  · split at p
    · rename_i hz
      rw [hx.str_, hy.str_]
      exact .inr (.inl ⟨_, _, rfl, rfl, hz, PostW.here r p.frz _ rep_str⟩)
    · exact False.elim p
  · split at p
    · rename_i hz
      exact .inr (.inr (.inl (fits_add_tup r hx hy hz p.frz)))
    · exact False.elim p
  · split at p
    · split at p
      · rename_i h1 h2 hz
        obtain ⟨a1, v1, rfl, s1, g1⟩ := lstOf_rd r hx h1
        obtain ⟨a2, v2, rfl, s2, g2⟩ := lstOf_rd r hy h2
        have e1 := g1.length
        have e2 := g2.length
        refine .inr (.inr (.inr ⟨a1, a2, v1, v2, rfl, rfl, s1, s2, by omega, fun q hq => ?_⟩))
        exact post_pl r (g1.append g2) hq p
      · exact False.elim p
    · exact False.elim p
end MM

namespace MM
open PySem PySem.Spec PyProof.Rows L2

def subD : F2
  | .int i, .int j, S => .ok (.int (i - j)) S
  | _, _, _ => .no
theorem fits_sub {K : PySem.W.Frag} {c : Cl} : Fits2 K c (rI0 fun i j => .int (i - j)) subD := by
  intro W σ φ H S x y dx dy Q r hx hy p
  unfold subD at p
  split at p
  · rw [hx.int_, hy.int_]
    exact ⟨_, _, rfl, rfl, PostW.here r p _ rep_int⟩
  · exact False.elim p
/-- a text n times -/
def repS (x : Str) (n : Nat) : Str := ⟨(List.replicate n x.cps).foldl (· ++ ·) #[]⟩
theorem fold_len : ∀ (l : List (Array Nat)) (a : Array Nat), (l.foldl (· ++ ·) a).toList = a.toList ++ (l.map Array.toList).flatten
  | [], a => by simp
  | x :: l, a => by
    rw [List.foldl_cons, fold_len l (a ++ x)]
    simp
theorem repS_list (x : Str) (n : Nat) : (repS x n).cps.toList = (List.replicate n x.cps.toList).flatten := by
  unfold repS
  rw [fold_len, List.map_replicate]
  simp
theorem repS_len (x : Str) (n : Nat) : (repS x n).length = n * x.length := by
  have h : (repS x n).length = (repS x n).cps.toList.length := by simp [Str.length]
  rw [h, repS_list]
  simp [Str.length]
def rRepS : R2 := fun x y H Q => ∃ a k, x = .str a ∧ y = .int k ∧ 1 ≤ a.length ∧ a.length ≤ 1000 ∧ 2 ≤ k ∧ k ≤ 1000 ∧ Q (.str (repS a k.toNat)) H
theorem op_repS {X : Cx} : OpR X (binaryOp .Mult) rRepS := by
  intro pins s σ H x y v u Q I rx ry h
  obtain ⟨a, k, rfl, rfl, h1, h2, h3, h4, q⟩ := h
  obtain ⟨t, rfl⟩ := rx
  obtain ⟨t', rfl⟩ := ry
  have hm : a.length * k.toNat ≤ 1000 * 1000 := Nat.mul_le_mul h2 (by omega)
  have c0 : (decide (k < -(2 ^ 63)) || decide (k ≥ 2 ^ 63)) = false := by
    rw [decide_eq_false (by omega), decide_eq_false (by omega)] <;> rfl
  refine PySem.P.mul_str c0 (fun _ _ => ?_) (fun _ _ => ?_) ?_
  · have hd : (1000 : Int) ≤ (2 ^ 63 - 1) / k := (Int.le_ediv_iff_mul_le (by omega)).mpr (by omega)
    omega
  · unfold Builtin.Str.tooLong
    exact decide_eq_false (by rw [sizeLine_eq]; omega)
  · have e1 : (k == 1 || a.length == 0) = false := by
      rw [beq_eq_false_iff_ne.mpr (show k ≠ 1 by omega), beq_eq_false_iff_ne.mpr (show a.length ≠ 0 by omega)]
      rfl
    rw [if_neg (show ¬ k < 1 by omega), e1, if_neg (by decide)]
    refine ⟨?_, .str (repS a k.toNat), H, I.tok _, ⟨_, rfl⟩, q⟩
    show (repS a k.toNat).length ≤ sizeLine
    rw [repS_len, Nat.mul_comm, sizeLine_eq]
    omega
def MulOk (k : Int) (n : Nat) : Prop := -(2 ^ 63) ≤ k ∧ k < 2 ^ 63 ∧ n * k.toNat ≤ sizeLine
/-- a list so many times, never written -/
noncomputable def mulD : F2
  | .str a, .int k, S => if 1 ≤ a.length ∧ a.length ≤ 1000 ∧ 2 ≤ k ∧ k ≤ 1000 then .ok (.str (repS a k.toNat)) S else .no
  | .int i, .int j, S => if (-(2 ^ 64) < i ∧ i < 2 ^ 64) ∨ (-(2 ^ 64) < j ∧ j < 2 ^ 64) then .ok (.int (i * j)) S else .no
  | .tup l, .int k, S => if k = 1 then .ok (.tup l) S else if l ≠ [] ∧ 2 ≤ k ∧ k ≤ 1000 ∧ l.length ≤ 1000 then .ok (.tup (List.replicate k.toNat l).flatten) S else .no
  | x, .int k, S => match lstOf S x with
    | some l => @ite _ (MulOk k l.length) (Classical.propDecidable _) (.ok (.pl (List.replicate k.toNat l).flatten) S) .no
    | _ => .no
  | _, _, _ => .no
def rMulA (K : PySem.W.Frag) : R2 := fun x y H Q => (rI CMul fun i j => .int (i * j)) x y H Q ∨ rRepT K x y H Q ∨ rRepR x y H Q ∨ rRep1 K x y H Q ∨ rRepS x y H Q
theorem op_mulA {X : Cx} : OpR X (binaryOp .Mult) (rMulA X.K) := op_mul.or (op_repT.or (op_repR.or (op_rep1.or op_repS)))
theorem fits_mul_tup {K : PySem.W.Frag} {c : Cl} {W : WX} {σ : L2.St} {φ : List Addr} {H : Hp} {S : Sto} {Q : VK} {l : List D} {k : Int} {x y : V} (r : Rel K c φ S H) (hx : Rep K φ H (.tup l) x) (hy : Rep K φ H (.int k) y)
    (p : PostW K c W σ φ H (gE K Q) (if k = 1 then .ok (.tup l) S else if l ≠ [] ∧ 2 ≤ k ∧ k ≤ 1000 ∧ l.length ≤ 1000 then .ok (.tup (List.replicate k.toNat l).flatten) S else .no)) : rRepT K x y H Q ∨ rRep1 K x y H Q := by
  obtain ⟨a1, v1, rfl, s1, g1⟩ := hx.tup_
  rw [hy.int_]
  split at p
  · rename_i hk
    rw [hk]
    exact .inr ⟨a1, v1, rfl, rfl, s1, PostW.here r p _ (rep_tup s1 g1)⟩
  · split at p
    · rename_i h
      obtain ⟨h1, h2, h3, h4⟩ := h
      have e := g1.length
      refine .inl ⟨a1, _, v1, rfl, rfl, s1, fun z => ?_, h2, h3, by omega, fun q hq => ?_⟩
      · subst z
        exact h1 (List.eq_nil_of_length_eq_zero (by simpa using e))
      · exact post_tup r (g1.flatRep _) hq p
    · exact False.elim p
theorem fits_mul {K : PySem.W.Frag} {c : Cl} : Fits2F K c (rMulA K) mulD := by
  intro W σ φ H S x y dx dy Q r hx hy p
  unfold mulD at p
  split at p
  · split at p
    · rename_i h
      rw [hx.str_, hy.int_]
      exact .inr (.inr (.inr (.inr ⟨_, _, rfl, rfl, h.1, h.2.1, h.2.2.1, h.2.2.2, PostW.here r p.frz _ rep_str⟩)))
    · exact False.elim p
  · split at p
    · rename_i h
      rw [hx.int_, hy.int_]
      exact .inl ⟨_, _, rfl, rfl, h, PostW.here r p.frz _ rep_int⟩
    · exact False.elim p
  · rcases fits_mul_tup r hx hy p.frz with q | q
    · exact .inr (.inl q)
    · exact .inr (.inr (.inr (.inl q)))
  · split at p
    · split at p
      · rename_i hs h
        obtain ⟨h1, h2, h3⟩ := h
        obtain ⟨a1, v1, rfl, s1, g1⟩ := lstOf_rd r hx hs
        rw [hy.int_]
        have e := g1.length
        refine .inr (.inr (.inl ⟨a1, _, v1, rfl, rfl, s1, h1, h2, by rw [← e]; exact h3, fun q hq => ?_⟩))
        exact post_pl r (g1.flatRep _) hq p
      · exact False.elim p
    · exact False.elim p
  · exact False.elim p
def modD : F2
  | .int i, .int j, S => if 0 < j then .ok (.int (i % j)) S else .no
  | _, _, _ => .no
theorem fits_mod {K : PySem.W.Frag} {c : Cl} : Fits2 K c (rI (fun _ j => 0 < j) fun i j => .int (i % j)) modD := by
  intro W σ φ H S x y dx dy Q r hx hy p
  unfold modD at p
  split at p
  · split at p
    · rename_i h
      rw [hx.int_, hy.int_]
      exact ⟨_, _, rfl, rfl, h, PostW.here r p _ rep_int⟩
    · exact False.elim p
  · exact False.elim p
def fdivD : F2
  | .int i, .int j, S => if 0 < j ∧ j.natAbs.log2 < 9000 then .ok (.int (i / j)) S else .no
  | _, _, _ => .no
theorem fits_fdiv {K : PySem.W.Frag} {c : Cl} : Fits2 K c (rI CDivW fun i j => .int (i / j)) fdivD := by
  intro W σ φ H S x y dx dy Q r hx hy p
  unfold fdivD at p
  split at p
  · split at p
    · rename_i h
      rw [hx.int_, hy.int_]
      exact ⟨_, _, rfl, rfl, h, PostW.here r p _ rep_int⟩
    · exact False.elim p
  · exact False.elim p
def powD : F2
  | .int i, .int j, S => if 0 ≤ j ∧ j ≤ 1000000 ∧ i.natAbs < 2 ^ 64 then .ok (.int (i ^ j.toNat)) S else .no
  | _, _, _ => .no
theorem fits_pow {K : PySem.W.Frag} {c : Cl} : Fits2 K c (rI CPow fun i j => .int (i ^ j.toNat)) powD := by
  intro W σ φ H S x y dx dy Q r hx hy p
  unfold powD at p
  split at p
  · split at p
    · rename_i h
      rw [hx.int_, hy.int_]
      exact ⟨_, _, rfl, rfl, h, PostW.here r p _ rep_int⟩
    · exact False.elim p
  · exact False.elim p
def negD : F1
  | .int i, S => .ok (.int (-i)) S
  | _, _ => .no

def ordD (fi : Int → Int → Bool) (fs : List Nat → List Nat → Bool) : F2
  | .int i, .int j, S => .ok (.bl (fi i j)) S
  | .str x, .str y, S => .ok (.bl (fs x.cps.toList y.cps.toList)) S
  | _, _, _ => .no
def ltD : F2 := ordD (fun i j => decide (i < j)) fun x y => decide (x < y)
def gtD : F2 := ordD (fun i j => decide (j < i)) fun x y => decide (y < x)
def rOrd (fi : Int → Int → Bool) (fs : List Nat → List Nat → Bool) : R2 := fun x y H Q => (rI0 fun i j => .bl (fi i j)) x y H Q ∨ ∃ i j, x = .str i ∧ y = .str j ∧ Q (.bl (fs i.cps.toList j.cps.toList)) H
theorem fits_ord {K : PySem.W.Frag} {c : Cl} {fi : Int → Int → Bool} {fs : List Nat → List Nat → Bool} : Fits2 K c (rOrd fi fs) (ordD fi fs) := by
  intro W σ φ H S x y dx dy Q r hx hy p
  unfold ordD at p
  split at p
  · rw [hx.int_, hy.int_]
    exact .inl ⟨_, _, rfl, rfl, PostW.here r p _ rep_bl⟩
  · rw [hx.str_, hy.str_]
    exact .inr ⟨_, _, rfl, rfl, PostW.here r p _ rep_bl⟩
  · exact False.elim p
section
variable {X : Cx}
theorem op_ltA : OpR X (compareOp .Lt) (rOrd (fun i j => decide (i < j)) fun x y => decide (x < y)) := op_lt.or op_lt_str
theorem op_gtA : OpR X (compareOp .Gt) (rOrd (fun i j => decide (j < i)) fun x y => decide (y < x)) := op_gt.or op_gt_str
end

mutual
/-- as data; none where it has an address -/
def toP : D → Option PyData
  | .non => some .none
  | .bl b => some (.bool b)
  | .int i => some (.int i)
  | .str x => if PyData.strOk x = true then some (.str x) else none
  | .tup l => (toPl l).map .tuple
  | .ref _ => none
  | .scr _ => none
  | .pl l => (toPl l).map .list
def toPl : List D → Option (List PyData)
  | [] => some []
  | d :: ds => match toP d, toPl ds with
    | some p, some q => some (p :: q)
    | _, _ => none
end
/-- a list of the store of such data too -/
def view (S : Sto) : D → Option PyData
  | .ref n => match S[n]? with
    | some (.lst _ l) => (toPl l).map .list
    | _ => none
  | d => toP d
mutual
theorem Rep.dp {K : PySem.W.Frag} {φ : List Addr} {H : Hp} : ∀ (d : D) (v : V) (p : PyData), Rep K φ H d v → toP d = some p → Dp K H v p ∧ p.canLay0 = true
  | .non, v, p, h, e => by unfold toP at e; cases e; rw [h.non_]; exact ⟨.non, by simp [PyData.canLay0]⟩
  | .bl b, v, p, h, e => by unfold toP at e; cases e; rw [h.bl_]; exact ⟨.bl b, by simp [PyData.canLay0]⟩
  | .int b, v, p, h, e => by unfold toP at e; cases e; rw [h.int_]; exact ⟨.int b, by simp [PyData.canLay0]⟩
  | .str b, v, p, h, e => by
    unfold toP at e
    split at e
    · rename_i hs
      cases e; rw [h.str_]; exact ⟨.str b, by simpa [PyData.canLay0] using hs⟩
    · cases e
  | .ref b, v, p, h, e => by unfold toP at e; cases e
  | .scr b, v, p, h, e => by unfold toP at e; cases e
  | .pl l, v, p, h, e => by
    unfold toP at e
    obtain ⟨q, e1, rfl⟩ := Option.map_eq_some_iff.mp e
    obtain ⟨a, vs, rfl, s, g⟩ := h.pl_
    obtain ⟨h1, h2⟩ := RepL.dp l vs q g e1
    exact ⟨.lst s.sq h1, by simpa [PyData.canLay0] using h2⟩
  | .tup l, v, p, h, e => by
    unfold toP at e
    obtain ⟨q, e1, rfl⟩ := Option.map_eq_some_iff.mp e
    obtain ⟨a, vs, rfl, s, g⟩ := h.tup_
    obtain ⟨h1, h2⟩ := RepL.dp l vs q g e1
    exact ⟨.tup s h1, by simpa [PyData.canLay0] using h2⟩
theorem RepL.dp {K : PySem.W.Frag} {φ : List Addr} {H : Hp} : ∀ (d : List D) (v : List V) (p : List PyData), RepL K φ H d v → toPl d = some p → DpAll K H v p ∧ PyData.canLayAll0 p = true
  | [], v, p, h, e => by unfold toPl at e; cases e; rw [h.isNil]; exact ⟨.nil, by simp [PyData.canLayAll0]⟩
  | d :: ds, v, p, h, e => by
    unfold toPl at e
    obtain ⟨x, r, rfl, h1, h2⟩ := h.uncons
    split at e
    · rename_i p1 p2 e1 e2
      cases e
      obtain ⟨a1, a2⟩ := Rep.dp d x p1 h1 e1
      obtain ⟨b1, b2⟩ := RepL.dp ds r p2 h2 e2
      exact ⟨.cons a1 b1, by simp [PyData.canLayAll0, a2, b2]⟩
    · cases e
end
theorem Rep.view {K : PySem.W.Frag} {c : Cl} {φ : List Addr} {H : Hp} {S : Sto} (r : Rel K c φ S H) {d : D} {v : V} {p : PyData} (h : Rep K φ H d v) (e : view S d = some p) : Dp K H v p ∧ p.canLay0 = true := by
  unfold MM.view at e
  split at e
  · split at e
    · rename_i n _ l hs
      obtain ⟨q, e1, rfl⟩ := Option.map_eq_some_iff.mp e
      obtain ⟨a, i1, rfl⟩ := h.ref_
      obtain ⟨vs, g, s, _⟩ := r.lst i1 hs
      obtain ⟨h1, h2⟩ := RepL.dp l vs q g e1
      exact ⟨.lst s h1, by simpa [PyData.canLay0] using h2⟩
    · cases e
  · exact h.dp _ _ _ e
def scalD : D → D → Bool
  | .non, .non => true | .non, .int _ => true | .int _, .non => true | .non, .bl _ => true | .bl _, .non => true | .non, .str _ => true | .str _, .non => true
  | .int _, .int _ => true | .bl _, .bl _ => true | .str _, .str _ => true
  | .int _, .str _ => true | .str _, .int _ => true | .bl _, .str _ => true | .str _, .bl _ => true
  | _, _ => false
def sameD : D → D → Bool
  | .non, .non => true
  | .int i, .int j => decide (i = j)
  | .bl i, .bl j => decide (i = j)
  | .str i, .str j => decide (i = j)
  | _, _ => false
/-- == : scalars, else data -/
def eqB (S : Sto) (x y : D) : Option Bool :=
  if scalD x y = true then some (sameD x y) else match view S x, view S y with
  | some p, some q => if p.depth ≤ 64 ∧ q.depth ≤ 64 then some (PyData.eqv p q) else none
  | _, _ => none
def eqD : F2 := fun x y S => match eqB S x y with
  | some b => .ok (.bl b) S
  | none => .no
def neD : F2 := fun x y S => match eqB S x y with
  | some b => .ok (.bl (!b)) S
  | none => .no
theorem scal_of {K : PySem.W.Frag} {φ : List Addr} {H : Hp} {dx dy : D} {x y : V} (hx : Rep K φ H dx x) (hy : Rep K φ H dy y) (h : scalD dx dy = true) : scal x y = true ∧ decide (x = y) = sameD dx dy := by
  unfold scalD at h
  split at h <;> first
    | (cases h; done)
    | (unfold Rep at hx hy
       subst hx hy
       refine ⟨rfl, ?_⟩
       unfold sameD
       simp)
theorem fits_eq {K : PySem.W.Frag} {c : Cl} : Fits2 K c (fun x y H Q => rEq x y H Q ∨ rEqD K x y H Q) eqD := by
  intro W σ φ H S x y dx dy Q r hx hy p
  unfold eqD eqB at p
  split at p
  · rename_i b hb
    split at hb
    · rename_i hs
      cases hb
      obtain ⟨h1, h2⟩ := scal_of hx hy hs
      exact .inl ⟨h1, by rw [h2]; exact PostW.here r p _ rep_bl⟩
    · split at hb
      · rename_i p1 p2 e1 e2
        split at hb
        · rename_i hd
          cases hb
          obtain ⟨a1, a2⟩ := hx.view r e1
          obtain ⟨b1, b2⟩ := hy.view r e2
          refine .inr ⟨p1, p2, a1, b1, ?_, ?_, PostW.here r p _ rep_bl⟩
          · unfold SeqAt.shaped; simp [a2, hd.1]
          · unfold SeqAt.shaped; simp [b2, hd.2]
        · cases hb
      · cases hb
  · exact False.elim p
theorem fits_ne {K : PySem.W.Frag} {c : Cl} : Fits2 K c (fun x y H Q => rNe x y H Q ∨ rNeD K x y H Q) neD := by
  intro W σ φ H S x y dx dy Q r hx hy p
  unfold neD eqB at p
  split at p
  · rename_i b hb
    split at hb
    · rename_i hs
      cases hb
      obtain ⟨h1, h2⟩ := scal_of hx hy hs
      exact .inl ⟨h1, by rw [h2]; exact PostW.here r p _ rep_bl⟩
    · split at hb
      · rename_i p1 p2 e1 e2
        split at hb
        · rename_i hd
          cases hb
          obtain ⟨a1, a2⟩ := hx.view r e1
          obtain ⟨b1, b2⟩ := hy.view r e2
          refine .inr ⟨p1, p2, a1, b1, ?_, ?_, PostW.here r p _ rep_bl⟩
          · unfold SeqAt.shaped; simp [a2, hd.1]
          · unfold SeqAt.shaped; simp [b2, hd.2]
        · cases hb
      · cases hb
  · exact False.elim p
theorem op_eqA {X : Cx} (hu : X.A.units + 64 < cLine) : OpR X (compareOp .Eq) (fun x y H Q => rEq x y H Q ∨ rEqD X.K x y H Q) := op_eq.or (op_eqD hu)
theorem op_neA {X : Cx} (hu : X.A.units + 64 < cLine) : OpR X (compareOp .NotEq) (fun x y H Q => rNe x y H Q ∨ rNeD X.K x y H Q) := op_ne.or (op_neD hu)

def flatD : D → Bool
  | .non => true | .bl _ => true | .int _ => true | .str _ => true
  | _ => false
def eqF : D → D → Bool
  | .non, .non => true
  | .bl a, .bl b => a == b
  | .bl a, .int b => (if a then 1 else 0) == b
  | .int a, .bl b => a == (if b then 1 else 0)
  | .int a, .int b => a == b
  | .str a, .str b => a == b
  | _, _ => false
def inL (x : D) (l : List D) : Bool := l.any fun y => eqF y x
/-- things of any depth -/
def deepIn (S : Sto) (x y : D) : Option Bool := match view S x, view S y with
  | some d, some (.list ds) => if d.depth ≤ 60 ∧ (PyData.list ds).depth ≤ 64 then some (ds.any fun z => PyData.eqv z d) else none
  | some d, some (.tuple ds) => if d.depth ≤ 60 ∧ (PyData.tuple ds).depth ≤ 64 then some (ds.any fun z => PyData.eqv z d) else none
  | _, _ => none
def inB (S : Sto) (x y : D) : Option Bool := match x, y with
  | .str u, .str z => if u.cps.size = 1 then some (decide (u.cps.getD 0 0 ∈ z.cps.toList)) else none
  | x, .tup l => if flatD x = true ∧ l.all flatD = true then some (inL x l) else deepIn S x (.tup l)
  | x, y => match lstOf S y with
    | some l => if flatD x = true ∧ l.all flatD = true then some (inL x l) else deepIn S x y
    | _ => none
def notInD : F2 := fun x y S => match inB S x y with
  | some b => .ok (.bl (!b)) S
  | none => .no
section
variable {K : PySem.W.Frag} {c : Cl} {φ : List Addr} {H : Hp} {S : Sto}
theorem flat_of {d : D} {x : V} (h : Rep K φ H d x) (f : flatD d = true) : flatV x = true := by
  cases d with
  | non => rw [h.non_]; rfl
  | bl b => rw [h.bl_]; rfl
  | int b => rw [h.int_]; rfl
  | str b => rw [h.str_]; rfl
  | tup l => cases f
  | ref n => cases f
  | scr n => cases f
  | pl n => cases f
theorem flats_of : ∀ {ds : List D} {vs : List V}, RepL K φ H ds vs → ds.all flatD = true → vs.all flatV = true
  | [], vs, h, f => by rw [h.isNil]; rfl
  | d :: ds, vs, h, f => by
    obtain ⟨v, r, rfl, h1, h2⟩ := h.uncons
    simp only [List.all_cons, Bool.and_eq_true] at f ⊢
    exact ⟨flat_of h1 f.1, flats_of h2 f.2⟩
theorem eqF_of {d e : D} {x y : V} (h : Rep K φ H d x) (g : Rep K φ H e y) (f : flatD d = true) (f' : flatD e = true) : eqV x y = eqF d e := by
  cases d <;> first | (cases f; done) | (cases e <;> first | (cases f'; done) | (unfold Rep at h g; subst h g; rfl))
theorem inL_of {e : D} {y : V} (g : Rep K φ H e y) (f' : flatD e = true) : ∀ {ds : List D} {vs : List V}, RepL K φ H ds vs → ds.all flatD = true → inV y vs = inL e ds
  | [], vs, h, f => by rw [h.isNil]; rfl
  | d :: ds, vs, h, f => by
    obtain ⟨v, r, rfl, h1, h2⟩ := h.uncons
    simp only [List.all_cons, Bool.and_eq_true] at f
    have := inL_of g f' h2 f.2
    unfold inV inL at this ⊢
    rw [List.any_cons, List.any_cons, eqF_of h1 g f.1 f', this]
theorem one_sign {u : Str} (h : u.cps.size = 1) : u = ⟨#[u.cps.getD 0 0]⟩ := by
  obtain ⟨a⟩ := u
  obtain ⟨l⟩ := a
  match l, h with
  | [x], _ => rfl
end
def rInQ (K : PySem.W.Frag) (neg : Bool) : R2 := fun x y H Q => ∃ d ds, Dp K H x d ∧ (Dp K H y (.list ds) ∨ Dp K H y (.tuple ds)) ∧ SeqAt.shaped d = true ∧ PyData.canLayAll0 ds = true ∧ d.depth ≤ 60 ∧ Q (.bl (if neg then !(ds.any fun z => PyData.eqv z d) else ds.any fun z => PyData.eqv z d)) H
theorem deep_ok {K : PySem.W.Frag} {c : Cl} {φ : List Addr} {H : Hp} {S : Sto} {dx dy : D} {x y : V} {b : Bool} {neg : Bool} {Q : VK} (r : Rel K c φ S H) (hx : Rep K φ H dx x) (hy : Rep K φ H dy y) (h : deepIn S dx dy = some b) (q : Q (.bl (if neg then !b else b)) H) : rInQ K neg x y H Q := by
  unfold deepIn at h
  split at h
  · rename_i d ds e1 e2
    split at h
    · rename_i hd
      cases h
      obtain ⟨a1, a2⟩ := hx.view r e1
      obtain ⟨b1, b2⟩ := hy.view r e2
      exact ⟨d, ds, a1, .inl b1, by unfold SeqAt.shaped; simp [a2]; omega, by simpa [PyData.canLay0] using b2, hd.1, q⟩
    · cases h
  · rename_i d ds e1 e2
    split at h
    · rename_i hd
      cases h
      obtain ⟨a1, a2⟩ := hx.view r e1
      obtain ⟨b1, b2⟩ := hy.view r e2
      exact ⟨d, ds, a1, .inr b1, by unfold SeqAt.shaped; simp [a2]; omega, by simpa [PyData.canLay0] using b2, hd.1, q⟩
    · cases h
  · cases h
theorem op_notInQ {X : Cx} (hu : X.A.units + 64 < cLine) : OpR X (compareOp .NotIn) (rInQ X.K true) := by
  rintro pins s σ H x y v u Q I rx ry ⟨d, ds, hd, he, sd, se, hz, q⟩
  obtain ⟨as, r1⟩ := Dp.reads I d x v hd rx
  have hm : X.A.units + 1 + min (PyData.depthAll ds) d.depth < cLine := by omega
  rcases he with he | he
  · obtain ⟨bs, r2⟩ := Dp.reads I _ y u he ry
    exact SeqAt.notIn_list_reads r2 r1 se (SeqAt.canLay_of_shaped sd) hm ⟨.bl _, H, I, rfl, q⟩
  · obtain ⟨bs, r2⟩ := Dp.reads I _ y u he ry
    exact SeqAt.notIn_tuple_reads r2 r1 se (SeqAt.canLay_of_shaped sd) hm ⟨.bl _, H, I, rfl, q⟩
theorem fits_notIn {K : PySem.W.Frag} {c : Cl} : Fits2 K c (fun x y H Q => (∃ (c : Nat) (z : Str), x = .str ⟨#[c]⟩ ∧ y = .str z ∧ Q (.bl (!decide (c ∈ z.cps.toList))) H) ∨ rIn K true x y H Q ∨ rInQ K true x y H Q) notInD := by
  intro W σ φ H S x y dx dy Q r hx hy p
  unfold notInD at p
  split at p
  · rename_i b hb
    unfold inB at hb
    split at hb
    · split at hb
      · rename_i u z hu
        cases hb
        rw [hx.str_, hy.str_]
        refine .inl ⟨_, _, congrArg _ (one_sign hu), rfl, PostW.here r p _ rep_bl⟩
      · cases hb
    · split at hb
      · rename_i hf
        cases hb
        obtain ⟨a, vs, rfl, s, g⟩ := hy.tup_
        refine .inr (.inl ⟨a, vs, rfl, .inr s, flat_of hx hf.1, flats_of g hf.2, ?_⟩)
        rw [inL_of hx hf.1 g hf.2]
        exact PostW.here r p _ rep_bl
      · exact .inr (.inr (deep_ok r hx hy hb (PostW.here r p _ rep_bl)))
    · split at hb
      · split at hb
        · rename_i hl hf
          cases hb
          obtain ⟨a, vs, rfl, s, g⟩ := lstOf_rd r hy hl
          refine .inr (.inl ⟨a, vs, rfl, .inl (.inl s), flat_of hx hf.1, flats_of g hf.2, ?_⟩)
          rw [inL_of hx hf.1 g hf.2]
          exact PostW.here r p _ rep_bl
        · exact .inr (.inr (deep_ok r hx hy hb (PostW.here r p _ rep_bl)))
      · cases hb
  · exact False.elim p
theorem op_notInA {X : Cx} (hu : X.A.units + 64 < cLine) : OpR X (compareOp .NotIn) (fun x y H Q => (∃ (c : Nat) (z : Str), x = .str ⟨#[c]⟩ ∧ y = .str z ∧ Q (.bl (!decide (c ∈ z.cps.toList))) H) ∨ rIn X.K true x y H Q ∨ rInQ X.K true x y H Q) := op_notIn_sign.or (op_notIn_seq.or (op_notInQ hu))

def ixD : F2
  | .tup l, .int i, S => match atI l i with
    | some d => .ok d S
    | none => .no
  | .str z, .int i, S => if z.length ≤ sizeLine then (match atI z.cps.toList i with
    | some k => .ok (.str ⟨#[k]⟩) S
    | none => .no) else .no
  | .ref n, .int i, S => match S[n]? with
    | some (.lst _ l) => (match atI l i with
      | some d => .ok d S
      | none => .no)
    | _ => .no
  | .scr ns, .int i, S => match atI ns i with
    | some d => .ok (.int d) S
    | none => .no
  | .pl l, .int i, S => match atI l i with
    | some d => .ok d S
    | none => .no
  | _, _, _ => .no
theorem atI_map {α β : Type} (f : α → β) (l : List α) (i : Int) : atI (l.map f) i = (atI l i).map f := by
  unfold atI
  rw [List.length_map]
  cases ixN l.length i with
  | none => rfl
  | some j => simp
theorem RepL.at {K : PySem.W.Frag} {φ : List Addr} {H : Hp} {l : List D} {vs : List V} {i : Int} {d : D} (h : RepL K φ H l vs) (e : atI l i = some d) : ∃ v, atI vs i = some v ∧ Rep K φ H d v := by
  unfold atI at e ⊢
  rw [← h.length]
  cases q : ixN l.length i with
  | none => rw [q] at e; cases e
  | some j =>
    rw [q] at e
    exact h.get e
theorem fits_ix {K : PySem.W.Frag} {c : Cl} : Fits2 K c (rIx K) ixD := by
  intro W σ φ H S x y dx dy Q r hx hy p
  unfold ixD at p
  split at p
  · split at p
    · rename_i e
      obtain ⟨a, vs, rfl, s, g⟩ := hx.tup_
      obtain ⟨v, e', g'⟩ := g.at e
      exact .inr (.inl ⟨a, vs, _, v, rfl, hy.int_, s, e', PostW.here r p _ g'⟩)
    · exact False.elim p
  · split at p
    · split at p
      · rename_i hz _ k e
        exact .inr (.inr ⟨_, _, k, hx.str_, hy.int_, hz, e, PostW.here r p _ rep_str⟩)
      · exact False.elim p
    · exact False.elim p
  · split at p
    · split at p
      · rename_i hl _ d e
        obtain ⟨a, i1, rfl⟩ := hx.ref_
        obtain ⟨vs, g, s, _⟩ := r.lst i1 hl
        obtain ⟨v, e', g'⟩ := g.at e
        exact .inl ⟨a, vs, _, v, rfl, hy.int_, s, e', PostW.here r p _ g'⟩
      · exact False.elim p
    · exact False.elim p
  · split at p
    · rename_i d e
      obtain ⟨a, rfl, s⟩ := hx.scr_
      exact .inl ⟨a, _, _, .int d, rfl, hy.int_, s.sq, by rw [atI_map, e]; rfl, PostW.here r p _ rep_int⟩
    · exact False.elim p
  · split at p
    · rename_i e
      obtain ⟨a, vs, rfl, s, g⟩ := hx.pl_
      obtain ⟨v, e', g'⟩ := g.at e
      exact .inl ⟨a, vs, _, v, rfl, hy.int_, s.sq, e', PostW.here r p _ g'⟩
    · exact False.elim p
  · exact False.elim p
def cutD (l : List D) (lo hi : Option Int) : List D := (l.drop (HT.sIx l.length 0 lo)).take (HT.sIx l.length l.length hi - HT.sIx l.length 0 lo)
theorem RepL.cut {K : PySem.W.Frag} {φ : List Addr} {H : Hp} {l : List D} {vs : List V} (h : RepL K φ H l vs) (lo hi : Option Int) : RepL K φ H (cutD l lo hi) (cutV vs lo hi) := by
  unfold cutD cutV
  rw [h.length]
  exact (h.drop _).take _
/-- a slice that is never written -/
def slD (x : D) (lo hi : Option Int) (S : Sto) : R D := match x with
  | .tup l => .ok (.tup (cutD l lo hi)) S
  | .str z => if z.length ≤ sizeLine then .ok (.str (cutS z lo hi)) S else .no
  | x => match lstOf S x with
    | some l => .ok (.pl (cutD l lo hi)) S
    | _ => .no
def rSlAll (K : PySem.W.Frag) : V → Option Int → Option Int → Hp → VK → Prop := fun x lo hi H Q => rSlA K x lo hi H Q ∨ rSlS x lo hi H Q ∨ rSlL K x lo hi H Q
theorem sl_all {X : Cx} : SlR X (rSlAll X.K) := sl_tupA.or (sl_str.or sl_list)
theorem cut_whole {l : List D} {lo hi : Option Int} (h1 : HT.sIx l.length 0 lo = 0) (h2 : HT.sIx l.length l.length hi = l.length) : cutD l lo hi = l := by
  unfold cutD
  rw [h1, h2]
  simp
theorem fits_sl_tup {K : PySem.W.Frag} {c : Cl} {W : WX} {σ : L2.St} {φ : List Addr} {H : Hp} {S : Sto} {x : V} {l : List D} {lo hi : Option Int} {Q : VK} (r : Rel K c φ S H) (hx : Rep K φ H (.tup l) x) (p : PostW K c W σ φ H (gE K Q) (.ok (.tup (cutD l lo hi)) S)) : rSlAll K x lo hi H Q := by
  obtain ⟨a, vs, rfl, s, g⟩ := hx.tup_
  refine .inl ⟨a, vs, rfl, s, fun ⟨h1, h2⟩ => ?_, fun _ q hq => ?_⟩
  · rw [← g.length] at h1 h2
    rw [cut_whole h1 h2] at p
    exact PostW.here r p _ (rep_tup s g)
  · exact post_tup r (g.cut lo hi) hq p
theorem fits_sl {K : PySem.W.Frag} {c : Cl} {W : WX} {σ : L2.St} {φ : List Addr} {H : Hp} {S : Sto} {x : V} {d : D} {lo hi : Option Int} {Q : VK} (r : Rel K c φ S H) (hx : Rep K φ H d x) (p : PostW K c W σ φ H (gE K Q) (slD d lo hi S)) : rSlAll K x lo hi H (fun v H' => FrzTo H' (Q v)) := by
  unfold slD at p
  split at p
  · exact fits_sl_tup r hx p.frz
  · split at p
    · rename_i hz
      exact .inr (.inl ⟨_, hx.str_, hz, PostW.here r p.frz _ rep_str⟩)
    · exact False.elim p
  · split at p
    · rename_i hl
      obtain ⟨a, vs, rfl, s, g⟩ := lstOf_rd r hx hl
      exact .inr (.inr ⟨a, vs, rfl, .inl s, fun q hq => post_pl r (g.cut lo hi) hq p⟩)
    · exact False.elim p
end MM

namespace MM
open PySem PySem.Spec PyProof.Rows L2

section
variable {X : Cx} {c : Cl} {W : WX} {a b e : Expr} {es : List Expr} {ma mb me : ME} {mt mu : MT} {ml : ML} {pos : Pos}

theorem de_neg (ha : DE X c W a ma) : DE X c W (.UnaryOp .USub a pos) (eUn negD ma) := by
  obtain ⟨ta, pa, ha⟩ := ha
  refine ⟨_, pe_un un_neg pa, fun φ σ H ρ S Q r f p => ?_⟩
  refine ha φ σ H ρ S _ r f (PostW.elim p fun d S1 φ1 H1 e1 r1 p1 => fun x hx => ?_)
  unfold negD at p1
  split at p1
  · exact ⟨_, hx.int_, PostW.here r1 p1 _ rep_int⟩
  · exact False.elim p1

theorem de_ix (ha : DE X c W a ma) (hb : DE X c W b mb) (hs : PlainIx b := by intro _ _; rfl) : DE X c W (.Subscript a b pos) (eBin ixD ma mb) := by
  obtain ⟨ta, pa, ha⟩ := ha
  obtain ⟨tb, pb, hb⟩ := hb
  refine ⟨_, pe_ix ix_seq pa pb hs, fun φ σ H ρ S Q r f p => ?_⟩
  refine ha φ σ H ρ S _ r f (PostW.elim p fun d S1 φ1 H1 e1 r1 p1 => fun x hx => ?_)
  refine hb φ1 σ H1 ρ S1 _ r1 (f.stay (e1.stays r)) (PostW.elim p1 fun d2 S2 φ2 H2 e2 r2 p2 => fun y hy => ?_)
  exact fits_ix W σ φ2 H2 S2 x y _ _ Q r2 (hx.stay (e2.stays r1)) hy p2
/-- the ends of a slice -/
abbrev MO := Fr → Sto → R (Option Int)
def DO (X : Cx) (c : Cl) (W : WX) (e : Option Expr) (m : MO) : Prop :=
  ∃ t, PO X e t ∧ ∀ φ σ H ρ S Q, Rel X.K c φ S H → FrRel X.K φ H σ ρ → PostW X.K c W σ φ H (fun o _ _ H' => Q o H') (m ρ S) → t σ H Q
def oN : MO := fun _ S => .ok none S
def oS (m : ME) : MO := fun ρ S => (m ρ S).bind fun d S1 => match d with
  | .int i => .ok (some i) S1
  | _ => .no
theorem do_none : DO X c W none oN := ⟨_, po_none, fun φ σ H ρ S Q r f p => PostW.here r p⟩
theorem do_some (ha : DE X c W a ma) : DO X c W (some a) (oS ma) := by
  obtain ⟨ta, pa, ha⟩ := ha
  refine ⟨_, po_some pa, fun φ σ H ρ S Q r f p => ?_⟩
  refine ha φ σ H ρ S _ r f (PostW.elim p fun d S1 φ1 H1 e1 r1 p1 => fun x hx => ?_)
  split at p1
  · exact ⟨_, hx.int_, PostW.here r1 p1⟩
  · exact False.elim p1
def eSl (a : ME) (lo hi : MO) : ME := fun ρ S => (a ρ S).bind fun x S1 => (lo ρ S1).bind fun l S2 => (hi ρ S2).bind fun h S3 => slD x l h S3
theorem de_sl {lo hi : Option Expr} {ml mh : MO} {p2 : Pos} (ha : DE X c W a ma) (hl : DO X c W lo ml) (hh : DO X c W hi mh) : DE X c W (.Subscript a (.Slice lo hi none p2) pos) (eSl ma ml mh) := by
  obtain ⟨ta, pa, ha⟩ := ha
  obtain ⟨tl, pl, hl⟩ := hl
  obtain ⟨th, ph, hh⟩ := hh
  refine ⟨_, pe_frz (pe_slice sl_all pa pl ph), fun φ σ H ρ S Q r f p => ?_⟩
  refine ha φ σ H ρ S _ r f (PostW.elim p fun d S1 φ1 H1 e1 r1 p1 => fun x hx => ?_)
  refine hl φ1 σ H1 ρ S1 _ r1 (f.stay (e1.stays r)) (PostW.elim p1 fun l S2 φ2 H2 e2 r2 p2 => ?_)
  refine hh φ2 σ H2 ρ S2 _ r2 ((f.stay (e1.stays r)).stay (e2.stays r1)) (PostW.elim p2 fun h S3 φ3 H3 e3 r3 p3 => ?_)
  exact fits_sl r3 ((hx.stay (e2.stays r1)).stay (e3.stays r2)) p3

def aNil : ML := fun _ S => .ok [] S
def aCons (a : ME) (r : ML) : ML := fun ρ S => (a ρ S).bind fun x S1 => (r ρ S1).bind fun xs S2 => .ok (x :: xs) S2
theorem da_nil : DA X c W [] aNil := ⟨_, pa_nil, fun φ σ H ρ S Q r f p => PostW.here r p _ RepL.nil⟩
theorem da_cons (ha : DE X c W e me) (hr : DA X c W es ml) (hs : starEach (e :: es) X.env = (false, eval e X.env) :: starEach es X.env := by rfl) : DA X c W (e :: es) (aCons me ml) := by
  obtain ⟨ta, pa, ha⟩ := ha
  obtain ⟨tr, pr, hr⟩ := hr
  refine ⟨_, pa_cons pa pr hs, fun φ σ H ρ S Q r f p => ?_⟩
  refine ha φ σ H ρ S _ r f (PostW.elim p fun d S1 φ1 H1 e1 r1 p1 => fun x hx => ?_)
  refine hr φ1 σ H1 ρ S1 _ r1 (f.stay (e1.stays r)) (PostW.elim p1 fun ds S2 φ2 H2 e2 r2 p2 => fun ys hy => ?_)
  exact PostW.here r2 p2 _ (RepL.cons (hx.stay (e2.stays r1)) hy)
def eTup (r : ML) : ME := fun ρ S => (r ρ S).bind fun xs S1 => if xs.length ≤ sizeLine then .ok (.tup xs) S1 else .no
theorem de_tup {x1 : Nat} (ha : DA X c W es ml) : DE X c W (.Tuple es x1 pos) (eTup ml) := by
  obtain ⟨ta, pa, ha⟩ := ha
  refine ⟨_, pe_tup pa, fun φ σ H ρ S Q r f p => ?_⟩
  refine ha φ σ H ρ S _ r f (PostW.elim p fun ds S1 φ1 H1 e1 r1 p1 => fun vs hv => ?_)
  split at p1
  · rename_i hz
    exact ⟨by rw [← hv.length]; exact hz, fun q hq => post_tup r1 hv hq p1⟩
  · exact False.elim p1

def lNew (r : ML) : ML := fun ρ S => (r ρ S).bind fun xs S1 => if xs.length ≤ sizeLine then .ok xs S1 else .no
theorem dn_lst (ha : DA X c W es ml) : DN X c W (.List es pos) (lNew ml) := by
  obtain ⟨ta, pa, ha⟩ := ha
  refine ⟨_, pe_lst pa, fun φ σ H ρ S Q r f p => ?_⟩
  refine ha φ σ H ρ S _ r f (PostW.elim p fun ds S1 φ1 H1 e1 r1 p1 => fun vs hv => ?_)
  split at p1
  · rename_i hz
    refine ⟨by rw [← hv.length]; exact hz, fun q hq => ?_⟩
    obtain ⟨e2, r2⟩ := r1.fresh (u := .lst vs) hq
    exact p1 φ1 _ e2 r2 q vs (e1.back r1 hq) upd_same (r1.free hq) (hv.stay (stays_free hq))
  · exact False.elim p1
end
theorem rel_new {K : PySem.W.Frag} {c : Cl} {φ : List Addr} {H : Hp} {S : Sto} {l : List D} {vs : List V} {p : Addr} (r : Rel K c φ S H) (g : RepL K φ H l vs) (hp : H p = some (.lst vs)) (hn : p ∉ φ) :
    Rel K c (φ ++ [p]) (S ++ [.lst false l]) H := by
  have nd : (φ ++ [p]).Nodup := by
    rw [List.nodup_append]
    refine ⟨r.nd, by simp, fun x hx y hy e => ?_⟩
    simp at hy
    subst hy e
    exact hn hx
  have st : Stays K φ H (φ ++ [p]) H := ⟨fun n x q => by rw [List.getElem?_append_left (List.getElem?_eq_some_iff.mp q).1]; exact q, fun _ _ q => q, fun a xs q => by
    obtain ⟨n, o, q⟩ := q
    exact ⟨fun m => (List.mem_append.mp m).elim n (fun m => by
        have z : a = p := by simpa using m
        rw [z, hp] at q
        cases q), o, q⟩⟩
  refine ⟨by simp [r.len], nd, fun n a o' h1 h2 => ?_⟩
  by_cases hn' : n < φ.length
  · rw [List.getElem?_append_left hn'] at h1
    rw [List.getElem?_append_left (by rw [← r.len]; exact hn')] at h2
    exact (r.obj n a o' h1 h2).stay st rfl
  · have e : n = φ.length := by
      have := (List.getElem?_eq_some_iff.mp h1).1
      simp at this
      omega
    subst e
    have e1 : p = a := by simpa using h1
    have e2 : O.lst false l = o' := by
      rw [r.len] at h2
      simpa using h2
    subst e1 e2
    exact ⟨vs, g.stay st, by simpa using hp⟩
section
variable {X : Cx} {c : Cl} {W : WX} {a b e : Expr} {es : List Expr} {ma mb me : ME} {mt mu : MT} {ml : ML} {pos : Pos}
/-- the new list goes to the store -/
def eNew (r : ML) : ME := fun ρ S => (r ρ S).bind fun xs S1 => .ok (.ref S1.length) (S1 ++ [.lst false xs])
theorem de_new (ha : DN X c W e ml) : DE X c W e (eNew ml) := by
  obtain ⟨ta, pa, ha⟩ := ha
  refine ⟨_, pa, fun φ σ H ρ S Q r f p => ?_⟩
  refine ha φ σ H ρ S _ r f ?_
  unfold eNew at p
  cases hm : ml ρ S with
  | ok ds S1 =>
    rw [hm] at p
    intro φ1 H1 e1 r1 q vs h0 hq hn g
    have r2 := rel_new r1 g hq hn
    refine p (φ1 ++ [q]) H1 ⟨?_, r2.nd, e1.keep, e1.frz⟩ r2 _ (rep_ref (by rw [← r1.len]; simp))
    obtain ⟨ψ, e2, h2⟩ := e1.more
    exact ⟨ψ ++ [q], by rw [e2, List.append_assoc], fun x hx => by
      rcases List.mem_append.mp hx with z | z
      · exact h2 x z
      · simp at z
        rw [z]; exact h0⟩
  | ex k S1 => rw [hm] at p; exact p
  | no => rw [hm] at p; exact p
/-- the new list is never written -/
def ePl (r : ML) : ME := fun ρ S => (r ρ S).bind fun xs S1 => .ok (.pl xs) S1
theorem lock_new {K : PySem.W.Frag} {φ : List Addr} {H0 H : Hp} {S : Sto} {xs : List D} {a : Addr} {vs : List V} {R : Hp → Prop} (r : Rel K c φ S H) (hq : H a = some (.lst vs)) (hn : a ∉ φ) (g : RepL K φ H xs vs)
    (h : ∀ ob, Rel K c φ S (upd H a (.frz ob (.lst vs))) → Stays K φ H φ (upd H a (.frz ob (.lst vs))) → Rep K φ (upd H a (.frz ob (.lst vs))) (.pl xs) (.ref a) → R (upd H a (.frz ob (.lst vs)))) : FrzTo H R := by
  refine ⟨[a], fun b hb => by rw [List.mem_singleton.mp hb]; exact ⟨vs, hq⟩, fun H' f => ?_⟩
  obtain ⟨ob, vs', h1, rfl⟩ := frzBy_one f
  rw [hq] at h1
  cases h1
  obtain ⟨r', st⟩ := r.lock (ob := ob) hq hn
  exact h ob r' st (rep_pl ⟨hn, ob, upd_same⟩ (g.stay st))
theorem ext_lock {φ φ1 : List Addr} {H H1 : Hp} {a : Addr} {u : HO} (e : Ext φ H φ1 H1) (h0 : H a = none) : Ext φ H φ1 (upd H1 a u) :=
  ⟨e.more, e.nd, fun b o hb nb => by rw [upd_ne (ne_of_none hb h0)]; exact e.keep b o hb nb, fun b ob u hb => by rw [upd_ne (ne_of_none hb h0)]; exact e.frz b ob u hb⟩
theorem de_pl (ha : DN X c W e ml) : DE X c W e (ePl ml) := by
  obtain ⟨ta, pa, ha⟩ := ha
  refine ⟨_, pe_frz pa, fun φ σ H ρ S Q r f p => ?_⟩
  refine ha φ σ H ρ S _ r f ?_
  unfold ePl at p
  cases hm : ml ρ S with
  | ok ds S1 =>
    rw [hm] at p
    intro φ1 H1 e1 r1 q vs h0 hq hn g
    exact lock_new (H0 := H) r1 hq hn g fun ob r2 st rp => p φ1 _ (ext_lock e1 h0) r2 _ rp
  | ex k S1 => rw [hm] at p; exact p
  | no => rw [hm] at p; exact p
/-- a list that is read -/
theorem dl_new (ha : DN X c W e ml) : DL X c W e ml := by
  obtain ⟨ta, pa, ha⟩ := ha
  refine ⟨_, pa, fun φ σ H ρ S Q r f p => ?_⟩
  exact ha φ σ H ρ S _ r f (p.imp fun ds S' φ' H' g a vs h0 h1 h2 h3 => g a vs (SqL.of h1) h3)
def tV (a : ME) : MT := fun ρ S => (a ρ S).bind fun d S1 => match d with
  | .bl b => .ok b S1
  | _ => .no
theorem dt_of {m : ME} {t : TE} (pt : PT X e (tTest t)) (h : ∀ φ σ H ρ S Q, Rel X.K c φ S H → FrRel X.K φ H σ ρ → PostW X.K c W σ φ H (gE X.K Q) (m ρ S) → t σ H Q) : DT X c W e (tV m) := by
  refine ⟨_, pt, fun φ σ H ρ S Q r f p => ?_⟩
  refine h φ σ H ρ S _ r f (PostW.elim p fun d S1 φ1 H1 e1 r1 p1 => fun x hx => ?_)
  split at p1
  · exact ⟨_, hx.bl_, PostW.here r1 p1⟩
  · exact False.elim p1
theorem dt_cmp {op : CmpOp} {r : R2} {f : F2} (ho : OpR X (compareOp op) r) (hf : Fits2 X.K c r f) (ha : DE X c W a ma) (hb : DE X c W b mb) (hm : behindInMarks op b = false) : DT X c W (.Compare a [op] [b] pos) (tV (eBin f ma mb)) := by
  obtain ⟨ta, pa, ha⟩ := ha
  obtain ⟨tb, pb, hb⟩ := hb
  refine dt_of (pt_cmpR ho pa pb hm) fun φ σ H ρ S Q r f p => ?_
  refine ha φ σ H ρ S _ r f (PostW.elim p fun d S1 φ1 H1 e1 r1 p1 => fun x hx => ?_)
  refine hb φ1 σ H1 ρ S1 _ r1 (f.stay (e1.stays r)) (PostW.elim p1 fun d2 S2 φ2 H2 e2 r2 p2 => fun y hy => ?_)
  exact hf W σ φ2 H2 S2 x y _ _ Q r2 (hx.stay (e2.stays r1)) hy p2
/-- a bool's expression as a test -/
theorem dt_val (ha : DE X c W e me) (he : ∀ whole, isTrue e X.env whole = (do let v ← whole; standAt e.pos; holding [v] (truthy v)) := by intro _; rfl) : DT X c W e (tV me) := by
  obtain ⟨ta, pa, ha⟩ := ha
  exact dt_of (pt_val pa he) ha
def tAn (a b : MT) : MT := fun ρ S => (a ρ S).bind fun x S1 => if x = true then b ρ S1 else .ok false S1
def tOo (a b : MT) : MT := fun ρ S => (a ρ S).bind fun x S1 => if x = true then .ok true S1 else b ρ S1
theorem dw_and1 (ha : DT X c W a mt) : DW X c W (.BoolOp .And [a] pos) mt := by
  obtain ⟨ta, pa, ha⟩ := ha
  exact ⟨_, pw_and1 pa, ha⟩
theorem dw_or1 (ha : DT X c W a mt) : DW X c W (.BoolOp .Or [a] pos) mt := by
  obtain ⟨ta, pa, ha⟩ := ha
  exact ⟨_, pw_or1 pa, ha⟩
theorem dw_and {rest : List Expr} (ha : DT X c W a mt) (hb : DW X c W (.BoolOp .And (b :: rest) pos) mu) : DW X c W (.BoolOp .And (a :: b :: rest) pos) (tAn mt mu) := by
  obtain ⟨ta, pa, ha⟩ := ha
  obtain ⟨tb, pb, hb⟩ := hb
  refine ⟨_, pw_and pa pb, fun φ σ H ρ S Q r f p => ?_⟩
  refine ha φ σ H ρ S _ r f (PostW.elim p fun d S1 φ1 H1 e1 r1 p1 => ?_)
  dsimp only [gT]
  split
  · rename_i hd
    rw [if_pos hd] at p1
    exact hb φ1 σ H1 ρ S1 _ r1 (f.stay (e1.stays r)) p1
  · rename_i hd
    rw [if_neg hd] at p1
    exact PostW.here r1 p1
theorem dw_or {rest : List Expr} (ha : DT X c W a mt) (hb : DW X c W (.BoolOp .Or (b :: rest) pos) mu) : DW X c W (.BoolOp .Or (a :: b :: rest) pos) (tOo mt mu) := by
  obtain ⟨ta, pa, ha⟩ := ha
  obtain ⟨tb, pb, hb⟩ := hb
  refine ⟨_, pw_or pa pb, fun φ σ H ρ S Q r f p => ?_⟩
  refine ha φ σ H ρ S _ r f (PostW.elim p fun d S1 φ1 H1 e1 r1 p1 => ?_)
  dsimp only [gT]
  split
  · rename_i hd
    rw [if_pos hd] at p1
    exact PostW.here r1 p1
  · rename_i hd
    rw [if_neg hd] at p1
    exact hb φ1 σ H1 ρ S1 _ r1 (f.stay (e1.stays r)) p1
theorem dt_w (h : DW X c W e mt) : DT X c W e mt := by
  obtain ⟨t, p, h⟩ := h
  exact ⟨t, p.pt, h⟩
end
end MM

namespace MM
open PySem PySem.Spec PyProof.Rows L2

abbrev FL := List D → Sto → R D
def eCall (f : FL) (a : ML) : ME := fun ρ S => (a ρ S).bind f
def FitsL (K : PySem.W.Frag) (c : Cl) (r : List V → Hp → VK → Prop) (f : FL) : Prop := ∀ W σ φ H S vs ds Q, Rel K c φ S H → RepL K φ H ds vs → PostW K c W σ φ H (gE K Q) (f ds S) → r vs H Q
section
variable {X : Cx} {c : Cl} {W : WX} {e : Expr} {es : List Expr} {ml : ML} {me : ME} {p pos : Pos} {x : Str}
theorem de_callB {id : String} {r : List V → Hp → VK → Prop} {f : FL} (hc : CallR X (.builtin id) r) (hf : FitsL X.K c r f) (hg : Gl X x) (hm : X.mg x = none) (hv : bootBuiltins x = some (.builtin id)) (ha : DA X c W (e :: es) ml)
    (hn : x ≠ "__name__" := by decide) (hdb : (x == ("__debug__" : Str)) = false := by decide) (hs : starEach (e :: es) X.env = (false, eval e X.env) :: starEach es X.env := by rfl) (hpl : (backTo pos (starEach es X.env)).any (·.1) = false := by rfl) :
    DE X c W (.Call (.Name x p) (e :: es) [] pos) (eCall f ml) := by
  obtain ⟨ta, pa, ha⟩ := ha
  refine ⟨_, pe_callB hc hg hm hv pa hn hdb hs hpl, fun φ σ H ρ S Q r f p => ?_⟩
  refine ha φ σ H ρ S _ r f (PostW.elim p fun ds S1 φ1 H1 e1 r1 p1 => fun vs hv => ?_)
  exact hf W σ φ1 H1 S1 vs ds Q r1 hv p1
theorem de_callTy {id : String} {r : List V → Hp → VK → Prop} {f : FL} (hc : CallR X (.type id) r) (hf : FitsL X.K c r f) (hg : Gl X x) (hm : X.mg x = none) (hv : bootBuiltins x = some (.type id)) (ha : DA X c W (e :: es) ml)
    (hn : x ≠ "__name__" := by decide) (hdb : (x == ("__debug__" : Str)) = false := by decide) (hs : starEach (e :: es) X.env = (false, eval e X.env) :: starEach es X.env := by rfl) (hpl : (backTo pos (starEach es X.env)).any (·.1) = false := by rfl) :
    DE X c W (.Call (.Name x p) (e :: es) [] pos) (eCall f ml) := by
  obtain ⟨ta, pa, ha⟩ := ha
  refine ⟨_, pe_callTy hc hg hm hv pa hn hdb hs hpl, fun φ σ H ρ S Q r f p => ?_⟩
  refine ha φ σ H ρ S _ r f (PostW.elim p fun ds S1 φ1 H1 e1 r1 p1 => fun vs hv => ?_)
  exact hf W σ φ1 H1 S1 vs ds Q r1 hv p1
/-- f(list): the list may be new -/
abbrev FS := List D → Sto → R D
def eLs (f : FS) (a : ML) : ME := fun ρ S => (a ρ S).bind f
def FitsS (K : PySem.W.Frag) (c : Cl) (r : List V → Hp → VK → Prop) (f : FS) : Prop := ∀ W σ φ H S a vs ds Q, Rel K c φ S H → SqL K H a vs → RepL K φ H ds vs → PostW K c W σ φ H (gE K Q) (f ds S) → r [.ref a] H Q
theorem de_lsB {id : String} {r : List V → Hp → VK → Prop} {f : FS} (hc : CallR X (.builtin id) r) (hf : FitsS X.K c r f) (hg : Gl X x) (hm : X.mg x = none) (hv : bootBuiltins x = some (.builtin id)) (ha : DL X c W e ml)
    (hn : x ≠ "__name__" := by decide) (hdb : (x == ("__debug__" : Str)) = false := by decide) (hs : starEach [e] X.env = (false, eval e X.env) :: starEach [] X.env := by rfl) (hpl : (backTo pos (starEach [] X.env)).any (·.1) = false := by rfl) :
    DE X c W (.Call (.Name x p) [e] [] pos) (eLs f ml) := by
  obtain ⟨ta, pa, ha⟩ := ha
  refine ⟨_, pe_callB hc hg hm hv (pa_cons pa pa_nil hs) hn hdb hs hpl, fun φ σ H ρ S Q r f p => ?_⟩
  refine ha φ σ H ρ S _ r f (PostW.elim p fun ds S1 φ1 H1 e1 r1 p1 => fun a vs s hv => ?_)
  exact hf W σ φ1 H1 S1 a vs ds Q r1 s hv p1
theorem de_lsTy {id : String} {r : List V → Hp → VK → Prop} {f : FS} (hc : CallR X (.type id) r) (hf : FitsS X.K c r f) (hg : Gl X x) (hm : X.mg x = none) (hv : bootBuiltins x = some (.type id)) (ha : DL X c W e ml)
    (hn : x ≠ "__name__" := by decide) (hdb : (x == ("__debug__" : Str)) = false := by decide) (hs : starEach [e] X.env = (false, eval e X.env) :: starEach [] X.env := by rfl) (hpl : (backTo pos (starEach [] X.env)).any (·.1) = false := by rfl) :
    DE X c W (.Call (.Name x p) [e] [] pos) (eLs f ml) := by
  obtain ⟨ta, pa, ha⟩ := ha
  refine ⟨_, pe_callTy hc hg hm hv (pa_cons pa pa_nil hs) hn hdb hs hpl, fun φ σ H ρ S Q r f p => ?_⟩
  refine ha φ σ H ρ S _ r f (PostW.elim p fun ds S1 φ1 H1 e1 r1 p1 => fun a vs s hv => ?_)
  exact hf W σ φ1 H1 S1 a vs ds Q r1 s hv p1
end

def maxD : FL
  | [.int i, .int j], S => .ok (.int (if j > i then j else i)) S
  | _, _ => .no
def minD : FL
  | [.int i, .int j], S => .ok (.int (if j < i then j else i)) S
  | _, _ => .no
def lenD : FL
  | [.str z], S => if z.length ≤ sizeLine then .ok (.int z.length) S else .no
  | [.tup l], S => .ok (.int l.length) S
  | [.ref n], S => match S[n]? with
    | some (.lst _ l) => .ok (.int l.length) S
    | _ => .no
  | [.scr l], S => .ok (.int l.length) S
  | [.pl l], S => .ok (.int l.length) S
  | _, _ => .no
def strD : FL
  | [.int i], S => if i.natAbs.log2 < 1920 then .ok (.str (toString i)) S else .no
  | [.str z], S => .no
  | _, _ => .no
def toIntD : FL
  | [.int i], S => .ok (.int i) S
  | [.bl k], S => .ok (.int (if k then 1 else 0)) S
  | [.str z], S => match PySem.intText? z with
    | some n => if z.length ≤ 640 then .ok (.int n) S else .no
    | none => .no
  | _, _ => .no
section
variable {K : PySem.W.Frag} {c : Cl}
theorem one_of {φ : List Addr} {H : Hp} {d : D} {vs : List V} (h : RepL K φ H [d] vs) : ∃ v, vs = [v] ∧ Rep K φ H d v := by
  obtain ⟨v, r, rfl, h1, h2⟩ := h.uncons
  rw [h2.isNil]
  exact ⟨v, rfl, h1⟩
theorem two_of {φ : List Addr} {H : Hp} {d e : D} {vs : List V} (h : RepL K φ H [d, e] vs) : ∃ v w, vs = [v, w] ∧ Rep K φ H d v ∧ Rep K φ H e w := by
  obtain ⟨v, r, rfl, h1, h2⟩ := h.uncons
  obtain ⟨w, rfl, h3⟩ := one_of h2
  exact ⟨v, w, rfl, h1, h3⟩
theorem fits_min : FitsL K c (fun xs H Q => ∃ i j, xs = [.int i, .int j] ∧ Q (.int (if j < i then j else i)) H) minD := by
  intro W σ φ H S vs ds Q r h p
  unfold minD at p
  split at p
  · obtain ⟨v, w, rfl, hv, hw⟩ := two_of h
    rw [hv.int_, hw.int_]
    exact ⟨_, _, rfl, PostW.here r p _ rep_int⟩
  · exact False.elim p
theorem fits_len : FitsL K c (fun xs H Q => ∃ x n, xs = [x] ∧ LenV K x H n ∧ Q (.int n) H) lenD := by
  intro W σ φ H S vs ds Q r h p
  unfold lenD at p
  split at p
  · obtain ⟨v, rfl, hv⟩ := one_of h
    split at p
    · rename_i hz
      rw [hv.str_]
      exact ⟨_, _, rfl, ⟨hz, rfl⟩, PostW.here r p _ rep_int⟩
    · exact False.elim p
  · obtain ⟨v, rfl, hv⟩ := one_of h
    obtain ⟨a, vs, rfl, s, g⟩ := hv.tup_
    refine ⟨_, _, rfl, .inr ⟨vs, s, rfl⟩, ?_⟩
    rw [← g.length]
    exact PostW.here r p _ rep_int
  · obtain ⟨v, rfl, hv⟩ := one_of h
    split at p
    · rename_i hl
      obtain ⟨a, i1, rfl⟩ := hv.ref_
      obtain ⟨vs, g, s, _⟩ := r.lst i1 hl
      refine ⟨_, _, rfl, .inl ⟨vs, s, rfl⟩, ?_⟩
      rw [← g.length]
      exact PostW.here r p _ rep_int
    · exact False.elim p
  · obtain ⟨v, rfl, hv⟩ := one_of h
    obtain ⟨a, rfl, s⟩ := hv.scr_
    refine ⟨_, _, rfl, .inl ⟨_, s.sq, rfl⟩, ?_⟩
    rw [List.length_map]
    exact PostW.here r p _ rep_int
  · obtain ⟨v, rfl, hv⟩ := one_of h
    obtain ⟨a, vs, rfl, s, g⟩ := hv.pl_
    refine ⟨_, _, rfl, .inl ⟨vs, s.sq, rfl⟩, ?_⟩
    rw [← g.length]
    exact PostW.here r p _ rep_int
  · exact False.elim p
theorem fits_str : FitsL K c (fun xs H Q => ∃ i, xs = [.int i] ∧ i.natAbs.log2 < 1920 ∧ Q (.str (toString i)) H) strD := by
  intro W σ φ H S vs ds Q r h p
  unfold strD at p
  split at p
  · obtain ⟨v, rfl, hv⟩ := one_of h
    split at p
    · rename_i hz
      rw [hv.int_]
      exact ⟨_, rfl, hz, PostW.here r p _ rep_str⟩
    · exact False.elim p
  · exact False.elim p
  · exact False.elim p
theorem fits_int : FitsL K c (fun xs H Q => ((∃ i, xs = [.int i] ∧ Q (.int i) H) ∨ ∃ k, xs = [.bl k] ∧ Q (.int (if k then 1 else 0)) H) ∨ ∃ a n, xs = [.str a] ∧ PySem.intText? a = some n ∧ a.length ≤ 640 ∧ Q (.int n) H) toIntD := by
  intro W σ φ H S vs ds Q r h p
  unfold toIntD at p
  split at p
  · obtain ⟨v, rfl, hv⟩ := one_of h
    rw [hv.int_]
    exact .inl (.inl ⟨_, rfl, PostW.here r p _ rep_int⟩)
  · obtain ⟨v, rfl, hv⟩ := one_of h
    rw [hv.bl_]
    exact .inl (.inr ⟨_, rfl, PostW.here r p _ rep_int⟩)
  · obtain ⟨v, rfl, hv⟩ := one_of h
    split at p
    · split at p
      · rename_i hi hz
        rw [hv.str_]
        exact .inr ⟨_, _, rfl, hi, hz, PostW.here r p _ rep_int⟩
      · exact False.elim p
    · exact False.elim p
  · exact False.elim p
theorem cr_intA {X : Cx} : CallR X (.type "int") (fun xs H Q => ((∃ i, xs = [.int i] ∧ Q (.int i) H) ∨ ∃ k, xs = [.bl k] ∧ Q (.int (if k then 1 else 0)) H) ∨ ∃ a n, xs = [.str a] ∧ PySem.intText? a = some n ∧ a.length ≤ 640 ∧ Q (.int n) H) := call_int1.or call_int_str
end

def intsD : List D → Option (List Int)
  | [] => some []
  | .int b :: r => (intsD r).map (b :: ·)
  | _ => none
def txts : List D → Option (List Str)
  | [] => some []
  | .str b :: r => (txts r).map (b :: ·)
  | _ => none
section
variable {K : PySem.W.Frag} {c : Cl} {φ : List Addr} {H : Hp}
theorem ints_of : ∀ {ds : List D} {vs : List V} {bs : List Int}, RepL K φ H ds vs → intsD ds = some bs → vs = bs.map V.int
  | [], vs, bs, h, e => by cases e; rw [h.isNil]; rfl
  | .int b :: r, vs, bs, h, e => by
    obtain ⟨v, r', rfl, h1, h2⟩ := h.uncons
    obtain ⟨q, e1, rfl⟩ := Option.map_eq_some_iff.mp e
    rw [h1.int_, ints_of h2 e1]
    rfl
  | .non :: r, vs, bs, h, e => by cases e
  | .bl _ :: r, vs, bs, h, e => by cases e
  | .str _ :: r, vs, bs, h, e => by cases e
  | .tup _ :: r, vs, bs, h, e => by cases e
  | .ref _ :: r, vs, bs, h, e => by cases e
  | .scr _ :: r, vs, bs, h, e => by cases e
  | .pl _ :: r, vs, bs, h, e => by cases e
theorem txts_of : ∀ {ds : List D} {vs : List V} {bs : List Str}, RepL K φ H ds vs → txts ds = some bs → vs = bs.map V.str
  | [], vs, bs, h, e => by cases e; rw [h.isNil]; rfl
  | .str b :: r, vs, bs, h, e => by
    obtain ⟨v, r', rfl, h1, h2⟩ := h.uncons
    obtain ⟨q, e1, rfl⟩ := Option.map_eq_some_iff.mp e
    rw [h1.str_, txts_of h2 e1]
    rfl
  | .non :: r, vs, bs, h, e => by cases e
  | .bl _ :: r, vs, bs, h, e => by cases e
  | .int _ :: r, vs, bs, h, e => by cases e
  | .tup _ :: r, vs, bs, h, e => by cases e
  | .ref _ :: r, vs, bs, h, e => by cases e
  | .scr _ :: r, vs, bs, h, e => by cases e
  | .pl _ :: r, vs, bs, h, e => by cases e
end
def sumD : FS := fun l S => match intsD l with
  | some bs => .ok (.int bs.sum) S
  | none => .no
def tupleD : FS := fun l S => .ok (.tup l) S
section
variable {K : PySem.W.Frag} {c : Cl}
theorem fits_sum : FitsS K c (rSum K) sumD := by
  intro W σ φ H S a vs ds Q r s h p
  unfold sumD at p
  split at p
  · rename_i bs e
    exact ⟨a, bs, rfl, by rw [← ints_of h e]; exact s, PostW.here r p _ rep_int⟩
  · exact False.elim p
theorem fits_tuple : FitsS K c (fun xs H Q => ∃ p ys, xs = [.ref p] ∧ ((SqL K H p ys ∧ ∀ l, H l = none → Q (.ref l) (upd H l (.tup ys))) ∨ (SqT K H p ys ∧ Q (.ref p) H))) tupleD := by
  intro W σ φ H S a vs ds Q r s h p
  exact ⟨a, vs, rfl, .inl ⟨s, fun q hq => post_tup r h hq p⟩⟩
end
section
variable {X : Cx} {c : Cl} {W : WX} {e : Expr} {es : List Expr} {ml : ML} {me : ME} {p pos : Pos} {x : Str}
end

inductive Ty where
  | int | bool | str | tuple | list | dict
def Ty.name : Ty → String
  | .int => "int" | .bool => "bool" | .str => "str" | .tuple => "tuple" | .list => "list" | .dict => "dict"
def isLstD : D → Sto → Bool
  | .ref n, S => match S[n]? with
    | some (.lst _ _) => true
    | _ => false
  | _, _ => false
abbrev FM := D → List D → Sto → R D
def eMeth (ok : D → Sto → Bool) (f : FM) (a : ME) (l : ML) : ME := fun ρ S => (a ρ S).bind fun x S1 => if ok x S1 = true then (l ρ S1).bind fun ys S2 => f x ys S2 else .no
def FitsM (K : PySem.W.Frag) (c : Cl) (r : V → List V → Hp → VK → Prop) (f : FM) : Prop := ∀ W σ φ H S x d vs ds Q, Rel K c φ S H → Rep K φ H d x → RepL K φ H ds vs → PostW K c W σ φ H (gE K Q) (f d ds S) → r x vs H Q
def Typed (K : PySem.W.Frag) (c : Cl) (T : String) (ok : D → Sto → Bool) : Prop := ∀ φ S H d x, Rel K c φ S H → Rep K φ H d x → ok d S = true → tyV K T x H
theorem typed_lst {K : PySem.W.Frag} {c : Cl} : Typed K c "list" isLstD := by
  intro φ S H d x r h e
  cases d <;> first | (cases e; done) | skip
  rename_i n
  simp only [isLstD] at e
  split at e
  · rename_i hl
    obtain ⟨a, i1, rfl⟩ := h.ref_
    obtain ⟨vs, g, s, _⟩ := r.lst i1 hl
    exact .inl ⟨rfl, vs, s⟩
  · cases e
section
variable {X : Cx} {c : Cl} {W : WX} {o e : Expr} {es : List Expr} {ml : ML} {mo me : ME} {apos cpos : Pos} {name : Str} {T id : String} {ok : D → Sto → Bool} {f : FM} {r : V → List V → Hp → VK → Prop}
theorem de_bm (pa : PlainAttrs T) (slot : Slot T name id) (hty : typeOf (.builtin id) = pure (.type "method_descriptor")) (hm : MtR X id r) (hf : FitsM X.K c r f) (ht : Typed X.K c T ok) (ho : DE X c W o mo) (ha : DA X c W (e :: es) ml)
    (hbase : attributeBase o name X.env (eval o X.env) = eval o X.env := by rfl)
    (hfew : ((backTo cpos (starEach (e :: es) X.env)).all (fun x => !x.1) && (backToKw cpos (keywordEach [] X.env)).all (fun x => x.1.isSome)
      && decide ((e :: es).length + ([] : List Keyword).length + (if ([] : List Keyword).isEmpty then 0 else 1) < 30)) = true := by rfl)
    (hline : (apos.endLine == cpos.line) = true := by rfl) (hs : starEach (e :: es) X.env = (false, eval e X.env) :: starEach es X.env := by rfl) (hplain : (backTo cpos (starEach es X.env)).any (·.1) = false := by rfl) :
    DE X c W (.Call (.Attribute o name apos) (e :: es) [] cpos) (eMeth ok f mo ml) := by
  obtain ⟨to, po, ho⟩ := ho
  obtain ⟨ta, pa', ha⟩ := ha
  refine ⟨_, pe_bm pa slot hty hm po pa' hbase hfew hline hs hplain, fun φ σ H ρ S Q r f p => ?_⟩
  refine ho φ σ H ρ S _ r f (PostW.elim p fun d S1 φ1 H1 e1 r1 p1 => fun x hx => ?_)
  split at p1
  · rename_i hk
    refine ⟨ht φ1 S1 H1 d x r1 hx hk, ?_⟩
    refine ha φ1 σ H1 ρ S1 _ r1 (f.stay (e1.stays r)) (PostW.elim p1 fun ds S2 φ2 H2 e2 r2 p2 => fun vs hv => ?_)
    exact hf W σ φ2 H2 S2 x d vs ds Q r2 (hx.stay (e2.stays r1)) hv p2
  · exact False.elim p1
end
/-- xs.append(y), xs.extend(ys), xs.pop(), xs.pop(i) -/
def appendD : FM := fun x l S => match x, l with
  | .ref n, [d] => match S[n]? with
    | some (.lst false xs) => if xs.length < sizeLine then .ok .non (S.set n (.lst false (xs ++ [d]))) else .no
    | _ => .no
  | _, _ => .no
section
variable {K : PySem.W.Frag} {c : Cl}
/-- a list of the store becomes another -/
theorem post_set {W : WX} {σ : L2.St} {φ : List Addr} {H : Hp} {S : Sto} {Q : VK} {n : Nat} {a : Addr} {l : List D} {vs : List V} {d : D} {v : V} (r : Rel K c φ S H) (i1 : φ[n]? = some a) (g : RepL K φ H l vs) (hd : Rep K φ H d v) {us : List V} (hs : H a = some (.lst us))
    (p : PostW K c W σ φ H (gE K Q) (.ok d (S.set n (.lst false l)))) : Q v (upd H a (.lst vs)) := by
  have st := stays_write (u := .lst vs) r i1
  obtain ⟨e, r'⟩ := r.write (o := .lst false l) (u := .lst vs) i1 ⟨vs, g.stay st, by simp [upd_same]⟩ (fun ob w q => by rw [hs] at q; cases q)
  exact p _ _ e r' _ (hd.stay st)
theorem fits_append : FitsM K c rAppend appendD := by
  intro W σ φ H S x d vs ds Q r hx hv p
  unfold appendD at p
  split at p
  · split at p
    · split at p
      · rename_i n d xs hl hz
        obtain ⟨a, i1, rfl⟩ := hx.ref_
        obtain ⟨v, rfl, hd⟩ := one_of hv
        obtain ⟨us, g, _, s⟩ := r.lst i1 hl
        refine ⟨a, us, v, rfl, rfl, s rfl, by rw [← g.length]; exact hz, ?_⟩
        exact post_set r i1 (g.append (RepL.cons hd RepL.nil)) rep_non (s rfl) p
      · exact False.elim p
    · exact False.elim p
  · exact False.elim p
theorem RepL.dropLast {φ : List Addr} {H : Hp} {l : List D} {vs : List V} (g : RepL K φ H l vs) : RepL K φ H l.dropLast vs.dropLast := by
  rw [List.dropLast_eq_take, List.dropLast_eq_take, g.length]
  exact g.take _
theorem RepL.erase {φ : List Addr} {H : Hp} {l : List D} {vs : List V} (g : RepL K φ H l vs) (k : Nat) : RepL K φ H (l.eraseIdx k) (vs.eraseIdx k) := by
  rw [List.eraseIdx_eq_take_drop_succ, List.eraseIdx_eq_take_drop_succ]
  exact (g.take _).append (g.drop _)
end
section
variable {X : Cx} {c : Cl} {W : WX} {o e : Expr} {ml : ML} {mo me : ME} {apos cpos : Pos}
end
end MM

namespace MM
open PySem PySem.Spec PyProof.Rows L2

def PostS (K : PySem.W.Frag) (c : Cl) (W : WX) (φ : List Addr) (H : Hp) (E : Ends) : RS → Prop
  | .nx ρ' S' => ∀ φ' H' σ', Ext φ H φ' H' → Rel K c φ' S' H' → FrRel K φ' H' σ' ρ' → E.nx σ' H'
  | .bk ρ' S' => ∀ φ' H' σ', Ext φ H φ' H' → Rel K c φ' S' H' → FrRel K φ' H' σ' ρ' → E.bk σ' H'
  | .ct ρ' S' => ∀ φ' H' σ', Ext φ H φ' H' → Rel K c φ' S' H' → FrRel K φ' H' σ' ρ' → E.ct σ' H'
  | .rt d S' => ∀ φ' H' v, Ext φ H φ' H' → Rel K c φ' S' H' → Rep K φ' H' d v → E.rt v H'
  | .ex k ρ' S' => ∀ φ' H' σ', Ext φ H φ' H' → Rel K c φ' S' H' → FrRel K φ' H' σ' ρ' → W (.ref (c.cl k)) none σ' H'
  | .no => False
theorem PostS.from {K : PySem.W.Frag} {c : Cl} {W : WX} {φ φ1 : List Addr} {H H1 : Hp} {E : Ends} {r : RS} (e : Ext φ H φ1 H1) (h : PostS K c W φ H E r) : PostS K c W φ1 H1 E r := by
  cases r with
  | nx ρ S => exact fun φ' H' σ' e' => h φ' H' σ' (e.trans e')
  | bk ρ S => exact fun φ' H' σ' e' => h φ' H' σ' (e.trans e')
  | ct ρ S => exact fun φ' H' σ' e' => h φ' H' σ' (e.trans e')
  | rt ρ S => exact fun φ' H' σ' e' => h φ' H' σ' (e.trans e')
  | ex k ρ S => exact fun φ' H' σ' e' => h φ' H' σ' (e.trans e')
  | no => exact h
def DS (X : Cx) (c : Cl) (W : WX) (st : Stmt) (m : MS) : Prop :=
  ∃ t, PS X st t ∧ ∀ φ σ H ρ S E, Rel X.K c φ S H → FrRel X.K φ H σ ρ → PostS X.K c W φ H E (m ρ S) → t E σ H
def DSs (X : Cx) (c : Cl) (W : WX) (st : List Stmt) (m : MS) : Prop :=
  ∃ t, PSs X st t ∧ ∀ φ σ H ρ S E, Rel X.K c φ S H → FrRel X.K φ H σ ρ → PostS X.K c W φ H E (m ρ S) → t E σ H
/-- an expression, then on -/
def RS.of {α : Type} (ρ : Fr) : R α → (α → Sto → RS) → RS
  | .ok a S, k => k a S
  | .ex c S, _ => .ex c ρ S
  | .no, _ => .no
def RS.then : RS → (Fr → Sto → RS) → RS
  | .nx ρ S, k => k ρ S
  | r, _ => r
def sPass : MS := fun ρ S => .nx ρ S
def sSeq (a b : MS) : MS := fun ρ S => (a ρ S).then b
section
variable {X : Cx} {c : Cl} {W : WX} {st : Stmt} {rest : List Stmt} {m n : MS} {e : Expr} {me : ME} {mt : MT} {pos : Pos}
theorem PostS.expr {α : Type} {φ : List Addr} {H : Hp} {S : Sto} {σ : L2.St} {ρ : Fr} {E : Ends} {r : R α} {k : α → Sto → RS} {good : α → Sto → List Addr → Hp → Prop} (rel : Rel X.K c φ S H) (f : FrRel X.K φ H σ ρ) (h : PostS X.K c W φ H E (RS.of ρ r k))
    (g : ∀ a S1 φ1 H1, Ext φ H φ1 H1 → Rel X.K c φ1 S1 H1 → FrRel X.K φ1 H1 σ ρ → PostS X.K c W φ1 H1 E (k a S1) → good a S1 φ1 H1) : PostW X.K c W σ φ H good r := by
  cases r with
  | ok a S1 => exact fun φ1 H1 e1 r1 => g a S1 φ1 H1 e1 r1 (f.stay (e1.stays rel)) (PostS.from e1 h)
  | ex k S1 => exact fun φ1 H1 e1 r1 => h φ1 H1 σ e1 r1 (f.stay (e1.stays rel))
  | no => exact h
theorem dss_nil : DSs X c W [] sPass := ⟨_, pss_nil, fun φ σ H ρ S E r f p => p φ H σ (Ext.refl r.nd) r f⟩
theorem dss_cons (h1 : DS X c W st m) (h2 : DSs X c W rest n) : DSs X c W (st :: rest) (sSeq m n) := by
  obtain ⟨t1, p1, h1⟩ := h1
  obtain ⟨t2, p2, h2⟩ := h2
  refine ⟨_, pss_cons p1 p2, fun φ σ H ρ S E r f p => ?_⟩
  refine h1 φ σ H ρ S _ r f ?_
  unfold sSeq at p
  cases hm : m ρ S with
  | nx ρ1 S1 =>
    rw [hm] at p
    exact fun φ1 H1 σ1 e1 r1 f1 => h2 φ1 σ1 H1 ρ1 S1 E r1 f1 (PostS.from e1 p)
  | bk ρ1 S1 => rw [hm] at p; exact p
  | ct ρ1 S1 => rw [hm] at p; exact p
  | rt ρ1 S1 => rw [hm] at p; exact p
  | ex k ρ1 S1 => rw [hm] at p; exact p
  | no => rw [hm] at p; exact p
theorem dss_one (h1 : DS X c W st m) : DSs X c W [st] m := by
  obtain ⟨t1, p1, h1⟩ := h1
  exact ⟨_, pss_one p1, h1⟩
def sExpr (a : ME) : MS := fun ρ S => RS.of ρ (a ρ S) fun _ S1 => .nx ρ S1
theorem ds_expr (he : DE X c W e me) (hs : swapsWith e none pos.line X.env = pure false := by rfl) : DS X c W (.Expr e pos) (sExpr me) := by
  obtain ⟨t, p, h⟩ := he
  refine ⟨_, ps_expr p hs, fun φ σ H ρ S E r f p => ?_⟩
  exact h φ σ H ρ S _ r f (PostS.expr r f p fun d S1 φ1 H1 e1 r1 f1 p1 => fun v hv => p1 φ1 H1 σ (Ext.refl r1.nd) r1 f1)
def sRet (a : ME) : MS := fun ρ S => RS.of ρ (a ρ S) fun d S1 => .rt d S1
theorem ds_ret (he : DE X c W e me) : DS X c W (.Return (some e) pos) (sRet me) := by
  obtain ⟨t, p, h⟩ := he
  refine ⟨_, ps_ret p, fun φ σ H ρ S E r f p => ?_⟩
  exact h φ σ H ρ S _ r f (PostS.expr r f p fun d S1 φ1 H1 e1 r1 f1 p1 => fun v hv => p1 φ1 H1 v (Ext.refl r1.nd) r1 hv)
def sIf (t : MT) (a b : MS) : MS := fun ρ S => RS.of ρ (t ρ S) fun x S1 => if x = true then a ρ S1 else b ρ S1
theorem ds_if {d : Expr} {a b : List Stmt} (hc : DT X c W d mt) (ha : DSs X c W a m) (hb : DSs X c W b n) : DS X c W (.If d a b pos) (sIf mt m n) := by
  obtain ⟨tc, pc, hc⟩ := hc
  obtain ⟨ta, pa, ha⟩ := ha
  obtain ⟨tb, pb, hb⟩ := hb
  refine ⟨_, ps_if pc pa pb, fun φ σ H ρ S E r f p => ?_⟩
  refine hc φ σ H ρ S _ r f (PostS.expr r f p fun d S1 φ1 H1 e1 r1 f1 p1 => ?_)
  dsimp only [gT]
  split
  · rename_i hd
    rw [if_pos hd] at p1
    exact ha φ1 σ H1 ρ S1 _ r1 f1 p1
  · rename_i hd
    rw [if_neg hd] at p1
    exact hb φ1 σ H1 ρ S1 _ r1 f1 p1
end

abbrev MG := D → Fr → Option Fr
def PostG (K : PySem.W.Frag) (φ : List Addr) (H : Hp) (Q : L2.St → Hp → Prop) : Option Fr → Prop
  | some ρ' => ∀ σ', FrRel K φ H σ' ρ' → Q σ' H
  | none => False
def DG (X : Cx) (tg : Expr) (m : MG) : Prop := ∃ g, PG X tg g ∧ ∀ φ σ H ρ v d Q, FrRel X.K φ H σ ρ → Rep X.K φ H d v → PostG X.K φ H Q (m d ρ) → g v σ H Q
def DGs (X : Cx) (tg : List Expr) (m : List D → Fr → Option Fr) : Prop := ∃ g, PGs X tg g ∧ ∀ φ σ H ρ v d Q, FrRel X.K φ H σ ρ → RepL X.K φ H d v → PostG X.K φ H Q (m d ρ) → g v σ H Q
def tN (i : Nat) : MG := fun d ρ => some (ρ.set i (some d))
def tsNil : List D → Fr → Option Fr
  | [], ρ => some ρ
  | _, _ => none
def tsCons (a : MG) (r : List D → Fr → Option Fr) : List D → Fr → Option Fr
  | d :: ds, ρ => (a d ρ).bind fun ρ' => r ds ρ'
  | _, _ => none
def tTp (n : Nat) (r : List D → Fr → Option Fr) : MG
  | .tup l, ρ => if l.length = n then r l ρ else none
  | _, _ => none
theorem FrRel.set {K : PySem.W.Frag} {φ : List Addr} {H : Hp} {σ : L2.St} {ρ : Fr} {d : D} {v : V} (f : FrRel K φ H σ ρ) (i : Nat) (h : Rep K φ H d v) : FrRel K φ H (σ.set i (some v)) (ρ.set i (some d)) := by
  refine ⟨by simp [f.1], fun j d' hj => ?_⟩
  by_cases e : i = j
  · subst e
    have hl : i < ρ.length := by
      have := (List.getElem?_eq_some_iff.mp hj).1
      simpa using this
    rw [List.getElem?_set_self hl] at hj
    cases hj
    exact ⟨v, List.getElem?_set_self (by rw [← f.1]; exact hl), h⟩
  · rw [List.getElem?_set_ne e] at hj ⊢
    exact f.2 j d' hj
section
variable {X : Cx} {c : Cl} {W : WX} {e : Expr} {es : List Expr} {me : ME} {pos : Pos} {mg : MG}
theorem dg_name {i : Nat} {x : Str} (h : PG X (.Name x pos) (gName i)) : DG X (.Name x pos) (tN i) :=
  ⟨_, h, fun φ σ H ρ v d Q f r p => p _ (f.set i r)⟩
theorem dgs_nil : DGs X [] tsNil := ⟨_, pgs_nil, fun φ σ H ρ v d Q f r p => by
  unfold tsNil at p
  split at p
  · exact ⟨r.isNil, p σ f⟩
  · exact False.elim p⟩
theorem dgs_cons {mr : List D → Fr → Option Fr} (h1 : DG X e mg) (h2 : DGs X es mr) (hs : (assignEach (e :: es) X.env).map (·.2) = assign e X.env :: (assignEach es X.env).map (·.2) := by rfl) : DGs X (e :: es) (tsCons mg mr) := by
  obtain ⟨g1, p1, h1⟩ := h1
  obtain ⟨g2, p2, h2⟩ := h2
  refine ⟨_, pgs_cons p1 p2 hs, fun φ σ H ρ v d Q f r p => ?_⟩
  unfold tsCons at p
  split at p
  · obtain ⟨v, rr, rfl, ra, rb⟩ := r.uncons
    rename_i _ d ds
    refine ⟨v, rr, rfl, h1 φ σ H ρ v d _ f ra ?_⟩
    cases hm : mg d ρ with
    | none => rw [hm] at p; exact p
    | some ρ' =>
      rw [hm] at p
      exact fun σ' f' => h2 φ σ' H ρ' rr ds Q f' rb p
  · exact False.elim p
theorem dg_tup {k n : Nat} {mr : List D → Fr → Option Fr} (hc : X.calm = true) (h : DGs X es mr) (hn : (assignEach es X.env).length = n := by rfl) (hst : (assignEach es X.env).findIdx? (·.1) = none := by rfl) : DG X (.Tuple es k pos) (tTp n mr) := by
  obtain ⟨g, p, h⟩ := h
  refine ⟨_, pg_tup hc p hn hst, fun φ σ H ρ v d Q f r p => ?_⟩
  unfold tTp at p
  split at p
  · obtain ⟨a, vs, rfl, s, g⟩ := r.tup_
    split at p
    · rename_i hl
      exact ⟨a, vs, rfl, s, by rw [← g.length]; exact hl, h φ σ H _ vs _ Q f g p⟩
    · exact False.elim p
  · exact False.elim p
/-- target = value -/
def sAsg (a : ME) (g : MG) : MS := fun ρ S => RS.of ρ (a ρ S) fun d S1 => match g d ρ with
  | some ρ' => .nx ρ' S1
  | none => .no
theorem ds_asg {tg : Expr} (he : DE X c W e me) (hg : DG X tg mg) (hs : swapsWithSole [tg] e pos.line X.env = pure false := by rfl) (hw : swappedStores [tg] e X.env = pure none := by rfl)
    (h1 : (assignEach [tg] X.env).map (·.2) = [assign tg X.env] := by rfl) : DS X c W (.Assign [tg] e pos) (sAsg me mg) := by
  obtain ⟨t, p, h⟩ := he
  obtain ⟨g, pg, hg⟩ := hg
  refine ⟨_, ps_asg p pg hs hw h1, fun φ σ H ρ S E r f p => ?_⟩
  refine h φ σ H ρ S _ r f (PostS.expr r f p fun d S1 φ1 H1 e1 r1 f1 p1 => fun v hv => ?_)
  refine hg φ1 σ H1 ρ v d _ f1 hv ?_
  cases hm : mg d ρ with
  | none => rw [hm] at p1; exact p1
  | some ρ' => rw [hm] at p1; exact fun σ' f' => p1 φ1 H1 σ' (Ext.refl r1.nd) r1 f'
def sSet (i : Nat) (a : ME) : MS := fun ρ S => RS.of ρ (a ρ S) fun d S1 => .nx (ρ.set i (some d)) S1
theorem ds_set {i : Nat} {x : Str} {pos' : Pos} (hN : X.N.Nodup) (hi : X.N[i]? = some x) (hx : Loc X.env.scope x) (he : DE X c W e me) (hs : swapsWith e (some (.Name x pos')) pos.line X.env = pure false := by rfl) (hf : X.fn x = true ∨ X.env.scope.names.lookup x = some .local := by first | exact .inl rfl | exact .inr rfl | assumption) :
    DS X c W (.Assign [.Name x pos'] e pos) (sSet i me) := by
  obtain ⟨t, p, h⟩ := he
  refine ⟨_, ps_set hN hi hx p hs hf, fun φ σ H ρ S E r f p => ?_⟩
  exact h φ σ H ρ S _ r f (PostS.expr r f p fun d S1 φ1 H1 e1 r1 f1 p1 => fun v hv => p1 φ1 H1 _ (Ext.refl r1.nd) r1 (f1.set i hv))
/-- o[i] = e (a list) -/
def setIx (x i v : D) (S : Sto) : Option Sto := match x, i with
  | .ref n, .int k => match S[n]? with
    | some (.lst false l) => (ixN l.length k).map fun j => S.set n (.lst false (l.set j v))
    | _ => none
  | _, _ => none
def sSetIx (o i a : ME) : MS := fun ρ S => RS.of ρ (a ρ S) fun d S1 => RS.of ρ (o ρ S1) fun x S2 => RS.of ρ (i ρ S2) fun k S3 => match setIx x k d S3 with
  | some S4 => .nx ρ S4
  | none => .no
theorem ds_setIx {o i : Expr} {mo mi : ME} {tpos : Pos} (he : DE X c W e me) (ho : DE X c W o mo) (hi : DE X c W i mi)
    (ha : ∀ v, assign (.Subscript o i tpos) X.env v = (do
      let ov ← holding [v] (eval o X.env)
      let iv ← holding [v, ov] (eval i X.env)
      standAt tpos
      holding [v, ov, iv] (setItem ov iv v)
      release [v, ov, iv] []) := by intro _; rfl)
    (hs : swapsWithSole [.Subscript o i tpos] e pos.line X.env = pure false := by rfl) (hw : swappedStores [.Subscript o i tpos] e X.env = pure none := by rfl)
    (h1 : (assignEach [.Subscript o i tpos] X.env).map (·.2) = [assign (.Subscript o i tpos) X.env] := by rfl) : DS X c W (.Assign [.Subscript o i tpos] e pos) (sSetIx mo mi me) := by
  obtain ⟨t, p, h⟩ := he
  obtain ⟨to, po, ho⟩ := ho
  obtain ⟨ti, pi, hi⟩ := hi
  refine ⟨_, ps_asg p (pg_sub po pi set_list ha) hs hw h1, fun φ σ H ρ S E r f p => ?_⟩
  refine h φ σ H ρ S _ r f (PostS.expr r f p fun d S1 φ1 H1 e1 r1 f1 p1 => fun v hv => ?_)
  refine ho φ1 σ H1 ρ S1 _ r1 f1 (PostS.expr r1 f1 p1 fun x S2 φ2 H2 e2 r2 f2 p2 => fun xv hx => ?_)
  refine hi φ2 σ H2 ρ S2 _ r2 f2 (PostS.expr r2 f2 p2 fun k S3 φ3 H3 e3 r3 f3 p3 => fun kv hk => ?_)
  have hv3 := (hv.stay (e2.stays r1)).stay (e3.stays r2)
  have hx3 := hx.stay (e3.stays r2)
  unfold setIx at p3
  split at p3
  · rename_i S4 h4
    split at h4
    · split at h4
      · rename_i hl
        obtain ⟨j, hj, rfl⟩ := Option.map_eq_some_iff.mp h4
        obtain ⟨a, i1, rfl⟩ := hx3.ref_
        obtain ⟨us, g, _, s⟩ := r3.lst i1 hl
        refine ⟨a, us, _, j, rfl, hk.int_, s rfl, by rw [← g.length]; exact hj, ?_⟩
        have st := stays_write (u := .lst (us.set j v)) r3 i1
        obtain ⟨e4, r4⟩ := r3.write (u := .lst (us.set j v)) i1 (o := .lst false _) ⟨_, (g.set j hv3).stay st, by simp [upd_same]⟩ (fun ob w q => by rw [s rfl] at q; cases q)
        exact p3 _ _ _ e4 r4 (f3.stay st)
      · cases h4
    · cases h4
  · exact False.elim p3
end

end MM

namespace MM
open PySem PySem.Spec PyProof.Rows L2

structure IterOk (K : PySem.W.Frag) (c : Cl) (J : It) (items : List D) (g : Sto → Prop) (φ0 : List Addr) (H0 : Hp) : Prop where
  go : ∀ φ S H (i : Nat) d, Ext φ0 H0 φ H → Rel K c φ S H → g S → items[i]? = some d → J.go i H ∧ ∀ x H', J.yld i H x H' → Ext φ H φ H' ∧ Rel K c φ S H' ∧ Rep K φ H' d x
  stop : ∀ φ S H, Ext φ0 H0 φ H → Rel K c φ S H → g S → J.stop items.length H
abbrev MI := Fr → Sto → R (List D × (Sto → Prop))
abbrev gI (K : PySem.W.Frag) (c : Cl) (Q : It → Hp → Prop) : List D × (Sto → Prop) → Sto → List Addr → Hp → Prop := fun x _ φ H => ∀ J, IterOk K c J x.1 x.2 φ H → Q J H
def DI (X : Cx) (c : Cl) (W : WX) (tg iter : Expr) (m : MI) : Prop :=
  ∃ t, PI X tg iter t ∧ ∀ φ σ H ρ S Q, Rel X.K c φ S H → FrRel X.K φ H σ ρ → PostW X.K c W σ φ H (gI X.K c Q) (m ρ S) → t σ H Q
open Classical in
noncomputable def forD (g : Sto → Prop) (tg : MG) (b : MS) : List D → MS
  | [], ρ, S => if g S then .nx ρ S else .no
  | d :: ds, ρ, S => if g S then (match tg d ρ with
    | some ρ1 => match b ρ1 S with
      | .nx ρ' S' => forD g tg b ds ρ' S'
      | .ct ρ' S' => forD g tg b ds ρ' S'
      | .bk ρ' S' => .nx ρ' S'
      | .rt d S' => .rt d S'
      | .ex k ρ' S' => .ex k ρ' S'
      | .no => .no
    | none => .no) else .no
noncomputable def sFor (i : MI) (tg : MG) (b : MS) : MS := fun ρ S => RS.of ρ (i ρ S) fun x S1 => forD x.2 tg b x.1 ρ S1
theorem ds_for {X : Cx} {c : Cl} {W : WX} {tg iter : Expr} {body : List Stmt} {mi : MI} {mg : MG} {m : MS} {pos : Pos} (hp : PassesOwn (model X.prog X.w) X.A X.env X.xe) (hc : X.calm = true) (hi : DI X c W tg iter mi) (hg : DG X tg mg) (hb : DSs X c W body m)
    (hs : ∀ x, foldedSetIterable iter X.env x = pure x := by intro _; rfl) : DS X c W (.For tg iter body [] pos) (sFor mi mg m) := by
  obtain ⟨ti, pi, hi⟩ := hi
  obtain ⟨tg', pg, hg⟩ := hg
  obtain ⟨tb, pb, hb⟩ := hb
  refine ⟨_, ps_for hp hc pi pg pb hs, fun φ0 σ0 H0 ρ0 S0 E r0 f0 p0 => ?_⟩
  refine hi φ0 σ0 H0 ρ0 S0 _ r0 f0 (PostS.expr r0 f0 p0 fun x S1 φ1 H1 e1 r1 f1 p1 => fun J IO => ?_)
  obtain ⟨items, g⟩ := x
  dsimp only at p1 IO
  refine ⟨fun i m' σ H => m' = items.length - i ∧ i ≤ items.length ∧ ∃ φ ρ S, Ext φ1 H1 φ H ∧ Rel X.K c φ S H ∧ FrRel X.K φ H σ ρ ∧ PostS X.K c W φ H E (forD g mg m (items.drop i) ρ S),
    ⟨items.length, by simp, Nat.zero_le _, φ1, ρ0, S1, Ext.refl r1.nd, r1, f1, by simpa using p1⟩, ?_⟩
  rintro i m' σ H ⟨rfl, hle, φ, ρ, S, e, r, f, p⟩
  by_cases hlt : i < items.length
  · right
    rw [List.drop_eq_getElem_cons hlt] at p
    unfold forD at p
    split at p
    · rename_i hgS
      obtain ⟨hgo, hy⟩ := IO.go φ S H i _ e r hgS (List.getElem?_eq_getElem hlt)
      refine ⟨hgo, fun σ' H' => ∃ φ' ρ' S', Ext φ1 H1 φ' H' ∧ Rel X.K c φ' S' H' ∧ FrRel X.K φ' H' σ' ρ' ∧ PostS X.K c W φ' H' E (forD g mg m (items.drop (i + 1)) ρ' S'), fun σ' H' h' => ⟨items.length - (i + 1), by omega, rfl, hlt, h'⟩, fun x H' hx => ?_⟩
      obtain ⟨e2, r2, rx⟩ := hy x H' hx
      have f2 := f.stay (e2.stays r)
      refine hg φ σ H' ρ x _ _ f2 rx ?_
      cases hm : mg items[i] ρ with
      | none => rw [hm] at p; exact p
      | some ρ1 =>
        rw [hm] at p
        intro σ1 f3
        refine hb φ σ1 H' ρ1 S _ r2 f3 ?_
        dsimp only at p
        cases hm2 : m ρ1 S with
        | nx ρ2 S2 =>
          rw [hm2] at p
          exact fun φ2 H2 σ2 e3 r3 f3 => ⟨φ2, ρ2, S2, (e.trans e2).trans e3, r3, f3, PostS.from (e2.trans e3) p⟩
        | ct ρ2 S2 =>
          rw [hm2] at p
          exact fun φ2 H2 σ2 e3 r3 f3 => ⟨φ2, ρ2, S2, (e.trans e2).trans e3, r3, f3, PostS.from (e2.trans e3) p⟩
        | bk ρ2 S2 => rw [hm2] at p; exact PostS.from (r := .bk ρ2 S2) e2 (by exact p)
        | rt d S2 => rw [hm2] at p; exact PostS.from (r := .rt d S2) e2 p
        | ex k ρ2 S2 => rw [hm2] at p; exact PostS.from (r := .ex k ρ2 S2) e2 p
        | no => rw [hm2] at p; exact p
    · exact False.elim p
  · left
    have e' : i = items.length := by omega
    subst e'
    rw [List.drop_length] at p
    unfold forD at p
    split at p
    · rename_i hgS
      exact ⟨IO.stop φ S H e r hgS, p φ H σ (Ext.refl r.nd) r f⟩
    · exact False.elim p

abbrev noG : Sto → Prop := fun _ => True
def inStore (n : Nat) (l : List D) : Sto → Prop := fun S => ∃ fz, S[n]? = some (.lst fz l)
section
variable {K : PySem.W.Frag} {c : Cl} {φ0 : List Addr} {H0 : Hp} {S0 : Sto}
theorem iter_tup {a : Addr} {vs : List V} {l : List D} (r0 : Rel K c φ0 S0 H0) (s : SqT K H0 a vs) (g : RepL K φ0 H0 l vs) : IterOk K c (Itt K a) l noG φ0 H0 := by
  refine ⟨fun φ S H i d e r _ hd => ?_, fun φ S H e r _ => ?_⟩
  · obtain ⟨v, hv, rv⟩ := g.get hd
    have st := e.stays r0
    have s' := st.tup _ _ s
    refine ⟨⟨vs, v, s', hv⟩, fun x H' hy => ?_⟩
    obtain ⟨rfl, hy⟩ := hy
    have := hy vs s'
    rw [hv] at this
    cases this
    exact ⟨Ext.refl r.nd, r, rv.stay st⟩
  · exact ⟨vs, (e.stays r0).tup _ _ s, by rw [g.length]; exact Nat.le_refl _⟩
/-- a list to be walked: its things, and what must stay meanwhile -/
def srcOf (S : Sto) : D → Option (List D × (Sto → Prop))
  | .pl l => some (l, noG)
  | .ref n => match S[n]? with
    | some (.lst _ l) => some (l, inStore n l)
    | _ => none
  | _ => none
theorem src_at {d : D} {v : V} {l : List D} {g : Sto → Prop} (r0 : Rel K c φ0 S0 H0) (h : Rep K φ0 H0 d v) (e : srcOf S0 d = some (l, g)) : ∃ a, v = .ref a ∧ (∃ vs, SqL K H0 a vs) ∧ ∀ φ S H, Ext φ0 H0 φ H → Rel K c φ S H → g S → ∃ vs, SqL K H a vs ∧ RepL K φ H l vs := by
  cases d with
  | pl l' =>
    cases e
    obtain ⟨a, vs, rfl, h1, h2⟩ := h.pl_
    exact ⟨a, rfl, ⟨vs, h1.sq⟩, fun φ S H e r _ => ⟨vs, ((e.stays r0).pul _ _ h1).sq, h2.stay (e.stays r0)⟩⟩
  | ref n =>
    simp only [srcOf] at e
    split at e
    · rename_i fz l' hl
      cases e
      obtain ⟨a, i1, rfl⟩ := h.ref_
      obtain ⟨us, _, s0, _⟩ := r0.lst i1 hl
      refine ⟨a, rfl, ⟨us, s0⟩, fun φ S H e r hS => ?_⟩
      obtain ⟨fz', hS⟩ := hS
      obtain ⟨vs, g, s, _⟩ := r.lst (e.ix i1) hS
      exact ⟨vs, s, g⟩
    · cases e
  | _ => cases e
theorem iter_src {a : Addr} {l : List D} {g : Sto → Prop} (h : ∀ φ S H, Ext φ0 H0 φ H → Rel K c φ S H → g S → ∃ vs, SqL K H a vs ∧ RepL K φ H l vs) : IterOk K c (Itl K a) l g φ0 H0 := by
  refine ⟨fun φ S H i d e r hS hd => ?_, fun φ S H e r hS => ?_⟩
  · obtain ⟨vs, s, gg⟩ := h φ S H e r hS
    obtain ⟨v, hv, rv⟩ := gg.get hd
    refine ⟨⟨vs, v, s, hv⟩, fun x H' hy => ?_⟩
    obtain ⟨rfl, hy⟩ := hy
    have := hy vs s
    rw [hv] at this
    cases this
    exact ⟨Ext.refl r.nd, r, rv⟩
  · obtain ⟨vs, s, gg⟩ := h φ S H e r hS
    exact ⟨vs, s, by rw [gg.length]; exact Nat.le_refl _⟩
def rangeD (lo : Int) (n : Nat) : List D := (List.range n).map fun (i : Nat) => D.int (lo + i)
theorem iter_range {lo : Int} {n : Nat} : IterOk K c (Itr lo n) (rangeD lo n) noG φ0 H0 := by
  refine ⟨fun φ S H i d e r _ hd => ?_, fun φ S H e r _ => ?_⟩
  · unfold rangeD at hd
    rw [List.getElem?_map] at hd
    obtain ⟨j, hj, rfl⟩ := Option.map_eq_some_iff.mp hd
    have hlt : i < n := by
      have := (List.getElem?_eq_some_iff.mp hj).1
      simpa using this
    have : j = i := by simpa [List.getElem?_range hlt] using hj.symm
    subst this
    refine ⟨hlt, fun x H' hy => ?_⟩
    obtain ⟨rfl, rfl⟩ := hy
    exact ⟨Ext.refl r.nd, r, rep_int⟩
  · show n ≤ (rangeD lo n).length
    simp [rangeD]
def signsD (x : Str) : List D := x.cps.toList.map fun k => D.str ⟨#[k]⟩
theorem iter_str {x : Str} : IterOk K c (Its x) (signsD x) noG φ0 H0 := by
  refine ⟨fun φ S H i d e r _ hd => ?_, fun φ S H e r _ => ?_⟩
  · unfold signsD at hd
    rw [List.getElem?_map] at hd
    obtain ⟨k, hk, rfl⟩ := Option.map_eq_some_iff.mp hd
    have hk' : x.cps[i]? = some k := by simpa using hk
    refine ⟨(Array.getElem?_eq_some_iff.mp hk').1, fun v H' hy => ?_⟩
    obtain ⟨rfl, k2, h2, rfl⟩ := hy
    rw [hk'] at h2
    cases h2
    exact ⟨Ext.refl r.nd, r, rep_str⟩
  · show x.cps.size ≤ (signsD x).length
    simp [signsD]
end
section
variable {X : Cx} {c : Cl} {W : WX} {tg e e2 : Expr} {me : ME} {ml : ML} {p pos : Pos}
/-- over a tuple, a text, a list of the store: by its kind -/
def iT (a : ME) : MI := fun ρ S => (a ρ S).bind fun d S1 => match d with
  | .tup l => .ok (l, noG) S1
  | _ => .no
def iS (a : ME) : MI := fun ρ S => (a ρ S).bind fun d S1 => match d with
  | .str x => .ok (signsD x, noG) S1
  | _ => .no
def iL (a : ME) : MI := fun ρ S => (a ρ S).bind fun d S1 => match srcOf S1 d with
  | some x => .ok x S1
  | none => .no
theorem di_tup (h : DE X c W e me) : DI X c W tg e (iT me) := by
  obtain ⟨t, pe, h⟩ := h
  refine ⟨_, pi_tup pe, fun φ σ H ρ S Q r f p => ?_⟩
  refine h φ σ H ρ S _ r f (PostW.elim p fun d S1 φ1 H1 e1 r1 p1 => fun x hx => ?_)
  split at p1
  · obtain ⟨a, vs, rfl, s, g⟩ := hx.tup_
    exact ⟨a, rfl, ⟨vs, s⟩, PostW.here r1 p1 _ (iter_tup r1 s g)⟩
  · exact False.elim p1
theorem di_str (h : DE X c W e me) : DI X c W tg e (iS me) := by
  obtain ⟨t, pe, h⟩ := h
  refine ⟨_, pi_str pe, fun φ σ H ρ S Q r f p => ?_⟩
  refine h φ σ H ρ S _ r f (PostW.elim p fun d S1 φ1 H1 e1 r1 p1 => fun x hx => ?_)
  split at p1
  · exact ⟨_, hx.str_, PostW.here r1 p1 _ iter_str⟩
  · exact False.elim p1
theorem di_lst (h : DE X c W e me) : DI X c W tg e (iL me) := by
  obtain ⟨t, pe, h⟩ := h
  refine ⟨_, pi_list pe, fun φ σ H ρ S Q r f p => ?_⟩
  refine h φ σ H ρ S _ r f (PostW.elim p fun d S1 φ1 H1 e1 r1 p1 => fun x hx => ?_)
  split at p1
  · rename_i y hl
    obtain ⟨a, rfl, hv, hh⟩ := src_at (l := y.1) (g := y.2) r1 hx hl
    exact ⟨a, rfl, hv, PostW.here r1 p1 _ (iter_src hh)⟩
  · exact False.elim p1
/-- range -/
def iR1 (a : ML) : MI := fun ρ S => (a ρ S).bind fun ds S1 => match ds with
  | [.int j] => if -(2 ^ 62) ≤ j ∧ j < 2 ^ 62 then .ok (rangeD 0 j.toNat, noG) S1 else .no
  | _ => .no
theorem di_range1 (hg : Gl X "range") (hm : X.mg "range" = none) (h : DA X c W [e] ml) (hs : starEach [e] X.env = [(false, eval e X.env)] := by rfl) : DI X c W tg (.Call (.Name "range" p) [e] [] pos) (iR1 ml) := by
  obtain ⟨t, pe, h⟩ := h
  refine ⟨_, pi_range1 hg hm pe hs, fun φ σ H ρ S Q r f p => ?_⟩
  refine h φ σ H ρ S _ r f (PostW.elim p fun d S1 φ1 H1 e1 r1 p1 => fun vs hv => ?_)
  split at p1
  · split at p1
    · rename_i hj
      obtain ⟨v, rfl, h1⟩ := one_of hv
      rw [h1.int_]
      exact ⟨_, rfl, hj.1, hj.2, PostW.here r1 p1 _ iter_range⟩
    · exact False.elim p1
  · exact False.elim p1
end

def zipD (l m : List D) : List D := (List.range (min l.length m.length)).map fun (i : Nat) => D.tup [l.getD i .non, m.getD i .non]
theorem zipD_get {l m : List D} {i : Nat} {d : D} (h : (zipD l m)[i]? = some d) : ∃ x y, l[i]? = some x ∧ m[i]? = some y ∧ d = .tup [x, y] := by
  unfold zipD at h
  rw [List.getElem?_map] at h
  obtain ⟨j, hj, rfl⟩ := Option.map_eq_some_iff.mp h
  have hlt : i < min l.length m.length := by
    have := (List.getElem?_eq_some_iff.mp hj).1
    simpa using this
  have : j = i := by simpa [List.getElem?_range hlt] using hj.symm
  subst this
  have h1 : j < l.length := by omega
  have h2 : j < m.length := by omega
  exact ⟨l[j], m[j], List.getElem?_eq_getElem h1, List.getElem?_eq_getElem h2, by rw [List.getD_eq_getElem?_getD, List.getElem?_eq_getElem h1, List.getD_eq_getElem?_getD, List.getElem?_eq_getElem h2]; rfl⟩
theorem zipD_len (l m : List D) : (zipD l m).length = min l.length m.length := by simp [zipD]
section
variable {K : PySem.W.Frag} {c : Cl} {φ0 : List Addr} {H0 : Hp} {S0 : Sto}
theorem pair_new {φ : List Addr} {S : Sto} {H : Hp} {T : Addr} {dx dy : D} {x y : V} (r : Rel K c φ S H) (hT : H T = none) (hx : Rep K φ H dx x) (hy : Rep K φ H dy y) :
    Ext φ H φ (upd H T (.tup [x, y])) ∧ Rel K c φ S (upd H T (.tup [x, y])) ∧ Rep K φ (upd H T (.tup [x, y])) (.tup [dx, dy]) (.ref T) := by
  obtain ⟨e, r'⟩ := r.fresh (u := .tup [x, y]) hT
  exact ⟨e, r', rep_tup (SqT.of upd_same) ((RepL.cons hx (RepL.cons hy RepL.nil)).stay (stays_free hT))⟩
theorem iter_zipS {a b : Addr} {l m : List D} {g1 g2 : Sto → Prop} (h : ∀ φ S H, Ext φ0 H0 φ H → Rel K c φ S H → g1 S → ∃ vs, SqL K H a vs ∧ RepL K φ H l vs) (h' : ∀ φ S H, Ext φ0 H0 φ H → Rel K c φ S H → g2 S → ∃ vs, SqL K H b vs ∧ RepL K φ H m vs) : IterOk K c (Itz K a b) (zipD l m) (fun S => g1 S ∧ g2 S) φ0 H0 := by
  refine ⟨fun φ S H i d e r hS hd => ?_, fun φ S H e r hS => ?_⟩
  · obtain ⟨x, y, hx, hy, rfl⟩ := zipD_get hd
    obtain ⟨vs, s, gg⟩ := h φ S H e r hS.1
    obtain ⟨us, s2, gg2⟩ := h' φ S H e r hS.2
    obtain ⟨v, hv, rv⟩ := gg.get hx
    obtain ⟨u, hu, ru⟩ := gg2.get hy
    refine ⟨⟨vs, us, v, u, s, s2, hv, hu⟩, fun w H' hw => ?_⟩
    obtain ⟨T, z, z2, rfl, hT, rfl, hz, hz2⟩ := hw
    have h1 := hz vs s
    rw [hv] at h1
    cases h1
    have h2 := hz2 us s2
    rw [hu] at h2
    cases h2
    exact pair_new r hT rv ru
  · obtain ⟨vs, s, gg⟩ := h φ S H e r hS.1
    obtain ⟨us, s2, gg2⟩ := h' φ S H e r hS.2
    refine ⟨vs, us, s, s2, ?_⟩
    rw [zipD_len, ← gg.length, ← gg2.length]
    omega
theorem iter_zipT {a b : Addr} {vs us : List V} {l m : List D} (r0 : Rel K c φ0 S0 H0) (s : SqT K H0 a vs) (g : RepL K φ0 H0 l vs) (s2 : SqT K H0 b us) (g2 : RepL K φ0 H0 m us) : IterOk K c (RZ.ItzT K a b) (zipD l m) noG φ0 H0 := by
  refine ⟨fun φ S H i d e r _ hd => ?_, fun φ S H e r _ => ?_⟩
  · obtain ⟨x, y, hx, hy, rfl⟩ := zipD_get hd
    obtain ⟨v, hv, rv⟩ := g.get hx
    obtain ⟨u, hu, ru⟩ := g2.get hy
    have st := e.stays r0
    have s' := st.tup _ _ s
    have s2' := st.tup _ _ s2
    refine ⟨⟨vs, us, v, u, s', s2', hv, hu⟩, fun w H' hw => ?_⟩
    obtain ⟨T, z, z2, rfl, hT, rfl, hz, hz2⟩ := hw
    have h1 := hz vs s'
    rw [hv] at h1
    cases h1
    have h2 := hz2 us s2'
    rw [hu] at h2
    cases h2
    exact pair_new r hT (rv.stay st) (ru.stay st)
  · refine ⟨vs, us, (e.stays r0).tup _ _ s, (e.stays r0).tup _ _ s2, ?_⟩
    rw [zipD_len, ← g.length, ← g2.length]
    omega
end
section
variable {X : Cx} {c : Cl} {W : WX} {e e2 : Expr} {me me2 : ME} {ml : ML} {p pos tpos : Pos} {elts : List Expr} {kk : Nat}
def iZL (a b : ME) : MI := fun ρ S => (a ρ S).bind fun d S1 => (b ρ S1).bind fun d2 S2 => match srcOf S2 d, srcOf S2 d2 with
  | some x, some y => .ok (zipD x.1 y.1, fun S => x.2 S ∧ y.2 S) S2
  | _, _ => .no
def iZT (a b : ME) : MI := fun ρ S => (a ρ S).bind fun d S1 => (b ρ S1).bind fun d2 S2 => match d, d2 with
  | .tup l, .tup m => .ok (zipD l m, noG) S2
  | _, _ => .no
theorem di_zipL (hg : Gl X "zip") (hm : X.mg "zip" = none) (h : DE X c W e me) (h2 : DE X c W e2 me2)
    (hs : starEach [e, e2] X.env = (false, eval e X.env) :: starEach [e2] X.env := by rfl) (hs2 : starEach [e2] X.env = (false, eval e2 X.env) :: starEach [] X.env := by rfl) (hpl : (backTo pos (starEach [e2] X.env)).any (·.1) = false := by rfl) :
    DI X c W (.Tuple elts kk tpos) (.Call (.Name "zip" p) [e, e2] [] pos) (iZL me me2) := by
  obtain ⟨t, pe, h⟩ := h
  obtain ⟨t2, pe2, h2⟩ := h2
  refine ⟨_, RZ.pi_zipA hg hm (pa_cons pe (pa_cons pe2 pa_nil hs2) hs) hs hpl, fun φ σ H ρ S Q r f p => ?_⟩
  refine h φ σ H ρ S _ r f (PostW.elim p fun d S1 φ1 H1 e1 r1 p1 => fun x hx => ?_)
  refine h2 φ1 σ H1 ρ S1 _ r1 (f.stay (e1.stays r)) (PostW.elim p1 fun d2 S2 φ2 H2 e2 r2 p2 => fun y hy => ?_)
  split at p2
  · rename_i w1 w2 h1 h2
    obtain ⟨a, rfl, ⟨vs, s⟩, hh⟩ := src_at (l := w1.1) (g := w1.2) r2 (hx.stay (e2.stays r1)) h1
    obtain ⟨b, rfl, ⟨us, s2⟩, hh2⟩ := src_at (l := w2.1) (g := w2.2) r2 hy h2
    exact ⟨a, b, vs, us, rfl, .inl ⟨s, s2, PostW.here r2 p2 _ (iter_zipS hh hh2)⟩⟩
  · exact False.elim p2
theorem di_zipT (hg : Gl X "zip") (hm : X.mg "zip" = none) (h : DE X c W e me) (h2 : DE X c W e2 me2)
    (hs : starEach [e, e2] X.env = (false, eval e X.env) :: starEach [e2] X.env := by rfl) (hs2 : starEach [e2] X.env = (false, eval e2 X.env) :: starEach [] X.env := by rfl) (hpl : (backTo pos (starEach [e2] X.env)).any (·.1) = false := by rfl) :
    DI X c W (.Tuple elts kk tpos) (.Call (.Name "zip" p) [e, e2] [] pos) (iZT me me2) := by
  obtain ⟨t, pe, h⟩ := h
  obtain ⟨t2, pe2, h2⟩ := h2
  refine ⟨_, RZ.pi_zipA hg hm (pa_cons pe (pa_cons pe2 pa_nil hs2) hs) hs hpl, fun φ σ H ρ S Q r f p => ?_⟩
  refine h φ σ H ρ S _ r f (PostW.elim p fun d S1 φ1 H1 e1 r1 p1 => fun x hx => ?_)
  refine h2 φ1 σ H1 ρ S1 _ r1 (f.stay (e1.stays r)) (PostW.elim p1 fun d2 S2 φ2 H2 e2 r2 p2 => fun y hy => ?_)
  split at p2
  · obtain ⟨a, vs, rfl, s, g⟩ := (hx.stay (e2.stays r1)).tup_
    obtain ⟨b, us, rfl, s2, g2⟩ := hy.tup_
    exact ⟨a, b, vs, us, rfl, .inr ⟨s, s2, PostW.here r2 p2 _ (iter_zipT r2 s g s2 g2)⟩⟩
  · exact False.elim p2
end
end MM

namespace MM
open PySem PySem.Spec PyProof.Rows L2

abbrev WF : WX := fun _ _ _ _ => False
def tM (K : PySem.W.Frag) (c : Cl) (W : WX) (m : ME) : TE := fun σ H Q => ∃ φ ρ S, Rel K c φ S H ∧ FrRel K φ H σ ρ ∧ PostW K c W σ φ H (gE K Q) (m ρ S)
def tMT (K : PySem.W.Frag) (c : Cl) (W : WX) (m : MT) : TT := fun σ H Q => ∃ φ ρ S, Rel K c φ S H ∧ FrRel K φ H σ ρ ∧ PostW K c W σ φ H (gT Q) (m ρ S)
theorem DE.pe {X : Cx} {c : Cl} {W : WX} {e : Expr} {m : ME} (h : DE X c W e m) : PE X e (tM X.K c W m) := by
  obtain ⟨t, p, h⟩ := h
  exact ⟨fun pins s σ H Q I ⟨φ, ρ, S, r, f, q⟩ => p.run pins s σ H Q I (h φ σ H ρ S Q r f q)⟩
theorem DT.pt {X : Cx} {c : Cl} {W : WX} {e : Expr} {m : MT} (h : DT X c W e m) : PT X e (tMT X.K c W m) := by
  obtain ⟨t, p, h⟩ := h
  exact ⟨fun pins s σ H Q I ⟨φ, ρ, S, r, f, q⟩ => p.run pins s σ H Q I (h φ σ H ρ S Q r f q)⟩
/-- targets of a comprehension: they touch its own slots alone -/
def gMo (K : PySem.W.Frag) (m : MG) (vs : List Nat) : TG := fun v σ H Q => ∃ φ ρ d, FrRel K φ H σ ρ ∧ Rep K φ H d v ∧ (match m d ρ with
  | some ρ' => ∀ σ', FrRel K φ H σ' ρ' → wipe σ' vs = wipe σ vs → Q σ' H
  | none => False)
def DGo (X : Cx) (tg : Expr) (m : MG) (vs : List Nat) : Prop := PG X tg (gMo X.K m vs)
theorem wipe_get {σ : L2.St} {j : Nat} : ∀ {vs : List Nat}, (wipe σ vs)[j]? = if j ∈ vs then σ[j]?.map (fun _ => none) else σ[j]?
  | [] => by simp [wipe]
  | v :: vs => by
    unfold wipe
    by_cases e : v = j
    · subst e
      simp only [List.mem_cons, true_or, if_true]
      by_cases hl : v < σ.length
      · rw [List.getElem?_set_self (by rw [wipe_length]; exact hl), List.getElem?_eq_getElem hl]
        rfl
      · rw [List.getElem?_eq_none (by rw [List.length_set, wipe_length]; omega), List.getElem?_eq_none (by omega)]
        rfl
    · rw [List.getElem?_set_ne e, wipe_get]
      have : (j ∈ v :: vs) ↔ j ∈ vs := by simp [Ne.symm e]
      by_cases h : j ∈ vs
      · rw [if_pos h, if_pos (this.mpr h)]
      · rw [if_neg h, if_neg (fun q => h (this.mp q))]
theorem wipe_set {σ : L2.St} {vs : List Nat} {i : Nat} {x : Option V} (h : i ∈ vs) : wipe (σ.set i x) vs = wipe σ vs := by
  apply List.ext_getElem?
  intro j
  rw [wipe_get, wipe_get]
  by_cases e : i = j
  · subst e
    rw [if_pos h, if_pos h]
    by_cases hl : i < σ.length
    · rw [List.getElem?_set_self hl, List.getElem?_eq_getElem hl]
      rfl
    · rw [List.getElem?_eq_none (by rw [List.length_set]; omega), List.getElem?_eq_none (by omega)]
  · rw [List.getElem?_set_ne e]
theorem dgo_name {X : Cx} {i : Nat} {x : Str} {pos : Pos} {vs : List Nat} (h : PG X (.Name x pos) (gName i)) (hi : i ∈ vs) : DGo X (.Name x pos) (tN i) vs :=
  ⟨fun pins s σ H v u Q I r ⟨φ, ρ, d, f, rd, q⟩ => h.run pins s σ H v u Q I r (q _ (f.set i rd) (wipe_set hi))⟩
def R.cut {α : Type} : R α → R α
  | .ok a S => .ok a S
  | _ => .no
def wipeF (ρ : Fr) (vs : List Nat) : Fr := vs.foldr (fun v r => r.set v none) ρ
theorem wipeF_length (ρ : Fr) : ∀ vs : List Nat, (wipeF ρ vs).length = ρ.length
  | [] => rfl
  | v :: vs => by
    show ((wipeF ρ vs).set v none).length = _
    rw [List.length_set, wipeF_length ρ vs]
theorem FrRel.wipe {K : PySem.W.Frag} {φ : List Addr} {H : Hp} {σ : L2.St} {ρ : Fr} (f : FrRel K φ H σ ρ) : ∀ vs : List Nat, FrRel K φ H (wipe σ vs) (wipeF ρ vs)
  | [] => f
  | v :: vs => by
    have ih := FrRel.wipe f vs
    refine ⟨by rw [wipeF_length, wipe_length, f.1], fun j d hj => ?_⟩
    have hj' : ((wipeF ρ vs).set v none)[j]? = some (some d) := hj
    by_cases e : v = j
    · subst e
      have hl : v < (wipeF ρ vs).length := by
        have := (List.getElem?_eq_some_iff.mp hj').1
        simpa using this
      rw [List.getElem?_set_self hl] at hj'
      cases hj'
    · rw [List.getElem?_set_ne e] at hj'
      obtain ⟨v', h1, h2⟩ := ih.2 j d hj'
      refine ⟨v', ?_, h2⟩
      unfold L2.wipe
      rw [List.getElem?_set_ne e]
      exact h1
open Classical in
noncomputable def lcD (g : Sto → Prop) (tg : MG) (t : MT) (m : ME) (ρ : Fr) : List D → Sto → R (List D)
  | [], S => if g S then .ok [] S else .no
  | d :: ds, S => if g S then (match tg d ρ with
    | some ρ1 => (t ρ1 S).cut.bind fun b S1 => if b = true then (m ρ1 S1).cut.bind fun y S2 => (lcD g tg t m ρ ds S2).bind fun ys S3 => .ok (y :: ys) S3 else lcD g tg t m ρ ds S1
    | none => .no) else .no
noncomputable def lComp (i : MI) (vs : List Nat) (tg : MG) (t : MT) (m : ME) : ML := fun ρ S => (i ρ S).bind fun x S1 => if x.1.length ≤ sizeLine then lcD x.2 tg t m (wipeF ρ vs) x.1 S1 else .no
def tYs : MT := fun _ S => .ok true S
section
variable {K : PySem.W.Frag} {c : Cl} {φ φ1 : List Addr} {H H1 : Hp} {S : Sto}
/-- an object that the store does not know is changed (a list) -/
theorem Rel.other (r : Rel K c φ S H) {a : Addr} {xs ys : List V} (h : H a = some (.lst xs)) (n : a ∉ φ) : Rel K c φ S (upd H a (.lst ys)) ∧ Stays K φ H φ (upd H a (.lst ys)) := by
  have st : Stays K φ H φ (upd H a (.lst ys)) := ⟨fun _ _ q => q, fun b zs q => by
    rcases q with (q | ⟨ob, q⟩) | q
    · exact .inl (.inl (by rw [upd_ne (fun e => by rw [e, h] at q; cases q)]; exact q))
    · exact .inl (.inr ⟨ob, by rw [upd_ne (fun e => by rw [e, h] at q; cases q)]; exact q⟩)
    · exact .inr q, fun b zs q => by
    obtain ⟨n, o, q⟩ := q
    exact ⟨n, o, by rw [upd_ne (fun e => by rw [e, h] at q; cases q)]; exact q⟩⟩
  refine ⟨⟨r.len, r.nd, fun m b o h1 h2 => (r.obj m b o h1 h2).stay st (upd_ne fun e => n (by rw [← e]; exact List.mem_of_getElem? h1))⟩, st⟩
theorem Ext.other (e : Ext φ1 H1 φ H) {a : Addr} {u : HO} (h : H1 a = none) : Ext φ1 H1 φ (upd H a u) :=
  ⟨e.more, e.nd, fun b o hb nb => by rw [upd_ne (ne_of_none hb h)]; exact e.keep b o hb nb, fun b ob u hb => by rw [upd_ne (ne_of_none hb h)]; exact e.frz b ob u hb⟩
end
theorem R.cut_ok {α : Type} {r : R α} {a : α} {S : Sto} (h : r.cut = .ok a S) : r = .ok a S := by
  cases r <;> first | exact h | cases h
theorem lc_reads {X : Cx} {c : Cl} {W : WX} {mi : MI} {vs : List Nat} {tg : MG} {mt : MT} {m : ME} {ti : TI}
    (hi : ∀ φ σ H ρ S Q, Rel X.K c φ S H → FrRel X.K φ H σ ρ → PostW X.K c W σ φ H (gI X.K c Q) (mi ρ S) → ti σ H Q) :
    ∀ φ σ H ρ S Q, Rel X.K c φ S H → FrRel X.K φ H σ ρ → PostW X.K c W σ φ H (gN X.K H Q) (lComp mi vs tg mt m ρ S) → tLc ti (gMo X.K tg vs) (tMT X.K c WF mt) (tM X.K c WF m) vs σ H Q := by
  intro φ0 σ H0 ρ S0 Q r0 f0 p0
  refine hi φ0 σ H0 ρ S0 _ r0 f0 (PostW.elim p0 fun x S1 φ1 H1 e1 r1 p1 => fun J IO => ?_)
  obtain ⟨items, g⟩ := x
  dsimp only at p1 IO
  split at p1
  · rename_i hz
    intro D hD
    have fw := (f0.stay (e1.stays r0)).wipe vs
    have hD0 : H0 D = none := e1.back r1 hD
    have hDn : D ∉ φ1 := r1.free hD
    -- what is wanted of what is left of the comprehension
    let Fin : List MM.D → R (List MM.D) → Prop := fun acc r => match r with
      | .ok ys S' => ∀ φ' H' us, Ext φ1 H1 φ' H' → Rel X.K c φ' S' H' → D ∉ φ' → H' D = some (.lst us) → RepL X.K φ' H' (acc ++ ys) us → Q (.ref D) H'
      | _ => False
    have fin0 : Fin [] (lcD g tg mt m (wipeF ρ vs) items S1) := by
      cases hr : lcD g tg mt m (wipeF ρ vs) items S1 with
      | ok ys S' =>
        rw [hr] at p1
        exact fun φ' H' us e' r' n' hD' g' => p1 φ' H' e' r' D us hD0 hD' n' g'
      | ex k S' =>
        exfalso
        have : ∀ (l : List MM.D) (S : Sto) k S', lcD g tg mt m (wipeF ρ vs) l S ≠ .ex k S' := by
          intro l
          induction l with
          | nil =>
            intro S k S' q
            unfold lcD at q
            split at q <;> cases q
          | cons d ds ih =>
            intro S k S' q
            unfold lcD at q
            split at q
            · split at q
              · rename_i ρ1 _
                cases ht : (mt ρ1 S).cut with
                | no => rw [ht] at q; cases q
                | ex a b => cases h : mt ρ1 S <;> rw [h] at ht <;> cases ht
                | ok b S1 =>
                  rw [ht] at q
                  dsimp only [R.bind] at q
                  split at q
                  · cases hm : (m ρ1 S1).cut with
                    | no => rw [hm] at q; cases q
                    | ex a b => cases h : m ρ1 S1 <;> rw [h] at hm <;> cases hm
                    | ok y S2 =>
                      rw [hm] at q
                      dsimp only [R.bind] at q
                      cases hl : lcD g tg mt m (wipeF ρ vs) ds S2 with
                      | no => rw [hl] at q; cases q
                      | ok a b => rw [hl] at q; cases q
                      | ex a b => exact ih _ _ _ hl
                  · exact ih _ _ _ q
              · cases q
            · cases q
        exact this _ _ _ _ hr
      | no => rw [hr] at p1; exact p1
    obtain ⟨eD, rD⟩ := r1.fresh (u := .lst []) hD
    refine ⟨fun i m' H => m' = items.length - i ∧ i ≤ items.length ∧ ∃ φ S acc us, Ext φ1 H1 φ H ∧ Rel X.K c φ S H ∧ D ∉ φ ∧ H D = some (.lst us) ∧ RepL X.K φ H acc us ∧ us.length ≤ i ∧ Stays X.K φ1 H1 φ H ∧ Fin acc (lcD g tg mt m (wipeF ρ vs) (items.drop i) S),
      ⟨items.length, by simp, Nat.zero_le _, φ1, S1, [], [], eD, rD, hDn, upd_same, RepL.nil, Nat.le_refl _, eD.stays r1, by simpa using fin0⟩, ?_⟩
    rintro i m' H ⟨rfl, hle, φ, S, acc, us, e, r, nD, hDl, ga, hlen, st, fin⟩
    by_cases hlt : i < items.length
    · right
      rw [List.drop_eq_getElem_cons hlt] at fin
      unfold lcD at fin
      split at fin
      · rename_i hgS
        obtain ⟨hgo, hy⟩ := IO.go φ S H i _ e r hgS (List.getElem?_eq_getElem hlt)
        refine ⟨hgo, fun H' => ∃ φ' S' acc' us', Ext φ1 H1 φ' H' ∧ Rel X.K c φ' S' H' ∧ D ∉ φ' ∧ H' D = some (.lst us') ∧ RepL X.K φ' H' acc' us' ∧ us'.length ≤ i + 1 ∧ Stays X.K φ1 H1 φ' H' ∧ Fin acc' (lcD g tg mt m (wipeF ρ vs) (items.drop (i + 1)) S'), fun H' h' => ⟨items.length - (i + 1), by omega, rfl, hlt, h'⟩, fun x H' hx => ?_⟩
        obtain ⟨e2, r2, rx⟩ := hy x H' hx
        have st2 := e2.stays r
        have fw2 := (fw.stay st).stay st2
        refine ⟨φ, wipeF ρ vs, items[i], fw2, rx, ?_⟩
        cases hm : tg items[i] (wipeF ρ vs) with
        | none => rw [hm] at fin; exact fin
        | some ρ1 =>
          rw [hm] at fin
          dsimp only at fin
          intro σ1 f3 hw
          refine ⟨hw.trans (by
            apply List.ext_getElem?
            intro j
            rw [wipe_get, wipe_get]
            by_cases hj : j ∈ vs
            · simp only [hj, if_true, Option.map_map]
              rfl
            · simp [hj]), φ, ρ1, S, r2, f3, ?_⟩
          cases ht : mt ρ1 S with
          | no => rw [ht] at fin; exact fin
          | ex k S2 => rw [ht] at fin; exact fin.elim
          | ok b S2 =>
            rw [ht] at fin
            dsimp only [R.cut, R.bind] at fin
            intro φ3 H3 e3 r3
            have eA := (e.trans e2).trans e3
            have st3 := e3.stays r2
            have nD2 : D ∉ φ := nD
            have hD2 : H' D = some (.lst us) := e2.keep _ _ hDl nD
            have hD3 : H3 D = some (.lst us) := e3.keep _ _ hD2 nD
            have nD3 : D ∉ φ3 := e3.notin hD2 nD
            have ga3 := (ga.stay st2).stay st3
            have stAll : Stays X.K φ1 H1 φ3 H3 := ⟨fun n a h => st3.ix _ _ (st2.ix _ _ (st.ix _ _ h)), fun a xs h => st3.tup _ _ (st2.tup _ _ (st.tup _ _ h)), fun a xs h => st3.pul _ _ (st2.pul _ _ (st.pul _ _ h))⟩
            dsimp only [gT]
            split
            · rename_i hb
              rw [if_pos hb] at fin
              refine ⟨φ3, ρ1, S2, r3, f3.stay st3, ?_⟩
              cases hm2 : m ρ1 S2 with
              | no => rw [hm2] at fin; exact fin
              | ex k S4 => rw [hm2] at fin; exact fin.elim
              | ok y S4 =>
                rw [hm2] at fin
                dsimp only [R.cut, R.bind] at fin
                intro φ4 H4 e4 r4 v hv
                have st4 := e4.stays r3
                have hD4 : H4 D = some (.lst us) := e4.keep _ _ hD3 nD3
                have nD4 : D ∉ φ4 := e4.notin hD3 nD3
                refine ⟨us, hD4, by omega, ?_⟩
                obtain ⟨r5, st5⟩ := r4.other (ys := us ++ [v]) hD4 nD4
                refine ⟨φ4, S4, acc ++ [y], us ++ [v], (eA.trans e4).other hD, r5, nD4, upd_same, ((ga3.stay st4).append (RepL.cons hv RepL.nil)).stay st5, by simp; omega,
                  ⟨fun n a h => st5.ix _ _ (st4.ix _ _ (stAll.ix _ _ h)), fun a xs h => st5.tup _ _ (st4.tup _ _ (stAll.tup _ _ h)), fun a xs h => st5.pul _ _ (st4.pul _ _ (stAll.pul _ _ h))⟩, ?_⟩
                cases hl : lcD g tg mt m (wipeF ρ vs) (items.drop (i + 1)) S4 with
                | no => rw [hl] at fin; exact fin
                | ex k S5 => rw [hl] at fin; exact fin
                | ok ys S5 =>
                  rw [hl] at fin
                  intro φ' H' us' e' r' n' hD' g'
                  exact fin φ' H' us' e' r' n' hD' (by simpa using g')
            · rename_i hb
              rw [if_neg hb] at fin
              exact ⟨φ3, S2, acc, us, eA, r3, nD3, hD3, ga3, by omega, stAll, fin⟩
      · exact fin.elim
    · left
      have e' : i = items.length := by omega
      subst e'
      rw [List.drop_length] at fin
      unfold lcD at fin
      split at fin
      · rename_i hgS
        exact ⟨IO.stop φ S H e r hgS, fin φ H us e r nD hDl (by simpa using ga)⟩
      · exact fin.elim
  · exact False.elim p1
section
variable {X : Cx} {c : Cl} {W : WX} {elt tg iter : Expr} {ifs : List Expr} {scope : Scope} {own : List (Str × Nat)} {pos : Pos} {mi : MI} {mg : MG} {mt : MT} {m : ME}
theorem dn_lc (hc : X.calm = true) (hN : X.N.Nodup) (hi : DI X c W tg iter mi) (ok : BlkOk X.N X.env.scope scope own)
    (hg : ∀ (s : Shared) (H : Hp) (C : Addr) (cl : List (Str × Addr)) (fp : List Addr), DGo (X.blk s H scope (compEnvC scope cl C X.env) fp) tg mg (own.map (·.2)))
    (he : ∀ (s : Shared) (H : Hp) (C : Addr) (cl : List (Str × Addr)) (fp : List Addr), DE (X.blk s H scope (compEnvC scope cl C X.env) fp) c WF elt m) (hs : ∀ x, foldedSetIterable iter X.env x = pure x := by intro _; rfl) :
    DN X c W (.ListComp elt [⟨tg, iter, [], 0⟩] scope pos) (lComp mi (own.map (·.2)) mg tYs m) := by
  obtain ⟨ti, pi, hi⟩ := hi
  refine ⟨_, pe_lc (g := gMo X.K mg (own.map fun (p : Str × Nat) => p.2)) (tt := tMT X.K c WF tYs) (te := tM X.K c WF m) hc hN pi ok (fun s H C cl fp => hg s H C cl fp) (fun s H C cl fp => ?_) (fun s H C cl fp => (he s H C cl fp).pe) hs, lc_reads hi⟩
  exact ⟨fun pins s' σ H' Q I ⟨φ, ρ, S, r, f, q⟩ => (pts_nil).run pins s' σ H' Q I (q φ H' (Ext.refl r.nd) r)⟩
/-- y = [..], never written -/
theorem ds_setLcP {i : Nat} {D' : Ends} {σ : L2.St} {φ : List Addr} {H : Hp} {ρ : Fr} {S : Sto} {t : TE} {ml : ML} (r : Rel X.K c φ S H) (f : FrRel X.K φ H σ ρ)
    (h : ∀ φ σ H ρ S Q, Rel X.K c φ S H → FrRel X.K φ H σ ρ → PostW X.K c W σ φ H (gN X.K H Q) (ml ρ S) → t σ H Q)
    (p : PostS X.K c W φ H D' (sSet i (ePl ml) ρ S)) : tAsg t (gName i) { D' with nx := fun σ' H' => FrzTo H' (D'.nx σ') } σ H := by
  refine h φ σ H ρ S _ r f ?_
  unfold sSet ePl at p
  cases hm : ml ρ S with
  | no => rw [hm] at p; exact p
  | ex k S1 => rw [hm] at p; exact fun φ1 H1 e1 r1 => p φ1 H1 σ e1 r1 (f.stay (e1.stays r))
  | ok ds S1 =>
    rw [hm] at p
    intro φ1 H1 e1 r1 q vs h0 hq hn g
    exact lock_new (H0 := H) r1 hq hn g fun ob r2 st rp => p φ1 _ _ (ext_lock e1 h0) r2 (((f.stay (e1.stays r)).stay st).set i rp)
theorem ds_setLcIfQ {d : Expr} {i : Nat} {y : Str} {py spos : Pos} (hc : X.calm = true) (hN : X.N.Nodup) (hy : X.N[i]? = some y) (hyl : X.env.scope.names.lookup y = some .local)
    (hsw : swapsWith (.ListComp elt [⟨tg, iter, [d], 0⟩] scope pos) (some (.Name y py)) spos.line X.env = pure true) (hi : DI X c W tg iter mi) (ok : BlkOk X.N X.env.scope scope own)
    (hg : ∀ (s : Shared) (H : Hp) (C : Addr) (cl : List (Str × Addr)) (fp : List Addr), DGo (X.blk s H scope (compEnvC scope cl C X.env) fp) tg mg (own.map (·.2)))
    (ht : ∀ (s : Shared) (H : Hp) (C : Addr) (cl : List (Str × Addr)) (fp : List Addr), DT (X.blk s H scope (compEnvC scope cl C X.env) fp) c WF d mt)
    (he : ∀ (s : Shared) (H : Hp) (C : Addr) (cl : List (Str × Addr)) (fp : List Addr), DE (X.blk s H scope (compEnvC scope cl C X.env) fp) c WF elt m) (hs : ∀ x, foldedSetIterable iter X.env x = pure x := by intro _; rfl) :
    DS X c W (.Assign [.Name y py] (.ListComp elt [⟨tg, iter, [d], 0⟩] scope pos) spos) (sSet i (ePl (lComp mi (own.map (·.2)) mg mt m))) := by
  obtain ⟨ti, pi, hi⟩ := hi
  exact ⟨_, ps_frz (ps_setLc (i := i) (g := gMo X.K mg (own.map fun (p : Str × Nat) => p.2)) (tt := tMT X.K c WF mt) (te := tM X.K c WF m) hc hN hy hyl hsw pi ok (fun s H C cl fp => hg s H C cl fp) (fun s H C cl fp => pts_one (ht s H C cl fp).pt) (fun s H C cl fp => (he s H C cl fp).pe) hs),
    fun φ σ H ρ S E r f p => ds_setLcP r f (lc_reads hi) p⟩
end
end MM

namespace MM
open PySem PySem.Spec PyProof.Rows L2

/-- the promise: what sp tells of the arguments' data and the store -/
def spOf (K : PySem.W.Frag) (c : Cl) (n : Nat) (sp : FL) : Sp := fun vs H Q E => ∃ φ S ds, Rel K c φ S H ∧ RepL K φ H ds vs ∧ ds.length = n ∧ PostW K c (fun cls d _ H' => E cls d H') [] φ H (gE K Q) (sp ds S)
structure FnD (P : Program) (w : World) (K : PySem.W.Frag) (mg : Str → Option Value) (base : Heap) (c : Cl) (k : Nat) (f : Addr) (fd : FuncData) (ps : List Str) (sp : FL) : Prop where
  ok : FnOk P w K mg base (L2.CX P w) k f fd ps (spOf K c ps.length sp)
theorem FnD.mono {P : Program} {w : World} {K : PySem.W.Frag} {mg : Str → Option Value} {base : Heap} {c : Cl} {j k : Nat} {f : Addr} {fd : FuncData} {ps : List Str} {sp : FL} (F : FnD P w K mg base c j f fd ps sp) (h : j ≤ k) : FnD P w K mg base c k f fd ps sp := ⟨F.ok.mono h⟩
/-- W and σ do not matter but for what is raised -/
theorem PostW.wish {α : Type} {K : PySem.W.Frag} {c : Cl} {W W' : WX} {σ σ' : L2.St} {φ : List Addr} {H : Hp} {good : α → Sto → List Addr → Hp → Prop} {r : R α} (h : PostW K c W σ φ H good r) (hw : ∀ cls d H', W cls d σ H' → W' cls d σ' H') : PostW K c W' σ' φ H good r := by
  cases r with
  | ok a S => exact h
  | ex k S => exact fun φ' H' e r => hw _ _ _ (h φ' H' e r)
  | no => exact h
section
variable {X : Cx} {c : Cl} {W : WX} {k : Nat} {f : Addr} {fd : FuncData} {ps : List Str} {sp : FL} {x : Str} {p pos : Pos} {e : Expr} {es : List Expr} {ml : ML}
theorem de_call (F : FnD X.prog X.w X.K X.mg X.base c k f fd ps sp) (hr : Room k X.A) (hg : Gl X x) (hm : X.mg x = some (.ref f)) (hk : PySem.W.keepIn X.K (.ref f) = true) (hb : Binds X.K fd ps []) (tk : Takes X W)
    (ha : DA X c W (e :: es) ml) (hlen : ps.length = (e :: es).length) (hl : ∀ ρ S ds S', ml ρ S = .ok ds S' → ds.length = ps.length) (hdb : (x == ("__debug__" : Str)) = false := by decide) (he : starEach (e :: es) X.env = (false, eval e X.env) :: starEach es X.env := by rfl) (hpl : (backTo pos (starEach es X.env)).any (·.1) = false := by rfl) :
    DE X c W (.Call (.Name x p) (e :: es) [] pos) (eCall sp ml) := by
  obtain ⟨ta, pa, ha⟩ := ha
  refine ⟨_, pe_callS (E := WE W) F.ok hr hg hm hk hb (fun σ => passAt tk σ) pa hdb he hpl, fun φ σ H ρ S Q r f p => ?_⟩
  refine ha φ σ H ρ S _ r f ?_
  unfold eCall at p
  cases hq : ml ρ S with
  | no => rw [hq] at p; exact p
  | ex k S1 => rw [hq] at p; exact p
  | ok ds S1 =>
    rw [hq] at p
    intro φ1 H1 e1 r1 vs hv
    exact ⟨φ1, S1, ds, r1, hv, hl _ _ _ _ hq, (PostW.from e1 p).wish fun _ _ _ h => h⟩
end
/-- how many arguments come -/
theorem aCons_len {a : ME} {m : ML} {n : Nat} (h : ∀ ρ S ds S', m ρ S = .ok ds S' → ds.length = n) : ∀ ρ S ds S', aCons a m ρ S = .ok ds S' → ds.length = n + 1 := by
  intro ρ S ds S' e
  unfold aCons at e
  cases ha : a ρ S with
  | no => rw [ha] at e; cases e
  | ex k S1 => rw [ha] at e; cases e
  | ok d S1 =>
    rw [ha] at e
    dsimp only [R.bind] at e
    cases hm : m ρ S1 with
    | no => rw [hm] at e; cases e
    | ex k S1 => rw [hm] at e; cases e
    | ok ds' S2 =>
      rw [hm] at e
      cases e
      simp [h _ _ _ _ hm]
theorem aNil_len : ∀ ρ S ds S', aNil ρ S = .ok ds S' → ds.length = 0 := by
  intro ρ S ds S' e
  cases e
  rfl

/-- the frame at a def's entry -/
def startF (n : Nat) (ds : List D) : Fr := ds.map some ++ List.replicate (n - ds.length) none
def RS.end : RS → R D
  | .nx _ S => .ok .non S
  | .rt d S => .ok d S
  | .ex k _ S => .ex k S
  | _ => .no
def body (n : Nat) (m : MS) : FL := fun ds S => (m (startF n ds) S).end
theorem start_rel {K : PySem.W.Frag} {φ : List Addr} {H : Hp} {N : List Str} {ds : List D} {vs : List V} (h : RepL K φ H ds vs) : FrRel K φ H (L2.start N vs) (startF N.length ds) := by
  have e := h.length
  refine ⟨by simp [L2.start, startF, e], fun i d hi => ?_⟩
  unfold startF at hi
  by_cases hl : i < ds.length
  · rw [List.getElem?_append_left (by simpa using hl), List.getElem?_map] at hi
    obtain ⟨d', h1, h2⟩ := Option.map_eq_some_iff.mp hi
    cases h2
    obtain ⟨v, h3, h4⟩ := h.get h1
    refine ⟨v, ?_, h4⟩
    unfold L2.start
    rw [List.getElem?_append_left (by simp; omega), List.getElem?_map, h3]
    rfl
  · rw [List.getElem?_append_right (by simp; omega)] at hi
    have := List.mem_of_getElem? hi
    rw [List.mem_replicate] at this
    cases this.2
theorem fnD_of {P : Program} {w : World} {K : PySem.W.Frag} {mg : Str → Option Value} {base : Heap} {c : Cl} {x qual : Str} {st : Stmt} {f : Addr} {fd : FuncData} {N ps : List Str} {k : Nat} {m : MS} (F : Fun K x qual st f fd) (S : FnScope N ps (defScope st))
    (hbody : ∀ (cdv : Value) (A : Around) (outer : List Env) (s : Shared) (H : Hp) (E : XK), Room k (A.deeper (envOfC qual (defScope st) s.heap.objs.size f cdv)) →
      Takes (cxOf (L2.CX P w) P w K mg base N qual (defScope st) f cdv A outer s H E) (fun cls d _ H' => E cls d H') → PassesOwn (model P w) (A.deeper (envOfC qual (defScope st) s.heap.objs.size f cdv)) (envOfC qual (defScope st) s.heap.objs.size f cdv) (cxOf (L2.CX P w) P w K mg base N qual (defScope st) f cdv A outer s H E).xe →
      DSs (cxOf (L2.CX P w) P w K mg base N qual (defScope st) f cdv A outer s H E) c (fun cls d _ H' => E cls d H') (defBody st) m) : FnD P w K mg base c (k + 1) f fd ps (body N.length m) := by
  refine ⟨F.okX S (fun vs H Q E h => ?_) (fun cdv A outer s H vs Q E hr h => ?_)⟩
  · obtain ⟨φ, S, ds, r, hv, hl, _⟩ := h
    rw [← hv.length, hl]
  · obtain ⟨φ, S', ds, r, hv, hl, p⟩ := h
    obtain ⟨t, pt, ht⟩ := hbody cdv A outer s H E hr (takes_of rfl rfl rfl rfl) (passes_of (X := cxOf (L2.CX P w) P w K mg base N qual (defScope st) f cdv A outer s H E) rfl)
    refine ⟨t, pt, ht φ _ H (startF N.length ds) S' _ r (start_rel hv) ?_⟩
    unfold body at p
    cases hm : m (startF N.length ds) S' with
    | nx ρ S1 => rw [hm] at p; exact fun φ' H' σ' e' r' f' => p φ' H' e' r' _ rep_non
    | rt d S1 => rw [hm] at p; exact fun φ' H' v e' r' rv => p φ' H' e' r' _ rv
    | ex k ρ S1 => rw [hm] at p; exact fun φ' H' σ' e' r' f' => p φ' H' e' r'
    | bk ρ S1 => rw [hm] at p; exact False.elim p
    | ct ρ S1 => rw [hm] at p; exact False.elim p
    | no => rw [hm] at p; exact False.elim p

mutual
/-- all addresses within lie below n -/
def bdD (n : Nat) : D → Prop
  | .ref m => m < n
  | .tup l => bdL n l
  | .non => True
  | .bl _ => True
  | .int _ => True
  | .str _ => True
  | .scr _ => True
  | .pl l => bdL n l
def bdL (n : Nat) : List D → Prop
  | [] => True
  | d :: ds => bdD n d ∧ bdL n ds
end
def bdKV {κ : Type} (n : Nat) : List (κ × D) → Prop
  | [] => True
  | d :: ds => bdD n d.2 ∧ bdKV n ds
def bdO (n : Nat) : O → Prop
  | .lst _ l => bdL n l
  | .dct _ l => bdKV n l
  | .ins _ l => bdKV n l
def Closed (S : Sto) : Prop := ∀ o ∈ S, bdO S.length o
mutual
theorem Rep.lt {K : PySem.W.Frag} {φ : List Addr} {H : Hp} : ∀ (d : D) (v : V), Rep K φ H d v → bdD φ.length d
  | .non, _, _ => by unfold bdD; trivial
  | .bl _, _, _ => by unfold bdD; trivial
  | .int _, _, _ => by unfold bdD; trivial
  | .str _, _, _ => by unfold bdD; trivial
  | .scr _, _, _ => by unfold bdD; trivial
  | .pl l, v, h => by
    unfold bdD
    obtain ⟨a, vs, rfl, s, g⟩ := h.pl_
    exact RepL.lt l vs g
  | .ref n, v, h => by
    unfold bdD
    obtain ⟨a, h, _⟩ := h.ref_
    exact (List.getElem?_eq_some_iff.mp h).1
  | .tup l, v, h => by
    unfold bdD
    obtain ⟨a, vs, rfl, s, g⟩ := h.tup_
    exact RepL.lt l vs g
theorem RepL.lt {K : PySem.W.Frag} {φ : List Addr} {H : Hp} : ∀ (d : List D) (v : List V), RepL K φ H d v → bdL φ.length d
  | [], _, _ => by unfold bdL; trivial
  | d :: ds, vs, h => by
    obtain ⟨v, r, rfl, h1, h2⟩ := h.uncons
    unfold bdL
    exact ⟨Rep.lt d v h1, RepL.lt ds r h2⟩
end
theorem RepKV.lt {κ : Type} {K : PySem.W.Frag} {φ : List Addr} {H : Hp} : ∀ (d : List (κ × D)) (v : List (κ × V)), RepKV K φ H d v → bdKV φ.length d
  | [], _, _ => by unfold bdKV; trivial
  | d :: ds, vs, h => by
    unfold RepKV at h
    obtain ⟨v, r, rfl, h1, h2⟩ := h
    unfold bdKV
    exact ⟨Rep.lt d.2 v h1, RepKV.lt ds r h2⟩
theorem RepO.lt {K : PySem.W.Frag} {c : Cl} {φ : List Addr} {H : Hp} {a : Addr} : ∀ (o : O), RepO K c φ H a o → bdO φ.length o
  | .lst _ l, ⟨vs, g, _⟩ => g.lt
  | .dct _ l, ⟨vs, g, _⟩ => RepKV.lt l vs g
  | .ins _ l, ⟨_, vs, g, _⟩ => RepKV.lt l vs g
theorem Rel.closed {K : PySem.W.Frag} {c : Cl} {φ : List Addr} {S : Sto} {H : Hp} (r : Rel K c φ S H) : Closed S := fun o ho => by
  obtain ⟨n, hn, e⟩ := List.getElem_of_mem ho
  have h1 : S[n]? = some o := by rw [List.getElem?_eq_getElem hn, e]
  have h2 : n < φ.length := by rw [r.len]; exact hn
  have := (r.obj n _ o (List.getElem?_eq_getElem h2) h1).lt
  rw [r.len] at this
  exact this
/-- fewer addresses -/
structure Fewer (K : PySem.W.Frag) (φ' φ : List Addr) (H : Hp) : Prop where
  ix : ∀ (n : Nat) a, n < φ.length → φ'[n]? = some a → φ[n]? = some a
  sub : ∀ a, a ∈ φ → a ∈ φ'
mutual
theorem Rep.fewer {K : PySem.W.Frag} {φ φ' : List Addr} {H : Hp} (w : Fewer K φ' φ H) : ∀ (d : D) (v : V), bdD φ.length d → Rep K φ' H d v → Rep K φ H d v
  | .non, _, _, h => by unfold Rep at h ⊢; exact h
  | .bl _, _, _, h => by unfold Rep at h ⊢; exact h
  | .int _, _, _, h => by unfold Rep at h ⊢; exact h
  | .str _, _, _, h => by unfold Rep at h ⊢; exact h
  | .scr _, _, _, h => by
    obtain ⟨a, rfl, z⟩ := h.scr_
    unfold Rep
    refine ⟨a, rfl, ?_⟩
    rcases z with ⟨n, z⟩ | z
    · exact .inl ⟨fun q => n (w.sub _ q), z⟩
    · exact .inr z
  | .ref n, _, e, h => by
    unfold bdD at e
    obtain ⟨a, z, rfl⟩ := h.ref_
    exact rep_ref (w.ix n a e z)
  | .tup l, v, e, h => by
    unfold bdD at e
    obtain ⟨a, vs, rfl, s, g⟩ := h.tup_
    exact rep_tup s (RepL.fewer w l vs e g)
  | .pl l, v, e, h => by
    unfold bdD at e
    obtain ⟨a, vs, rfl, s, g⟩ := h.pl_
    exact rep_pl ⟨fun q => s.1 (w.sub _ q), s.2⟩ (RepL.fewer w l vs e g)
theorem RepL.fewer {K : PySem.W.Frag} {φ φ' : List Addr} {H : Hp} (w : Fewer K φ' φ H) : ∀ (d : List D) (v : List V), bdL φ.length d → RepL K φ' H d v → RepL K φ H d v
  | [], _, _, h => by rw [h.isNil]; exact RepL.nil
  | d :: ds, vs, e, h => by
    unfold bdL at e
    obtain ⟨v, r, rfl, h1, h2⟩ := h.uncons
    exact RepL.cons (Rep.fewer w d v e.1 h1) (RepL.fewer w ds r e.2 h2)
end
theorem RepKV.fewer {κ : Type} {K : PySem.W.Frag} {φ φ' : List Addr} {H : Hp} (w : Fewer K φ' φ H) : ∀ (d : List (κ × D)) (v : List (κ × V)), bdKV φ.length d → RepKV K φ' H d v → RepKV K φ H d v
  | [], _, _, h => h
  | d :: ds, vs, e, h => by
    unfold RepKV at h ⊢
    unfold bdKV at e
    obtain ⟨v, r, rfl, h1, h2⟩ := h
    exact ⟨v, r, rfl, Rep.fewer w d.2 v e.1 h1, RepKV.fewer w ds r e.2 h2⟩
theorem RepO.fewer {K : PySem.W.Frag} {c : Cl} {φ φ' : List Addr} {H : Hp} {a : Addr} (w : Fewer K φ' φ H) : ∀ (o : O), bdO φ.length o → RepO K c φ' H a o → RepO K c φ H a o
  | .lst _ l, e, ⟨vs, g, h⟩ => ⟨vs, g.fewer w _ _ e, h⟩
  | .dct _ l, e, ⟨vs, g, h⟩ => ⟨vs, RepKV.fewer w _ _ e g, h⟩
  | .ins _ l, e, ⟨dx, vs, g, h⟩ => ⟨dx, vs, RepKV.fewer w _ _ e g, h⟩
/-- the tail of the store is forgotten -/
theorem Rel.forget {K : PySem.W.Frag} {c : Cl} {φ φ' : List Addr} {H H' : Hp} {S S' T : Sto} (r : Rel K c φ S H) (e : Ext φ H φ' H') (r' : Rel K c φ' (S' ++ T) H') (hl : S.length ≤ S'.length) (hc : Closed S') :
    Ext φ H (φ'.take S'.length) H' ∧ Rel K c (φ'.take S'.length) S' H' ∧ Fewer K φ' (φ'.take S'.length) H' := by
  have hlen : φ'.length = S'.length + T.length := by rw [r'.len, List.length_append]
  have hlen' : (φ'.take S'.length).length = S'.length := by rw [List.length_take]; omega
  have nd : (φ'.take S'.length).Nodup := r'.nd.sublist (List.take_sublist _ _)
  have w : Fewer K φ' (φ'.take S'.length) H' := ⟨fun n a h q => by rw [List.getElem?_take_of_lt (by omega)]; exact q, fun a h => List.mem_of_mem_take h⟩
  obtain ⟨ψ, hψ, hn⟩ := e.more
  refine ⟨⟨⟨ψ.take (S'.length - φ.length), ?_, fun a h => hn a (List.mem_of_mem_take h)⟩, nd, e.keep, e.frz⟩, ⟨hlen', nd, fun n a o h1 h2 => ?_⟩, w⟩
  · rw [hψ, List.take_append, List.take_of_length_le (by rw [r.len]; exact hl)]
  · have hlt : n < S'.length := (List.getElem?_eq_some_iff.mp h2).1
    have h1' : φ'[n]? = some a := by rw [List.getElem?_take_of_lt hlt] at h1; exact h1
    refine (r'.obj n a o h1' (by rw [List.getElem?_append_left hlt]; exact h2)).fewer w _ ?_
    rw [hlen']
    exact hc o (List.mem_of_getElem? h2)
/-- sp tells what sp' tells, up to what is thrown away -/
def Refines (sp sp' : FL) : Prop := ∀ ds S, Closed S → bdL S.length ds → match sp' ds S with
  | .ok d S' => ∃ T, sp ds S = .ok d (S' ++ T) ∧ bdD S'.length d ∧ S.length ≤ S'.length ∧ Closed S'
  | .ex k S' => ∃ T, sp ds S = .ex k (S' ++ T) ∧ S.length ≤ S'.length ∧ Closed S'
  | .no => True
theorem FnD.imp {P : Program} {w : World} {K : PySem.W.Frag} {mg : Str → Option Value} {base : Heap} {c : Cl} {k : Nat} {f : Addr} {fd : FuncData} {ps : List Str} {sp sp' : FL} (F : FnD P w K mg base c k f fd ps sp) (h : Refines sp sp') : FnD P w K mg base c k f fd ps sp' := by
  refine ⟨F.ok.imp fun vs H Q E q => ?_⟩
  obtain ⟨φ, S, ds, r, g, hl, p⟩ := q
  refine ⟨φ, S, ds, r, g, hl, ?_⟩
  have hh := h ds S r.closed (by rw [← r.len]; exact g.lt)
  cases hs : sp' ds S with
  | no => rw [hs] at p; exact False.elim p
  | ok d S' =>
    rw [hs] at p hh
    obtain ⟨T, e, hd, h1, h2⟩ := hh
    rw [e]
    intro φ' H' e' r' v hv
    obtain ⟨e2, r2, w2⟩ := r.forget e' r' h1 h2
    exact p _ _ e2 r2 v (hv.fewer w2 _ _ (by rw [r2.len]; exact hd))
  | ex k S' =>
    rw [hs] at p hh
    obtain ⟨T, e, h1, h2⟩ := hh
    rw [e]
    intro φ' H' e' r'
    obtain ⟨e2, r2, w2⟩ := r.forget e' r' h1 h2
    exact p _ _ e2 r2

mutual
def mapR (g : Nat → Option D) : D → Option D
  | .ref n => g n
  | .tup l => (mapRL g l).map .tup
  | .pl l => (mapRL g l).map .pl
  | .non => some .non
  | .bl b => some (.bl b)
  | .int i => some (.int i)
  | .str x => some (.str x)
  | .scr ns => some (.scr ns)
def mapRL (g : Nat → Option D) : List D → Option (List D)
  | [] => some []
  | d :: ds => match mapR g d, mapRL g ds with
    | some a, some b => some (a :: b)
    | _, _ => none
end
def rfz (T : Sto) (k : Nat) : Nat → Nat → Option D
  | 0, n => if n < k then some (.ref n) else none
  | f + 1, n => if n < k then some (.ref n) else match T[n - k]? with
    | some (.lst _ l) => (mapRL (rfz T k f) l).map .pl
    | _ => none
def rfzD (T : Sto) (k : Nat) (d : D) : Option D := mapR (rfz T k 3) d
def Kept (S A : Sto) : Prop := ∀ (n : Nat) o, A[n]? = some o → S[n]? = some o ∨ bdO S.length o
open Classical in
noncomputable def gc (S : Sto) : R D → R D
  | .ok d S' => match rfzD (S'.drop S.length) S.length d with
    | some d' => if Kept S (S'.take S.length) ∧ S.length ≤ S'.length then .ok d' (S'.take S.length) else .ok d S'
    | none => .ok d S'
  | .ex k S' => if Kept S (S'.take S.length) ∧ S.length ≤ S'.length then .ex k (S'.take S.length) else .ex k S'
  | .no => .no
noncomputable def gcF (sp : FL) : FL := fun ds S => gc S (sp ds S)
section
variable {K : PySem.W.Frag} {c : Cl} {φ φ' : List Addr} {H H' H2 : Hp} {S A T : Sto} {as : List Addr}
/-- what is locked: the new lists -/
structure Locks (K : PySem.W.Frag) (c : Cl) (φ' : List Addr) (A T : Sto) (H' : Hp) (as : List Addr) (H2 : Hp) : Prop where
  rel : Rel K c φ' (A ++ T) H'
  by_ : FrzBy as H' H2
  mem : ∀ a, a ∈ as ↔ ∃ n l, A.length ≤ n ∧ φ'[n]? = some a ∧ (A ++ T)[n]? = some (.lst false l)
theorem Locks.other (L : Locks K c φ' A T H' as H2) {a : Addr} {u : HO} (h : H' a = some u) (hu : ∀ vs, u ≠ .lst vs) : H2 a = some u := by
  rw [L.by_.1 a fun q => ?_, h]
  obtain ⟨_, vs, e, _⟩ := L.by_.2 a q
  rw [h] at e
  exact hu vs (Option.some.inj e)
theorem Locks.stays (L : Locks K c φ' A T H' as H2) : Stays K φ' H' φ' H2 := ⟨fun _ _ h => h, fun a xs h => by
  rcases h with (h | ⟨o, h⟩) | h
  · exact .inl (.inl (L.other h (fun _ z => nomatch z)))
  · exact .inl (.inr ⟨o, L.other h (fun _ z => nomatch z)⟩)
  · exact .inr h, fun a xs h => ⟨h.1, h.2.choose, L.other h.2.choose_spec (fun _ z => nomatch z)⟩⟩
theorem Locks.take (L : Locks K c φ' A T H' as H2) : (φ'.take A.length).length = A.length := by
  have := L.rel.len
  rw [List.length_append] at this
  rw [List.length_take]; omega
theorem Locks.notin (L : Locks K c φ' A T H' as H2) {n : Nat} {a : Addr} (h : φ'[n]? = some a) (hn : A.length ≤ n) : a ∉ φ'.take A.length := fun q => by
  obtain ⟨m, hm, e⟩ := List.getElem_of_mem q
  have hm' : m < A.length := by rw [L.take] at hm; exact hm
  have e2 : φ'[m]? = some a := by rw [← List.getElem?_take_of_lt hm', List.getElem?_eq_getElem hm, e]
  exact nodup_ne L.rel.nd h e2 (by omega) rfl
mutual
theorem Locks.map (L : Locks K c φ' A T H' as H2) {g : Nat → Option D} (hg : ∀ n d a, g n = some d → φ'[n]? = some a → Rep K (φ'.take A.length) H2 d (.ref a)) : ∀ (d : D) (v : V) (d' : D), Rep K φ' H' d v → mapR g d = some d' → Rep K (φ'.take A.length) H2 d' v
  | .non, v, d', h, e => by unfold mapR at e; cases e; unfold Rep at h ⊢; exact h
  | .bl _, v, d', h, e => by unfold mapR at e; cases e; unfold Rep at h ⊢; exact h
  | .int _, v, d', h, e => by unfold mapR at e; cases e; unfold Rep at h ⊢; exact h
  | .str _, v, d', h, e => by unfold mapR at e; cases e; unfold Rep at h ⊢; exact h
  | .scr _, v, d', h, e => by
    unfold mapR at e
    cases e
    obtain ⟨a, rfl, z⟩ := h.scr_
    unfold Rep
    refine ⟨a, rfl, ?_⟩
    rcases z with ⟨n, o, z⟩ | z
    · exact .inl ⟨fun q => n (List.mem_of_mem_take q), o, L.other z (fun _ z => nomatch z)⟩
    · exact .inr z
  | .ref n, v, d', h, e => by
    unfold mapR at e
    obtain ⟨a, z, rfl⟩ := h.ref_
    exact hg n d' a e z
  | .tup l, v, d', h, e => by
    unfold mapR at e
    obtain ⟨l', e1, rfl⟩ := Option.map_eq_some_iff.mp e
    obtain ⟨a, vs, rfl, s, gg⟩ := h.tup_
    exact rep_tup (L.stays.tup _ _ s) (Locks.mapL L hg l vs l' gg e1)
  | .pl l, v, d', h, e => by
    unfold mapR at e
    obtain ⟨l', e1, rfl⟩ := Option.map_eq_some_iff.mp e
    obtain ⟨a, vs, rfl, s, gg⟩ := h.pl_
    exact rep_pl ⟨fun q => s.1 (List.mem_of_mem_take q), (L.stays.pul _ _ s).2⟩ (Locks.mapL L hg l vs l' gg e1)
theorem Locks.mapL (L : Locks K c φ' A T H' as H2) {g : Nat → Option D} (hg : ∀ n d a, g n = some d → φ'[n]? = some a → Rep K (φ'.take A.length) H2 d (.ref a)) : ∀ (d : List D) (v : List V) (d' : List D), RepL K φ' H' d v → mapRL g d = some d' → RepL K (φ'.take A.length) H2 d' v
  | [], v, d', h, e => by unfold mapRL at e; cases e; rw [h.isNil]; exact RepL.nil
  | d :: ds, v, d', h, e => by
    unfold mapRL at e
    obtain ⟨x, r, rfl, h1, h2⟩ := h.uncons
    split at e
    · rename_i a b e1 e2
      cases e
      exact RepL.cons (Locks.map L hg d x a h1 e1) (Locks.mapL L hg ds r b h2 e2)
    · cases e
end
theorem Locks.rfz (L : Locks K c φ' A T H' as H2) : ∀ (f n : Nat) d a, rfz T A.length f n = some d → φ'[n]? = some a → Rep K (φ'.take A.length) H2 d (.ref a) := by
  have low : ∀ (n : Nat) a, n < A.length → φ'[n]? = some a → Rep K (φ'.take A.length) H2 (.ref n) (.ref a) := fun n a hn h => rep_ref (by rw [List.getElem?_take_of_lt hn]; exact h)
  intro f
  induction f with
  | zero =>
    intro n d a e h
    unfold MM.rfz at e
    split at e
    · rename_i hn; cases e; exact low n a hn h
    · cases e
  | succ f ih =>
    intro n d a e h
    unfold MM.rfz at e
    split at e
    · rename_i hn; cases e; exact low n a hn h
    · rename_i hn
      split at e
      · rename_i fz l hl
        obtain ⟨l', e1, rfl⟩ := Option.map_eq_some_iff.mp e
        have hs : (A ++ T)[n]? = some (.lst fz l) := by rw [List.getElem?_append_right (by omega)]; exact hl
        obtain ⟨vs, g, ho⟩ := L.rel.obj n a _ h hs
        refine rep_pl ⟨L.notin h (by omega), ?_⟩ (L.mapL ih l vs l' g e1)
        cases fz with
        | true =>
          obtain ⟨ob, ho⟩ := (show ∃ ob, H' a = some (.frz ob (.lst vs)) by simpa using ho)
          exact ⟨ob, L.other ho (fun _ z => nomatch z)⟩
        | false =>
          have ho' : H' a = some (.lst vs) := by simpa using ho
          obtain ⟨ob, vs', e2, e3⟩ := L.by_.2 a ((L.mem a).mpr ⟨n, l, by omega, h, hs⟩)
          rw [ho'] at e2
          cases e2
          exact ⟨ob, e3⟩
      · cases e
theorem Locks.rel2 (L : Locks K c φ' A T H' as H2) (hk : ∀ o ∈ A, bdO A.length o) : Rel K c (φ'.take A.length) A H2 := by
  refine ⟨L.take, L.rel.nd.sublist (List.take_sublist _ _), fun n a o h1 h2 => ?_⟩
  have hlt : n < A.length := (List.getElem?_eq_some_iff.mp h2).1
  have h1' : φ'[n]? = some a := by rw [List.getElem?_take_of_lt hlt] at h1; exact h1
  have hna : a ∉ as := fun q => by
    obtain ⟨m, l, hm, e, _⟩ := (L.mem a).mp q
    exact nodup_ne L.rel.nd h1' e (by omega) rfl
  have w : Fewer K φ' (φ'.take A.length) H2 := ⟨fun n a h q => by rw [L.take] at h; rw [List.getElem?_take_of_lt h]; exact q, fun a h => List.mem_of_mem_take h⟩
  exact ((L.rel.obj n a o h1' (by rw [List.getElem?_append_left hlt]; exact h2)).stay L.stays (L.by_.1 a hna)).fewer w _ (by rw [L.take]; exact hk o (List.mem_of_getElem? h2))
theorem Locks.ext {φ : List Addr} (L : Locks K c φ' A T H' as H2) (e : Ext φ H φ' H') (hl : φ.length = A.length) : φ'.take A.length = φ ∧ Ext φ H φ H2 := by
  obtain ⟨ψ, e1, e2⟩ := e.more
  have ht : φ'.take A.length = φ := by rw [e1, ← hl, List.take_left]
  refine ⟨ht, ⟨⟨[], by simp, by simp⟩, by rw [← ht]; exact L.rel.nd.sublist (List.take_sublist _ _), fun a o h n => ?_, fun a ob u h => ?_⟩⟩
  · have q := e.keep a o h n
    rw [L.by_.1 a fun z => ?_, q]
    obtain ⟨m, l, hm, e3, _⟩ := (L.mem a).mp z
    rw [e1, List.getElem?_append_right (by omega)] at e3
    rw [e2 a (List.mem_of_getElem? e3)] at h
    cases h
  · have q := e.frz a ob u h
    rw [L.by_.1 a fun z => ?_, q]
    obtain ⟨m, l, hm, e3, _⟩ := (L.mem a).mp z
    rw [e1, List.getElem?_append_right (by omega)] at e3
    rw [e2 a (List.mem_of_getElem? e3)] at h
    cases h
open Classical in
theorem locks_of (r : Rel K c φ' (A ++ T) H') : ∃ as, (∀ a ∈ as, ∃ vs, H' a = some (.lst vs)) ∧ ∀ H2, FrzBy as H' H2 → Locks K c φ' A T H' as H2 := by
  have key : ∀ a, a ∈ φ'.filter (fun a => decide (∃ (n : Nat) (l : List D), A.length ≤ n ∧ φ'[n]? = some a ∧ (A ++ T)[n]? = some (.lst false l))) ↔ ∃ (n : Nat) (l : List D), A.length ≤ n ∧ φ'[n]? = some a ∧ (A ++ T)[n]? = some (.lst false l) := by
    intro a
    rw [List.mem_filter, decide_eq_true_eq]
    exact ⟨fun h => h.2, fun h => ⟨by obtain ⟨n, l, _, e, _⟩ := h; exact List.mem_of_getElem? e, h⟩⟩
  refine ⟨φ'.filter (fun a => decide (∃ (n : Nat) (l : List D), A.length ≤ n ∧ φ'[n]? = some a ∧ (A ++ T)[n]? = some (.lst false l))), fun a ha => ?_, fun H2 f => ⟨r, f, key⟩⟩
  obtain ⟨n, l, _, e1, e2⟩ := (key a).mp ha
  obtain ⟨vs, _, h⟩ := r.obj n a _ e1 e2
  exact ⟨vs, by simpa using h⟩
theorem kept_bd {φ : List Addr} (r : Rel K c φ S H) (hl : A.length = S.length) (hk : Kept S A) : ∀ o ∈ A, bdO A.length o := fun o ho => by
  obtain ⟨n, hn, e⟩ := List.getElem_of_mem ho
  rw [hl]
  rcases hk n o (by rw [List.getElem?_eq_getElem hn, e]) with q | q
  · exact r.closed o (List.mem_of_getElem? q)
  · exact q
/-- behind a call: its garbage is thrown away -/
theorem gc_post {W : WX} {σ : L2.St} {φ : List Addr} {Q : VK} {r : R D} (rel : Rel K c φ S H) (p : PostW K c W σ φ H (gE K Q) (gc S r)) : PostW K c W σ φ H (gE K fun v H' => FrzTo H' (Q v)) r := by
  cases r with
  | no => exact p
  | ok d S' =>
    simp only [gc] at p
    split at p
    · rename_i d' hd
      split at p
      · rename_i hk
        intro φ' H' e' r' v hv
        have hA : (S'.take S.length).length = S.length := by rw [List.length_take]; omega
        have r'' : Rel K c φ' (S'.take S.length ++ S'.drop S.length) H' := by rw [List.take_append_drop]; exact r'
        obtain ⟨as, h1, h2⟩ := locks_of r''
        refine ⟨as, h1, fun H2 f => ?_⟩
        have L := h2 H2 f
        obtain ⟨e1, e2⟩ := L.ext e' (by rw [hA, rel.len])
        have r2 := L.rel2 (kept_bd rel hA hk.1)
        rw [e1] at r2
        refine p φ H2 e2 r2 v ?_
        have hg : ∀ n d a, rfz (S'.drop S.length) S.length 3 n = some d → φ'[n]? = some a → Rep K (φ'.take (S'.take S.length).length) H2 d (.ref a) := fun n d a h q => L.rfz 3 n d a (by rw [hA]; exact h) q
        have := L.map hg d v d' hv hd
        rw [e1] at this
        exact this
      · exact p.frz
    · exact p.frz
  | ex k S' =>
    simp only [gc] at p
    split at p
    · rename_i hk
      intro φ' H' e' r'
      have hA : (S'.take S.length).length = S.length := by rw [List.length_take]; omega
      have r'' : Rel K c φ' (S'.take S.length ++ S'.drop S.length) H' := by rw [List.take_append_drop]; exact r'
      obtain ⟨e2, r2, w2⟩ := rel.forget e' r'' (by rw [hA]; exact Nat.le_refl _) (kept_bd rel hA hk.1)
      exact p _ _ e2 r2
    · exact p
end
section
variable {X : Cx} {c : Cl} {W : WX} {k : Nat} {f : Addr} {fd : FuncData} {ps : List Str} {sp : FL} {x : Str} {p pos : Pos} {e : Expr} {es : List Expr} {ml : ML}
theorem de_callGc (F : FnD X.prog X.w X.K X.mg X.base c k f fd ps sp) (hr : Room k X.A) (hg : Gl X x) (hm : X.mg x = some (.ref f)) (hk : PySem.W.keepIn X.K (.ref f) = true) (hb : Binds X.K fd ps []) (tk : Takes X W)
    (ha : DA X c W (e :: es) ml) (hlen : ps.length = (e :: es).length) (hl : ∀ ρ S ds S', ml ρ S = .ok ds S' → ds.length = ps.length) (hdb : (x == ("__debug__" : Str)) = false := by decide) (he : starEach (e :: es) X.env = (false, eval e X.env) :: starEach es X.env := by rfl) (hpl : (backTo pos (starEach es X.env)).any (·.1) = false := by rfl) :
    DE X c W (.Call (.Name x p) (e :: es) [] pos) (eCall (gcF sp) ml) := by
  obtain ⟨ta, pa, ha⟩ := ha
  refine ⟨_, pe_frz (pe_callS (E := WE W) F.ok hr hg hm hk hb (fun σ => passAt tk σ) pa hdb he hpl), fun φ σ H ρ S Q r f p => ?_⟩
  refine ha φ σ H ρ S _ r f ?_
  unfold eCall at p
  cases hq : ml ρ S with
  | no => rw [hq] at p; exact p
  | ex k S1 => rw [hq] at p; exact p
  | ok ds S1 =>
    rw [hq] at p
    intro φ1 H1 e1 r1 vs hv
    exact ⟨φ1, S1, ds, r1, hv, hl _ _ _ _ hq, (gc_post r1 (PostW.from e1 p)).wish fun _ _ _ h => h⟩
end
def spLaw (K : PySem.W.Frag) : Sp := fun vs H Q _ => ∃ (a : Addr) (ns : List Int), vs = [.ref a] ∧ Only H ∧ SqL K H a (ns.map V.int) ∧ ns.length ≤ 63 ∧ ∀ H', Q (.bl true) H'
theorem law_end {P : Program} {w : World} {K : PySem.W.Frag} {mg : Str → Option Value} {base : Heap} {c : Cl} {k : Nat} {f : Addr} {fd : FuncData} {x : Str} {sp : FL} (F : FnD P w K mg base c k f fd [x] sp)
    (h : ∀ ns : List Int, ns.length ≤ 63 → ∃ S, sp [.scr ns] [] = .ok (.bl true) S) : FnOk P w K mg base (L2.CX P w) k f fd [x] (spLaw K) := by
  refine F.ok.imp fun vs H Q E q => ?_
  obtain ⟨a, ns, rfl, hO, s, hl, q⟩ := q
  obtain ⟨S, e⟩ := h ns hl
  refine ⟨[], [], [.scr ns], ⟨rfl, List.nodup_nil, fun n a o h => by simp at h⟩, ?_, rfl, ?_⟩
  · refine RepL.cons ?_ RepL.nil
    unfold Rep
    refine ⟨a, rfl, ?_⟩
    rcases s with (s | s) | s
    · rcases hO a with z | ⟨o, xs, z⟩
      · rw [z] at s; cases s
      · rw [z] at s; cases s
    · exact .inl ⟨by simp, s⟩
    · exact .inr s
  · rw [e]
    intro φ' H' e' r' v hv
    rw [hv.bl_]
    exact q H'
end MM

namespace MM
open PySem PySem.Spec PyProof.Rows L2

theorem pi_or {X : Cx} {tg iter : Expr} {t u : TI} (h : PI X tg iter t) (h' : PI X tg iter u) : PI X tg iter (fun σ H R => t σ H R ∨ u σ H R) :=
  ⟨fun pins s σ H R I q => q.elim (fun q => h.run pins s σ H R I q) fun q => h'.run pins s σ H R I q⟩
/-- by what the mirror tells: the one, else the other -/
theorem di_or {X : Cx} {c : Cl} {W : WX} {tg iter : Expr} {m m1 m2 : MI} (h1 : DI X c W tg iter m1) (h2 : DI X c W tg iter m2) (h : ∀ ρ S, m ρ S = m1 ρ S ∨ m ρ S = m2 ρ S) : DI X c W tg iter m := by
  obtain ⟨t1, p1, h1⟩ := h1
  obtain ⟨t2, p2, h2⟩ := h2
  refine ⟨_, pi_or p1 p2, fun φ σ H ρ S Q r f p => ?_⟩
  rcases h ρ S with e | e
  · rw [e] at p
    exact .inl (h1 φ σ H ρ S Q r f p)
  · rw [e] at p
    exact .inr (h2 φ σ H ρ S Q r f p)
/-- over a tuple, a text, or a list -/
def iA (a : ME) : MI := fun ρ S => (a ρ S).bind fun d S1 => match d with
  | .tup l => .ok (l, noG) S1
  | .str x => .ok (signsD x, noG) S1
  | d => match srcOf S1 d with
    | some x => .ok x S1
    | none => .no
theorem di_any {X : Cx} {c : Cl} {W : WX} {tg e : Expr} {me : ME} (h : DE X c W e me) : DI X c W tg e (iA me) := by
  refine di_or (m1 := iT me) (m2 := fun ρ S => match iS me ρ S with | .no => iL me ρ S | r => r) (di_tup h) (di_or (di_str h) (di_lst h) fun ρ S => ?_) fun ρ S => ?_
  · cases iS me ρ S <;> simp
  · unfold iA iT iS iL
    cases me ρ S with
    | no => exact .inl rfl
    | ex k S1 => exact .inl rfl
    | ok d S1 => cases d <;> first | exact .inl rfl | exact .inr rfl
/-- zip of two tuples or two lists -/
def iZA (a b : ME) : MI := fun ρ S => (a ρ S).bind fun d S1 => (b ρ S1).bind fun d2 S2 => match d, d2 with
  | .tup l, .tup m => .ok (zipD l m, noG) S2
  | d, d2 => match srcOf S2 d, srcOf S2 d2 with
    | some x, some y => .ok (zipD x.1 y.1, fun S => x.2 S ∧ y.2 S) S2
    | _, _ => .no
theorem di_zipA {X : Cx} {c : Cl} {W : WX} {e e2 : Expr} {me me2 : ME} {p pos tpos : Pos} {elts : List Expr} {kk : Nat} (hg : Gl X "zip") (hm : X.mg "zip" = none) (h : DE X c W e me) (h2 : DE X c W e2 me2)
    (hs : starEach [e, e2] X.env = (false, eval e X.env) :: starEach [e2] X.env := by rfl) (hs2 : starEach [e2] X.env = (false, eval e2 X.env) :: starEach [] X.env := by rfl) (hpl : (backTo pos (starEach [e2] X.env)).any (·.1) = false := by rfl) :
    DI X c W (.Tuple elts kk tpos) (.Call (.Name "zip" p) [e, e2] [] pos) (iZA me me2) := by
  refine di_or (di_zipT hg hm h h2 hs hs2 hpl) (di_zipL hg hm h h2 hs hs2 hpl) fun ρ S => ?_
  unfold iZA iZT iZL
  cases me ρ S with
  | no => exact .inl rfl
  | ex k S1 => exact .inl rfl
  | ok d S1 =>
    dsimp only [R.bind]
    cases me2 ρ S1 with
    | no => exact .inl rfl
    | ex k S2 => exact .inl rfl
    | ok d2 S2 => cases d <;> cases d2 <;> first | exact .inl rfl | exact .inr rfl
/-- tuple(x), x a tuple or a list -/
def tupleA : FL
  | [.tup l], S => .ok (.tup l) S
  | [d], S => match lstOf S d with
    | some l => .ok (.tup l) S
    | _ => .no
  | _, _ => .no
theorem fits_tupleA {K : PySem.W.Frag} {c : Cl} : FitsL K c (fun xs H Q => ∃ p ys, xs = [.ref p] ∧ ((SqL K H p ys ∧ ∀ l, H l = none → Q (.ref l) (upd H l (.tup ys))) ∨ (SqT K H p ys ∧ Q (.ref p) H))) tupleA := by
  intro W σ φ H S vs ds Q r h p
  unfold tupleA at p
  split at p
  · obtain ⟨v, rfl, hv⟩ := one_of h
    obtain ⟨a, vs, rfl, s, g⟩ := hv.tup_
    exact ⟨a, vs, rfl, .inr ⟨s, PostW.here r p _ (rep_tup s g)⟩⟩
  · split at p
    · rename_i hl
      obtain ⟨v, rfl, hv⟩ := one_of h
      obtain ⟨a, vs, rfl, s, g⟩ := lstOf_rd r hv hl
      exact ⟨a, vs, rfl, .inl ⟨.inl s, fun q hq => post_tup r g hq p⟩⟩
    · exact False.elim p
  · exact False.elim p
section
variable {X : Cx} {c : Cl} {W : WX} {e e2 : Expr} {me me2 : ME} {ml : ML} {p pos : Pos} {x : Str}
/-- a constant of the module -/
theorem de_gint {i : Int} (hg : Gl X x) (h : ∃ t, X.mg x = some (.int i t)) (hd : (x == ("__debug__" : Str)) = false := by decide) : DE X c W (.Name x pos) (eC (.int i)) := by
  obtain ⟨t, h⟩ := h
  exact de_c (pe_glob (v := .int i) hg h ⟨t, rfl⟩ hd) fun _ _ => rep_int
end

def Def (K : PySem.W.Frag) (mg : Str → Option Value) (x : Str) (ps : List Str) (st : Stmt) : Prop := ∃ f fd, Fun K x x st f fd ∧ Binds K fd ps [] ∧ mg x = some (.ref f)
theorem def_mk {K : PySem.W.Frag} {h : Heap} {mg : Str → Option Value} {x : Str} {ps : List Str} {st : Stmt} {f : Addr} {oc : Value} {od an : Option Addr} {osl : Array (Option Value)} {kV doc pm cdv ct : Value} (X : K.In h) (G : h.Ns mainGlobals mg)
    (a : PySem.W.nsIn K mainGlobals x = some (some (.ref f))) (l : K.lookup f = some ⟨oc, od, .func (PySem.W.fnOf x x (defArgs st) (defBody st) (defScope st) .none kV doc pm an cdv ct), osl⟩)
    (c : PySem.W.codeIn K cdv x = true) (k : PySem.W.keepIn K (.ref f) = true)
    (b : ∀ (kV doc pm : Value) (an : Option Addr) (cdv ct : Value) (us : List Value), us.length = ps.length → bindArgs (PySem.W.fnOf x x (defArgs st) (defBody st) (defScope st) .none kV doc pm an cdv ct) ⟨us, []⟩ = Pure.pure (ps.zip us)) : Def K mg x ps st :=
  ⟨f, _, fun_mk l c k, (fun_mk l c k).binds b, PySem.W.mg_of X G a⟩
def FnG (P : Program) (w : World) (K : PySem.W.Frag) (mg : Str → Option Value) (base : Heap) (c : Cl) (k : Nat) (x : Str) (ps : List Str) (sp : FL) : Prop :=
  ∃ f fd, FnD P w K mg base c k f fd ps sp ∧ mg x = some (.ref f) ∧ PySem.W.keepIn K (.ref f) = true ∧ Binds K fd ps []
theorem FnG.imp {P : Program} {w : World} {K : PySem.W.Frag} {mg : Str → Option Value} {base : Heap} {c : Cl} {k : Nat} {x : Str} {ps : List Str} {sp sp' : FL} (F : FnG P w K mg base c k x ps sp) (h : Refines sp sp') : FnG P w K mg base c k x ps sp' := by
  obtain ⟨f, fd, F, r⟩ := F
  exact ⟨f, fd, F.imp h, r⟩
theorem fnG_of {P : Program} {w : World} {K : PySem.W.Frag} {mg : Str → Option Value} {base : Heap} {c : Cl} {x : Str} {st : Stmt} {N ps : List Str} {k : Nat} {m : MS} (T : Def K mg x ps st) (S : FnScope N ps (defScope st))
    (hbody : ∀ (f : Addr) (cdv : Value) (A : Around) (outer : List Env) (s : Shared) (H : Hp) (E : XK), Room k (A.deeper (envOfC x (defScope st) s.heap.objs.size f cdv)) →
      Takes (cxOf (L2.CX P w) P w K mg base N x (defScope st) f cdv A outer s H E) (fun cls d _ H' => E cls d H') → PassesOwn (model P w) (A.deeper (envOfC x (defScope st) s.heap.objs.size f cdv)) (envOfC x (defScope st) s.heap.objs.size f cdv) (cxOf (L2.CX P w) P w K mg base N x (defScope st) f cdv A outer s H E).xe →
      DSs (cxOf (L2.CX P w) P w K mg base N x (defScope st) f cdv A outer s H E) c (fun cls d _ H' => E cls d H') (defBody st) m) : FnG P w K mg base c (k + 1) x ps (body N.length m) := by
  obtain ⟨f, fd, F, b, g⟩ := T
  exact ⟨f, fd, fnD_of F S (hbody f), g, F.kp, b⟩
theorem de_callG {X : Cx} {c : Cl} {W : WX} {k j : Nat} {ps : List Str} {sp : FL} {x : Str} {p pos : Pos} {e : Expr} {es : List Expr} {ml : ML} (F : FnG X.prog X.w X.K X.mg X.base c j x ps sp) (hr : Room k X.A) (hj : j ≤ k) (hg : Gl X x) (tk : Takes X W)
    (ha : DA X c W (e :: es) ml) (hlen : ps.length = (e :: es).length) (hl : ∀ ρ S ds S', ml ρ S = .ok ds S' → ds.length = ps.length) (hdb : (x == ("__debug__" : Str)) = false := by decide) (he : starEach (e :: es) X.env = (false, eval e X.env) :: starEach es X.env := by rfl) (hpl : (backTo pos (starEach es X.env)).any (·.1) = false := by rfl) :
    DE X c W (.Call (.Name x p) (e :: es) [] pos) (eCall sp ml) := by
  obtain ⟨f, fd, F, g, kp, b⟩ := F
  exact de_call F (hr.mono hj) hg g kp b tk ha hlen hl hdb he hpl
theorem de_callC {X : Cx} {c : Cl} {W : WX} {k j : Nat} {ps : List Str} {sp : FL} {x : Str} {p pos : Pos} {e : Expr} {es : List Expr} {ml : ML} (F : FnG X.prog X.w X.K X.mg X.base c j x ps sp) (hr : Room k X.A) (hj : j ≤ k) (hg : Gl X x) (tk : Takes X W)
    (ha : DA X c W (e :: es) ml) (hlen : ps.length = (e :: es).length) (hl : ∀ ρ S ds S', ml ρ S = .ok ds S' → ds.length = ps.length) (hdb : (x == ("__debug__" : Str)) = false := by decide) (he : starEach (e :: es) X.env = (false, eval e X.env) :: starEach es X.env := by rfl) (hpl : (backTo pos (starEach es X.env)).any (·.1) = false := by rfl) :
    DE X c W (.Call (.Name x p) (e :: es) [] pos) (eCall (gcF sp) ml) := by
  obtain ⟨f, fd, F, g, kp, b⟩ := F
  exact de_callGc F (hr.mono hj) hg g kp b tk ha hlen hl hdb he hpl
end MM
namespace MM
open PySem PySem.Spec PyProof.Rows L2
theorem cx_never {P : Program} {w : World} {H : Hp} {s : Shared} {e : Value} {s' : Shared} (h : L2.CX P w [] H s (fun _ _ _ => False) e s') : False := by
  obtain ⟨_, _, _, _, _, _, _, _, _, _, _, _, z⟩ := h
  exact z
end MM

namespace MM
open PySem PySem.Spec PyProof.Rows L2
section
variable {X : Cx} {c : Cl} {W : WX} {ml : ML} {pos : Pos}
end
end MM

namespace MM
open PySem PySem.Spec PyProof.Rows L2

section
variable {α β : Type} {a b : ME} {ρ : Fr} {S S' : Sto} {d x y : D} {i j : Int} {t : MT} {m n : MS} {f : F2} {l : ML}
@[simp] theorem bind_ok {a : α} {f : α → Sto → R β} : (R.ok a S).bind f = f a S := rfl
@[simp] theorem bind_no {f : α → Sto → R β} : (R.no : R α).bind f = .no := rfl
@[simp] theorem bind_ex {k : Nat} {f : α → Sto → R β} : (R.ex k S : R α).bind f = .ex k S := rfl
@[simp] theorem cut_ok {a : α} : (R.ok a S).cut = .ok a S := rfl
@[simp] theorem of_ok {a : α} {k : α → Sto → RS} : RS.of ρ (.ok a S) k = k a S := rfl
@[simp] theorem of_ex {c : Nat} {k : α → Sto → RS} : RS.of ρ (.ex c S : R α) k = .ex c ρ S := rfl
@[simp] theorem then_nx {k : Fr → Sto → RS} : (RS.nx ρ S).then k = k ρ S := rfl
@[simp] theorem then_rt {k : Fr → Sto → RS} : (RS.rt d S).then k = .rt d S := rfl
@[simp] theorem then_bk {k : Fr → Sto → RS} : (RS.bk ρ S).then k = .bk ρ S := rfl
@[simp] theorem then_ct {k : Fr → Sto → RS} : (RS.ct ρ S).then k = .ct ρ S := rfl
@[simp] theorem end_nx : (RS.nx ρ S).end = .ok .non S := rfl
@[simp] theorem end_rt : (RS.rt d S).end = .ok d S := rfl
@[simp] theorem end_ex {k : Nat} : (RS.ex k ρ S).end = .ex k S := rfl
@[simp] theorem eC_ev : eC d ρ S = .ok d S := rfl
@[simp] theorem eVar_ev {k : Nat} : eVar k ρ S = (match ρ[k]? with | some (some d) => .ok d S | _ => .no) := rfl
@[simp] theorem eBin_ev : eBin f a b ρ S = (a ρ S).bind fun x S1 => (b ρ S1).bind fun y S2 => f x y S2 := rfl
@[simp] theorem eUn_ev {f : F1} : eUn f a ρ S = (a ρ S).bind f := rfl
@[simp] theorem eCall_ev {f : FL} : eCall f l ρ S = (l ρ S).bind f := rfl
@[simp] theorem eLs_ev {f : FS} : eLs f l ρ S = (l ρ S).bind f := rfl
@[simp] theorem aNil_ev : aNil ρ S = .ok [] S := rfl
@[simp] theorem aCons_ev : aCons a l ρ S = (a ρ S).bind fun x S1 => (l ρ S1).bind fun xs S2 => .ok (x :: xs) S2 := rfl
@[simp] theorem eNew_ev : eNew l ρ S = (l ρ S).bind fun xs S1 => .ok (.ref S1.length) (S1 ++ [.lst false xs]) := rfl
@[simp] theorem ePl_ev : ePl l ρ S = (l ρ S).bind fun xs S1 => .ok (.pl xs) S1 := rfl
@[simp] theorem tV_ev : tV a ρ S = (a ρ S).bind fun d S1 => match d with | .bl b => .ok b S1 | _ => .no := rfl
@[simp] theorem tAn_ev {u : MT} : tAn t u ρ S = (t ρ S).bind fun x S1 => if x = true then u ρ S1 else .ok false S1 := rfl
@[simp] theorem tOo_ev {u : MT} : tOo t u ρ S = (t ρ S).bind fun x S1 => if x = true then .ok true S1 else u ρ S1 := rfl
@[simp] theorem tYs_ev : tYs ρ S = .ok true S := rfl
@[simp] theorem oN_ev : oN ρ S = .ok none S := rfl
@[simp] theorem oS_ev : oS a ρ S = (a ρ S).bind fun d S1 => match d with | .int i => .ok (some i) S1 | _ => .no := rfl
@[simp] theorem eSl_ev {lo hi : MO} : eSl a lo hi ρ S = (a ρ S).bind fun x S1 => (lo ρ S1).bind fun l S2 => (hi ρ S2).bind fun h S3 => slD x l h S3 := rfl
@[simp] theorem eMeth_ev {ok : D → Sto → Bool} {f : FM} : eMeth ok f a l ρ S = (a ρ S).bind fun x S1 => if ok x S1 = true then (l ρ S1).bind fun ys S2 => f x ys S2 else .no := rfl
@[simp] theorem sPass_ev : sPass ρ S = .nx ρ S := rfl
@[simp] theorem sSeq_ev : sSeq m n ρ S = (m ρ S).then n := rfl
@[simp] theorem sRet_ev : sRet a ρ S = RS.of ρ (a ρ S) fun d S1 => .rt d S1 := rfl
@[simp] theorem sExpr_ev : sExpr a ρ S = RS.of ρ (a ρ S) fun _ S1 => .nx ρ S1 := rfl
@[simp] theorem sIf_ev : sIf t m n ρ S = RS.of ρ (t ρ S) fun x S1 => if x = true then m ρ S1 else n ρ S1 := rfl
@[simp] theorem sSet_ev {k : Nat} : sSet k a ρ S = RS.of ρ (a ρ S) fun d S1 => .nx (ρ.set k (some d)) S1 := rfl
@[simp] theorem sAsg_ev {g : MG} : sAsg a g ρ S = RS.of ρ (a ρ S) fun d S1 => match g d ρ with | some ρ' => .nx ρ' S1 | none => .no := rfl
@[simp] theorem sSetIx_ev {o i : ME} : sSetIx o i a ρ S = RS.of ρ (a ρ S) fun d S1 => RS.of ρ (o ρ S1) fun x S2 => RS.of ρ (i ρ S2) fun k S3 => match setIx x k d S3 with | some S4 => .nx ρ S4 | none => .no := rfl
@[simp] theorem sFor_ev {i : MI} {g : MG} : sFor i g m ρ S = RS.of ρ (i ρ S) fun x S1 => forD x.2 g m x.1 ρ S1 := rfl
@[simp] theorem tN_ev {k : Nat} : tN k d ρ = some (ρ.set k (some d)) := rfl
@[simp] theorem tTp_ev {k : Nat} {r : List D → Fr → Option Fr} {l : List D} : tTp k r (.tup l) ρ = if l.length = k then r l ρ else none := rfl
@[simp] theorem tsNil_ev : tsNil [] ρ = some ρ := rfl
@[simp] theorem tsCons_ev {a : MG} {r : List D → Fr → Option Fr} {ds : List D} : tsCons a r (d :: ds) ρ = (a d ρ).bind fun ρ' => r ds ρ' := rfl
@[simp] theorem body_ev {k : Nat} {ds : List D} : body k m ds S = (m (startF k ds) S).end := rfl
@[simp] theorem startF_ev {k : Nat} {ds : List D} : startF k ds = ds.map some ++ List.replicate (k - ds.length) none := rfl
@[simp] theorem srcOf_pl {l : List D} : srcOf S (.pl l) = some (l, noG) := rfl
@[simp] theorem srcOf_ref {n : Nat} : srcOf S (.ref n) = (match S[n]? with | some (.lst _ l) => some (l, inStore n l) | _ => none) := rfl
@[simp] theorem srcOf_str {x : Str} : srcOf S (.str x) = none := rfl
@[simp] theorem srcOf_tup {x : List D} : srcOf S (.tup x) = none := rfl
@[simp] theorem lstOf_pl {l : List D} : lstOf S (.pl l) = some l := rfl
@[simp] theorem lstOf_ref {n : Nat} : lstOf S (.ref n) = (match S[n]? with | some (.lst _ l) => some l | _ => none) := rfl
@[simp] theorem iA_ev : iA a ρ S = (a ρ S).bind fun d S1 => match d with | .tup l => .ok (l, noG) S1 | .str x => .ok (signsD x, noG) S1 | d => (match srcOf S1 d with | some x => .ok x S1 | none => .no) := rfl
@[simp] theorem iZA_ev : iZA a b ρ S = (a ρ S).bind fun d S1 => (b ρ S1).bind fun d2 S2 => match d, d2 with | .tup l, .tup m => .ok (zipD l m, noG) S2 | d, d2 => (match srcOf S2 d, srcOf S2 d2 with | some x, some y => .ok (zipD x.1 y.1, fun S => x.2 S ∧ y.2 S) S2 | _, _ => .no) := rfl
theorem ite_any {α : Type _} {p q : Prop} (h : p = q) (i : Decidable p) (j : Decidable q) (a b : α) : @ite α p i a b = @ite α q j a b := by
  subst h
  cases Subsingleton.elim i j
  rfl
/-- a machine-word range bound -/
def Wd (j : Int) : Prop := -(2 ^ 62) ≤ j ∧ j < 2 ^ 62
theorem wd_of {j : Int} (h : -1000000000 ≤ j) (h2 : j ≤ 1000000000) : Wd j := by unfold Wd; omega
open Classical in
@[simp] theorem iR1_ev : iR1 l ρ S = (l ρ S).bind fun ds S1 => match ds with | [.int j] => if Wd j then .ok (rangeD 0 j.toNat, noG) S1 else .no | _ => .no := by
  show R.bind _ _ = R.bind _ _
  congr 1
  funext ds S1
  match ds with
  | [] => rfl
  | [.int j] => exact ite_any rfl _ _ _ _
  | [.non] => rfl
  | [.bl _] => rfl
  | [.str _] => rfl
  | [.tup _] => rfl
  | [.ref _] => rfl
  | [.scr _] => rfl
  | [.pl _] => rfl
  | a :: _ :: _ => cases a <;> rfl
@[simp] theorem tupleA_tup {l : List D} : tupleA [.tup l] S = .ok (.tup l) S := rfl
@[simp] theorem tupleA_pl {l : List D} : tupleA [.pl l] S = .ok (.tup l) S := rfl
@[simp] theorem tupleA_ref {n : Nat} : tupleA [.ref n] S = (match S[n]? with | some (.lst _ l) => .ok (.tup l) S | _ => .no) := by
  show (match lstOf S (.ref n) with | some l => R.ok (D.tup l) S | _ => R.no) = _
  rw [lstOf_ref]
  cases S[n]? with
  | none => rfl
  | some o => cases o <;> rfl
@[simp] theorem lComp_ev {i : MI} {vs : List Nat} {g : MG} {m : ME} : lComp i vs g t m ρ S = (i ρ S).bind fun x S1 => if x.1.length ≤ sizeLine then lcD x.2 g t m (wipeF ρ vs) x.1 S1 else .no := rfl
@[simp] theorem wipeF_nil : wipeF ρ [] = ρ := rfl
@[simp] theorem wipeF_cons {v : Nat} {vs : List Nat} : wipeF ρ (v :: vs) = (wipeF ρ vs).set v none := rfl
@[simp] theorem lNew_ev : lNew l ρ S = (l ρ S).bind fun xs S1 => if xs.length ≤ sizeLine then .ok xs S1 else .no := rfl
@[simp] theorem eTup_ev : eTup l ρ S = (l ρ S).bind fun xs S1 => if xs.length ≤ sizeLine then .ok (.tup xs) S1 else .no := rfl
@[simp] theorem addD_int : addD (.int i) (.int j) S = .ok (.int (i + j)) S := rfl
@[simp] theorem subD_int : subD (.int i) (.int j) S = .ok (.int (i - j)) S := rfl
@[simp] theorem negD_int : negD (.int i) S = .ok (.int (-i)) S := rfl
theorem addD_tup {u v : List D} (h : u.length + v.length ≤ sizeLine) : addD (.tup u) (.tup v) S = .ok (.tup (u ++ v)) S := by
  unfold addD
  exact if_pos h
theorem addD_pl {u v : List D} (h : u.length + v.length ≤ sizeLine) : addD (.pl u) (.pl v) S = .ok (.pl (u ++ v)) S := by
  unfold addD
  exact if_pos h
@[simp] theorem slD_tup {u : List D} {lo hi : Option Int} : slD (.tup u) lo hi S = .ok (.tup (MM.cutD u lo hi)) S := rfl
@[simp] theorem slD_pl {u : List D} {lo hi : Option Int} : slD (.pl u) lo hi S = .ok (.pl (MM.cutD u lo hi)) S := rfl
theorem mulD_l (h : -(2 ^ 64) < i ∧ i < 2 ^ 64) : mulD (.int i) (.int j) S = .ok (.int (i * j)) S := by
  unfold mulD
  exact if_pos (.inl h)
theorem mulD_r (h : -(2 ^ 64) < j ∧ j < 2 ^ 64) : mulD (.int i) (.int j) S = .ok (.int (i * j)) S := by
  unfold mulD
  exact if_pos (.inr h)
theorem modD_pos (h : 0 < j) : modD (.int i) (.int j) S = .ok (.int (i % j)) S := by
  unfold modD
  exact if_pos h
theorem fdivD_pos (h : 0 < j) (h2 : j < 2 ^ 200) : fdivD (.int i) (.int j) S = .ok (.int (i / j)) S := by
  unfold fdivD
  have hw : CDivW i j := wide_div (b := 200) h (by omega) (by decide) (by decide)
  exact if_pos hw
theorem powD_pos (h : 0 ≤ j) (h1 : j ≤ 1000000) (h2 : i.natAbs < 2 ^ 64) : powD (.int i) (.int j) S = .ok (.int (i ^ j.toNat)) S := by
  unfold powD
  exact if_pos ⟨h, h1, h2⟩
@[simp] theorem ltD_int : ltD (.int i) (.int j) S = .ok (.bl (decide (i < j))) S := rfl
@[simp] theorem gtD_int : gtD (.int i) (.int j) S = .ok (.bl (decide (j < i))) S := rfl
@[simp] theorem eqD_int : eqD (.int i) (.int j) S = .ok (.bl (decide (i = j))) S := rfl
@[simp] theorem neD_int : neD (.int i) (.int j) S = .ok (.bl (!decide (i = j))) S := rfl
@[simp] theorem toInt_bl {k : Bool} : toIntD [.bl k] S = .ok (.int (if k then 1 else 0)) S := rfl
@[simp] theorem toInt_int : toIntD [.int i] S = .ok (.int i) S := rfl
@[simp] theorem eqD_bl {u v : Bool} : eqD (.bl u) (.bl v) S = .ok (.bl (decide (u = v))) S := rfl
@[simp] theorem neD_bl {u v : Bool} : neD (.bl u) (.bl v) S = .ok (.bl (!decide (u = v))) S := rfl
@[simp] theorem eqD_str {u v : Str} : eqD (.str u) (.str v) S = .ok (.bl (decide (u = v))) S := rfl
@[simp] theorem neD_str {u v : Str} : neD (.str u) (.str v) S = .ok (.bl (!decide (u = v))) S := rfl
@[simp] theorem maxD_int : maxD [.int i, .int j] S = .ok (.int (if j > i then j else i)) S := rfl
@[simp] theorem minD_int : minD [.int i, .int j] S = .ok (.int (if j < i then j else i)) S := rfl
@[simp] theorem lenD_tup {u : List D} : lenD [.tup u] S = .ok (.int u.length) S := rfl
@[simp] theorem lenD_scr {u : List Int} : lenD [.scr u] S = .ok (.int u.length) S := rfl
theorem lenD_str {u : Str} (h : u.length ≤ sizeLine) : lenD [.str u] S = .ok (.int u.length) S := by
  unfold lenD
  exact if_pos h
theorem lenD_ref {k : Nat} {fz : Bool} {u : List D} (h : S[k]? = some (.lst fz u)) : lenD [.ref k] S = .ok (.int u.length) S := by
  unfold lenD
  simp [h]
@[simp] theorem ixD_tup {u : List D} : ixD (.tup u) (.int i) S = (match atI u i with | some d => .ok d S | none => .no) := rfl
@[simp] theorem ixD_pl {u : List D} : ixD (.pl u) (.int i) S = (match atI u i with | some d => .ok d S | none => .no) := rfl
@[simp] theorem lenD_pl {u : List D} : lenD [.pl u] S = .ok (.int u.length) S := rfl
@[simp] theorem ixD_scr {u : List Int} : ixD (.scr u) (.int i) S = (match atI u i with | some d => .ok (.int d) S | none => .no) := rfl
theorem ixD_ref {k : Nat} {fz : Bool} {u : List D} (h : S[k]? = some (.lst fz u)) : ixD (.ref k) (.int i) S = (match atI u i with | some d => .ok d S | none => .no) := by
  unfold ixD
  simp only [h]
  all_goals (cases atI u i <;> rfl)
@[simp] theorem tupleD_ev {u : List D} : tupleD u S = .ok (.tup u) S := rfl
end
/-- str(i) -/
def strI (i : Int) : Str := Str.ofString (toString i)
theorem strD_int {i : Int} {S : Sto} (h : i.natAbs.log2 < 1920) : strD [.int i] S = .ok (.str (strI i)) S := by
  unfold strD
  exact if_pos h
/-- ints, texts as data; simp leaves them as they are -/
def iD (l : List Int) : List D := l.map D.int
@[simp] theorem iD_length (l : List Int) : (iD l).length = l.length := by simp [iD]
theorem iD_append (a b : List Int) : iD (a ++ b) = iD a ++ iD b := by simp [iD]
@[simp] theorem iD_nil : iD [] = [] := rfl
theorem sizeL : sizeLine = 16777216 := sizeLine_eq

/-- a for: what holds between the turns; what is wanted behind it -/
theorem for_post {g : Sto → Prop} {tg : MG} {b : MS} {Post : RS → Prop} (Inv : Nat → Fr → Sto → Prop) : ∀ (items : List D) (k : Nat) (ρ : Fr) (S : Sto), Inv k ρ S → (∀ i ρ S, Inv i ρ S → g S) →
    (∀ ρ S, Inv (k + items.length) ρ S → Post (.nx ρ S)) →
    (∀ (i : Nat) d ρ S, items[i]? = some d → Inv (k + i) ρ S → ∃ ρ1, tg d ρ = some ρ1 ∧ match b ρ1 S with
      | .nx ρ' S' => Inv (k + i + 1) ρ' S'
      | .ct ρ' S' => Inv (k + i + 1) ρ' S'
      | .bk ρ' S' => Post (.nx ρ' S')
      | .rt d S' => Post (.rt d S')
      | .ex c ρ' S' => Post (.ex c ρ' S')
      | .no => False) → Post (forD g tg b items ρ S)
  | [], k, ρ, S, h0, hg, he, hs => by
    unfold forD
    rw [if_pos (hg k ρ S h0)]
    exact he ρ S (by simpa using h0)
  | d :: ds, k, ρ, S, h0, hg, he, hs => by
    unfold forD
    rw [if_pos (hg k ρ S h0)]
    obtain ⟨ρ1, e1, h1⟩ := hs 0 d ρ S rfl h0
    rw [e1]
    dsimp only
    have next : ∀ ρ' S', Inv (k + 1) ρ' S' → Post (forD g tg b ds ρ' S') := fun ρ' S' h' =>
      for_post Inv ds (k + 1) ρ' S' h' hg (fun ρ S h => he ρ S (by rw [List.length_cons, Nat.add_comm ds.length 1, ← Nat.add_assoc]; exact h)) fun i d ρ S hi hI => by
        have := hs (i + 1) d ρ S (by simpa using hi) (by rw [show k + (i + 1) = k + 1 + i by omega]; exact hI)
        rw [show k + (i + 1) + 1 = k + 1 + i + 1 by omega] at this
        exact this
    cases hb : b ρ1 S with
    | nx ρ' S' => rw [hb] at h1; exact next ρ' S' h1
    | ct ρ' S' => rw [hb] at h1; exact next ρ' S' h1
    | bk ρ' S' => rw [hb] at h1; exact h1
    | rt d S' => rw [hb] at h1; exact h1
    | ex c ρ' S' => rw [hb] at h1; exact h1
    | no => rw [hb] at h1; exact h1.elim
/-- a for that runs through -/
theorem for_run {g : Sto → Prop} {tg : MG} {b : MS} (Inv : Nat → Fr → Sto → Prop) {items : List D} {ρ : Fr} {S : Sto} (h0 : Inv 0 ρ S) (hg : ∀ i ρ S, Inv i ρ S → g S)
    (hs : ∀ (i : Nat) d ρ S, items[i]? = some d → Inv i ρ S → ∃ ρ1, tg d ρ = some ρ1 ∧ ∃ ρ' S', b ρ1 S = .nx ρ' S' ∧ Inv (i + 1) ρ' S') : ∃ ρ' S', forD g tg b items ρ S = .nx ρ' S' ∧ Inv items.length ρ' S' := by
  refine for_post (Post := fun r => ∃ ρ' S', r = .nx ρ' S' ∧ Inv items.length ρ' S') Inv items 0 ρ S h0 hg (fun ρ S h => ⟨ρ, S, rfl, by simpa using h⟩) fun i d ρ S hd hI => ?_
  rw [Nat.zero_add] at hI ⊢
  obtain ⟨ρ1, e1, ρ', S', e2, h2⟩ := hs i d ρ S hd hI
  exact ⟨ρ1, e1, by rw [e2]; exact h2⟩
/-- a comprehension whose elements leave the store as it is -/
theorem lc_map {g : Sto → Prop} {tg : MG} {m : ME} {ρ : Fr} {S : Sto} (f : D → D) (hg : g S) : ∀ {items : List D}, (∀ d ∈ items, ∃ ρ1, tg d ρ = some ρ1 ∧ m ρ1 S = .ok (f d) S) → lcD g tg tYs m ρ items S = .ok (items.map f) S
  | [], _ => by unfold lcD; rw [if_pos hg]; rfl
  | d :: ds, h => by
    unfold lcD
    rw [if_pos hg]
    obtain ⟨ρ1, e1, e2⟩ := h d List.mem_cons_self
    rw [e1]
    simp [e2, lc_map f hg (items := ds) fun d hd => h d (List.mem_cons_of_mem _ hd)]
theorem intsD_map {α : Type} (f : α → Int) : ∀ l : List α, intsD (l.map fun x => D.int (f x)) = some (l.map f)
  | [] => rfl
  | x :: r => by simp [intsD, intsD_map f r]
theorem txts_map {α : Type} (f : α → Str) : ∀ l : List α, txts (l.map fun x => D.str (f x)) = some (l.map f)
  | [] => rfl
  | x :: r => by simp [txts, txts_map f r]
theorem sumD_map {α : Type} (f : α → Int) (l : List α) (S : Sto) : sumD (l.map fun x => D.int (f x)) S = .ok (.int (l.map f).sum) S := by
  unfold sumD
  rw [intsD_map]
theorem sum_cast : ∀ l : List Nat, ((l.map fun (d : Nat) => (d : Int)).sum) = (l.sum : Int)
  | [] => rfl
  | d :: r => by
    rw [List.map_cons, List.sum_cons, List.sum_cons, sum_cast r]
    simp
@[simp] theorem get_last (S : Sto) (o : O) : (S ++ [o])[S.length]? = some o := by simp
@[simp] theorem set_last (S : Sto) (o o' : O) : (S ++ [o]).set S.length o' = S ++ [o'] := by simp
theorem append_ev {S : Sto} {n : Nat} {xs : List D} {d : D} (h : S[n]? = some (.lst false xs)) (hl : xs.length < sizeLine) : appendD (.ref n) [d] S = .ok .non (S.set n (.lst false (xs ++ [d]))) := by
  unfold appendD
  simp [h, hl]
theorem isLst_ev {S : Sto} {n : Nat} {fz : Bool} {xs : List D} (h : S[n]? = some (.lst fz xs)) : isLstD (.ref n) S = true := by
  unfold isLstD
  simp [h]
theorem setIx_ev {S : Sto} {n : Nat} {xs : List D} {d : D} {i : Int} {j : Nat} (h : S[n]? = some (.lst false xs)) (hj : ixN xs.length i = some j) : setIx (.ref n) (.int i) d S = some (S.set n (.lst false (xs.set j d))) := by
  unfold setIx
  simp [h, hj]
theorem atI_of {α : Type} {xs : List α} {i : Int} {j : Nat} {v : α} (e : i = (j : Int)) (h : xs[j]? = some v) : atI xs i = some v := by
  subst e
  exact atI_nat h
theorem bdL_iff {n : Nat} : ∀ {l : List D}, bdL n l ↔ ∀ d ∈ l, bdD n d
  | [] => by unfold bdL; simp
  | d :: r => by
    unfold bdL
    rw [bdL_iff]
    simp
@[simp] theorem bdD_int {n : Nat} {i : Int} : bdD n (.int i) := by unfold bdD; trivial
@[simp] theorem bdD_bl {n : Nat} {i : Bool} : bdD n (.bl i) := by unfold bdD; trivial
@[simp] theorem bdD_str {n : Nat} {i : Str} : bdD n (.str i) := by unfold bdD; trivial
@[simp] theorem bdD_non {n : Nat} : bdD n .non := by unfold bdD; trivial
@[simp] theorem bdD_scr {n : Nat} {i : List Int} : bdD n (.scr i) := by unfold bdD; trivial
@[simp] theorem bdD_tup {n : Nat} {l : List D} : bdD n (.tup l) ↔ bdL n l := by
  constructor
  · intro h; unfold bdD at h; exact h
  · intro h; unfold bdD; exact h
@[simp] theorem bdD_pl {n : Nat} {l : List D} : bdD n (.pl l) ↔ bdL n l := by
  constructor
  · intro h; unfold bdD at h; exact h
  · intro h; unfold bdD; exact h
@[simp] theorem bdD_ref {n m : Nat} : bdD n (.ref m) ↔ m < n := by
  constructor
  · intro h; unfold bdD at h; exact h
  · intro h; unfold bdD; exact h
@[simp] theorem bdL_nil {n : Nat} : bdL n [] := by unfold bdL; trivial
@[simp] theorem bdL_cons {n : Nat} {d : D} {l : List D} : bdL n (d :: l) ↔ bdD n d ∧ bdL n l := by
  constructor
  · intro h; unfold bdL at h; exact h
  · intro h; unfold bdL; exact h
@[simp] theorem bdL_iD {n : Nat} {l : List Int} : bdL n (iD l) := by
  rw [bdL_iff]
  intro d hd
  obtain ⟨i, _, rfl⟩ := List.mem_map.mp hd
  simp
mutual
theorem mapR_bd {g : Nat → Option D} {k : Nat} (hg : ∀ n, n < k → g n = some (.ref n)) : ∀ d, bdD k d → mapR g d = some d
  | .ref n, h => by unfold mapR; exact hg n (bdD_ref.mp h)
  | .tup l, h => by unfold mapR; rw [mapRL_bd hg l (bdD_tup.mp h)]; rfl
  | .pl l, h => by unfold mapR; rw [mapRL_bd hg l (bdD_pl.mp h)]; rfl
  | .non, _ => by unfold mapR; rfl
  | .bl _, _ => by unfold mapR; rfl
  | .int _, _ => by unfold mapR; rfl
  | .str _, _ => by unfold mapR; rfl
  | .scr _, _ => by unfold mapR; rfl
theorem mapRL_bd {g : Nat → Option D} {k : Nat} (hg : ∀ n, n < k → g n = some (.ref n)) : ∀ l, bdL k l → mapRL g l = some l
  | [], _ => by unfold mapRL; rfl
  | d :: r, h => by
    unfold mapRL
    rw [mapR_bd hg d (bdL_cons.mp h).1, mapRL_bd hg r (bdL_cons.mp h).2]
end
theorem rfz_low {T : Sto} {k f n : Nat} (h : n < k) : rfz T k f n = some (.ref n) := by
  cases f <;> (unfold rfz; exact if_pos h)
theorem rfzD_new {T : Sto} {k n : Nat} {l : List D} {fz : Bool} (hn : k ≤ n) (h : T[n - k]? = some (.lst fz l)) (hl : bdL k l) : rfzD T k (.ref n) = some (.pl l) := by
  unfold rfzD mapR rfz
  rw [if_neg (by omega), h]
  show (mapRL _ l).map D.pl = _
  rw [mapRL_bd (fun _ h => rfz_low h) l hl]
  rfl
theorem Kept.refl {S : Sto} : Kept S S := fun _ _ h => .inl h
theorem Kept.trans {S S1 S2 : Sto} (h : Kept S S1) (g : Kept S1 S2) (hl : S1.length = S.length) : Kept S S2 := fun n o e => by
  rcases g n o e with q | q
  · exact h n o q
  · rw [hl] at q; exact .inr q
theorem Kept.set {S : Sto} {b : Nat} {fz : Bool} {l : List D} (h : bdL S.length l) : Kept S (S.set b (.lst fz l)) := fun n o e => by
  by_cases hb : b = n
  · subst hb
    have hl : b < S.length := by
      have := (List.getElem?_eq_some_iff.mp e).1
      simpa using this
    rw [List.getElem?_set_self hl] at e
    cases e
    exact .inr (show bdL S.length l from h)
  · rw [List.getElem?_set_ne hb] at e
    exact .inl e
theorem gc_ok {S S1 T : Sto} {d d' : D} (hl : S1.length = S.length) (hk : Kept S S1) (hr : rfzD T S.length d = some d') : gc S (.ok d (S1 ++ T)) = .ok d' S1 := by
  have h1 : (S1 ++ T).take S.length = S1 := by rw [← hl, List.take_left]
  have h2 : (S1 ++ T).drop S.length = T := by rw [← hl, List.drop_left]
  simp only [gc, h1, h2, hr]
  rw [if_pos ⟨by rw [h1]; exact hk, by simp; omega⟩]
/-- one new list, the answer -/
theorem gc_new {S S1 : Sto} {l : List D} {fz : Bool} {n : Nat} (hl : S1.length = S.length) (hk : Kept S S1) (hn : n = S.length) (hd : bdL S.length l) : gc S (.ok (.ref n) (S1 ++ [.lst fz l])) = .ok (.pl l) S1 :=
  gc_ok hl hk (rfzD_new (fz := fz) (by omega) (by rw [hn, Nat.sub_self]; rfl) hd)
@[simp] theorem gcF_ev {sp : FL} {ds : List D} {S : Sto} : gcF sp ds S = gc S (sp ds S) := rfl
def Nx (r : RS) (P : Fr → Sto → Prop) : Prop := ∃ ρ' S', r = .nx ρ' S' ∧ P ρ' S'
@[simp] theorem nx_nx {ρ : Fr} {S : Sto} {P : Fr → Sto → Prop} : Nx (.nx ρ S) P ↔ P ρ S := ⟨fun ⟨_, _, e, h⟩ => by cases e; exact h, fun h => ⟨_, _, rfl, h⟩⟩
/-- a for that runs through -/
theorem for_nx {g : Sto → Prop} {tg : MG} {b : MS} (Inv : Nat → Fr → Sto → Prop) {items : List D} {ρ : Fr} {S : Sto} (h0 : Inv 0 ρ S) (hg : ∀ i ρ S, Inv i ρ S → g S)
    (hs : ∀ (i : Nat) d ρ S, items[i]? = some d → Inv i ρ S → ∃ ρ1, tg d ρ = some ρ1 ∧ Nx (b ρ1 S) (Inv (i + 1))) : ∃ ρ' S', forD g tg b items ρ S = .nx ρ' S' ∧ Inv items.length ρ' S' :=
  for_run Inv h0 hg fun i d ρ S hd hI => hs i d ρ S hd hI
theorem nx_of {r : RS} {P : Fr → Sto → Prop} (h : ∀ Q : Fr → Sto → Prop, (∀ ρ S, P ρ S → Q ρ S) → Nx r Q) : Nx r P := h P fun _ _ x => x
@[simp] theorem ite_okB {p : Prop} [Decidable p] {a b : Bool} {S : Sto} : (if p then (R.ok a S : R Bool) else R.ok b S) = R.ok (if p then a else b) S := by split <;> rfl
section
variable {α : Type} {x0 x1 x2 x3 x4 x5 : α} {l : List α}
@[simp] theorem atI_0 : atI (x0 :: l) 0 = some x0 := atI_nat (j := 0) rfl
@[simp] theorem atI_1 : atI (x0 :: x1 :: l) 1 = some x1 := atI_nat (j := 1) rfl
@[simp] theorem atI_2 : atI (x0 :: x1 :: x2 :: l) 2 = some x2 := atI_nat (j := 2) rfl
@[simp] theorem atI_3 : atI (x0 :: x1 :: x2 :: x3 :: l) 3 = some x3 := atI_nat (j := 3) rfl
@[simp] theorem atI_4 : atI (x0 :: x1 :: x2 :: x3 :: x4 :: l) 4 = some x4 := atI_nat (j := 4) rfl
@[simp] theorem atI_5 : atI (x0 :: x1 :: x2 :: x3 :: x4 :: x5 :: l) 5 = some x5 := atI_nat (j := 5) rfl
end
end MM

namespace MM
open PySem PySem.Spec PyProof.Rows L2
section
variable {X : Cx} {c : Cl} {W : WX} {o e : Expr} {mo me : ME} {pos apos : Pos}
end
end MM

namespace MM
open PySem PySem.Spec PyProof.Rows L2

theorem PE.or {X : Cx} {e : Expr} {t u : TE} (h : PE X e t) (g : PE X e u) : PE X e (fun σ H Q => t σ H Q ∨ u σ H Q) :=
  ⟨fun pins s σ H Q I q => q.elim (h.run pins s σ H Q I) (g.run pins s σ H Q I)⟩
theorem PS.or {X : Cx} {st : Stmt} {t u : TS} (h : PS X st t) (g : PS X st u) : PS X st (fun E σ H => t E σ H ∨ u E σ H) :=
  ⟨fun pins s σ H D I q => q.elim (h.run pins s σ H D I) (g.run pins s σ H D I)⟩
section
variable {X : Cx} {c : Cl} {W : WX} {e : Expr} {st : Stmt}
end

def valD (l : List (Key × D)) (k : Key) : Option D := (l.find? fun kv => decide (kv.1 = k)).map (·.2)
def putD (l : List (Key × D)) (k : Key) (v : D) : List (Key × D) :=
  if (l.any fun kv => decide (kv.1 = k)) = true then l.map (fun kv => if kv.1 = k then (kv.1, v) else kv) else l ++ [(k, v)]
def dropD (l : List (Key × D)) (k : Key) : List (Key × D) := l.filter fun kv => decide (kv.1 ≠ k)
section
variable {K : PySem.W.Frag} {c : Cl} {φ : List Addr} {H : Hp} {S : Sto}
theorem RepKV.nil {κ : Type} : RepKV (κ := κ) K φ H [] [] := rfl
theorem RepKV.cons {κ : Type} {k : κ} {d : D} {v : V} {l : List (κ × D)} {vs : List (κ × V)} (h : Rep K φ H d v) (g : RepKV K φ H l vs) : RepKV K φ H ((k, d) :: l) ((k, v) :: vs) := ⟨v, vs, rfl, h, g⟩
theorem RepKV.length {κ : Type} : ∀ {l : List (κ × D)} {vs : List (κ × V)}, RepKV K φ H l vs → l.length = vs.length
  | [], _, h => by rw [show _ = [] from h]; rfl
  | d :: l, vs, h => by
    obtain ⟨v, r, rfl, _, g⟩ := h
    simp [RepKV.length g]
theorem RepKV.any {l : List (Key × D)} {vs : List (Key × V)} (g : RepKV K φ H l vs) (k : Key) : (l.any fun kv => decide (kv.1 = k)) = vs.any fun kv => decide (kv.1 = k) := by
  induction l generalizing vs with
  | nil => rw [show vs = [] from g]; rfl
  | cons d l ih =>
    obtain ⟨v, r, rfl, h1, h2⟩ := g
    simp only [List.any_cons, ih h2]
theorem RepKV.put {l : List (Key × D)} {vs : List (Key × V)} {d : D} {v : V} (g : RepKV K φ H l vs) (k : Key) (h : Rep K φ H d v) : RepKV K φ H (putD l k d) (putK vs k v) := by
  unfold putD putK
  rw [g.any k]
  split
  · rename_i hany_
    clear hany_
    induction l generalizing vs with
    | nil => rw [show vs = [] from g]; exact RepKV.nil
    | cons x l ih =>
      obtain ⟨w, r, rfl, h1, h2⟩ := g
      obtain ⟨k', d'⟩ := x
      simp only [List.map_cons]
      by_cases hk : k' = k
      · rw [if_pos hk, if_pos hk]; exact RepKV.cons h (ih h2)
      · rw [if_neg hk, if_neg hk]; exact RepKV.cons h1 (ih h2)
  · rename_i hany_
    clear hany_
    induction l generalizing vs with
    | nil => rw [show vs = [] from g]; exact RepKV.cons h RepKV.nil
    | cons x l ih =>
      obtain ⟨w, r, rfl, h1, h2⟩ := g
      exact RepKV.cons h1 (ih h2)
theorem RepKV.drop {l : List (Key × D)} {vs : List (Key × V)} (g : RepKV K φ H l vs) (k : Key) : RepKV K φ H (dropD l k) (dropK vs k) := by
  unfold dropD dropK
  induction l generalizing vs with
  | nil => rw [show vs = [] from g]; exact RepKV.nil
  | cons x l ih =>
    obtain ⟨w, r, rfl, h1, h2⟩ := g
    obtain ⟨k', d'⟩ := x
    by_cases hk : k' = k
    · simp only [List.filter_cons, hk, ne_eq, not_true_eq_false, decide_false, Bool.false_eq_true, if_false]; exact ih h2
    · simp only [List.filter_cons, hk, ne_eq, not_false_eq_true, decide_true, if_true]; exact RepKV.cons h1 (ih h2)
/-- a dict of the store -/
theorem Rel.dct (r : Rel K c φ S H) {n : Nat} {a : Addr} {fz : Bool} {l : List (Key × D)} (h1 : φ[n]? = some a) (h2 : S[n]? = some (.dct fz l)) : ∃ vs, RepKV K φ H l vs ∧ Rd H a (.dK vs) ∧ (fz = false → H a = some (.dK vs)) ∧ (fz = true → ∃ ob, H a = some (.frz ob (.dK vs))) := by
  obtain ⟨vs, g, h⟩ := r.obj n a _ h1 h2
  refine ⟨vs, g, ?_, fun e => ?_, fun e => ?_⟩
  · split at h
    · exact .inr h
    · exact .inl h
  · subst e
    simpa using h
  · subst e
    simpa using h
end

section
variable {X : Cx} {c : Cl} {W : WX} {e o i : Expr} {st : Stmt} {me mo mi : ME} {pos apos cpos tpos : Pos}
theorem RepKV.get {κ : Type} {K : PySem.W.Frag} {φ : List Addr} {H : Hp} : ∀ {l : List (κ × D)} {vs : List (κ × V)}, RepKV K φ H l vs → ∀ {i : Nat} {k : κ} {d : D}, l[i]? = some (k, d) → ∃ v, vs[i]? = some (k, v) ∧ Rep K φ H d v
  | [], _, _, i, k, d, h => by simp at h
  | x :: l, vs, g, i, k, d, h => by
    obtain ⟨v, r, rfl, h1, h2⟩ := g
    cases i with
    | zero =>
      simp at h
      subst h
      exact ⟨v, rfl, h1⟩
    | succ i =>
      have h' : l[i]? = some (k, d) := by simpa using h
      obtain ⟨w, hw, rw'⟩ := RepKV.get h2 h'
      exact ⟨w, by simpa using hw, rw'⟩
section
variable {K : PySem.W.Frag} {φ0 : List Addr} {H0 : Hp} {S0 : Sto} {a : Addr} {od : Obj} {vs : List (Key × V)} {l : List (Key × D)}
end
end
end MM

namespace MM
open PySem PySem.Spec PyProof.Rows L2

section
variable {K : PySem.W.Frag} {c : Cl} {φ : List Addr} {H : Hp} {S : Sto}
theorem Rel.ins (r : Rel K c φ S H) {n : Nat} {a : Addr} {k : Nat} {fs : List (Str × D)} (h1 : φ[n]? = some a) (h2 : S[n]? = some (.ins k fs)) : ∃ dx vs, RepKV K φ H fs vs ∧ H a = some (.ins (c.cl k) dx vs) := r.obj n a _ h1 h2
end
section
variable {X : Cx} {c : Cl} {W : WX} {e o : Expr} {es : List Expr} {me mo : ME} {ml : ML} {pos apos tpos : Pos} {f : Str} {k : Nat}
end
section
variable {X : Cx} {CX : CXT} {k : Nat} {f C : Addr} {fd : FuncData} {ps : List Str} {sp : Sp} {E : L2.St → XK} {x m : Str} {p pos apos : Pos} {e o : Expr} {es : List Expr} {ta : TE} {t : TA}
end
section
variable {X : Cx} {c : Cl} {W : WX} {e o : Expr} {es : List Expr} {me mo : ME} {ml : ML} {pos apos p : Pos} {m x : Str} {k : Nat}
theorem PSs.imp {b : List Stmt} {t t' : TS} (h : PSs X b t) (hi : ∀ E σ H, t' E σ H → t E σ H) : PSs X b t' := ⟨fun pins s σ H D I q => h.run pins s σ H D I (hi D σ H q)⟩
end
end MM

namespace MM
open PySem PySem.Spec PyProof.Rows L2
section
variable {prog : Program} {w : World} {A : Around} {R : Result → Shared → Prop} {I : Addr} {fp wr : List Addr} {G : Array GenState → Array GenState → Prop} {n : Nat} {P : Nat → Value → Prop} {St : Nat → Shared → Prop}
end
section
variable {prog : Program} {w : World} {A : Around} {E : Value → Shared → Prop} {s : Shared}
end
def seqOf (S : Sto) : D → Option (List D)
  | .tup l => some l
  | d => lstOf S d
theorem seqOf_rd {K : PySem.W.Frag} {c : Cl} {φ : List Addr} {S : Sto} {H : Hp} {d : D} {x : V} {l : List D} (r : Rel K c φ S H) (hx : Rep K φ H d x) (h : seqOf S d = some l) : ∃ a vs, x = .ref a ∧ (SqL K H a vs ∨ SqT K H a vs) ∧ RepL K φ H l vs := by
  unfold seqOf at h
  split at h
  · cases h
    unfold Rep at hx
    obtain ⟨a, vs, rfl, s, g⟩ := hx
    exact ⟨a, vs, rfl, .inr s, g⟩
  · obtain ⟨a, vs, rfl, s, g⟩ := lstOf_rd r hx h
    exact ⟨a, vs, rfl, .inl (.inl s), g⟩
end MM

namespace MM
open PySem PySem.Spec PyProof.Rows L2
end MM

namespace MM
open PySem PySem.Spec PyProof.Rows L2
section
variable {X : Cx} {c : Cl} {W : WX} {e o i : Expr} {me mo mi : ME} {pos tpos : Pos}
end
section
variable {X : Cx} {c : Cl} {W : WX}
end
end MM

namespace MM
open PySem PySem.Spec PyProof.Rows L2
open PySem.Sem (wp)
def SubIt (t : Bool) (h : Heap) (a l : Addr) (i : Nat) : Prop := match t with
  | true => h.IsTupleIter a l i
  | false => h.IsListIter a l i
def SubSq (t : Bool) (h : Heap) (l : Addr) (xs : Array Value) : Prop := match t with
  | true => h.IsTuple l xs
  | false => h.IsList l xs
theorem SubIt.mv {t : Bool} {h h' : Heap} {a l : Addr} {i : Nat} (x : SubIt t h a l i) (e : h'.get? a = h.get? a) : SubIt t h' a l i := by
  cases t
  · obtain ⟨o, ho, r⟩ := x; exact ⟨o, e.trans ho, r⟩
  · obtain ⟨o, ho, r⟩ := x; exact ⟨o, e.trans ho, r⟩
theorem SubIt.ob {t : Bool} {h : Heap} {a l : Addr} {i : Nat} (x : SubIt t h a l i) : ∃ o, h.get? a = some o ∧ ∀ v, o.data ≠ .cell v := by
  cases t
  · obtain ⟨o, ho, _, d⟩ := x; exact ⟨o, ho, fun v q => by rw [d] at q; cases q⟩
  · obtain ⟨o, ho, _, d⟩ := x; exact ⟨o, ho, fun v q => by rw [d] at q; cases q⟩
theorem SubSq.mv {t : Bool} {h h' : Heap} {l : Addr} {xs : Array Value} (x : SubSq t h l xs) (e : h'.get? l = h.get? l) : SubSq t h' l xs := by
  cases t
  · obtain ⟨o, ho, r⟩ := x; exact ⟨o, e.trans ho, r⟩
  · obtain ⟨o, ho, r⟩ := x; exact ⟨o, e.trans ho, r⟩
theorem SubSq.lt {t : Bool} {h : Heap} {l : Addr} {xs : Array Value} (x : SubSq t h l xs) : l < h.objs.size := by
  cases t
  · obtain ⟨o, ho, r⟩ := x; exact Heap.lt_size ho
  · obtain ⟨o, ho, r⟩ := x; exact Heap.lt_size ho
abbrev TupN (h : Heap) (T : Addr) (vs : Array Value) : Prop := h.get? T = some { cls := .type "tuple", data := .seq vs }
section
variable {prog : Program} {w : World} {A : Around} {E : Value → Shared → Prop} {s : Shared}
theorem sub_item {t : Bool} {a l : Addr} {i : Nat} {xs : Array Value} {x : Value} {Q : Value → Shared → Prop} (g : SubIt t s.heap a l i) (q : SubSq t s.heap l xs) (e : xs[i]? = some x)
    (hQ : ∀ h', SubIt t h' a l (i + 1) → Heap.SameBut a s.heap h' → Q x { s with heap := h' }) : wpAny (model prog w) A (Builtin.SmallTypes.nextOf (.ref a)) Q E s := by
  cases t
  · exact wpAny_nextOf_list_item g q e hQ
  · exact RZ.nextOf_tuple_item g q e hQ
theorem sub_end {t : Bool} {a l : Addr} {i : Nat} {xs : Array Value} {Q : Value → Shared → Prop} (hh : A.handled = none) (g : SubIt t s.heap a l i) (q : SubSq t s.heap l xs) (e : xs[i]? = none)
    (hE : ∀ h' x, Heap.ExtBut a s.heap h' → (∃ o, h'.get? x = some o ∧ o.cls = .type "StopIteration") → E (.ref x) { s with heap := h' }) : wpAny (model prog w) A (Builtin.SmallTypes.nextOf (.ref a)) Q E s := by
  cases t
  · exact wpAny_nextOf_list_end hh g q e hE
  · exact RZ.nextOf_tuple_end hh g q e hE
theorem ne_ {x y : Nat} (h : ¬ x = y) : @Ne Addr x y := h
theorem tup_put {T : Addr} {vs : Array Value} {x : Value} {k : Nat} {Q : Unit → Shared → Prop} (g : TupN s.heap T vs) (hv : vs.size ≤ 9)
    (h : ∀ h', TupN h' T (vs.setIfInBounds k x) → Heap.SameBut T s.heap h' → Q () { s with heap := h' }) : wpAny (model prog w) A (updateSeq T (·.setIfInBounds k x)) Q E s := by
  refine wpAny_updateSeq (hz := Nat.le_trans hv (by decide)) (_hz' := by rw [Array.size_setIfInBounds]; exact Nat.le_trans hv (by decide)) g rfl (h _ ?_ (Heap.SameBut.update ..))
  show Heap.get? _ _ = _
  rw [Heap.get?_update_self _ g rfl]
  simp [Obj.mapSeq]

theorem zip2_item {b : Nat} {l1 l2 : Nat} {t1 t2 : Bool} {k : Nat} {xs1 xs2 : Array Value} {x1 x2 o1 o2 : Value} {Q : Value → Shared → Prop} (d1 : l1 < b) (d2 : l2 < b)
    (gz : IsZip s.heap (b + 4) (b + 2) (b + 3) .none) (gI : TupN s.heap (b + 2) #[.ref (b), .ref (b + 1)]) (gO : TupN s.heap (b + 3) #[o1, o2])
    (g1 : SubIt t1 s.heap (b) l1 k) (g2 : SubIt t2 s.heap (b + 1) l2 k) (q1 : SubSq t1 s.heap l1 xs1) (q2 : SubSq t2 s.heap l2 xs2) (v1 : xs1[k]? = some x1) (v2 : xs2[k]? = some x2)
    (hQ : ∀ h', IsZip h' (b + 4) (b + 2) (b + 3) (rawInt s.heap.objs.size) → TupN h' (b + 3) #[x1, x2] → SubIt t1 h' (b) l1 (k + 1) → SubIt t2 h' (b + 1) l2 (k + 1) → TupN h' s.heap.objs.size #[x1, x2] → h'.objs.size = s.heap.objs.size + 1 → (∀ c o, (c < b ∨ b + 4 < c ∨ c = b + 2) → s.heap.get? c = some o → h'.get? c = some o) → Q (.ref s.heap.objs.size) { s with heap := h' }) :
    wpAny (model prog w) A (Builtin.«zip.__next__» ⟨[.ref (b + 4)], []⟩) (fun fin s' => ∃ v, fin = .done (.ret v) ∧ Q v s') E s := by
  show wpAny _ _ (field (.ref (b + 4)) 2 >>= _) _ _ _
  refine wpAny_bind (wpAny_field gz rfl (x := .bool false) rfl ?_)
  show wpAny _ _ (field (.ref (b + 4)) 3 >>= _) _ _ _
  refine wpAny_bind (wpAny_field gz rfl (x := .ref (b + 2)) rfl (wpAny_bind (wpAny_seqItems gI rfl ?_)))
  show wpAny _ _ (Builtin.SmallTypes.ownedTupleIsFree (.ref (b + 4)) >>= _) _ _ _
  refine wpAny_bind ?_; unfold Builtin.SmallTypes.ownedTupleIsFree
  refine wpAny_bind (wpAny_field gz rfl (x := .none) rfl (wpAny_pure ?_))
  simp only [if_true]; refine wpAny_bind (wpAny_rule ?_)
  refine wpAny_bind (wpAny_field gz rfl (x := .ref (b + 3)) rfl ?_)
  refine wpAny_bind (wpAny_setField_rec gz (by simp) fun h1 gz1 sb1 => ?_)
  replace gz1 : IsZip h1 (b + 4) (b + 2) (b + 3) .ellipsis := gz1
  refine wpAny_bind ?_; simp only [List.zipIdx_cons, List.zipIdx_nil, List.forIn_cons, List.forIn_nil]
  refine wpAny_bind (wpAny_bind (wpAny_onRaise ?_))
  show wpAny _ _ (Builtin.SmallTypes.nextOf (.ref (b)) >>= _) _ _ _
  have y1 : SubIt t1 h1 (b) l1 k := g1.mv (by rw [sb1.2 _ (ne_ (by omega))])
  have w1 : SubSq t1 h1 l1 xs1 := q1.mv (by rw [sb1.2 _ (ne_ (by omega))])
  refine wpAny_bind (sub_item y1 w1 v1 fun h2 n1 sb2 => wpAny_pure ?_)
  have m0 : TupN h2 (b + 3) #[o1, o2] := Eq.trans (by rw [sb2.2 _ (ne_ (by omega)), sb1.2 _ (ne_ (by omega))]) gO
  refine wpAny_bind (wpAny_seqItems m0 rfl ?_)
  refine wpAny_bind (tup_put m0 (by simp) fun h3 p1 sb3 => ?_)
  replace p1 : TupN h3 (b + 3) #[x1, o2] := p1
  refine wpAny_bind (wpAny_letGo (wpAny_pure ?_))
  refine wpAny_bind (wpAny_bind (wpAny_onRaise ?_))
  show wpAny _ _ (Builtin.SmallTypes.nextOf (.ref (b + 1)) >>= _) _ _ _
  have y2 : SubIt t2 h3 (b + 1) l2 k := g2.mv (by rw [sb3.2 _ (ne_ (by omega)), sb2.2 _ (ne_ (by omega)), sb1.2 _ (ne_ (by omega))])
  have w2 : SubSq t2 h3 l2 xs2 := q2.mv (by rw [sb3.2 _ (ne_ (by omega)), sb2.2 _ (ne_ (by omega)), sb1.2 _ (ne_ (by omega))])
  refine wpAny_bind (sub_item y2 w2 v2 fun h4 n2 sb4 => wpAny_pure ?_)
  have m1 : TupN h4 (b + 3) #[x1, o2] := Eq.trans (sb4.2 _ (ne_ (by omega))) p1
  refine wpAny_bind (wpAny_seqItems m1 rfl ?_)
  refine wpAny_bind (tup_put m1 (by simp) fun h5 p2 sb5 => ?_)
  replace p2 : TupN h5 (b + 3) #[x1, x2] := p2
  refine wpAny_bind (wpAny_letGo (wpAny_pure (wpAny_pure ?_)))
  refine wpAny_bind (wpAny_seqItems p2 rfl ?_)
  refine wpAny_bind (wpAny_newTuple ?_)
  have hsz : h5.objs.size = s.heap.objs.size := by rw [sb5.1, sb4.1, sb3.1, sb2.1, sb1.1]
  have gz5 : IsZip h5 (b + 4) (b + 2) (b + 3) .ellipsis := Eq.trans (by rw [sb5.2 _ (ne_ (by omega)), sb4.2 _ (ne_ (by omega)), sb3.2 _ (ne_ (by omega)), sb2.2 _ (ne_ (by omega))]) gz1
  have hk : ∀ c, (c < b ∨ b + 4 < c ∨ c = b + 2) → h5.get? c = s.heap.get? c := fun c hc => by rw [sb5.2 c (ne_ (by omega)), sb4.2 c (ne_ (by omega)), sb3.2 c (ne_ (by omega)), sb2.2 c (ne_ (by omega)), sb1.2 c (ne_ (by omega))]
  have f1 : SubIt t1 h5 (b) l1 (k + 1) := n1.mv (by rw [sb5.2 _ (ne_ (by omega)), sb4.2 _ (ne_ (by omega)), sb3.2 _ (ne_ (by omega))])
  have f2 : SubIt t2 h5 (b + 1) l2 (k + 1) := n2.mv (by rw [sb5.2 _ (ne_ (by omega))])
  have zlt : b + 4 < h5.objs.size := Heap.lt_size gz5
  show wpAny _ _ (Builtin.SmallTypes.ownedTupleHandOut (.ref (b + 4)) (.ref h5.objs.size) >>= _) _ _ _
  refine wpAny_bind ?_; unfold Builtin.SmallTypes.ownedTupleHandOut
  have gzp : IsZip (h5.push { cls := .type "tuple", data := .seq #[x1, x2] }) (b + 4) (b + 2) (b + 3) .ellipsis := Heap.get?_push_of_some _ gz5
  refine wpAny_bind (wpAny_setField_rec gzp (by simp) fun hA gA sA => ?_)
  replace gA : IsZip hA (b + 4) (b + 2) (b + 3) (rawInt h5.objs.size) := gA
  refine wpAny_setField_rec gA (by simp) fun hB gB sB => ?_
  replace gB : IsZip hB (b + 4) (b + 2) (b + 3) (rawInt h5.objs.size) := gB
  have up : ∀ c o, c ≠ b + 4 → h5.get? c = some o → hB.get? c = some o := fun c o c1 e => by rw [sB.2 c c1, sA.2 c c1]; exact Heap.get?_push_of_some _ e
  have gT : TupN hB h5.objs.size #[x1, x2] := by show Heap.get? _ _ = _; rw [sB.2 _ (ne_ (by omega)), sA.2 _ (ne_ (by omega))]; exact Heap.get?_push_size _ rfl
  have hz9 : hB.objs.size = h5.objs.size + 1 := by rw [sB.1, sA.1, Heap.size_push]
  rw [hsz] at gB gT hz9; refine wpAny_pure ⟨_, rfl, ?_⟩
  show Q (.ref h5.objs.size) _; rw [hsz]
  have it9 : ∀ {t : Bool} {a l : Addr} {i : Nat}, a ≠ b + 4 → SubIt t h5 a l i → SubIt t hB a l i := fun ha x => by obtain ⟨o, ho, _⟩ := x.ob; exact x.mv ((up _ o ha ho).trans ho.symm)
  exact hQ hB gB (up _ _ (ne_ (by omega)) p2) (it9 (ne_ (by omega)) f1) (it9 (ne_ (by omega)) f2) gT hz9 fun c o hc e => up c o (ne_ (by omega)) ((hk c hc).trans e)
theorem zip2_end {b : Nat} {l1 l2 : Nat} {t1 t2 : Bool} {k : Nat} {xs1 xs2 : Array Value} {o1 o2 : Value} {Q : Fin → Shared → Prop} (hh : A.handled = none) (d1 : l1 < b) (d2 : l2 < b)
    (gz : IsZip s.heap (b + 4) (b + 2) (b + 3) .none) (gI : TupN s.heap (b + 2) #[.ref (b), .ref (b + 1)]) (gO : TupN s.heap (b + 3) #[o1, o2])
    (g1 : SubIt t1 s.heap (b) l1 k) (g2 : SubIt t2 s.heap (b + 1) l2 k) (q1 : SubSq t1 s.heap l1 xs1) (q2 : SubSq t2 s.heap l2 xs2) (hend : xs1[k]? = none ∨ xs2[k]? = none)
    (hE : ∀ h' e, (∀ c o, (c < b ∨ b + 4 < c) → s.heap.get? c = some o → h'.get? c = some o) → (∃ o, h'.get? e = some o ∧ o.cls = .type "StopIteration") → E (.ref e) { s with heap := h' }) :
    wpAny (model prog w) A (Builtin.«zip.__next__» ⟨[.ref (b + 4)], []⟩) Q E s := by
  show wpAny _ _ (field (.ref (b + 4)) 2 >>= _) _ _ _
  refine wpAny_bind (wpAny_field gz rfl (x := .bool false) rfl ?_)
  show wpAny _ _ (field (.ref (b + 4)) 3 >>= _) _ _ _
  refine wpAny_bind (wpAny_field gz rfl (x := .ref (b + 2)) rfl (wpAny_bind (wpAny_seqItems gI rfl ?_)))
  show wpAny _ _ (Builtin.SmallTypes.ownedTupleIsFree (.ref (b + 4)) >>= _) _ _ _
  refine wpAny_bind ?_; unfold Builtin.SmallTypes.ownedTupleIsFree
  refine wpAny_bind (wpAny_field gz rfl (x := .none) rfl (wpAny_pure ?_))
  simp only [if_true]; refine wpAny_bind (wpAny_rule ?_)
  refine wpAny_bind (wpAny_field gz rfl (x := .ref (b + 3)) rfl ?_)
  refine wpAny_bind (wpAny_setField_rec gz (by simp) fun h1 gz1 sb1 => ?_)
  replace gz1 : IsZip h1 (b + 4) (b + 2) (b + 3) .ellipsis := gz1
  refine wpAny_bind ?_; simp only [List.zipIdx_cons, List.zipIdx_nil, List.forIn_cons, List.forIn_nil]
  refine wpAny_bind (wpAny_bind (wpAny_onRaise ?_))
  show wpAny _ _ (Builtin.SmallTypes.nextOf (.ref (b)) >>= _) _ _ _
  have y1 : SubIt t1 h1 (b) l1 k := g1.mv (by rw [sb1.2 _ (ne_ (by omega))])
  have w1 : SubSq t1 h1 l1 xs1 := q1.mv (by rw [sb1.2 _ (ne_ (by omega))])
  cases v1 : xs1[k]? with
  | none =>
    refine wpAny_bind (sub_end hh y1 w1 v1 fun hX e sX he => ?_)
    obtain ⟨oe, hoe, hce⟩ := he
    have gX : IsZip hX (b + 4) (b + 2) (b + 3) .ellipsis := sX _ _ (ne_ (by omega)) (Eq.trans (rfl) gz1)
    have hez : e ≠ b + 4 := fun x => by rw [x, gX] at hoe; cases hoe; simp at hce
    exact wpAny_setField_rec gX (by simp) fun hY _ sY => hE hY e (fun c o hc x => by rw [sY.2 c (ne_ (by omega))]; exact sX _ _ (ne_ (by omega)) (Eq.trans (by rw [sb1.2 _ (ne_ (by omega))]) x)) ⟨oe, by rw [sY.2 _ hez]; exact hoe, hce⟩
  | some x1 =>
    refine wpAny_bind (sub_item y1 w1 v1 fun h2 n1 sb2 => wpAny_pure ?_)
    have m0 : TupN h2 (b + 3) #[o1, o2] := Eq.trans (by rw [sb2.2 _ (ne_ (by omega)), sb1.2 _ (ne_ (by omega))]) gO
    refine wpAny_bind (wpAny_seqItems m0 rfl ?_)
    refine wpAny_bind (tup_put m0 (by simp) fun h3 p1 sb3 => ?_)
    replace p1 : TupN h3 (b + 3) #[x1, o2] := p1
    refine wpAny_bind (wpAny_letGo (wpAny_pure ?_))
    refine wpAny_bind (wpAny_bind (wpAny_onRaise ?_))
    show wpAny _ _ (Builtin.SmallTypes.nextOf (.ref (b + 1)) >>= _) _ _ _
    have y2 : SubIt t2 h3 (b + 1) l2 k := g2.mv (by rw [sb3.2 _ (ne_ (by omega)), sb2.2 _ (ne_ (by omega)), sb1.2 _ (ne_ (by omega))])
    have w2 : SubSq t2 h3 l2 xs2 := q2.mv (by rw [sb3.2 _ (ne_ (by omega)), sb2.2 _ (ne_ (by omega)), sb1.2 _ (ne_ (by omega))])
    cases v2 : xs2[k]? with
    | none =>
      refine wpAny_bind (sub_end hh y2 w2 v2 fun hX e sX he => ?_)
      obtain ⟨oe, hoe, hce⟩ := he
      have gX : IsZip hX (b + 4) (b + 2) (b + 3) .ellipsis := sX _ _ (ne_ (by omega)) (Eq.trans (by rw [sb3.2 _ (ne_ (by omega)), sb2.2 _ (ne_ (by omega))]) gz1)
      have hez : e ≠ b + 4 := fun x => by rw [x, gX] at hoe; cases hoe; simp at hce
      exact wpAny_setField_rec gX (by simp) fun hY _ sY => hE hY e (fun c o hc x => by rw [sY.2 c (ne_ (by omega))]; exact sX _ _ (ne_ (by omega)) (Eq.trans (by rw [sb3.2 _ (ne_ (by omega)), sb2.2 _ (ne_ (by omega)), sb1.2 _ (ne_ (by omega))]) x)) ⟨oe, by rw [sY.2 _ hez]; exact hoe, hce⟩
    | some x2 =>
      exact absurd hend (by simp [v1, v2])
end
def SqX (K : PySem.W.Frag) (t : Bool) (H : Hp) (a : Addr) (xs : List V) : Prop := match t with
  | true => SqT K H a xs
  | false => SqL K H a xs
theorem SqX.sub {X : Cx} {pins : List (Addr × Obj)} {s : Shared} {σ : L2.St} {H : Hp} (I : Inv X pins σ H s) {t : Bool} {a : Addr} {xs : List V} (h : SqX X.K t H a xs) : ∃ its : List Value, Vals xs its ∧ SubSq t s.heap a its.toArray := by
  cases t
  · obtain ⟨its, r, p, _⟩ := I.list h; exact ⟨its, r, p.isList⟩
  · obtain ⟨its, r, p, _⟩ := I.tuple h; exact ⟨its, r, p⟩
theorem SqX.inj {X : Cx} {pins : List (Addr × Obj)} {s : Shared} {σ : L2.St} {H : Hp} (I : Inv X pins σ H s) {t : Bool} {a : Addr} {xs ys : List V} (h : SqX X.K t H a xs) (g : SqX X.K t H a ys) : xs = ys := by
  cases t
  · exact I.list_inj h g
  · exact I.tuple_inj h g
def itN (t : Bool) : String := if t then "tuple_iterator" else "list_iterator"
theorem sub_iter {prog : Program} {w : World} {A : Around} {E : Value → Shared → Prop} {s : Shared} {t : Bool} {l : Addr} {xs : Array Value} {Q : Value → Shared → Prop} (h : SubSq t s.heap l xs)
    (hQ : Q (.ref s.heap.objs.size) { s with heap := s.heap.push { cls := .type (itN t), data := .fields #[.ref l, .int 0 0] } }) : wpAny (model prog w) A (pyIter (.ref l)) Q E s := by
  cases t
  · exact wpAny_pyIter_list h hQ
  · exact wpAny_pyIter_tuple h hQ
theorem sub_made {t : Bool} {h : Heap} {a l : Addr} (g : h.get? a = some { cls := .type (itN t), data := .fields #[.ref l, .int 0 0] }) : SubIt t h a l 0 := by
  cases t
  · exact ⟨_, g, rfl, rfl⟩
  · exact ⟨_, g, rfl, rfl⟩
theorem SubSq.pu {t : Bool} {h : Heap} {l : Addr} {xs : Array Value} (x : SubSq t h l xs) (o : Obj) : SubSq t (h.push o) l xs := by
  cases t
  · exact Heap.IsList.push x o
  · exact Heap.IsTuple.push x o
theorem tCall_zip2 (a b : Value) : checkTypeCall "zip" ⟨[a, b], []⟩ = pure () := F.typeCall_zip_2 a b
theorem nCall_zip2 (a b : Value) : checkBuiltinCall "zip.__new__" ⟨[.type "zip", a, b], []⟩ = pure () := F.newCall_zip_2 a b
theorem aInit3 (a b c : Value) : argsOk "object.__init__" ⟨[a, b, c], []⟩ := F.args_object_init_3 a b c

section
variable {prog : Program} {w : World} {A : Around} {E : Value → Shared → Prop} {s : Shared}
theorem next2_item {b : Nat} {l1 l2 : Nat} {t1 t2 : Bool} {k : Nat} {xs1 xs2 : Array Value} {x1 x2 o1 o2 : Value} {Q : Option Value → Shared → Prop} (d1 : l1 < b) (d2 : l2 < b)
    (gz : IsZip s.heap (b + 4) (b + 2) (b + 3) .none) (gI : TupN s.heap (b + 2) #[.ref (b), .ref (b + 1)]) (gO : TupN s.heap (b + 3) #[o1, o2])
    (g1 : SubIt t1 s.heap (b) l1 k) (g2 : SubIt t2 s.heap (b + 1) l2 k) (q1 : SubSq t1 s.heap l1 xs1) (q2 : SubSq t2 s.heap l2 xs2) (v1 : xs1[k]? = some x1) (v2 : xs2[k]? = some x2)
    (hQ : ∀ h', IsZip h' (b + 4) (b + 2) (b + 3) (rawInt s.heap.objs.size) → TupN h' (b + 3) #[x1, x2] → SubIt t1 h' (b) l1 (k + 1) → SubIt t2 h' (b + 1) l2 (k + 1) → TupN h' s.heap.objs.size #[x1, x2] → h'.objs.size = s.heap.objs.size + 1 → (∀ c o, (c < b ∨ b + 4 < c ∨ c = b + 2) → s.heap.get? c = some o → h'.get? c = some o) → Q (some (.ref s.heap.objs.size)) { s with heap := h' }) :
    wpAny (model prog w) A (pyNext (.ref (b + 4))) Q E s := by
  have hT : s.TypeIs (.ref (b + 4)) "zip" := ⟨_, gz, rfl⟩
  unfold pyNext; refine wpAny_bind (wpAny_attempt (wpAny_callSpecial?_slot (name := Str.ofString "__next__") hT F.slot_zip_next (wpAny_call_entry F.slot_zip_next hT F.entry_zip_next ?_ (F.args_zip_next_1 _))))
  exact zip2_item d1 d2 gz gI gO g1 g2 q1 q2 v1 v2 fun h' c1 c2 i1 i2 c3 c4 c5 => wpAny_pure (hQ h' c1 c2 i1 i2 c3 c4 c5)
theorem next2_end {b : Nat} {l1 l2 : Nat} {t1 t2 : Bool} {k : Nat} {xs1 xs2 : Array Value} {o1 o2 : Value} {Q : Option Value → Shared → Prop} (hh : A.handled = none) (d1 : l1 < b) (d2 : l2 < b)
    (gz : IsZip s.heap (b + 4) (b + 2) (b + 3) .none) (gI : TupN s.heap (b + 2) #[.ref (b), .ref (b + 1)]) (gO : TupN s.heap (b + 3) #[o1, o2])
    (g1 : SubIt t1 s.heap (b) l1 k) (g2 : SubIt t2 s.heap (b + 1) l2 k) (q1 : SubSq t1 s.heap l1 xs1) (q2 : SubSq t2 s.heap l2 xs2) (hend : xs1[k]? = none ∨ xs2[k]? = none)
    (hQ : ∀ h', (∀ c o, (c < b ∨ b + 4 < c) → s.heap.get? c = some o → h'.get? c = some o) → Q none { s with heap := h' }) :
    wpAny (model prog w) A (pyNext (.ref (b + 4))) Q E s := by
  have hT : s.TypeIs (.ref (b + 4)) "zip" := ⟨_, gz, rfl⟩
  unfold pyNext; refine wpAny_bind (wpAny_attempt (wpAny_callSpecial?_slot (name := Str.ofString "__next__") hT F.slot_zip_next (wpAny_call_entry F.slot_zip_next hT F.entry_zip_next ?_ (F.args_zip_next_1 _))))
  refine zip2_end hh d1 d2 gz gI gO g1 g2 q1 q2 hend fun h' e hk he => ?_
  obtain ⟨o, ho, hc⟩ := he; exact wpAny_bind (wpAny_isInstance (T := "StopIteration") (b := true) ⟨o, ho, hc⟩ isSubtype_stop (wpAny_pure (hQ _ hk)))
end
abbrev z2H1 (t1 t2 : Bool) (h : Heap) (l1 l2 : Addr) : Heap := h.push { cls := .type (itN t1), data := .fields #[.ref l1, .int 0 0] }
abbrev z2H2 (t1 t2 : Bool) (h : Heap) (l1 l2 : Addr) : Heap := (z2H1 t1 t2 h l1 l2).push { cls := .type (itN t2), data := .fields #[.ref l2, .int 0 0] }
abbrev z2H3 (t1 t2 : Bool) (h : Heap) (l1 l2 : Addr) : Heap := (z2H2 t1 t2 h l1 l2).push { cls := .type "tuple", data := .seq #[.ref h.objs.size, .ref (z2H1 t1 t2 h l1 l2).objs.size] }
abbrev z2H4 (t1 t2 : Bool) (h : Heap) (l1 l2 : Addr) : Heap := (z2H3 t1 t2 h l1 l2).push { cls := .type "tuple", data := .seq #[.none, .none] }
abbrev z2H5 (t1 t2 : Bool) (h : Heap) (l1 l2 : Addr) : Heap := (z2H4 t1 t2 h l1 l2).push { cls := .type "zip", data := .fields #[.none, .bool false, .bool false, .ref (z2H2 t1 t2 h l1 l2).objs.size, .ref (z2H3 t1 t2 h l1 l2).objs.size] }
theorem zip2_new (t1 t2 : Bool) (l1 l2 : Addr) (xs1 xs2 : Array Value) : Meets (Builtin.«zip.__new__» ⟨[.type "zip", .ref l1, .ref l2], []⟩) (fun _ R s => SubSq t1 s.heap l1 xs1 ∧ SubSq t2 s.heap l2 xs2 ∧ R (.ok (.ret (.ref (z2H4 t1 t2 s.heap l1 l2).objs.size))) { s with heap := (z2H5 t1 t2 s.heap l1 l2) }) :=
  .of_wp fun prog w A R s h => by
    obtain ⟨hp, g, d, tk, os⟩ := s; obtain ⟨u1, u2, h⟩ := h; have hsub := sub_zip
    have w1 : SubSq t1 (Shared.heap ⟨hp, g, d, tk, os⟩) l1 xs1 := u1
    have w2 : SubSq t2 (Shared.heap ⟨hp.push { cls := .type (itN t1), data := .fields #[.ref l1, .int 0 0] }, g, d, tk, os⟩) l2 xs2 := SubSq.pu (u2) _
    wp_walk using sub_iter w1, sub_iter w2
    exact ⟨_, rfl, h⟩
theorem zip2_call {prog : Program} {w : World} {A : Around} {E : Value → Shared → Prop} {s : Shared} {t1 t2 : Bool} {l1 l2 : Addr} {xs1 xs2 : Array Value} {Q : Value → Shared → Prop} (q1 : SubSq t1 s.heap l1 xs1) (q2 : SubSq t2 s.heap l2 xs2)
    (h : ∀ h', IsZip h' (s.heap.objs.size + 4) (s.heap.objs.size + 2) (s.heap.objs.size + 3) .none → TupN h' (s.heap.objs.size + 2) #[.ref (s.heap.objs.size), .ref (s.heap.objs.size + 1)] → TupN h' (s.heap.objs.size + 3) #[.none, .none] → SubIt t1 h' (s.heap.objs.size) l1 0 → SubIt t2 h' (s.heap.objs.size + 1) l2 0 → (∀ c o, s.heap.get? c = some o → h'.get? c = some o) → Q (.ref (s.heap.objs.size + 4)) { s with heap := h' }) :
    wpAny (model prog w) A (call (.type "zip") [.ref l1, .ref l2]) Q E s := by
  refine callType_new F.called_zip (by decide) (tCall_zip2 _ _) (nCall_zip2 _ _) (fun obj => aInit3 obj _ _) F.entry_zip_new (zip2_new t1 t2 l1 l2 xs1 xs2) ⟨q1, q2, ?_⟩
  have c1 : (z2H1 t1 t2 s.heap l1 l2).objs.size = s.heap.objs.size + 1 := by rw [Heap.size_push]
  have c2 : (z2H2 t1 t2 s.heap l1 l2).objs.size = s.heap.objs.size + 2 := by rw [Heap.size_push, c1]
  have c3 : (z2H3 t1 t2 s.heap l1 l2).objs.size = s.heap.objs.size + 3 := by rw [Heap.size_push, c2]
  have c4 : (z2H4 t1 t2 s.heap l1 l2).objs.size = s.heap.objs.size + 4 := by rw [Heap.size_push, c3]
  have c5 : (z2H5 t1 t2 s.heap l1 l2).objs.size = s.heap.objs.size + 5 := by rw [Heap.size_push, c4]
  have k1 : (z2H5 t1 t2 s.heap l1 l2).get? s.heap.objs.size = some _ := Heap.get?_push_of_some _ (Heap.get?_push_of_some _ (Heap.get?_push_of_some _ (Heap.get?_push_of_some _ (Heap.get?_push_size _ rfl))))
  have k2 : (z2H5 t1 t2 s.heap l1 l2).get? (z2H1 t1 t2 s.heap l1 l2).objs.size = some _ := Heap.get?_push_of_some _ (Heap.get?_push_of_some _ (Heap.get?_push_of_some _ (Heap.get?_push_size _ rfl)))
  have k3 : (z2H5 t1 t2 s.heap l1 l2).get? (z2H2 t1 t2 s.heap l1 l2).objs.size = some _ := Heap.get?_push_of_some _ (Heap.get?_push_of_some _ (Heap.get?_push_size _ rfl))
  have k4 : (z2H5 t1 t2 s.heap l1 l2).get? (z2H3 t1 t2 s.heap l1 l2).objs.size = some _ := Heap.get?_push_of_some _ (Heap.get?_push_size _ rfl)
  have k5 : (z2H5 t1 t2 s.heap l1 l2).get? (z2H4 t1 t2 s.heap l1 l2).objs.size = some _ := Heap.get?_push_size _ rfl
  rw [c1] at k2
  rw [c2] at k3
  rw [c3] at k4
  rw [c4] at k5
  rw [c1] at k3
  rw [c2, c3] at k5
  show _ ∧ _; rw [c4]
  exact ⟨⟨_, k5, rfl⟩, h _ k5 k3 k4 (sub_made k1) (sub_made k2) fun c o x => Heap.get?_push_of_some _ (Heap.get?_push_of_some _ (Heap.get?_push_of_some _ (Heap.get?_push_of_some _ (Heap.get?_push_of_some _ (x)))))⟩
section
variable {prog : Program} {w : World} {A : Around} {E : Value → Shared → Prop} {s : Shared}
end
def Itz2 (K : PySem.W.Frag) (t1 t2 : Bool) (a1 a2 : Addr) : It :=
  ⟨fun i H => ∃ (xs1 xs2 : List V) (x1 x2 : V), SqX K t1 H a1 xs1 ∧ SqX K t2 H a2 xs2 ∧ xs1[i]? = some x1 ∧ xs2[i]? = some x2,
    fun i H v H' => ∃ T x1 x2, v = .ref T ∧ H T = none ∧ H' = upd H T (.tup [x1, x2]) ∧ (∀ xs, SqX K t1 H a1 xs → xs[i]? = some x1) ∧ (∀ xs, SqX K t2 H a2 xs → xs[i]? = some x2),
    fun i H => ∃ xs1 xs2 : List V, SqX K t1 H a1 xs1 ∧ SqX K t2 H a2 xs2 ∧ (xs1.length ≤ i ∨ xs2.length ≤ i)⟩
theorem fp2_mem {b c : Nat} : c ∈ [b, b + 1, b + 2, b + 3, b + 4] ↔ b ≤ c ∧ c ≤ b + 4 := by simp only [List.mem_cons, List.not_mem_nil, or_false]; omega
theorem fp2_out {b c : Nat} (h : ¬ c ∈ [b, b + 1, b + 2, b + 3, b + 4]) : c < b ∨ b + 4 < c := by rw [fp2_mem] at h; omega
theorem fp2_cs {b c : Nat} (h : c ∈ [b, b + 1, b + 2, b + 3, b + 4]) : c = b ∨ c = b + 1 ∨ c = b + 2 ∨ c = b + 3 ∨ c = b + 4 := by rw [fp2_mem] at h; omega
theorem turn_z2 {P : Program} {w : World} {K : PySem.W.Frag} {elts : List Expr} {kk : Nat} {tpos : Pos} {t1 t2 : Bool} {b a1 a2 : Nat} (d1 : a1 < b) (d2 : a2 < b) :
    Turn P w K (.Tuple elts kk tpos) (Itz2 K t1 t2 a1 a2) [b, b + 1, b + 2, b + 3, b + 4] (b + 4) (fun i h => IsZip h (b + 4) (b + 2) (b + 3) .none ∧ TupN h (b + 2) #[.ref (b), .ref (b + 1)] ∧ (∃ o1 o2, TupN h (b + 3) #[o1, o2]) ∧ SubIt t1 h (b) a1 i ∧ SubIt t2 h (b + 1) a2 i) where
  mem := fp2_mem.mpr ⟨by omega, by omega⟩
  obj := fun i h st c hc => by
    obtain ⟨gz, gI, ⟨o1, o2, gO⟩, g1, g2⟩ := st
    rcases fp2_cs hc with rfl | rfl | rfl | rfl | rfl
    · exact g1.ob
    · exact g2.ob
    · exact ⟨_, gI, fun v q => nomatch q⟩
    · exact ⟨_, gO, fun v q => nomatch q⟩
    · exact ⟨_, gz, fun v q => nomatch q⟩
  keep := fun i h h' st k => by
    obtain ⟨gz, gI, ⟨o1, o2, gO⟩, g1, g2⟩ := st
    have kk : ∀ {c : Nat} {o : Obj}, b ≤ c → c ≤ b + 4 → h.get? c = some o → h'.get? c = some o := fun h1 h2 e => k _ (fp2_mem.mpr ⟨h1, h2⟩) _ e
    have mv : ∀ {t : Bool} {c l : Nat}, b ≤ c → c ≤ b + 4 → SubIt t h c l i → SubIt t h' c l i := fun h1 h2 x => by obtain ⟨o, ho, _⟩ := x.ob; exact x.mv ((kk h1 h2 ho).trans ho.symm)
    exact ⟨kk (by omega) (by omega) gz, kk (by omega) (by omega) gI, ⟨o1, o2, kk (by omega) (by omega) gO⟩, mv (by omega) (by omega) g1, mv (by omega) (by omega) g2⟩
  item := by
    intro X hP hw hK hc i pins s σ H E I hf st hg; subst hP hw hK
    obtain ⟨gz, gI, ⟨o1, o2, gO⟩, g1, g2⟩ := st
    obtain ⟨xs1, xs2, x1, x2, q1, q2, e1, e2⟩ := hg
    obtain ⟨its1, rv1, p1⟩ := SqX.sub I q1; obtain ⟨u1, hu1, ru1⟩ := rv1.get e1
    obtain ⟨its2, rv2, p2⟩ := SqX.sub I q2; obtain ⟨u2, hu2, ru2⟩ := rv2.get e2
    have zl : b + 4 < s.heap.objs.size := Heap.lt_size gz
    refine next2_item d1 d2 gz gI gO g1 g2 p1 p2 (x1 := u1) (x2 := u2) (by simpa using hu1) (by simpa using hu2) fun h' gz' gO' f1 f2 gT hsz hk => ?_
    refine ⟨_, rfl, wpAny_letOwnedTupleGo_zip (s := { s with heap := h' }) gz' fun h2 gz2 sb => ?_⟩
    have hT2 : h2.get? s.heap.objs.size = some { cls := .type "tuple", data := .seq #[u1, u2] } := (sb.2 _ (ne_ (by omega))).trans gT
    have new : ObjOk X.prog X.w (upd H s.heap.objs.size (.tup [x1, x2])) h2 s.heap.objs.size (.tup [x1, x2]) := ⟨by show 2 ≤ sizeLine; decide, [u1, u2], .cons ru1 (.cons ru2 .nil), ⟨_, hT2, rfl, _, rfl⟩⟩
    have I1 : Inv X pins σ (upd H s.heap.objs.size (.tup [x1, x2])) { s with heap := h2 } := I.turnedNew (t' := s.toks) (ch := [b, b + 1, b + 2, b + 3, b + 4]) (fun c o hb q => by
      have hb2 := fp2_out hb
      exact (sb.2 c (ne_ (by omega))).trans (hk c o (hb2.elim .inl fun x => .inr (.inl x)) q)) hf (Nat.le_refl _) new
    refine ⟨.ref s.heap.objs.size, _, I1, rfl, ⟨_, x1, x2, rfl, I.hok.fresh (Nat.le_refl _), rfl, fun l hl => by rw [SqX.inj I hl q1]; exact e1, fun l hl => by rw [SqX.inj I hl q2]; exact e2⟩, ⟨gz2, ?_, ⟨u1, u2, ?_⟩, f1.mv (sb.2 _ (ne_ (by omega))), f2.mv (sb.2 _ (ne_ (by omega)))⟩, fun c hcm => ?_⟩
    · exact (sb.2 _ (ne_ (by omega))).trans (hk _ _ (.inr (.inr rfl)) gI)
    · exact (sb.2 _ (ne_ (by omega))).trans gO'
    · have hc2 := fp2_mem.mp hcm
      have hlt := Nat.lt_of_le_of_lt hc2.2 zl
      rw [upd_ne (Nat.ne_of_lt hlt)]; exact (hf c hcm).1
  done := by
    intro X hP hw hK hc i pins s σ H E I hf st hg; subst hP hw hK
    obtain ⟨gz, gI, ⟨o1, o2, gO⟩, g1, g2⟩ := st
    obtain ⟨xs1, xs2, q1, q2, hend⟩ := hg
    obtain ⟨its1, rv1, p1⟩ := SqX.sub I q1; have l1 := rv1.length
    obtain ⟨its2, rv2, p2⟩ := SqX.sub I q2; have l2 := rv2.length
    have he : its1.toArray[i]? = none ∨ its2.toArray[i]? = none := by
      rcases hend with q | q
      · exact .inl (by simp; omega)
      · exact .inr (by simp; omega)
    refine next2_end (I.ok.hd hc) d1 d2 gz gI gO g1 g2 p1 p2 he fun h' hk => ⟨rfl, I.turnedL (t' := s.toks) (ch := [b, b + 1, b + 2, b + 3, b + 4]) (fun c o hb q => ?_) hf⟩
    exact hk c o (fp2_out hb) q
  self := fun A i s Q E st h => wpAny_pyIter_zip st.1 h
def iZip2 (K : PySem.W.Frag) (ta : TA) : TI := fun σ H R => ta σ H fun vs H1 => ∃ t1 t2 a1 a2 xs1 xs2, vs = [.ref a1, .ref a2] ∧ SqX K t1 H1 a1 xs1 ∧ SqX K t2 H1 a2 xs2 ∧ R (Itz2 K t1 t2 a1 a2) H1
theorem pi_z2 {X : Cx} {e1 e2 : Expr} {ta : TA} {p pos tpos : Pos} {elts : List Expr} {kk : Nat} (hg : Gl X "zip") (hm : X.mg "zip" = none) (ha : PA X [e1, e2] ta)
    (hs : starEach [e1, e2] X.env = (false, eval e1 X.env) :: starEach [e2] X.env := by rfl) (hpl : (backTo pos (starEach [e2] X.env)).any (·.1) = false := by rfl) :
    PI X (.Tuple elts kk tpos) (.Call (.Name "zip" p) [e1, e2] [] pos) (iZip2 X.K ta) := by
  refine ⟨fun pins s σ H R I h => Call_ (ld_blt I hg hm PyProof.Rows.boot_zip (PyProof.Rows.callWith_type1 (thn (ha.run pos pins s σ H _ I h) fun us s1 ⟨vs, H1, I1, r1, q⟩ => ?_) hs hpl))⟩
  obtain ⟨t1, t2, a1, a2, xs1, xs2, ex, q1, q2, q⟩ := q; subst ex
  cases r1 with
  | cons w1 r1 =>
    cases r1 with
    | cons w2 r1 =>
      cases r1; cases w1; cases w2
      obtain ⟨its1, rv1, p1⟩ := SqX.sub I1 q1
      obtain ⟨its2, rv2, p2⟩ := SqX.sub I1 q2
      have fr : ∀ c, c ∈ [s1.heap.objs.size, s1.heap.objs.size + 1, s1.heap.objs.size + 2, s1.heap.objs.size + 3, s1.heap.objs.size + 4] → FpOk X pins H1 c := fun c hcm => by
        have hc2 := (fp2_mem (b := s1.heap.objs.size)).mp hcm
        exact I1.fpOk hc2.1 (I1.hok.fresh hc2.1)
      refine zip2_call p1 p2 fun h' gz gI gO g1 g2 hk => wpAny_pyIter_zip gz ?_
      exact ⟨s1.heap.objs.size + 4, [s1.heap.objs.size, s1.heap.objs.size + 1, s1.heap.objs.size + 2, s1.heap.objs.size + 3, s1.heap.objs.size + 4], _, _, H1, rfl, I1.kept (t' := s1.toks) hk, turn_z2 p1.lt p2.lt, ⟨gz, gI, ⟨_, _, gO⟩, g1, g2⟩, fr, q⟩
/-- what a thing holds, if it is a list (false) or a tuple (true) -/
def srcX (S : Sto) : D → Option (List D × (Sto → Prop) × Bool)
  | .tup l => some (l, noG, true)
  | d => (srcOf S d).map fun x => (x.1, x.2, false)
section
variable {K : PySem.W.Frag} {c : Cl} {φ0 : List Addr} {S0 : Sto} {H0 : Hp}
theorem srcX_at {d : D} {v : V} {l : List D} {g : Sto → Prop} {t : Bool} (r0 : Rel K c φ0 S0 H0) (h : Rep K φ0 H0 d v) (e : srcX S0 d = some (l, g, t)) : ∃ a, v = .ref a ∧ (∃ vs, SqX K t H0 a vs) ∧ ∀ φ S H, Ext φ0 H0 φ H → Rel K c φ S H → g S → ∃ vs, SqX K t H a vs ∧ RepL K φ H l vs := by
  cases d with
  | tup l' =>
    cases e
    obtain ⟨a, vs, rfl, s, gg⟩ := h.tup_
    exact ⟨a, rfl, ⟨vs, s⟩, fun φ S H e r _ => ⟨vs, (e.stays r0).tup _ _ s, gg.stay (e.stays r0)⟩⟩
  | _ =>
    unfold srcX at e
    obtain ⟨x, hx, e2⟩ := Option.map_eq_some_iff.mp e
    cases e2
    exact src_at (l := x.1) (g := x.2) r0 h hx
end

def zipD2 (l1 l2 : List D) : List D := (List.range (min l1.length l2.length)).map fun (i : Nat) => D.tup [l1.getD i .non, l2.getD i .non]
theorem zipD2_len (l1 l2 : List D) : (zipD2 l1 l2).length = min l1.length l2.length := by simp [zipD2]
theorem zipD2_get {l1 l2 : List D} {i : Nat} {d : D} (h : (zipD2 l1 l2)[i]? = some d) : ∃ x1 x2, l1[i]? = some x1 ∧ l2[i]? = some x2 ∧ d = .tup [x1, x2] := by
  unfold zipD2 at h; rw [List.getElem?_map] at h
  obtain ⟨k, hk, rfl⟩ := Option.map_eq_some_iff.mp h
  have hk2 := List.getElem?_eq_some_iff.mp hk; obtain ⟨h1, h2⟩ := hk2; rw [List.getElem_range] at h2; subst h2; rw [List.length_range] at h1
  have w1 : i < l1.length := by omega
  have w2 : i < l2.length := by omega
  exact ⟨l1[i], l2[i], List.getElem?_eq_getElem w1, List.getElem?_eq_getElem w2, by simp [List.getD_eq_getElem?_getD, List.getElem?_eq_getElem w1, List.getElem?_eq_getElem w2]⟩
section
variable {K : PySem.W.Frag} {c : Cl} {φ0 : List Addr} {S0 : Sto} {H0 : Hp}
theorem iter_z2 {a1 a2 : Addr} {t1 t2 : Bool} {l1 l2 : List D} {g1 g2 : Sto → Prop} (h1 : ∀ φ S H, Ext φ0 H0 φ H → Rel K c φ S H → g1 S → ∃ vs, SqX K t1 H a1 vs ∧ RepL K φ H l1 vs) (h2 : ∀ φ S H, Ext φ0 H0 φ H → Rel K c φ S H → g2 S → ∃ vs, SqX K t2 H a2 vs ∧ RepL K φ H l2 vs) : IterOk K c (Itz2 K t1 t2 a1 a2) (zipD2 l1 l2) (fun S => g1 S ∧ g2 S) φ0 H0 := by
  refine ⟨fun φ S H i d e r hS hd => ?_, fun φ S H e r hS => ?_⟩
  · obtain ⟨x1, x2, e1, e2, rfl⟩ := zipD2_get hd
    obtain ⟨vs1, s1, m1⟩ := h1 φ S H e r hS.1; obtain ⟨v1, u1, r1⟩ := m1.get e1
    obtain ⟨vs2, s2, m2⟩ := h2 φ S H e r hS.2; obtain ⟨v2, u2, r2⟩ := m2.get e2
    refine ⟨⟨vs1, vs2, v1, v2, s1, s2, u1, u2⟩, fun w H2 hw => ?_⟩
    obtain ⟨T, y1, y2, rfl, hT, rfl, z1, z2⟩ := hw
    have k1 := z1 vs1 s1; rw [u1] at k1; cases k1
    have k2 := z2 vs2 s2; rw [u2] at k2; cases k2
    obtain ⟨e9, r9⟩ := r.fresh (u := .tup [v1, v2]) hT
    exact ⟨e9, r9, rep_tup (SqT.of upd_same) ((RepL.cons r1 (RepL.cons r2 RepL.nil)).stay (stays_free hT))⟩
  · obtain ⟨vs1, s1, m1⟩ := h1 φ S H e r hS.1; obtain ⟨vs2, s2, m2⟩ := h2 φ S H e r hS.2
    refine ⟨vs1, vs2, s1, s2, ?_⟩; rw [zipD2_len, ← m1.length, ← m2.length]; omega
end
def iZ2 (m1 m2 : ME) : MI := fun ρ S => (m1 ρ S).bind fun d1 S1 => (m2 ρ S1).bind fun d2 S2 => match srcX S2 d1, srcX S2 d2 with
  | some x1, some x2 => .ok (zipD2 x1.1 x2.1, fun S => x1.2.1 S ∧ x2.2.1 S) S2
  | _, _ => .no
theorem di_z2 {X : Cx} {c : Cl} {W : WX} {e1 e2 : Expr} {m1 m2 : ME} {p pos tpos : Pos} {elts : List Expr} {kk : Nat} (hg : Gl X "zip") (hm : X.mg "zip" = none) (h1 : DE X c W e1 m1) (h2 : DE X c W e2 m2)
    (hs1 : starEach [e1, e2] X.env = (false, eval e1 X.env) :: starEach [e2] X.env := by rfl) (hs2 : starEach [e2] X.env = (false, eval e2 X.env) :: starEach [] X.env := by rfl) (hpl : (backTo pos (starEach [e2] X.env)).any (·.1) = false := by rfl) :
    DI X c W (.Tuple elts kk tpos) (.Call (.Name "zip" p) [e1, e2] [] pos) (iZ2 m1 m2) := by
  obtain ⟨w1, pe1, h1⟩ := h1
  obtain ⟨w2, pe2, h2⟩ := h2
  refine ⟨_, pi_z2 hg hm (pa_cons pe1 (pa_cons pe2 pa_nil hs2) hs1) hs1 hpl, fun φ σ H ρ S Q r f p => ?_⟩
  refine h1 φ σ H ρ S _ r f (PostW.elim p fun d1 S1 φ1 H1 y1 r1 p1 => fun x1 hx1 => ?_)
  have f1 := f.stay (y1.stays r)
  refine h2 φ1 σ H1 ρ S1 _ r1 f1 (PostW.elim p1 fun d2 S2 φ2 H2 y2 r2 p2 => fun x2 hx2 => ?_)
  split at p2
  · rename_i c1 c2 k1 k2
    obtain ⟨a1, rfl, ⟨vs1, s1⟩, b1⟩ := srcX_at (l := c1.1) (g := c1.2.1) (t := c1.2.2) r2 (hx1.stay (y2.stays r1)) k1
    obtain ⟨a2, rfl, ⟨vs2, s2⟩, b2⟩ := srcX_at (l := c2.1) (g := c2.2.1) (t := c2.2.2) r2 hx2 k2
    exact ⟨_, _, a1, a2, vs1, vs2, rfl, s1, s2, PostW.here r2 p2 _ (iter_z2 b1 b2)⟩
  · exact False.elim p2
section
variable {K : PySem.W.Frag} {c : Cl} {φ0 : List Addr} {S0 : Sto} {H0 : Hp}
end
end MM

namespace MM
open PySem PySem.Spec PyProof.Rows L2
section
variable {prog : Program} {w : World} {A : Around} {E : Value → Shared → Prop} {s : Shared}
end
end MM

namespace MM
open PySem PySem.Spec PyProof.Rows L2
theorem PT.or {X : Cx} {e : Expr} {t u : TT} (h : PT X e t) (g : PT X e u) : PT X e (fun σ H Q => t σ H Q ∨ u σ H Q) :=
  ⟨fun pins s σ H Q I q => q.elim (h.run pins s σ H Q I) (g.run pins s σ H Q I)⟩
section
variable {X : Cx} {c : Cl} {W : WX} {e i o : Expr} {mi mo : ME}
end
end MM

namespace MM
open PySem PySem.Spec PyProof.Rows L2
/-- a zip whose tuple may be kept by another -/
abbrev ZipF (h : Heap) (z TI TO : Addr) (f0 : Value) (b : Bool) : Prop := h.get? z = some { cls := .type "zip", dict := none, data := .fields #[f0, .bool b, .bool false, .ref TI, .ref TO], slots := #[] }
section
variable {prog : Program} {w : World} {A : Around} {E : Value → Shared → Prop} {s : Shared}
theorem wp_alive {a : Addr} {Q : Option Obj → Shared → Prop} (h : Q (s.heap.get? a) s) : wpAny (model prog w) A (loadIfAlive a) Q E s := fun Γ p _ => h
/-- whether the zip's own tuple may be used again -/
theorem zip_free {z TI TO : Addr} {f0 : Value} {b : Bool} {Q : Bool → Shared → Prop} (h0 : f0 = .none ∨ ∃ T : Nat, f0 = rawInt T) (hz : ZipF s.heap z TI TO f0 b) (hq : Q true s)
    (hq2 : ∀ h', ZipF h' z TI TO f0 true → Heap.SameBut z s.heap h' → Q false { s with heap := h' }) : wpAny (model prog w) A (Builtin.SmallTypes.ownedTupleIsFree (.ref z)) Q E s := by
  unfold Builtin.SmallTypes.ownedTupleIsFree
  rcases h0 with rfl | ⟨T, rfl⟩
  · exact wpAny_bind (wpAny_field hz rfl (x := .none) rfl (wpAny_pure hq))
  · refine wpAny_bind (wpAny_field hz rfl (x := rawInt T) rfl ?_)
    show wpAny _ _ (loadIfAlive T >>= _) _ _ _
    refine wpAny_bind (wp_alive ?_)
    cases s.heap.get? T with
    | none => exact wpAny_pure hq
    | some o =>
      show wpAny _ _ (field (.ref z) 1 >>= _) _ _ _
      refine wpAny_bind (wpAny_field hz rfl (x := .bool b) rfl ?_)
      cases b with
      | true => exact wpAny_pure (hq2 s.heap hz (Heap.SameBut.refl _ _))
      | false =>
        show wpAny _ _ (setField (.ref z) 1 (.bool true) >>= _) _ _ _
        exact wpAny_bind (wpAny_setField_rec hz (by simp) fun h' hz' hs' => wpAny_pure (hq2 h' hz' hs'))
theorem zipE_item {z TI TO i1 i2 l1 l2 : Addr} {k1 k2 : Nat} {xs ys : Array Value} {x y a c f0 : Value} {b : Bool} {Q : Value → Shared → Prop} (D : ZipApart z TI TO i1 i2 l1 l2) (h0 : f0 = .none ∨ ∃ T : Nat, f0 = rawInt T)
    (hz : ZipF s.heap z TI TO f0 b) (hTI : IsPair s.heap TI (.ref i1) (.ref i2)) (hTO : IsPair s.heap TO a c)
    (h1 : s.heap.IsTupleIter i1 l1 k1) (h2 : s.heap.IsTupleIter i2 l2 k2) (hl1 : s.heap.IsTuple l1 xs) (hl2 : s.heap.IsTuple l2 ys) (hx : xs[k1]? = some x) (hy : ys[k2]? = some y)
    (hQ : ∀ h' f0' b' a' c', (f0' = .none ∨ ∃ T : Nat, f0' = rawInt T) → ZipF h' z TI TO f0' b' → IsPair h' TO a' c' → h'.IsTupleIter i1 l1 (k1 + 1) → h'.IsTupleIter i2 l2 (k2 + 1) → IsPair h' s.heap.objs.size x y → h'.objs.size = s.heap.objs.size + 1 →
      (∀ c o, c ≠ z → c ≠ TO → c ≠ i1 → c ≠ i2 → s.heap.get? c = some o → h'.get? c = some o) → Q (.ref s.heap.objs.size) { s with heap := h' }) :
    wpAny (model prog w) A (Builtin.«zip.__next__» ⟨[.ref z], []⟩) (fun fin s' => ∃ v, fin = .done (.ret v) ∧ Q v s') E s := by
  show wpAny _ _ (field (.ref z) 2 >>= _) _ _ _; refine wpAny_bind (wpAny_field hz rfl (x := .bool false) rfl ?_)
  show wpAny _ _ (field (.ref z) 3 >>= _) _ _ _; refine wpAny_bind (wpAny_field hz rfl (x := .ref TI) rfl (wpAny_bind (wpAny_seqItems hTI rfl ?_)))
  show wpAny _ _ (Builtin.SmallTypes.ownedTupleIsFree (.ref z) >>= _) _ _ _; refine wpAny_bind (zip_free h0 hz ?_ ?_)
  · simp only [if_true]; refine wpAny_bind (wpAny_rule (wpAny_bind (wpAny_field hz rfl (x := .ref TO) rfl (wpAny_bind (wpAny_setField_rec hz (by simp) fun g1 hz1 hs1 => ?_)))))
    replace hz1 : ZipF g1 z TI TO .ellipsis b := hz1
    refine wpAny_bind ?_; simp only [List.zipIdx_cons, List.zipIdx_nil, List.forIn_cons, List.forIn_nil]
    refine wpAny_bind (wpAny_bind (wpAny_onRaise ?_)); show wpAny _ _ (Builtin.SmallTypes.nextOf (.ref i1) >>= _) _ _ _
    refine wpAny_bind (RZ.nextOf_tuple_item (h1.extBut hs1.extBut D.i1z) (hl1.extBut hs1.extBut D.l1z) hx fun g2 h1' hs2 => wpAny_pure ?_)
    have t2 : IsPair g2 TO a c := hs2.extBut _ _ D.TOi1 (hs1.extBut _ _ D.TOz hTO)
    refine wpAny_bind (wpAny_seqItems t2 rfl (wpAny_bind (wpAny_updateSeq_pair t2 fun g3 t3 hs3 => wpAny_bind (wpAny_letGo (wpAny_pure ?_)))))
    replace t3 : IsPair g3 TO x c := t3
    refine wpAny_bind (wpAny_bind (wpAny_onRaise ?_)); show wpAny _ _ (Builtin.SmallTypes.nextOf (.ref i2) >>= _) _ _ _
    refine wpAny_bind (RZ.nextOf_tuple_item (((h2.extBut hs1.extBut D.i2z).extBut hs2.extBut D.i12.symm).extBut hs3.extBut D.TOi2.symm) (((hl2.extBut hs1.extBut D.l2z).extBut hs2.extBut D.l2i1).extBut hs3.extBut D.l2TO) hy fun g4 h2' hs4 => wpAny_pure ?_)
    have t4 : IsPair g4 TO x c := hs4.extBut _ _ D.TOi2 t3
    refine wpAny_bind (wpAny_seqItems t4 rfl (wpAny_bind (wpAny_updateSeq_pair t4 fun g5 t5 hs5 => wpAny_bind (wpAny_letGo (wpAny_pure (wpAny_pure ?_))))))
    replace t5 : IsPair g5 TO x y := t5
    refine wpAny_bind (wpAny_seqItems t5 rfl (wpAny_bind (wpAny_newTuple ?_)))
    have gs : g5.objs.size = s.heap.objs.size := by rw [hs5.1, hs4.1, hs3.1, hs2.1, hs1.1]
    have z5 : ZipF g5 z TI TO .ellipsis b := hs5.extBut _ _ D.TOz.symm (hs4.extBut _ _ D.i2z.symm (hs3.extBut _ _ D.TOz.symm (hs2.extBut _ _ D.i1z.symm hz1)))
    have k5 : ∀ c o, c ≠ z → c ≠ TO → c ≠ i1 → c ≠ i2 → s.heap.get? c = some o → g5.get? c = some o := fun c o n1 n2 n3 n4 e => hs5.extBut _ _ n2 (hs4.extBut _ _ n4 (hs3.extBut _ _ n2 (hs2.extBut _ _ n3 (hs1.extBut _ _ n1 e))))
    have u1 : g5.IsTupleIter i1 l1 (k1 + 1) := ((h1'.extBut hs3.extBut D.TOi1.symm).extBut hs4.extBut D.i12).extBut hs5.extBut D.TOi1.symm
    have u2 : g5.IsTupleIter i2 l2 (k2 + 1) := h2'.extBut hs5.extBut D.TOi2.symm
    have zl : z < g5.objs.size := Heap.lt_size z5
    show wpAny _ _ (Builtin.SmallTypes.ownedTupleHandOut (.ref z) (.ref g5.objs.size) >>= _) _ _ _; refine wpAny_bind ?_; unfold Builtin.SmallTypes.ownedTupleHandOut
    have z6 : ZipF (g5.push { cls := .type "tuple", data := .seq #[x, y] }) z TI TO .ellipsis b := Heap.get?_push_of_some _ z5
    refine wpAny_bind (wpAny_setField_rec z6 (by simp) fun g7 z7 hs7 => ?_)
    replace z7 : ZipF g7 z TI TO (rawInt g5.objs.size) b := z7
    refine wpAny_setField_rec z7 (by simp) fun g8 z8 hs8 => ?_
    replace z8 : ZipF g8 z TI TO (rawInt g5.objs.size) false := z8
    have up : ∀ c o, c ≠ z → g5.get? c = some o → g8.get? c = some o := fun c o n1 e => hs8.extBut _ _ n1 (hs7.extBut _ _ n1 (Heap.get?_push_of_some _ e))
    have T8 : IsPair g8 g5.objs.size x y := hs8.extBut _ _ (Nat.ne_of_gt zl) (hs7.extBut _ _ (Nat.ne_of_gt zl) (Heap.get?_push_size _ rfl))
    have s8 : g8.objs.size = g5.objs.size + 1 := by rw [hs8.1, hs7.1, Heap.size_push]
    rw [gs] at z8 T8 s8
    refine wpAny_pure ⟨_, rfl, ?_⟩; show Q (.ref g5.objs.size) _; rw [gs]
    exact hQ g8 _ _ _ _ (.inr ⟨_, rfl⟩) z8 (up _ _ D.TOz t5) (u1.at fun o e => up _ o D.i1z e) (u2.at fun o e => up _ o D.i2z e) T8 s8 fun c o n1 n2 n3 n4 e => up c o n1 (k5 c o n1 n2 n3 n4 e)
  · intro g0 hz0 hs0
    simp only [Bool.false_eq_true, if_false]; rw [← Array.forIn_toList]; simp only [List.forIn_cons, List.forIn_nil]
    refine wpAny_bind (wpAny_bind (wpAny_bind (wpAny_holding ?_))); show wpAny _ _ (Builtin.SmallTypes.nextOf (.ref i1) >>= _) _ _ _
    refine wpAny_bind (RZ.nextOf_tuple_item (h1.extBut hs0.extBut D.i1z) (hl1.extBut hs0.extBut D.l1z) hx fun g2 h1' hs2 => wpAny_pure (wpAny_pure ?_))
    refine wpAny_bind (wpAny_bind (wpAny_holding ?_)); show wpAny _ _ (Builtin.SmallTypes.nextOf (.ref i2) >>= _) _ _ _
    refine wpAny_bind (RZ.nextOf_tuple_item ((h2.extBut hs0.extBut D.i2z).extBut hs2.extBut D.i12.symm) ((hl2.extBut hs0.extBut D.l2z).extBut hs2.extBut D.l2i1) hy fun g4 h2' hs4 => wpAny_pure (wpAny_pure (wpAny_pure ?_)))
    show wpAny _ _ (newTuple [x, y] >>= _) _ _ _; refine wpAny_bind (wpAny_newTuple ?_)
    have gs : g4.objs.size = s.heap.objs.size := by rw [hs4.1, hs2.1, hs0.1]
    have k4 : ∀ c o, c ≠ z → c ≠ i1 → c ≠ i2 → s.heap.get? c = some o → g4.get? c = some o := fun c o n1 n3 n4 e => hs4.extBut _ _ n4 (hs2.extBut _ _ n3 (hs0.extBut _ _ n1 e))
    have up : ∀ {c : Addr} {o : Obj}, g4.get? c = some o → (g4.push { cls := .type "tuple", data := .seq #[x, y] }).get? c = some o := fun e => Heap.get?_push_of_some _ e
    have z4 : ZipF g4 z TI TO f0 true := hs4.extBut _ _ D.i2z.symm (hs2.extBut _ _ D.i1z.symm hz0)
    have u1 : g4.IsTupleIter i1 l1 (k1 + 1) := h1'.extBut hs4.extBut D.i12
    have T4 : IsPair (g4.push { cls := .type "tuple", data := .seq #[x, y] }) g4.objs.size x y := Heap.get?_push_size _ rfl
    refine wpAny_pure ⟨_, rfl, ?_⟩; show Q (.ref g4.objs.size) { s with heap := g4.push { cls := .type "tuple", data := .seq #[x, y] } }; rw [gs]; rw [gs] at T4
    exact hQ _ f0 true a c h0 (up z4) (up (k4 _ _ D.TOz D.TOi1 D.TOi2 hTO)) (u1.at fun o e => up e) (h2'.at fun o e => up e) T4 (by rw [Heap.size_push, gs]) fun c o n1 n2 n3 n4 e => up (k4 c o n1 n3 n4 e)
theorem zipE_end {z TI TO i1 i2 l1 l2 : Addr} {k1 k2 : Nat} {xs ys : Array Value} {a c f0 : Value} {b : Bool} {Q : Fin → Shared → Prop} (hh : A.handled = none) (D : ZipApart z TI TO i1 i2 l1 l2) (h0 : f0 = .none ∨ ∃ T : Nat, f0 = rawInt T)
    (hz : ZipF s.heap z TI TO f0 b) (hTI : IsPair s.heap TI (.ref i1) (.ref i2)) (hTO : IsPair s.heap TO a c)
    (h1 : s.heap.IsTupleIter i1 l1 k1) (h2 : s.heap.IsTupleIter i2 l2 k2) (hl1 : s.heap.IsTuple l1 xs) (hl2 : s.heap.IsTuple l2 ys) (hend : xs[k1]? = none ∨ ys[k2]? = none)
    (hE : ∀ h' e, (∀ c o, c ≠ z → c ≠ TO → c ≠ i1 → c ≠ i2 → s.heap.get? c = some o → h'.get? c = some o) → (∃ o, h'.get? e = some o ∧ o.cls = .type "StopIteration") → E (.ref e) { s with heap := h' }) :
    wpAny (model prog w) A (Builtin.«zip.__next__» ⟨[.ref z], []⟩) Q E s := by
  show wpAny _ _ (field (.ref z) 2 >>= _) _ _ _; refine wpAny_bind (wpAny_field hz rfl (x := .bool false) rfl ?_)
  show wpAny _ _ (field (.ref z) 3 >>= _) _ _ _; refine wpAny_bind (wpAny_field hz rfl (x := .ref TI) rfl (wpAny_bind (wpAny_seqItems hTI rfl ?_)))
  show wpAny _ _ (Builtin.SmallTypes.ownedTupleIsFree (.ref z) >>= _) _ _ _; refine wpAny_bind (zip_free h0 hz ?_ ?_)
  · simp only [if_true]; refine wpAny_bind (wpAny_rule (wpAny_bind (wpAny_field hz rfl (x := .ref TO) rfl (wpAny_bind (wpAny_setField_rec hz (by simp) fun g1 hz1 hs1 => ?_)))))
    replace hz1 : ZipF g1 z TI TO .ellipsis b := hz1
    refine wpAny_bind ?_; simp only [List.zipIdx_cons, List.zipIdx_nil, List.forIn_cons, List.forIn_nil]
    refine wpAny_bind (wpAny_bind (wpAny_onRaise ?_)); show wpAny _ _ (Builtin.SmallTypes.nextOf (.ref i1) >>= _) _ _ _
    cases hx : xs[k1]? with
    | none =>
      refine wpAny_bind (RZ.nextOf_tuple_end hh (h1.extBut hs1.extBut D.i1z) (hl1.extBut hs1.extBut D.l1z) hx fun g2 e hs2 ⟨oe, hoe, hce⟩ => ?_)
      have z2 : ZipF g2 z TI TO .ellipsis b := hs2 _ _ D.i1z.symm hz1
      have ne : e ≠ z := fun q => by subst q; rw [z2] at hoe; cases hoe; simp at hce
      exact wpAny_setField_rec z2 (by simp) fun g3 _ hs3 => hE g3 e (fun c o n1 _ n3 _ q => hs3.extBut _ _ n1 (hs2 _ _ n3 (hs1.extBut _ _ n1 q))) ⟨oe, hs3.extBut _ _ ne hoe, hce⟩
    | some x =>
      have hy : ys[k2]? = none := by rcases hend with h | h; rw [hx] at h; cases h; exact h
      refine wpAny_bind (RZ.nextOf_tuple_item (h1.extBut hs1.extBut D.i1z) (hl1.extBut hs1.extBut D.l1z) hx fun g2 h1' hs2 => wpAny_pure ?_)
      have t2 : IsPair g2 TO a c := hs2.extBut _ _ D.TOi1 (hs1.extBut _ _ D.TOz hTO)
      refine wpAny_bind (wpAny_seqItems t2 rfl (wpAny_bind (wpAny_updateSeq_pair t2 fun g3 t3 hs3 => wpAny_bind (wpAny_letGo (wpAny_pure ?_)))))
      refine wpAny_bind (wpAny_bind (wpAny_onRaise ?_)); show wpAny _ _ (Builtin.SmallTypes.nextOf (.ref i2) >>= _) _ _ _
      refine wpAny_bind (RZ.nextOf_tuple_end hh (((h2.extBut hs1.extBut D.i2z).extBut hs2.extBut D.i12.symm).extBut hs3.extBut D.TOi2.symm) (((hl2.extBut hs1.extBut D.l2z).extBut hs2.extBut D.l2i1).extBut hs3.extBut D.l2TO) hy fun g4 e hs4 ⟨oe, hoe, hce⟩ => ?_)
      have z4 : ZipF g4 z TI TO .ellipsis b := hs4 _ _ D.i2z.symm (hs3.extBut _ _ D.TOz.symm (hs2.extBut _ _ D.i1z.symm hz1))
      have ne : e ≠ z := fun q => by subst q; rw [z4] at hoe; cases hoe; simp at hce
      exact wpAny_setField_rec z4 (by simp) fun g5 _ hs5 => hE g5 e (fun c o n1 n2 n3 n4 q => hs5.extBut _ _ n1 (hs4 _ _ n4 (hs3.extBut _ _ n2 (hs2.extBut _ _ n3 (hs1.extBut _ _ n1 q))))) ⟨oe, hs5.extBut _ _ ne hoe, hce⟩
  · intro g0 hz0 hs0
    simp only [Bool.false_eq_true, if_false]; rw [← Array.forIn_toList]; simp only [List.forIn_cons, List.forIn_nil]
    refine wpAny_bind (wpAny_bind (wpAny_bind (wpAny_holding ?_))); show wpAny _ _ (Builtin.SmallTypes.nextOf (.ref i1) >>= _) _ _ _
    cases hx : xs[k1]? with
    | none =>
      exact wpAny_bind (RZ.nextOf_tuple_end hh (h1.extBut hs0.extBut D.i1z) (hl1.extBut hs0.extBut D.l1z) hx fun g2 e hs2 he => hE g2 e (fun c o n1 _ n3 _ q => hs2 _ _ n3 (hs0.extBut _ _ n1 q)) he)
    | some x =>
      have hy : ys[k2]? = none := by rcases hend with h | h; rw [hx] at h; cases h; exact h
      refine wpAny_bind (RZ.nextOf_tuple_item (h1.extBut hs0.extBut D.i1z) (hl1.extBut hs0.extBut D.l1z) hx fun g2 h1' hs2 => wpAny_pure (wpAny_pure ?_))
      refine wpAny_bind (wpAny_bind (wpAny_holding ?_)); show wpAny _ _ (Builtin.SmallTypes.nextOf (.ref i2) >>= _) _ _ _
      exact wpAny_bind (RZ.nextOf_tuple_end hh ((h2.extBut hs0.extBut D.i2z).extBut hs2.extBut D.i12.symm) ((hl2.extBut hs0.extBut D.l2z).extBut hs2.extBut D.l2i1) hy fun g4 e hs4 he => hE g4 e (fun c o n1 _ n3 n4 q => hs4 _ _ n4 (hs2.extBut _ _ n3 (hs0.extBut _ _ n1 q))) he)
/-- all that a zip and its enumerate keep -/
structure ZE (h : Heap) (e z TI TO i1 i2 l1 l2 : Addr) (k : Nat) : Prop where
  en : ∃ old, IsEnum h e z ((k : Nat) : Int) old
  zp : ∃ f0 b, (f0 = .none ∨ ∃ T : Nat, f0 = rawInt T) ∧ ZipF h z TI TO f0 b
  ti : IsPair h TI (.ref i1) (.ref i2)
  to : ∃ a c, IsPair h TO a c
  it1 : h.IsTupleIter i1 l1 k
  it2 : h.IsTupleIter i2 l2 k
theorem enumE_item {e z TI TO i1 i2 l1 l2 : Addr} {k : Nat} {xs ys : Array Value} {x y : Value} {Q : Option Value → Shared → Prop} (D : ZipApart z TI TO i1 i2 l1 l2) (ez : e ≠ z) (eTI : e ≠ TI) (eTO : e ≠ TO) (e1 : e ≠ i1) (e2 : e ≠ i2)
    (Z : ZE s.heap e z TI TO i1 i2 l1 l2 k) (hl1 : s.heap.IsTuple l1 xs) (hl2 : s.heap.IsTuple l2 ys) (hx : xs[k]? = some x) (hy : ys[k]? = some y)
    (hQ : ∀ h' tk, IsEnumOut h' e z ((k : Int) + 1) (.ref s.heap.objs.size) (s.heap.objs.size + 1) → (∃ f0 b, (f0 = .none ∨ ∃ T : Nat, f0 = rawInt T) ∧ ZipF h' z TI TO f0 b) → IsPair h' TI (.ref i1) (.ref i2) → (∃ a c, IsPair h' TO a c) → h'.IsTupleIter i1 l1 (k + 1) → h'.IsTupleIter i2 l2 (k + 1) →
      IsPair h' s.heap.objs.size x y → IsPair h' (s.heap.objs.size + 1) (.int k tk) (.ref s.heap.objs.size) → (∀ c o, c ≠ e → c ≠ z → c ≠ TO → c ≠ i1 → c ≠ i2 → s.heap.get? c = some o → h'.get? c = some o) → Q (some (.ref (s.heap.objs.size + 1))) { s with heap := h', toks := tk + 1 }) :
    wpAny (model prog w) A (pyNext (.ref e)) Q E s := by
  obtain ⟨⟨old, he⟩, ⟨f0, b, h0, hz⟩, hTI, ⟨a, c, hTO⟩, h1, h2⟩ := Z
  obtain ⟨hp, gg, dd, tk, os⟩ := s
  have hT : Shared.TypeIs ⟨hp, gg, dd, tk, os⟩ (.ref e) "enumerate" := ⟨_, he, rfl⟩
  unfold pyNext; refine wpAny_bind (wpAny_attempt (wpAny_callSpecial?_slot (name := Str.ofString "__next__") hT PySem.F.slot_enumerate_next (wpAny_call_entry PySem.F.slot_enumerate_next hT PySem.F.entry_enumerate_next ?_ (PySem.F.args_enumerate_next_1 _))))
  show wpAny _ _ (field (.ref e) 2 >>= _) _ _ _; refine wpAny_bind (wpAny_field he rfl (x := .ref z) rfl (wpAny_bind ?_))
  have hT2 : Shared.TypeIs ⟨hp, gg, dd, tk, os⟩ (.ref z) "zip" := ⟨_, hz, rfl⟩
  unfold Builtin.SmallTypes.nextOf; refine wpAny_bind (wpAny_callSpecial?_slot (name := Str.ofString "__next__") hT2 PySem.F.slot_zip_next (wpAny_call_entry PySem.F.slot_zip_next hT2 PySem.F.entry_zip_next ?_ (PySem.F.args_zip_next_1 _)))
  refine zipE_item D h0 hz hTI hTO h1 h2 hl1 hl2 hx hy fun g1 f0' b' a' c' h0' z1 to1 u1 u2 T1 s1 k1 => wpAny_pure ?_
  replace T1 : IsPair g1 hp.objs.size x y := T1
  replace s1 : g1.objs.size = hp.objs.size + 1 := s1
  replace k1 : ∀ c o, c ≠ z → c ≠ TO → c ≠ i1 → c ≠ i2 → hp.get? c = some o → g1.get? c = some o := k1
  have he1 : IsEnum g1 e z (k : Int) old := k1 e _ ez eTO e1 e2 he
  have ti1 : IsPair g1 TI (.ref i1) (.ref i2) := k1 TI _ D.TIz D.TITO D.TIi1 D.TIi2 hTI
  show wpAny _ _ (field (.ref e) 3 >>= _) _ _ ⟨g1, gg, dd, tk, os⟩; refine wpAny_bind (wpAny_field he1 rfl (x := rawInt (k : Int)) rfl ?_)
  show wpAny _ _ (field (.ref e) 4 >>= _) _ _ ⟨g1, gg, dd, tk, os⟩; refine wpAny_bind (wpAny_field he1 rfl (x := .none) rfl ?_)
  show wpAny _ _ (mkInt (k : Int) >>= _) _ _ ⟨g1, gg, dd, tk, os⟩; refine wpAny_bind (wpAny_mkInt ?_)
  show wpAny _ _ (setField (.ref e) 3 (rawInt ((k : Int) + 1)) >>= _) _ _ ⟨g1, gg, dd, tk + 1, os⟩
  refine wpAny_bind (wpAny_setField_rec he1 (by simp) fun g2 he2 hs2 => ?_)
  replace he2 : IsEnum g2 e z ((k : Int) + 1) old := he2
  replace hs2 : Heap.SameBut e g1 g2 := hs2
  show wpAny _ _ (setField (.ref e) 4 .none >>= _) _ _ ⟨g2, gg, dd, tk + 1, os⟩; refine wpAny_bind (wpAny_setField_rec he2 (by simp) fun g3 he3 hs3 => ?_)
  replace he3 : IsEnum g3 e z ((k : Int) + 1) old := he3
  replace hs3 : Heap.SameBut e g2 g3 := hs3
  show wpAny _ _ (newTuple [.int k tk, .ref hp.objs.size] >>= _) _ _ ⟨g3, gg, dd, tk + 1, os⟩; refine wpAny_bind (wpAny_newTuple ?_)
  have s3 : g3.objs.size = hp.objs.size + 1 := by rw [hs3.1, hs2.1, s1]
  generalize hg4 : g3.push { cls := .type "tuple", data := .seq #[.int k tk, .ref hp.objs.size] } = g4
  have he4 : IsEnum g4 e z ((k : Int) + 1) old := by rw [← hg4]; exact Heap.get?_push_of_some _ he3
  have T4 : IsPair g4 (hp.objs.size + 1) (.int k tk) (.ref hp.objs.size) := by rw [← hg4, ← s3]; exact Heap.get?_push_size _ rfl
  have k4 : ∀ c o, c ≠ e → g1.get? c = some o → g4.get? c = some o := fun c o n q => by rw [← hg4]; exact Heap.get?_push_of_some _ (hs3.extBut c o n (hs2.extBut c o n q))
  have el : e < hp.objs.size := Heap.lt_size he
  show wpAny _ _ (Builtin.SmallTypes.ownedTupleIsFree (.ref e) >>= _) _ _ ⟨g4, gg, dd, tk + 1, os⟩
  rw [s3]
  clear hg4 he3 hs3 he2 hs2 he1
  refine wpAny_bind ?_; unfold Builtin.SmallTypes.ownedTupleIsFree; refine wpAny_bind (wpAny_field he4 rfl (x := .none) rfl (wpAny_pure ?_))
  simp only [if_true]; refine wpAny_bind (wpAny_rule (wpAny_bind (wpAny_field he4 rfl (x := old) rfl (wpAny_bind (wpAny_setField_rec he4 (by simp) fun g5 he5 hs5 => ?_)))))
  replace he5 : IsEnum g5 e z ((k : Int) + 1) (.ref hp.objs.size) := he5
  replace hs5 : Heap.SameBut e g4 g5 := hs5
  show wpAny _ _ (Builtin.SmallTypes.ownedTupleHandOut (.ref e) (.ref (hp.objs.size + 1)) >>= _) _ _ ⟨g5, gg, dd, tk + 1, os⟩; refine wpAny_bind ?_
  unfold Builtin.SmallTypes.ownedTupleHandOut; refine wpAny_bind (wpAny_setField_rec he5 (by simp) fun g6 he6 hs6 => ?_)
  replace he6 : IsEnumOut g6 e z ((k : Int) + 1) (.ref hp.objs.size) (hp.objs.size + 1) := he6
  replace hs6 : Heap.SameBut e g5 g6 := hs6
  refine wpAny_setField_rec he6 (by simp) fun g7 he7 hs7 => ?_
  replace he7 : IsEnumOut g7 e z ((k : Int) + 1) (.ref hp.objs.size) (hp.objs.size + 1) := he7
  replace hs7 : Heap.SameBut e g6 g7 := hs7
  have k7 : ∀ c o, c ≠ e → g4.get? c = some o → g7.get? c = some o := fun c o n q => hs7.extBut c o n (hs6.extBut c o n (hs5.extBut c o n q))
  have kk : ∀ c o, c ≠ e → g1.get? c = some o → g7.get? c = some o := fun c o n q => k7 c o n (k4 c o n q)
  refine wpAny_bind (wpAny_letGo (wpAny_pure ⟨_, rfl, wpAny_pure ?_⟩))
  exact hQ g7 tk he7 ⟨f0', b', h0', kk z _ ez.symm z1⟩ (kk TI _ eTI.symm ti1) ⟨a', c', kk TO _ eTO.symm to1⟩ (u1.at fun o q => kk i1 o e1.symm q) (u2.at fun o q => kk i2 o e2.symm q) (kk _ _ (Nat.ne_of_gt el) T1) (k7 _ _ (Nat.ne_of_gt (Nat.lt_succ_of_lt el)) T4) fun c o n0 n1 n2 n3 n4 q => kk c o n0 (k1 c o n1 n2 n3 n4 q)
theorem enumE_end {e z TI TO i1 i2 l1 l2 : Addr} {k : Nat} {xs ys : Array Value} {Q : Option Value → Shared → Prop} (hh : A.handled = none) (D : ZipApart z TI TO i1 i2 l1 l2)
    (Z : ZE s.heap e z TI TO i1 i2 l1 l2 k) (hl1 : s.heap.IsTuple l1 xs) (hl2 : s.heap.IsTuple l2 ys) (hend : xs[k]? = none ∨ ys[k]? = none)
    (hQ : ∀ h', (∀ c o, c ≠ z → c ≠ TO → c ≠ i1 → c ≠ i2 → s.heap.get? c = some o → h'.get? c = some o) → Q none { s with heap := h' }) : wpAny (model prog w) A (pyNext (.ref e)) Q E s := by
  obtain ⟨⟨old, he⟩, ⟨f0, b, h0, hz⟩, hTI, ⟨a, c, hTO⟩, h1, h2⟩ := Z
  have hT : s.TypeIs (.ref e) "enumerate" := ⟨_, he, rfl⟩
  unfold pyNext; refine wpAny_bind (wpAny_attempt (wpAny_callSpecial?_slot (name := Str.ofString "__next__") hT PySem.F.slot_enumerate_next (wpAny_call_entry PySem.F.slot_enumerate_next hT PySem.F.entry_enumerate_next ?_ (PySem.F.args_enumerate_next_1 _))))
  show wpAny _ _ (field (.ref e) 2 >>= _) _ _ _; refine wpAny_bind (wpAny_field he rfl (x := .ref z) rfl (wpAny_bind ?_))
  have hT2 : s.TypeIs (.ref z) "zip" := ⟨_, hz, rfl⟩
  unfold Builtin.SmallTypes.nextOf; refine wpAny_bind (wpAny_callSpecial?_slot (name := Str.ofString "__next__") hT2 PySem.F.slot_zip_next (wpAny_call_entry PySem.F.slot_zip_next hT2 PySem.F.entry_zip_next ?_ (PySem.F.args_zip_next_1 _)))
  refine zipE_end (by simp [hh]) D h0 hz hTI hTO h1 h2 hl1 hl2 hend fun g x k1 ⟨o, ho, hc⟩ => ?_
  exact wpAny_bind (wpAny_isInstance (T := "StopIteration") (b := true) ⟨o, ho, hc⟩ isSubtype_stop (wpAny_pure (hQ g k1)))
end
/-- two new objects are laid in one turn -/
theorem inv_two {X : Cx} {pins : List (Addr × Obj)} {σ : List (Option V)} {H : Hp} {s : Shared} {h' : Heap} {t' : Nat} {ch : List Addr} {T : Addr} {o1 o2 : HO} (I : Inv X pins σ H s) (k : ∀ b o, b ∉ ch → s.heap.get? b = some o → h'.get? b = some o) (hf : ∀ b ∈ ch, FpOk X pins H b) (hT : s.heap.objs.size ≤ T)
    (new1 : ObjOk X.prog X.w (upd (upd H T o1) (T + 1) o2) h' T o1) (new2 : ObjOk X.prog X.w (upd (upd H T o1) (T + 1) o2) h' (T + 1) o2) : Inv X pins σ (upd (upd H T o1) (T + 1) o2) { s with heap := h', toks := t' } := by
  have hn : H T = none := I.hok.fresh hT
  have hn2 : H (T + 1) = none := I.hok.fresh (Nat.le_succ_of_le hT)
  have nit : ∀ b u, H b = some u → b ∉ ch := fun b u e z => by have q := (hf b z).1; rw [q] at e; cases e
  have out : ∀ b u, H b = some u → (upd (upd H T o1) (T + 1) o2) b = some u := fun b u e => by rw [upd_ne (ne_of_none e hn2), upd_ne (ne_of_none e hn)]; exact e
  have far : ∀ b, b < s.heap.objs.size → (upd (upd H T o1) (T + 1) o2) b = H b := fun b hb => by rw [upd_ne (Nat.ne_of_lt (Nat.lt_of_lt_of_le hb (Nat.le_succ_of_le hT))), upd_ne (Nat.ne_of_lt (Nat.lt_of_lt_of_le hb hT))]
  refine I.step (g' := s.gens) (d' := s.drawn) (ch := ch) (fun b hb => ⟨(hf b hb).2.2.2.1, (hf b hb).2.1, (hf b hb).2.2.2.2.1, (hf b hb).2.2.2.2.2⟩) (fun b o _ _ hc e _ => k b o hc e) (fun b o _ _ hc e _ => ⟨o.slots, k b o hc e⟩)
    (fun b o _ e n => by rw [far b (Heap.lt_size e)]; exact n) (fun b o hc e => ⟨o, k b o hc e⟩) (fun b xs e => out b _ e) (fun b o u e => out b _ e) (fun b ps e => ⟨#[], by rw [out b _ e]; simp⟩) (fun m hm => ?_) (fun b u e => ?_) I.bare
  · obtain ⟨o, es, ep, ho, r⟩ := hm; exact ⟨o, es, ep, k _ o (fun z => (hf _ z).2.1 rfl) ho, r⟩
  · by_cases hb : b = T + 1
    · subst hb; rw [upd_same] at e; cases e; exact new2
    · rw [upd_ne hb] at e
      by_cases hb1 : b = T
      · subst hb1; rw [upd_same] at e; cases e; exact new1
      · rw [upd_ne hb1] at e
        refine (I.hok b u e).stay (fun c v hc q => k c v ?_ q) (fun c q => out c _ q) fun c xs q => out c _ q
        rcases hc with z | z
        · rw [z]; exact nit b u e
        · exact nit c _ z
def ItzE (K : PySem.W.Frag) (a b : Addr) : It :=
  ⟨fun i H => ∃ (xs ys : List V) (x y : V), SqT K H a xs ∧ SqT K H b ys ∧ xs[i]? = some x ∧ ys[i]? = some y,
    fun i H v H' => ∃ T x y, v = .ref (T + 1) ∧ H T = none ∧ H (T + 1) = none ∧ H' = upd (upd H T (.tup [x, y])) (T + 1) (.tup [.int (i : Nat), .ref T]) ∧ (∀ xs, SqT K H a xs → xs[i]? = some x) ∧ ∀ ys, SqT K H b ys → ys[i]? = some y,
    fun i H => ∃ xs ys : List V, SqT K H a xs ∧ SqT K H b ys ∧ (xs.length ≤ i ∨ ys.length ≤ i)⟩
theorem turn_zipE {P : Program} {w : World} {K : PySem.W.Frag} {elts : List Expr} {kk : Nat} {tpos : Pos} {a b e z TI TO i1 i2 : Addr} (D : ZipApart z TI TO i1 i2 a b) (ez : e ≠ z) (eTI : e ≠ TI) (eTO : e ≠ TO) (e1 : e ≠ i1) (e2 : e ≠ i2) :
    Turn P w K (.Tuple elts kk tpos) (ItzE K a b) [e, z, TI, TO, i1, i2] e (fun i h => ZE h e z TI TO i1 i2 a b i) where
  mem := by simp
  obj := fun i h st c hc => by
    obtain ⟨⟨old, he⟩, ⟨f0, fb, h0, hz⟩, hTI, ⟨x, y, hTO⟩, ⟨o1, q1, _, d1⟩, ⟨o2, q2, _, d2⟩⟩ := st
    have e' : c = e ∨ c = z ∨ c = TI ∨ c = TO ∨ c = i1 ∨ c = i2 := by simpa using hc
    rcases e' with q | q | q | q | q | q
    · rw [q]; exact ⟨_, he, fun v q => nomatch q⟩
    · rw [q]; exact ⟨_, hz, fun v q => nomatch q⟩
    · rw [q]; exact ⟨_, hTI, fun v q => nomatch q⟩
    · rw [q]; exact ⟨_, hTO, fun v q => nomatch q⟩
    · rw [q]; exact ⟨o1, q1, fun v q => by rw [d1] at q; cases q⟩
    · rw [q]; exact ⟨o2, q2, fun v q => by rw [d2] at q; cases q⟩
  keep := fun i h h' st k => by
    obtain ⟨⟨old, he⟩, ⟨f0, fb, h0, hz⟩, hTI, ⟨x, y, hTO⟩, h1, h2⟩ := st
    exact ⟨⟨old, k e (by simp) _ he⟩, ⟨f0, fb, h0, k z (by simp) _ hz⟩, k TI (by simp) _ hTI, ⟨x, y, k TO (by simp) _ hTO⟩, h1.at fun o q => k i1 (by simp) o q, h2.at fun o q => k i2 (by simp) o q⟩
  item := by
    intro X hP hw hK hc i pins s σ H E I hf st hg; subst hP hw hK
    obtain ⟨xs, ys, x, y, hqx, hqy, hx, hy⟩ := hg
    obtain ⟨its, rv, p, _⟩ := I.tuple hqx
    obtain ⟨its2, rv2, p2, _⟩ := I.tuple hqy
    obtain ⟨u, hu, ru⟩ := rv.get hx
    obtain ⟨u2, hu2, ru2⟩ := rv2.get hy
    have lt : ∀ c ∈ [e, z, TI, TO, i1, i2], c < s.heap.objs.size := fun c hcm => by
      obtain ⟨⟨old, he⟩, ⟨f0, fb, h0, hz⟩, hTI, ⟨x, y, hTO⟩, ⟨o1, q1, _⟩, ⟨o2, q2, _⟩⟩ := st
      have e' : c = e ∨ c = z ∨ c = TI ∨ c = TO ∨ c = i1 ∨ c = i2 := by simpa using hcm
      rcases e' with q | q | q | q | q | q
      · rw [q]; exact Heap.lt_size he
      · rw [q]; exact Heap.lt_size hz
      · rw [q]; exact Heap.lt_size hTI
      · rw [q]; exact Heap.lt_size hTO
      · rw [q]; exact Heap.lt_size q1
      · rw [q]; exact Heap.lt_size q2
    have el := lt e (by simp)
    refine enumE_item D ez eTI eTO e1 e2 st (show s.heap.IsTuple a its.toArray from p) (show s.heap.IsTuple b its2.toArray from p2) (x := u) (y := u2) (by simpa using hu) (by simpa using hu2) fun h' tk he' hz' hTI' hTO' h1' h2' hN hN1 hk => ?_
    refine ⟨_, rfl, wpAny_letOwnedTupleGo_enum (s := { s with heap := h', toks := tk + 1 }) he' fun h'' he'' sb => ?_⟩
    replace sb : Heap.SameBut e h' h'' := sb
    have n1 : IsPair h'' s.heap.objs.size u u2 := (sb.2 _ (Nat.ne_of_gt el)).trans hN
    have n2 : IsPair h'' (s.heap.objs.size + 1) (.int i tk) (.ref s.heap.objs.size) := (sb.2 _ (Nat.ne_of_gt (Nat.lt_succ_of_lt el))).trans hN1
    have old : ∀ c o, c ∉ [e, z, TI, TO, i1, i2] → s.heap.get? c = some o → h''.get? c = some o := fun c o hb q => (sb.2 c (fun q' => hb (by simp [q']))).trans (hk c o (fun q' => hb (by simp [q'])) (fun q' => hb (by simp [q'])) (fun q' => hb (by simp [q'])) (fun q' => hb (by simp [q'])) (fun q' => hb (by simp [q'])) q)
    have up1 : ∀ {c : Addr} {o : HO}, H c = some o → (upd (upd H s.heap.objs.size (.tup [x, y])) (s.heap.objs.size + 1) (.tup [.int (i : Nat), .ref s.heap.objs.size])) c = some o := fun q => by
      rw [upd_ne (ne_of_none q (I.hok.fresh (Nat.le_succ _))), upd_ne (ne_of_none q (I.hok.fresh (Nat.le_refl _)))]; exact q
    have new1 : ObjOk X.prog X.w (upd (upd H s.heap.objs.size (.tup [x, y])) (s.heap.objs.size + 1) (.tup [.int (i : Nat), .ref s.heap.objs.size])) h'' s.heap.objs.size (.tup [x, y]) := ⟨by show 2 ≤ sizeLine; decide, [u, u2], .cons ru (.cons ru2 .nil), ⟨_, n1, rfl, _, rfl⟩⟩
    have new2 : ObjOk X.prog X.w (upd (upd H s.heap.objs.size (.tup [x, y])) (s.heap.objs.size + 1) (.tup [.int (i : Nat), .ref s.heap.objs.size])) h'' (s.heap.objs.size + 1) (.tup [.int (i : Nat), .ref s.heap.objs.size]) := ⟨by show 2 ≤ sizeLine; decide, [.int i tk, .ref s.heap.objs.size], .cons ⟨_, rfl⟩ (.cons rfl .nil), ⟨_, n2, rfl, _, rfl⟩⟩
    have I1 := inv_two (t' := tk + 1) (ch := [e, z, TI, TO, i1, i2]) I old hf (Nat.le_refl _) new1 new2
    obtain ⟨f0', b', h0', z'⟩ := hz'
    obtain ⟨a', c', to'⟩ := hTO'
    refine ⟨.ref (s.heap.objs.size + 1), _, I1, rfl, ⟨_, x, y, rfl, I.hok.fresh (Nat.le_refl _), I.hok.fresh (Nat.le_succ _), rfl, fun l hl => by rw [I.tuple_inj hl hqx]; exact hx, fun l hl => by rw [I.tuple_inj hl hqy]; exact hy⟩, ⟨⟨.ref s.heap.objs.size, ?_⟩, ⟨f0', b', h0', (sb.2 _ ez.symm).trans z'⟩, (sb.2 _ eTI.symm).trans hTI', ⟨a', c', (sb.2 _ eTO.symm).trans to'⟩, h1'.at fun o q => (sb.2 _ e1.symm).trans q, h2'.at fun o q => (sb.2 _ e2.symm).trans q⟩, fun c hcm => ?_⟩
    · have e1 : ((i + 1 : Nat) : Int) = (i : Int) + 1 := by omega
      rw [e1]; exact he''
    · have hlt := lt c hcm
      rw [upd_ne (Nat.ne_of_lt (Nat.lt_succ_of_lt hlt)), upd_ne (Nat.ne_of_lt hlt)]; exact (hf c hcm).1
  done := by
    intro X hP hw hK hc i pins s σ H E I hf st hg; subst hP hw hK
    obtain ⟨xs, ys, hqx, hqy, hend⟩ := hg
    obtain ⟨its, rv, p, _⟩ := I.tuple hqx
    obtain ⟨its2, rv2, p2, _⟩ := I.tuple hqy
    have l1 := rv.length
    have l2 := rv2.length
    have he : its.toArray[i]? = none ∨ its2.toArray[i]? = none := by
      rcases hend with q | q
      · exact .inl (by simp; omega)
      · exact .inr (by simp; omega)
    exact enumE_end (I.ok.hd hc) D st (show s.heap.IsTuple a its.toArray from p) (show s.heap.IsTuple b its2.toArray from p2) he fun h' hk => ⟨rfl, I.turnedL (t' := s.toks) (ch := [e, z, TI, TO, i1, i2]) (fun c o hb q => hk c o (fun q' => hb (by simp [q'])) (fun q' => hb (by simp [q'])) (fun q' => hb (by simp [q'])) (fun q' => hb (by simp [q'])) q) hf⟩
  self := fun A i s Q E st h => let ⟨_, he⟩ := st.en; wpAny_pyIter_enum he h
theorem meets_enumZ (z TI TO : Addr) :
    Meets (Builtin.«enumerate.__new__» ⟨[.type "enumerate", .ref z], []⟩) (fun _ R s => IsZip s.heap z TI TO .none ∧
      R (.ok (.ret (.ref s.heap.objs.size))) { s with heap := s.heap.push { cls := .type "enumerate", data := .fields #[.none, .bool false, .ref z, rawInt 0, .none, .none] } }) :=
  .of_wp fun prog w A R s h => by
    obtain ⟨hp, g, d, tk, os⟩ := s; obtain ⟨h1, h⟩ := h
    have hsub := sub_enumerate
    have q1 : ∀ {A' : Around} {E : Value → Shared → Prop} {Q : Value → Shared → Prop}, Q (.ref z) ⟨hp, g, d, tk, os⟩ → wpAny (model prog w) A' (pyIter (.ref z)) Q E ⟨hp, g, d, tk, os⟩ := fun q => wpAny_pyIter_zip h1 q
    wp_walk using q1
    refine wpAny_stack_any fun st => wpAny_pure ?_
    split
    · rename_i c _ _ _ _ _
      cases (c == Value.type "enumerate")
      · wp_walk using q1
        exact ⟨_, rfl, h⟩
      · wp_walk using q1
        exact ⟨_, rfl, h⟩
    · wp_walk using q1
      exact ⟨_, rfl, h⟩
theorem call_enumZ {prog : Program} {w : World} {A : Around} {E : Value → Shared → Prop} {s : Shared} {z TI TO : Addr} {Q : Value → Shared → Prop} (h1 : IsZip s.heap z TI TO .none)
    (h : ∀ h', IsEnum h' s.heap.objs.size z 0 .none → (∀ b o, s.heap.get? b = some o → h'.get? b = some o) → Q (.ref s.heap.objs.size) { s with heap := h' }) :
    wpAny (model prog w) A (call (.type "enumerate") [.ref z]) Q E s := by
  refine callType_new PySem.F.called_enumerate (by decide) (PySem.F.typeCall_enumerate_1 _) (PySem.F.newCall_enumerate_1 _) (fun obj => PySem.F.args_object_init_2 obj _) PySem.F.entry_enumerate_new (meets_enumZ z TI TO) ⟨h1, ?_⟩
  have he : IsEnum (s.heap.push { cls := .type "enumerate", data := .fields #[.none, .bool false, .ref z, rawInt 0, .none, .none] }) s.heap.objs.size z 0 .none := Heap.get?_push_size _ rfl
  exact ⟨⟨_, he, rfl⟩, h _ he fun b o x => Heap.get?_push_of_some _ x⟩

theorem six_ne (n : Nat) : n + 5 ≠ n + 4 ∧ n + 5 ≠ n + 2 ∧ n + 5 ≠ n + 3 ∧ n + 5 ≠ n ∧ n + 5 ≠ n + 1 := by omega
theorem six_le {n c : Nat} (h : c = n + 5 ∨ c = n + 4 ∨ c = n + 2 ∨ c = n + 3 ∨ c = n ∨ c = n + 1) : n ≤ c := by omega
def iZipE (K : PySem.W.Frag) (ta : TA) : TI := fun σ H R => ta σ H fun vs H1 => ∃ a b xs ys, vs = [.ref a, .ref b] ∧ SqT K H1 a xs ∧ SqT K H1 b ys ∧ R (ItzE K a b) H1
theorem pi_zipE {X : Cx} {e e2 : Expr} {ta : TA} {p p2 q pos tpos : Pos} {elts : List Expr} {kk : Nat} (hg : Gl X "enumerate") (hm : X.mg "enumerate" = none) (hg2 : Gl X "zip") (hm2 : X.mg "zip" = none) (ha : PA X [e, e2] ta)
    (hs : starEach [e, e2] X.env = (false, eval e X.env) :: starEach [e2] X.env := by rfl) (hpl : (backTo q (starEach [e2] X.env)).any (·.1) = false := by rfl) :
    PI X (.Tuple elts kk tpos) (.Call (.Name "enumerate" p) [.Call (.Name "zip" p2) [e, e2] [] q] [] pos) (iZipE X.K ta) := by
  refine ⟨fun pins s σ H R I h => ?_⟩
  refine Call_ (ld_blt I hg hm boot_enumerate (PyProof.Rows.callWith_type1 (PyProof.Rows.args_cons ?_ rfl) rfl rfl))
  refine Call_ (ld_blt I hg2 hm2 PyProof.Rows.boot_zip (PyProof.Rows.callWith_type1 (thn (ha.run q pins s σ H _ I h) fun us s1 ⟨vs, H1, I1, r1, q1⟩ => ?_) hs hpl))
  obtain ⟨a, b, xs, ys, ex, hqx, hqy, q⟩ := q1
  subst ex
  cases r1 with
  | cons r rr =>
    cases rr with
    | cons r' rr =>
      cases rr; cases r; cases r'
      obtain ⟨its, rv, p1, _⟩ := I1.tuple hqx
      obtain ⟨its2, rv2, p2, _⟩ := I1.tuple hqy
      obtain ⟨o1, ho1, _⟩ := id p1
      obtain ⟨o2, ho2, _⟩ := id p2
      have la := Heap.lt_size ho1
      have lb := Heap.lt_size ho2
      refine RZ.call_zipT (show s1.heap.IsTuple a its.toArray from p1) (show s1.heap.IsTuple b its2.toArray from p2) fun h1 hz hTI hTO it1 it2 hsz hk => PyProof.Rows.args_nil ?_
      refine call_enumZ (s := { s1 with heap := h1 }) hz fun h2 he hk2 => wpAny_pyIter_enum he ?_
      have I2 : Inv X pins σ H1 { s1 with heap := h2 } := I1.kept (t' := s1.toks) fun b o q => hk2 b o (hk b o q)
      replace he : IsEnum h2 h1.objs.size (s1.heap.objs.size + 4) 0 .none := he
      rw [hsz] at he
      refine ⟨h1.objs.size, [s1.heap.objs.size + 5, s1.heap.objs.size + 4, s1.heap.objs.size + 2, s1.heap.objs.size + 3, s1.heap.objs.size, s1.heap.objs.size + 1], fun i h => ZE h (s1.heap.objs.size + 5) (s1.heap.objs.size + 4) (s1.heap.objs.size + 2) (s1.heap.objs.size + 3) s1.heap.objs.size (s1.heap.objs.size + 1) a b i, ItzE X.K a b, H1, rfl, I2, ?_, ?_, fun c hcm => ?_, q⟩
      · rw [hsz]; exact turn_zipE (PySem.W.ktu_apart s1.heap.objs.size a b la lb) (six_ne _).1 (six_ne _).2.1 (six_ne _).2.2.1 (six_ne _).2.2.2.1 (six_ne _).2.2.2.2
      · exact ⟨⟨.none, he⟩, ⟨.none, false, .inl rfl, hk2 _ _ hz⟩, hk2 _ _ hTI, ⟨_, _, hk2 _ _ hTO⟩, it1.at fun o q => hk2 _ o q, it2.at fun o q => hk2 _ o q⟩
      · have hle : s1.heap.objs.size ≤ c := by
          have e' : c = s1.heap.objs.size + 5 ∨ c = s1.heap.objs.size + 4 ∨ c = s1.heap.objs.size + 2 ∨ c = s1.heap.objs.size + 3 ∨ c = s1.heap.objs.size ∨ c = s1.heap.objs.size + 1 := by simpa using hcm
          exact six_le e'
        exact I1.fpOk hle (I1.hok.fresh hle)
/-- what comes of it -/
def enumZD (l m : List D) : List D := (List.range (min l.length m.length)).map fun (i : Nat) => D.tup [.int i, .tup [l.getD i .non, m.getD i .non]]
theorem enumZD_get {l m : List D} {i : Nat} {d : D} (h : (enumZD l m)[i]? = some d) : ∃ x y, l[i]? = some x ∧ m[i]? = some y ∧ d = .tup [.int i, .tup [x, y]] := by
  unfold enumZD at h
  rw [List.getElem?_map] at h
  obtain ⟨j, hj, rfl⟩ := Option.map_eq_some_iff.mp h
  have hlt : i < min l.length m.length := by
    have := (List.getElem?_eq_some_iff.mp hj).1
    simpa using this
  have : j = i := by simpa [List.getElem?_range hlt] using hj.symm
  subst this
  have h1 : j < l.length := by omega
  have h2 : j < m.length := by omega
  exact ⟨l[j], m[j], List.getElem?_eq_getElem h1, List.getElem?_eq_getElem h2, by rw [List.getD_eq_getElem?_getD, List.getElem?_eq_getElem h1, List.getD_eq_getElem?_getD, List.getElem?_eq_getElem h2]; rfl⟩
theorem enumZD_len (l m : List D) : (enumZD l m).length = min l.length m.length := by simp [enumZD]
theorem iter_zipE {K : PySem.W.Frag} {c : Cl} {φ0 : List Addr} {H0 : Hp} {S0 : Sto} {a b : Addr} {vs us : List V} {l m : List D} (r0 : Rel K c φ0 S0 H0) (s : SqT K H0 a vs) (g : RepL K φ0 H0 l vs) (s2 : SqT K H0 b us) (g2 : RepL K φ0 H0 m us) : IterOk K c (ItzE K a b) (enumZD l m) noG φ0 H0 := by
  refine ⟨fun φ S H i d e r _ hd => ?_, fun φ S H e r _ => ?_⟩
  · obtain ⟨x, y, hx, hy, rfl⟩ := enumZD_get hd
    obtain ⟨v, hv, rv⟩ := g.get hx
    obtain ⟨u, hu, ru⟩ := g2.get hy
    have st := e.stays r0
    have s' := st.tup _ _ s
    have s2' := st.tup _ _ s2
    refine ⟨⟨vs, us, v, u, s', s2', hv, hu⟩, fun w H' hw => ?_⟩
    obtain ⟨T, z, z2, rfl, hT, hT2, rfl, hz, hz2⟩ := hw
    have h1 := hz vs s'
    rw [hv] at h1
    cases h1
    have h2 := hz2 us s2'
    rw [hu] at h2
    cases h2
    obtain ⟨e1, r1, q1⟩ := pair_new r hT (rv.stay st) (ru.stay st)
    obtain ⟨e2, r2, q2⟩ := pair_new (T := T + 1) (dx := .int (i : Nat)) (x := .int (i : Nat)) r1 (by rw [upd_ne (Nat.succ_ne_self _)]; exact hT2) rep_int q1
    exact ⟨e1.trans e2, r2, q2⟩
  · refine ⟨vs, us, (e.stays r0).tup _ _ s, (e.stays r0).tup _ _ s2, ?_⟩
    rw [enumZD_len, ← g.length, ← g2.length]
    omega
def iEZ (a b : ME) : MI := fun ρ S => (a ρ S).bind fun d S1 => (b ρ S1).bind fun d2 S2 => match d, d2 with
  | .tup l, .tup m => .ok (enumZD l m, noG) S2
  | _, _ => .no
theorem di_enumZ {X : Cx} {c : Cl} {W : WX} {e e2 : Expr} {me me2 : ME} {p p2 q pos tpos : Pos} {elts : List Expr} {kk : Nat} (hg : Gl X "enumerate") (hm : X.mg "enumerate" = none) (hg2 : Gl X "zip") (hm2 : X.mg "zip" = none) (h : DE X c W e me) (h2 : DE X c W e2 me2)
    (hs : starEach [e, e2] X.env = (false, eval e X.env) :: starEach [e2] X.env := by rfl) (hs2 : starEach [e2] X.env = (false, eval e2 X.env) :: starEach [] X.env := by rfl) (hpl : (backTo q (starEach [e2] X.env)).any (·.1) = false := by rfl) :
    DI X c W (.Tuple elts kk tpos) (.Call (.Name "enumerate" p) [.Call (.Name "zip" p2) [e, e2] [] q] [] pos) (iEZ me me2) := by
  obtain ⟨t, pe, h⟩ := h
  obtain ⟨t2, pe2, h2⟩ := h2
  refine ⟨_, pi_zipE hg hm hg2 hm2 (pa_cons pe (pa_cons pe2 pa_nil hs2) hs) hs hpl, fun φ σ H ρ S Q r f p => ?_⟩
  refine h φ σ H ρ S _ r f (PostW.elim p fun d S1 φ1 H1 e1 r1 p1 => fun x hx => ?_)
  refine h2 φ1 σ H1 ρ S1 _ r1 (f.stay (e1.stays r)) (PostW.elim p1 fun d2 S2 φ2 H2 e2 r2 p2 => fun y hy => ?_)
  split at p2
  · obtain ⟨a, vs, rfl, s, g⟩ := (hx.stay (e2.stays r1)).tup_
    obtain ⟨b, us, rfl, s2, g2⟩ := hy.tup_
    exact ⟨a, b, vs, us, rfl, s, s2, PostW.here r2 p2 _ (iter_zipE r2 s g s2 g2)⟩
  · exact False.elim p2
@[simp] theorem iEZ_ev {a b : ME} {ρ : Fr} {S : Sto} : iEZ a b ρ S = (a ρ S).bind fun d S1 => (b ρ S1).bind fun d2 S2 => match d, d2 with | .tup l, .tup m => .ok (enumZD l m, noG) S2 | _, _ => .no := rfl
end MM

namespace MM
open PySem PySem.Spec PyProof.Rows L2
theorem reads_ints {h : Heap} : ∀ {ns : List Int} {us : List Value}, Vals (ns.map V.int) us → ReadsAll h us (ns.map PyData.int) []
  | [], _, .nil => .nil
  | n :: ns, _, .cons r t => by
    obtain ⟨k, rfl⟩ := r
    exact .cons (as := []) (bs := []) (.int n k) (reads_ints t)
theorem reads_strs {h : Heap} : ∀ {ns : List Str} {us : List Value}, Vals (ns.map V.str) us → ReadsAll h us (ns.map PyData.str) []
  | [], _, .nil => .nil
  | n :: ns, _, .cons r t => by
    obtain ⟨k, rfl⟩ := r
    exact .cons (as := []) (bs := []) (.str n k) (reads_strs t)
theorem alike_ints (ns : List Int) : PySem.W.AlikeAll (ns.map PyData.int) := ⟨fun x hx y hy => by
  obtain ⟨a, _, rfl⟩ := List.mem_map.mp hx; obtain ⟨b, _, rfl⟩ := List.mem_map.mp hy; rfl, fun x hx => by
  obtain ⟨a, _, rfl⟩ := List.mem_map.mp hx; exact fun e => nomatch e⟩
theorem alike_strs (ns : List Str) : PySem.W.AlikeAll (ns.map PyData.str) := ⟨fun x hx y hy => by
  obtain ⟨a, _, rfl⟩ := List.mem_map.mp hx; obtain ⟨b, _, rfl⟩ := List.mem_map.mp hy; rfl, fun x hx => by
  obtain ⟨a, _, rfl⟩ := List.mem_map.mp hx; exact fun e => nomatch e⟩
theorem depth_ints : ∀ ns : List Int, PyData.depthAll (ns.map PyData.int) = 0
  | [] => by simp [PyData.depthAll]
  | n :: ns => by simp [PyData.depthAll, PyData.depth, depth_ints ns]
theorem depth_strs : ∀ ns : List Str, PyData.depthAll (ns.map PyData.str) = 0
  | [] => by simp [PyData.depthAll]
  | n :: ns => by simp [PyData.depthAll, PyData.depth, depth_strs ns]
def strLt (a b : Str) : Bool := decide (a.cps.toList < b.cps.toList)
def maxS (x : Str) (l : List Str) : Str := l.foldl (fun a y => if strLt a y then y else a) x
theorem maxD_strs (x : Str) : ∀ l : List Str, PySem.W.maxD (.str x) (l.map PyData.str) = .str (maxS x l) := by
  intro l
  unfold PySem.W.maxD maxS
  induction l generalizing x with
  | nil => rfl
  | cons k r ih =>
    rw [List.map_cons, List.foldl_cons, List.foldl_cons, ← ih]
    (try dsimp only)
    rw [PySem.W.dataLt_str]
    unfold strLt
    split <;> rfl
theorem read_int {h : Heap} {v : Value} {n : Int} {bs : List Addr} (r : Reads h v (.int n) bs) : RelV (.int n) v := by
  cases r with
  | int _ t => exact ⟨t, rfl⟩
theorem read_str {h : Heap} {v : Value} {n : Str} {bs : List Addr} (r : Reads h v (.str n) bs) : RelV (.str n) v := by
  cases r with
  | str _ t => exact ⟨t, rfl⟩

def rMaxA (K : PySem.W.Frag) : List V → Hp → VK → Prop := fun vs H Q => ∃ a, vs = [.ref a] ∧ ((∃ (n : Int) (ns : List Int), (SqL K H a ((n :: ns).map V.int) ∨ SqT K H a ((n :: ns).map V.int)) ∧ Q (.int (ns.foldl max n)) H) ∨ ∃ (n : Str) (ns : List Str), (SqL K H a ((n :: ns).map V.str) ∨ SqT K H a ((n :: ns).map V.str)) ∧ Q (.str (maxS n ns)) H)
theorem call_maxA {X : Cx} (hc : X.calm = true) (hu : X.A.units + 1 < cLine) : CallR X (.builtin "max") (rMaxA X.K) := by
  intro pins s σ H vs us Q I r h
  obtain ⟨a, rfl, h⟩ := h
  rw [Vals.ref1 r]
  rcases h with ⟨n, ns, hs, q⟩ | ⟨n, ns, hs, q⟩
  · have fin : ∀ (v : Value) (h' : Heap) (tk : Tok) (bs : List Addr), Reads h' v (PySem.W.maxD (.int n) (ns.map PyData.int)) bs → (∀ b o, s.heap.get? b = some o → h'.get? b = some o) → EP X pins σ Q v { s with heap := h', toks := tk } := fun v h' tk bs rd hk => by
      rw [PySem.W.maxD_ints] at rd
      exact ⟨.int _, H, I.kept hk, read_int rd, q⟩
    rcases hs with hs | hs
    · obtain ⟨its, rv, hl, _⟩ := I.list hs
      exact PySem.W.max_list_data (I.ok.hd hc) hl.isList (by simpa using reads_ints rv) (by simpa using alike_ints (n :: ns)) (by have := depth_ints (n :: ns); rw [List.map_cons] at this; rw [this]; exact hu) fun i v h' tk bs _ rd hk => fin v h' tk bs rd hk
    · obtain ⟨its, rv, hl, _⟩ := I.tuple hs
      exact PySem.W.max_tuple_data (I.ok.hd hc) (show s.heap.IsTuple a its.toArray from hl) (by simpa using reads_ints rv) (by simpa using alike_ints (n :: ns)) (by have := depth_ints (n :: ns); rw [List.map_cons] at this; rw [this]; exact hu) fun i v h' tk bs _ rd hk => fin v h' tk bs rd hk
  · have fin : ∀ (v : Value) (h' : Heap) (tk : Tok) (bs : List Addr), Reads h' v (PySem.W.maxD (.str n) (ns.map PyData.str)) bs → (∀ b o, s.heap.get? b = some o → h'.get? b = some o) → EP X pins σ Q v { s with heap := h', toks := tk } := fun v h' tk bs rd hk => by
      rw [maxD_strs] at rd
      exact ⟨.str _, H, I.kept hk, read_str rd, q⟩
    rcases hs with hs | hs
    · obtain ⟨its, rv, hl, _⟩ := I.list hs
      exact PySem.W.max_list_data (I.ok.hd hc) hl.isList (by simpa using reads_strs rv) (by simpa using alike_strs (n :: ns)) (by have := depth_strs (n :: ns); rw [List.map_cons] at this; rw [this]; exact hu) fun i v h' tk bs _ rd hk => fin v h' tk bs rd hk
    · obtain ⟨its, rv, hl, _⟩ := I.tuple hs
      exact PySem.W.max_tuple_data (I.ok.hd hc) (show s.heap.IsTuple a its.toArray from hl) (by simpa using reads_strs rv) (by simpa using alike_strs (n :: ns)) (by have := depth_strs (n :: ns); rw [List.map_cons] at this; rw [this]; exact hu) fun i v h' tk bs _ rd hk => fin v h' tk bs rd hk
def maxLD : FL
  | [d], S => match seqOf S d with
    | some l => (match intsD l with
      | some (n :: ns) => .ok (.int (ns.foldl max n)) S
      | _ => (match txts l with
        | some (n :: ns) => .ok (.str (maxS n ns)) S
        | _ => .no))
    | none => .no
  | _, _ => .no
theorem fits_maxL {K : PySem.W.Frag} {c : Cl} : FitsL K c (rMaxA K) maxLD := by
  intro W σ φ H S vs ds Q r h p
  unfold maxLD at p
  split at p
  · obtain ⟨v, rfl, hv⟩ := one_of h
    split at p
    · rename_i l hl
      obtain ⟨b, vs, rfl, s, g⟩ := seqOf_rd r hv hl
      split at p
      · rename_i n ns hns
        rw [ints_of g hns] at s
        exact ⟨b, rfl, .inl ⟨n, ns, s, PostW.here r p _ rep_int⟩⟩
      · split at p
        · rename_i n ns hns
          rw [txts_of g hns] at s
          exact ⟨b, rfl, .inr ⟨n, ns, s, PostW.here r p _ rep_str⟩⟩
        · exact False.elim p
    · exact False.elim p
  · exact False.elim p
end MM

namespace MM
open PySem PySem.Spec PyProof.Rows L2
end MM

namespace MM
open PySem PySem.Spec PyProof.Rows L2
section
variable {prog : Program} {w : World} {A : Around} {E : Value → Shared → Prop} {s : Shared}
theorem adj_back (n : Nat) : Builtin.Slice.sliceAdjust none none (-1) (n : Int) = ((n : Int) - 1, -1) := by
  unfold Builtin.Slice.sliceAdjust; simp
theorem places_back (n : Nat) : Builtin.Slice.slicePlaces ((n : Int) - 1) (-1) (-1) = n := by
  unfold Builtin.Slice.slicePlaces
  have h1 : ¬ ((-1 : Int) > 0) := by decide
  simp only [h1, if_false, Int.neg_neg, Int.ediv_one]
  split <;> omega
theorem fmc {α β : Type} {l : List α} {f g : α → Option β} (h : ∀ x ∈ l, f x = g x) : l.filterMap f = l.filterMap g := by
  induction l with
  | nil => rfl
  | cons a l ih =>
    rw [List.filterMap_cons, List.filterMap_cons, h a (by simp), ih fun x hx => h x (by simp [hx])]
theorem pick_back (xs : Array Value) : ((List.range xs.size).filterMap fun (m : Nat) => xs[(((xs.size : Nat) : Int) - 1 + (m : Int) * (-1)).toNat]?).toArray = xs.toList.reverse.toArray := by
  have e : (List.range xs.size).filterMap (fun (m : Nat) => xs[(((xs.size : Nat) : Int) - 1 + (m : Int) * (-1)).toNat]?) = xs.toList.reverse := by
    apply List.ext_getElem?
    intro i
    have q : (List.range xs.size).filterMap (fun (m : Nat) => xs[(((xs.size : Nat) : Int) - 1 + (m : Int) * (-1)).toNat]?) = (List.range xs.size).map (fun m => xs.toList.getD (xs.size - 1 - m) .none) := by
      rw [← List.filterMap_eq_map]
      refine fmc fun m hm => ?_
      have hm := List.mem_range.mp hm
      have e1 : (((xs.size : Nat) : Int) - 1 + (m : Int) * (-1)).toNat = xs.size - 1 - m := by omega
      rw [e1]
      have h2 : xs.size - 1 - m < xs.size := by omega
      simp [List.getD, h2]
    rw [q]
    by_cases hi : i < xs.size
    · rw [List.getElem?_map, List.getElem?_range hi, List.getElem?_reverse (by simpa using hi)]
      have h2 : xs.size - 1 - i < xs.size := by omega
      simp [List.getD, h2]
    · rw [List.getElem?_eq_none (by simpa using hi), List.getElem?_eq_none (by simpa using hi)]
  rw [e]
theorem sliceApplied_back {sl : Addr} {vl vu vs : Value} {n : Nat} {Q : Int × Int × Nat → Shared → Prop} (hs : s.heap.IsSliceOf sl vl vu vs) (pl : IsPart vl none) (pu : IsPart vu none) (ps : IsPart vs (some (-1)))
    (h : Q ((n : Int) - 1, -1, n) s) : wpAny (model prog w) A (Builtin.Slice.sliceApplied (.ref sl) (pure (n : Int))) Q E s := by
  obtain ⟨os, hos, hcs, hds⟩ := id hs
  unfold Builtin.Slice.sliceApplied Builtin.Slice.sliceFields; refine wpAny_bind (wpAny_bind (wpAny_field hos hds (x := vl) rfl (wpAny_bind (wpAny_field hos hds (x := vu) rfl (wpAny_bind (wpAny_field hos hds (x := vs) rfl (wpAny_pure ?_)))))))
  refine wpAny_bind (HT.slicePart_ ps ?_)
  show wpAny _ _ (if ((-1 : Int) == 0) = true then _ else _) _ _ s; rw [if_neg (by decide)]; refine wpAny_bind (HT.slicePart_ pl (wpAny_bind (HT.slicePart_ pu (wpAny_bind (wpAny_pure ?_)))))
  show wpAny _ _ (match Builtin.Slice.sliceAdjust none none (-1) (n : Int) with | (lo, hi) => pure (lo, (-1 : Int), Builtin.Slice.slicePlaces lo hi (-1))) _ _ s
  rw [adj_back]
  show wpAny _ _ (pure ((n : Int) - 1, (-1 : Int), Builtin.Slice.slicePlaces ((n : Int) - 1) (-1) (-1))) _ _ s
  rw [places_back]
  exact wpAny_pure h
theorem getItem_tup_back {t sl : Addr} {items : Array Value} {vl vu vs : Value} {Q : Value → Shared → Prop} (ht : IsTup s.heap t items) (hs : s.heap.IsSliceOf sl vl vu vs) (pl : IsPart vl none) (pu : IsPart vu none) (ps : IsPart vs (some (-1)))
    (h : Q (.ref s.heap.objs.size) { s with heap := s.heap.push { cls := .type "tuple", data := .seq items.toList.reverse.toArray } })
    (hsz : items.size ≤ sizeLine) : wpAny (model prog w) A (getItem (.ref t) (.ref sl)) Q E s := by
  have htake : sizeOk (.seq items.toList.reverse.toArray) := by
    show items.toList.reverse.toArray.size ≤ sizeLine
    simpa using hsz
  obtain ⟨os, hos, hcs, hds⟩ := id hs
  have hTs : s.TypeIs (.ref sl) "slice" := ⟨os, hos, hcs⟩
  unfold getItem; try with_reducible refine wpAny_holding ?_
  first | refine wpAny_bind (wpAny_pure ?_) | skip
  refine wpAny_bind (wpAny_sequenceKey ht.typeIs (by decide) ?_); refine wpAny_bind (wpAny_callSpecial?_slot (name := Str.ofString "__getitem__") ht.typeIs PyProof.Rows.slot_tuple_getitem (wpAny_call_entry PyProof.Rows.slot_tuple_getitem ht.typeIs entry_tuple_getitem ?_ (args_tuple_getitem _ _)))
  show wpAny _ _ (Builtin.Tuple.tupleItemsOf (.ref t) >>= _) _ _ s; refine wpAny_bind (tupleItemsOf_ ht ?_); refine wpAny_bind (wpAny_typeOf hTs ?_)
  rw [if_pos (by decide)]
  refine wpAny_bind (sliceApplied_back hs pl pu ps ?_)
  have hno : ¬ ((((items.size : Nat) : Int) - 1 == 0 && (-1 : Int) == 1 && items.size == items.size) = true) := by simp
  show wpAny _ _ (if (((items.size : Nat) : Int) - 1 == 0 && (-1 : Int) == 1 && items.size == items.size) = true then _ else _) _ _ s
  rw [if_neg hno, pick_back]
  first
    | exact wpAny_bind (m := Builtin.Tuple.tupleExact _) (wpAny_newObj_type (wpAny_pure ⟨_, rfl, wpAny_pure h⟩) htake)
    | exact wpAny_bind (m := Builtin.Tuple.tupleExact _) (wpAny_newObj_type (wpAny_bind (wpAny_pure (wpAny_pure ⟨_, rfl, wpAny_pure h⟩))) htake)
    | exact wpAny_bind (wpAny_bind (m := Builtin.Tuple.tupleExact _) (wpAny_newObj_type (wpAny_pure (wpAny_pure ⟨_, rfl, wpAny_pure h⟩)) htake))
    | exact wpAny_bind (wpAny_bind (m := Builtin.Tuple.tupleExact _) (wpAny_newObj_type (wpAny_pure ⟨_, rfl, wpAny_pure h⟩) htake))
end
section
variable {X : Cx}
def tRevA (K : PySem.W.Frag) (te : TE) : TE := fun σ H Q => te σ H fun x H1 => ∃ a xs, x = .ref a ∧ ((SqL K H1 a xs ∧ ∀ p, H1 p = none → Q (.ref p) (upd H1 p (.lst xs.reverse))) ∨ (SqT K H1 a xs ∧ ∀ p, H1 p = none → Q (.ref p) (upd H1 p (.tup xs.reverse))))
theorem pe_revA {e : Expr} {te : TE} {k : Nat} {p1 p2 p3 pos : Pos} (he : PE X e te) : PE X (.Subscript e (.Slice none none (some (.UnaryOp .USub (.Constant (.int 1) k p1) p2)) p3) pos) (tRevA X.K te) := by
  refine ⟨fun pins s σ H Q I h => ?_⟩
  refine Subscript_ (thn (he.run pins s σ H _ I h) fun v s1 ⟨x, H1, I1, r1, q1⟩ => ?_)
  obtain ⟨a, xs, ex, q⟩ := q1
  subst ex
  cases r1
  have hst : PO X (some (.UnaryOp .USub (.Constant (.int 1) k p1) p2)) (tPart (tUn (rU fun i => .int (-i)) (tC (.int 1)))) := po_some (pe_un un_neg pe_int)
  refine wpAny_Slice (thn (po_none.run pins s1 σ H1 (fun o H2 => o = none ∧ H2 = H1) I1 ⟨rfl, rfl⟩) fun vl s2 ⟨l, H2, I2, pl, el, e2⟩ => ?_); subst el e2
  refine thn (po_none.run pins s2 σ H2 (fun o H3 => o = none ∧ H3 = H2) I2 ⟨rfl, rfl⟩) fun vu s3 ⟨u, H3, I3, pu, eu, e3⟩ => ?_; subst eu e3
  refine thn (hst.run pins s3 σ H3 (fun o H4 => o = some (-1) ∧ H4 = H3) I3 ⟨1, rfl, -1, rfl, rfl, rfl⟩) fun vs s4 ⟨o, H4, I4, ps, eo, e4⟩ => ?_; subst eo e4
  have I5 : Inv X pins σ H4 { s4 with heap := s4.heap.push { cls := .type "slice", data := .fields #[vl, vu, vs] } } := I4.kept (t' := s4.toks) fun b ob q => Heap.get?_push_of_some _ q
  show wpAny (model X.prog X.w) X.A (subscriptTail e (.Slice none none (some (.UnaryOp .USub (.Constant (.int 1) k p1) p2)) p3) (.ref a) (.ref s4.heap.objs.size)) (EP X pins σ Q) X.xe { s4 with heap := s4.heap.push { cls := .type "slice", data := .fields #[vl, vu, vs] } }
  rcases q with ⟨hx, q⟩ | ⟨hx, q⟩
  · obtain ⟨its, r, ht, hz⟩ := I5.list hx
    have hlen := r.length
    refine tail_any (ops := [.ref a, .ref s4.heap.objs.size]) ht.isList.typeIs (PySem.slot_list_getitem.lookup) ?_ (by with_unfolding_all rfl)
    refine wpAny_getItem_list_slice ht.isList (Heap.IsSliceOf.new _ vl vu vs) pl pu ps (by decide) ?_ (by rw [List.size_toArray]; omega)
    rw [PySem.W.krv_pick]; refine ⟨.ref _, _, I5.laid (t' := s4.toks) (o := .lst xs.reverse) (fun b ob q => Heap.get?_push_of_some _ q) (Nat.le_refl _) ?_, rfl, q _ (I5.hok.fresh (Nat.le_refl _))⟩
    exact ⟨by rw [List.length_reverse]; exact hz, _, 0, r.reverse, Heap.get?_push_size _ rfl⟩
  · obtain ⟨its, r, ht, hz⟩ := I5.tuple hx
    have hlen := r.length
    refine tail_any (ops := [.ref a, .ref s4.heap.objs.size]) ht.typeIs PyProof.Rows.slot_tuple_getitem.lookup ?_ (by with_unfolding_all rfl)
    refine getItem_tup_back ht (Heap.IsSliceOf.new _ vl vu vs) pl pu ps ?_ (by rw [List.size_toArray]; omega)
    refine ⟨.ref _, _, I5.laid (t' := s4.toks) (o := .tup xs.reverse) (fun b ob q => Heap.get?_push_of_some _ q) (Nat.le_refl _) ?_, rfl, q _ (I5.hok.fresh (Nat.le_refl _))⟩
    exact ⟨by rw [List.length_reverse]; exact hz, _, r.reverse, IsTup.new _ _⟩
end
theorem RepL.reverse {K : PySem.W.Frag} {φ : List Addr} {H : Hp} : ∀ {l : List D} {vs : List V}, RepL K φ H l vs → RepL K φ H l.reverse vs.reverse := by
  intro l
  induction l with
  | nil => intro vs h; simp only [RepL] at h; subst h; exact RepL.nil
  | cons d ds ih =>
    intro vs h
    simp only [RepL] at h
    obtain ⟨v, r, rfl, h1, h2⟩ := h
    rw [List.reverse_cons, List.reverse_cons]
    exact (ih h2).append (by simp only [RepL]; exact ⟨v, [], rfl, h1, rfl⟩)
def revD (x : D) (S : Sto) : R D := match x with
  | .tup l => .ok (.tup l.reverse) S
  | x => match lstOf S x with
    | some l => .ok (.pl l.reverse) S
    | _ => .no
def eRev (a : ME) : ME := fun ρ S => (a ρ S).bind fun x S1 => revD x S1
theorem de_rev {X : Cx} {c : Cl} {W : WX} {a : Expr} {ma : ME} {k : Nat} {p1 p2 p3 pos : Pos} (ha : DE X c W a ma) : DE X c W (.Subscript a (.Slice none none (some (.UnaryOp .USub (.Constant (.int 1) k p1) p2)) p3) pos) (eRev ma) := by
  obtain ⟨ta, pa, ha⟩ := ha
  refine ⟨_, pe_frz (pe_revA pa), fun φ σ H ρ S Q r f p => ?_⟩
  refine ha φ σ H ρ S _ r f (PostW.elim p fun d S1 φ1 H1 e1 r1 p1 => fun x hx => ?_)
  unfold revD at p1
  split at p1
  · obtain ⟨b, vs, rfl, s, g⟩ := hx.tup_
    exact ⟨b, vs, rfl, .inr ⟨s, fun q hq => post_tup r1 g.reverse hq p1.frz⟩⟩
  · split at p1
    · rename_i hl
      obtain ⟨b, vs, rfl, s, g⟩ := lstOf_rd r1 hx hl
      exact ⟨b, vs, rfl, .inl ⟨.inl s, fun q hq => post_pl r1 g.reverse hq p1⟩⟩
    · exact False.elim p1
def isPlD : D → Sto → Bool
  | .pl _, _ => true
  | _, _ => false
theorem typed_pl {K : PySem.W.Frag} {c : Cl} : Typed K c "list" isPlD := by
  intro φ S H d x r h e
  cases d <;> first | (cases e; done) | skip
  obtain ⟨a, vs, rfl, s, _⟩ := h.pl_
  exact .inl ⟨rfl, vs, s.sq⟩
def indexD : FM := fun x l S => match x, l with
  | .pl xs, [.str y] => match txts xs with
    | some ys => if y ∈ ys then .ok (.int ((ys.idxOf y : Nat) : Int)) S else .no
    | none => .no
  | _, _ => .no
theorem fits_index {K : PySem.W.Frag} {c : Cl} : FitsM K c (rIndex K) indexD := by
  intro W σ φ H S x d vs ds Q r hx hv p
  unfold indexD at p
  split at p
  · split at p
    · rename_i e
      split at p
      · rename_i hm
        rename_i xs y _ ys
        obtain ⟨a, us, rfl, s, g⟩ := hx.pl_
        have eu := txts_of g e
        subst eu
        simp only [RepL] at hv
        obtain ⟨v, w, rfl, hv1, rfl⟩ := hv
        have ey := hv1.str_
        subst ey
        have hi := List.idxOf_lt_length_of_mem hm
        refine ⟨a, _, _, ys.idxOf y, .str y, rfl, rfl, s.sq, rfl, ?_, ?_, ?_, ?_, PostW.here r p _ rep_int⟩
        · rw [List.all_eq_true]; intro z hz; obtain ⟨t, _, rfl⟩ := List.mem_map.mp hz; rfl
        · rw [List.getElem?_map, List.getElem?_eq_getElem hi, List.getElem_idxOf]; rfl
        · simp [eqV]
        · intro m z' hm2 hz
          rw [List.getElem?_map] at hz
          cases q : ys[m]? with
          | none => rw [q] at hz; cases hz
          | some t =>
            rw [q] at hz
            cases hz
            have : t ≠ y := by
              intro ee
              subst ee
              have hl := (List.getElem?_eq_some_iff.mp q)
              have q2 := List.not_of_lt_findIdx (p := (· == t)) (xs := ys) (i := m) hm2
              rw [hl.2] at q2
              simp at q2
            simpa [eqV] using this
      · exact False.elim p
    · exact False.elim p
  · exact False.elim p
theorem de_index {X : Cx} {c : Cl} {W : WX} {o e : Expr} {mo me : ME} {apos cpos : Pos} (ho : DE X c W o mo) (he : DE X c W e me)
    (hbase : attributeBase o "index" X.env (eval o X.env) = eval o X.env := by rfl)
    (hfew : ((backTo cpos (starEach [e] X.env)).all (fun x => !x.1) && (backToKw cpos (keywordEach [] X.env)).all (fun x => x.1.isSome)
      && decide (([e] : List Expr).length + ([] : List Keyword).length + (if ([] : List Keyword).isEmpty then 0 else 1) < 30)) = true := by rfl)
    (hline : (apos.endLine == cpos.line) = true := by rfl) (hs : starEach [e] X.env = (false, eval e X.env) :: starEach [] X.env := by rfl) (hplain : (backTo cpos (starEach [] X.env)).any (·.1) = false := by rfl) :
    DE X c W (.Call (.Attribute o "index" apos) [e] [] cpos) (eMeth isPlD indexD mo (aCons me aNil)) :=
  de_bm PySem.F.plainAttrs_list PySem.F.slot_list_index PySem.F.type_list_index mt_index fits_index typed_pl ho (da_cons he da_nil hs) hbase hfew hline hs hplain
end MM

namespace CW
open PySem PySem.Spec PyProof.Rows L2 MM
/-- figure_row(figure); slots 0 figure -/
noncomputable def m_figure_row : MS :=
  sRet (eBin addD (eBin mulD (eTup (aCons (eC (.int 1)) (aCons (eC (.int 0)) (aNil)))) (eCall toIntD (aCons (eVar 0) (aNil)))) (eBin mulD (eTup (aCons (eC (.int 0)) (aNil))) (eC (.int 2))))
noncomputable def sp_figure_row : FL := body 1 m_figure_row
/-- row_of(number); slots 0 number, 1 found, 2 figure -/
noncomputable def m_row_of : MS :=
  sSeq (sSet 1 (eTup (aNil)))
  (sSeq (sFor (iA (eVar 0)) (tN 2) (sSet 1 (eBin addD (eVar 1) (eCall sp_figure_row (aCons (eVar 2) (aNil))))))
  (sRet (eBin addD (eVar 1) (eBin mulD (eTup (aCons (eC (.int 0)) (aNil))) (eC (.int 2))))))
noncomputable def sp_row_of : FL := body 3 m_row_of
def numS (ds : List Nat) : Str := ⟨(ds.map (· + 48)).toArray⟩
structure GoodN (ds : List Nat) : Prop where
  pos : 1 ≤ ds.length
  len : ds.length ≤ 4
  fig : ∀ d ∈ ds, 1 ≤ d ∧ d ≤ 9
  sum : ds.sum ≤ 24
def strokes (d : Nat) : List Int := (List.replicate d [1, 0]).flatten
def figR (d : Nat) : List Int := strokes d ++ [0, 0]
def figsR (ds : List Nat) : List Int := (ds.map figR).flatten
def rowN (ds : List Nat) : List Int := figsR ds ++ [0, 0]
theorem strokes_len (d : Nat) : (strokes d).length = 2 * d := by
  unfold strokes
  rw [PyProof.Rows.lm_len_rep_flat]
  simp
  omega
theorem figR_len (d : Nat) : (figR d).length = 2 * d + 2 := by
  unfold figR
  rw [List.length_append, strokes_len]
  rfl
theorem figsR_snoc (ds : List Nat) (d : Nat) : figsR (ds ++ [d]) = figsR ds ++ figR d := by
  unfold figsR
  simp
theorem figsR_len (ds : List Nat) : (figsR ds).length = 2 * ds.sum + 2 * ds.length := by
  unfold figsR
  induction ds with
  | nil => rfl
  | cons d ds ih =>
    simp only [List.map_cons, List.flatten_cons, List.length_append, figR_len, ih, List.sum_cons, List.length_cons]
    omega
@[simp] theorem numS_cps (ds : List Nat) : (numS ds).cps.toList = ds.map (· + 48) := rfl
@[simp] theorem numS_length (ds : List Nat) : (numS ds).length = ds.length := by
  unfold numS Str.length
  simp
theorem numS_inj {a b : List Nat} (h : numS a = numS b) : a = b := by
  have e : (numS a).cps.toList = (numS b).cps.toList := by rw [h]
  simp only [numS_cps] at e
  have : (a.map (· + 48)).map (· - 48) = (b.map (· + 48)).map (· - 48) := by rw [e]
  simpa [List.map_map, Function.comp_def] using this
theorem signs_num (ds : List Nat) : signsD (numS ds) = ds.map fun d => D.str (numS [d]) := by
  unfold signsD
  rw [numS_cps, List.map_map]
  rfl
theorem int_fig {d : Nat} (h1 : 1 ≤ d) (h9 : d ≤ 9) (S : Sto) : toIntD [.str (numS [d])] S = .ok (.int d) S := by
  have : d = 1 ∨ d = 2 ∨ d = 3 ∨ d = 4 ∨ d = 5 ∨ d = 6 ∨ d = 7 ∨ d = 8 ∨ d = 9 := by omega
  have key : ∀ k : Nat, PySem.intText? (numS [k]) = some (k : Int) → toIntD [.str (numS [k])] S = .ok (.int k) S := fun k hk => by
    unfold toIntD
    dsimp only
    rw [hk]
    simp
  rcases this with rfl | rfl | rfl | rfl | rfl | rfl | rfl | rfl | rfl <;> exact key _ (by decide +kernel)

theorem mul2_ev (S : Sto) : mulD (.tup [.int 0]) (.int 2) S = .ok (.tup [.int 0, .int 0]) S := rfl
theorem mulS_ev {d : Nat} (h1 : 1 ≤ d) (h9 : d ≤ 9) (S : Sto) : mulD (.tup [.int 1, .int 0]) (.int d) S = .ok (.tup (iD (strokes d))) S := by
  unfold mulD
  by_cases hd : d = 1
  · subst hd
    rfl
  · dsimp only
    rw [if_neg (by omega), if_pos ⟨by simp, by omega, by omega, by simp⟩]
    unfold strokes iD
    rw [List.map_flatten, List.map_replicate]
    rfl
theorem figure_row_ev {d : Nat} (h1 : 1 ≤ d) (h9 : d ≤ 9) (S : Sto) : sp_figure_row [.str (numS [d])] S = .ok (.tup (iD (figR d))) S := by
  have hl : (iD (strokes d)).length + [D.int 0, D.int 0].length ≤ sizeLine := by
    simp [strokes_len, sizeL]
    omega
  unfold sp_figure_row m_figure_row
  simp [int_fig h1 h9, mulS_ev h1 h9, mul2_ev, sizeL, addD_tup hl]
  simp [figR, iD]
theorem sum_le_nine : ∀ (l : List Nat), (∀ d ∈ l, 1 ≤ d ∧ d ≤ 9) → l.sum ≤ 9 * l.length := by
  intro l
  induction l with
  | nil => intro _; simp
  | cons a l ih =>
    intro hh
    have := ih fun d hd => hh d (List.mem_cons_of_mem _ hd)
    have := (hh a List.mem_cons_self).2
    simp only [List.sum_cons, List.length_cons]
    omega
theorem row_of_ev {ds : List Nat} (h : ∀ d ∈ ds, 1 ≤ d ∧ d ≤ 9) (hl : ds.length ≤ 1000) (S : Sto) : sp_row_of [.str (numS ds)] S = .ok (.tup (iD (rowN ds))) S := by
  have loop := for_run (g := noG) (tg := tN 2) (b := sSet 1 (eBin addD (eVar 1) (eCall sp_figure_row (aCons (eVar 2) (aNil))))) (items := signsD (numS ds)) (ρ := [some (.str (numS ds)), some (.tup []), none]) (S := S)
    (fun i ρ S' => S' = S ∧ ∃ x, ρ = [some (.str (numS ds)), some (.tup (iD (figsR (ds.take i)))), x])
    ⟨rfl, none, by simp [figsR]⟩ (fun _ _ _ _ => trivial) (by
      rintro i d ρ S' hd ⟨rfl, x, rfl⟩
      rw [signs_num, List.getElem?_map] at hd
      obtain ⟨k, hk, rfl⟩ := Option.map_eq_some_iff.mp hd
      have hm : k ∈ ds := List.mem_of_getElem? hk
      have hlt : i < ds.length := (List.getElem?_eq_some_iff.mp hk).1
      have e := figure_row_ev (h k hm).1 (h k hm).2 S'
      have hz : (iD (figsR (ds.take i))).length + (iD (figR k)).length ≤ sizeLine := by
        have h1 := sum_le_nine (ds.take i) fun d hd => h d (List.mem_of_mem_take hd)
        have h2 := (h k hm).2
        have h3 : (ds.take i).length ≤ ds.length := by simp; omega
        simp only [iD_length, figsR_len, figR_len, sizeL]
        omega
      refine ⟨_, rfl, [some (.str (numS ds)), some (.tup (iD (figsR (ds.take (i + 1))))), some (.str (numS [k]))], S', ?_, rfl, _, rfl⟩
      simp [e, addD_tup hz]
      rw [List.take_add_one, hk, Option.toList_some, figsR_snoc, iD_append])
  obtain ⟨ρ', S', e, rfl, x, rfl⟩ := loop
  have hl2 : (signsD (numS ds)).length = ds.length := by rw [signs_num]; simp
  rw [hl2, List.take_length] at e
  have hz : (iD (figsR ds)).length + [D.int 0, D.int 0].length ≤ sizeLine := by
    have h1 := sum_le_nine ds h
    simp only [iD_length, figsR_len, sizeL, List.length_cons, List.length_nil]
    omega
  unfold sp_row_of m_row_of
  simp [e, mul2_ev, sizeL, addD_tup hz]
  simp [rowN, iD]
end CW

namespace CW
open PySem PySem.Spec PyProof.Rows L2 MM
theorem str_ext {x y : Str} (h : x.cps.toList = y.cps.toList) : x = y := Str.ext' (Array.toList_inj.mp h)
end CW

namespace CW
open PySem PySem.Spec PyProof.Rows L2 MM
def fig : Int → Int → List Int → List Int → List Int × Int
  | _, k, cs, [] => (cs, k)
  | p, k, cs, b :: r => if b = 1 then fig b (k + 1) cs r else if 0 < k ∧ p = 0 then fig b 0 (cs ++ [k]) r else fig b k cs r
theorem toString_fig {d : Nat} (h1 : 1 ≤ d) (h9 : d ≤ 9) : strI (d : Int) = numS [d] := by
  have : d = 1 ∨ d = 2 ∨ d = 3 ∨ d = 4 ∨ d = 5 ∨ d = 6 ∨ d = 7 ∨ d = 8 ∨ d = 9 := by omega
  rcases this with rfl | rfl | rfl | rfl | rfl | rfl | rfl | rfl | rfl <;> decide +kernel
end CW

namespace CW
open PySem PySem.Spec PyProof.Rows L2 MM
/-- a bag stands at b -/
def BagAt (S : Sto) (b : Nat) : Prop := ∃ a m k : Int, S[b]? = some (.lst false [.int a, .int m, .int k]) ∧ 0 ≤ a ∧ 0 ≤ m ∧ m < 2147483629 ∧ 0 ≤ k ∧ k < 11
/-- nothing but the bag at b was changed -/
def Drew (b : Nat) (S S' : Sto) : Prop := BagAt S' b ∧ ∃ l, S' = S.set b (.lst false l)
theorem BagAt.lt {S : Sto} {b : Nat} (h : BagAt S b) : b < S.length := by
  obtain ⟨a, m, k, h, _⟩ := h
  exact (List.getElem?_eq_some_iff.mp h).1
theorem Drew.trans {b : Nat} {S S1 S2 : Sto} (h : Drew b S S1) (g : Drew b S1 S2) : Drew b S S2 := by
  obtain ⟨_, l, rfl⟩ := h
  obtain ⟨g, m, rfl⟩ := g
  exact ⟨g, m, by rw [List.set_set]⟩
theorem Drew.refl {b : Nat} {S : Sto} (h : BagAt S b) : Drew b S S := by
  refine ⟨h, ?_⟩
  obtain ⟨a, m, k, e, _⟩ := h
  refine ⟨[.int a, .int m, .int k], ?_⟩
  apply List.ext_getElem?
  intro i
  by_cases hi : b = i
  · subst hi
    rw [List.getElem?_set_self (List.getElem?_eq_some_iff.mp e).1, e]
  · rw [List.getElem?_set_ne hi]
theorem Drew.get {b n : Nat} {S S' : Sto} (h : Drew b S S') (hn : n ≠ b) : S'[n]? = S[n]? := by
  obtain ⟨_, l, rfl⟩ := h
  rw [List.getElem?_set_ne (Ne.symm hn)]
theorem Drew.len {b : Nat} {S S' : Sto} (h : Drew b S S') : S'.length = S.length := by
  obtain ⟨_, l, rfl⟩ := h
  simp
theorem Drew.snoc {b : Nat} {S S' : Sto} {o : O} (h : Drew b S S') (hb : b < S.length) : Drew b (S ++ [o]) (S' ++ [o]) := by
  obtain ⟨⟨a, m, k, g, r⟩, l, rfl⟩ := h
  refine ⟨⟨a, m, k, ?_, r⟩, l, ?_⟩
  · rw [List.getElem?_append_left (by simpa using hb)]
    exact g
  · rw [List.set_append_left _ _ hb]
theorem emod_bounds (x : Int) {n : Int} (h : 0 < n) : 0 ≤ x % n ∧ x % n < n := ⟨Int.emod_nonneg _ (by omega), Int.emod_lt_of_pos _ h⟩
theorem strI_fig {d : Nat} (h1 : 1 ≤ d) (h9 : d ≤ 9) : strI (d : Int) = numS [d] := toString_fig h1 h9
end CW

namespace CW
open PySem PySem.Spec PyProof.Rows L2 MM
theorem range_get {lo : Int} {n i : Nat} {d : D} (h : (rangeD lo n)[i]? = some d) : i < n ∧ d = .int (lo + (i : Int)) := by
  unfold rangeD at h
  rw [List.getElem?_map] at h
  obtain ⟨j, hj, rfl⟩ := Option.map_eq_some_iff.mp h
  have hi : i < n := by
    have := (List.getElem?_eq_some_iff.mp hj).1
    simpa using this
  have hji : j = i := by simpa [List.getElem?_range hi] using hj.symm
  subst hji
  exact ⟨hi, rfl⟩
end CW

namespace CW
open PySem PySem.Spec PyProof.Rows L2 MM
def nD (l : List (List Nat)) : List D := l.map fun ds => .str (numS ds)
@[simp] theorem nD_length (l : List (List Nat)) : (nD l).length = l.length := by simp [nD]
theorem cut_to {l : List D} {n : Nat} : MM.cutD l none (some (n : Int)) = l.take n := by
  unfold MM.cutD
  rw [HT.sIx_none, HT.sIx_nat, List.drop_zero, Nat.sub_zero]
  exact (List.take_eq_take_min).symm
def Uni (z : Str) : Prop := ∀ c ∈ z.cps.toList, c < 1114112
theorem Uni.ok {z : Str} (h : Uni z) : PyData.strOk z = true := by
  unfold PyData.strOk
  rw [Array.all_eq_true']
  intro c hc
  have := h c (Array.mem_toList_iff.mpr hc)
  simpa using this
structure Fine (n : Nat) (z : Str) : Prop where
  len : z.length ≤ n
  uni : Uni z
theorem len_list (z : Str) : z.length = z.cps.toList.length := by simp [Str.length]
theorem app_list (x y : Str) : (x ++ y).cps.toList = x.cps.toList ++ y.cps.toList := TL.tl_append _ _
theorem app_len (x y : Str) : (x ++ y).length = x.length + y.length := by rw [len_list, len_list, len_list, app_list, List.length_append]
theorem Fine.app {a b : Nat} {x y : Str} (hx : Fine a x) (hy : Fine b y) : Fine (a + b) (x ++ y) := ⟨by rw [app_len]; have := hx.len; have := hy.len; omega, fun c hc => by
  rw [app_list] at hc
  rcases List.mem_append.mp hc with hc | hc
  · exact hx.uni c hc
  · exact hy.uni c hc⟩
theorem Fine.mono {a b : Nat} {x : Str} (h : Fine a x) (hab : a ≤ b) : Fine b x := ⟨Nat.le_trans h.len hab, h.uni⟩
theorem cut_list (z : Str) (lo hi : Option Int) : (cutS z lo hi).cps.toList = (z.cps.toList.drop (HT.sIx z.length 0 lo)).take (HT.sIx z.length z.length hi - HT.sIx z.length 0 lo) := by simp [cutS]
theorem Fine.cut {a : Nat} {x : Str} (h : Fine a x) (lo hi : Option Int) : Fine a (cutS x lo hi) := ⟨by
  rw [len_list, cut_list]
  have := h.len
  rw [len_list] at this
  exact Nat.le_trans (List.length_take_le' _ _) (Nat.le_trans (by rw [List.length_drop]; omega) this), fun c hc => by
  rw [cut_list] at hc
  exact h.uni c (List.mem_of_mem_drop (List.mem_of_mem_take hc))⟩
theorem fine_num {ds : List Nat} (h : ∀ d ∈ ds, 1 ≤ d ∧ d ≤ 9) : Fine ds.length (numS ds) := ⟨by rw [len_list, numS_cps, List.length_map]; exact Nat.le_refl _, fun c hc => by
  rw [numS_cps] at hc
  obtain ⟨d, hd, rfl⟩ := List.mem_map.mp hc
  have := h d hd
  omega⟩
theorem sl_str {z : Str} {lo hi : Option Int} {S : Sto} (h : z.length ≤ 1000) : slD (.str z) lo hi S = .ok (.str (cutS z lo hi)) S := by
  unfold slD
  exact if_pos (by rw [sizeL]; omega)
theorem add_str {x y : Str} {S : Sto} (h : x.length + y.length ≤ 1000000) : addD (.str x) (.str y) S = .ok (.str (x ++ y)) S := by
  unfold addD
  exact if_pos (by rw [sizeL]; omega)
theorem strD_fig {i : Int} {S : Sto} (h0 : 1 ≤ i) (h9 : i ≤ 9) : strD [.int i] S = .ok (.str (numS [i.toNat])) S := by
  have hl : i.natAbs.log2 < 1920 := by
    have : i.natAbs.log2 ≤ 3 := by
      rw [← Nat.lt_succ_iff]
      exact (Nat.log2_lt (by omega)).mpr (by omega)
    omega
  have := strI_fig (d := i.toNat) (by omega) (by omega)
  rw [strD_int hl, ← this]
  congr 3
  omega
theorem atI_mem {l : List D} {i : Int} (h0 : 0 ≤ i) (h1 : i < l.length) : ∃ x, x ∈ l ∧ atI l i = some x := by
  have hi : i.toNat < l.length := by omega
  exact ⟨l[i.toNat], List.getElem_mem hi, atI_of (j := i.toNat) (by omega) (List.getElem?_eq_getElem hi)⟩
def Ran (Shape : Fr → Prop) (r : RS) : Prop := ∃ ρ' S', r = .nx ρ' S' ∧ Shape ρ'
theorem cells_range {M : Nat} {b : MS} {v : Nat} {ρ : Fr} {S : Sto} (tail : MS) (Shape : Fr → Prop) (h0 : Shape ρ)
    (hs : ∀ (i : Nat) ρ S', i < M → Shape ρ → Ran Shape (b (ρ.set v (some (.int (i : Int)))) S'))
    (ht : ∀ ρ S, Shape ρ → ∃ S', (tail ρ S).end = .ok (.bl true) S') : ∃ S', ((forD noG (tN v) b (rangeD 0 M) ρ S).then tail).end = .ok (.bl true) S' := by
  have L := for_run (g := noG) (tg := tN v) (b := b) (items := rangeD 0 M) (ρ := ρ) (S := S)
    (fun _ ρ S' => Shape ρ) h0 (fun _ _ _ h => trivial) (by
      rintro i d ρ S' hd hsh
      obtain ⟨hi, rfl⟩ := range_get hd
      obtain ⟨ρ', S'', e, h1⟩ := hs i ρ S' hi hsh
      refine ⟨_, rfl, ρ', S'', ?_, h1⟩
      rw [Int.zero_add]
      exact e)
  obtain ⟨ρ', S', e, h1⟩ := L
  rw [e]
  exact ht ρ' S' h1
end CW

namespace CW
open PySem PySem.Spec PyProof.Rows L2 MM
/-- _law_cell_at(_law_script, _law_k); slots 0 _law_script, 1 _law_k -/
noncomputable def m_law_cell_at : MS :=
  sSeq (sIf (tV (eBin ltD (eVar 1) (eCall lenD (aCons (eVar 0) (aNil))))) (sRet (eBin ixD (eVar 0) (eVar 1))) (sPass))
  (sRet (eC (.int 0)))
noncomputable def sp_law_cell_at : FL := body 2 m_law_cell_at
/-- _law_bag(_law_script, _law_at); slots 0 _law_script, 1 _law_at, 2 _law_primes, 3 _law_cell, 4 _law_mix, 5 _law_k, 6 _law_one -/
noncomputable def m_law_bagB : MS :=
  sSeq (sSet 2 (eTup (aCons (eC (.int 99991)) (aCons (eC (.int 99971)) (aCons (eC (.int 99961)) (aCons (eC (.int 99929)) (aCons (eC (.int 99923)) (aCons (eC (.int 99907)) (aCons (eC (.int 99901)) (aCons (eC (.int 99881)) (aCons (eC (.int 99877)) (aNil))))))))))))
  (sSeq (sSet 3 (eCall sp_law_cell_at (aCons (eVar 0) (aCons (eVar 1) (aNil)))))
  (sSeq (sSet 4 (eBin addD (eBin mulD (eC (.int 7919)) (eVar 1)) (eC (.int 29))))
  (sSeq (sFor (iR1 (aCons (eC (.int 9)) (aNil))) (tN 5) (sSeq (sSet 6 (eBin addD (eBin addD (eBin modD (eCall sp_law_cell_at (aCons (eVar 0) (aCons (eBin addD (eVar 1) (eVar 5)) (aNil)))) (eBin powD (eC (.int 10)) (eC (.int 18)))) (eBin mulD (eC (.int 11)) (eVar 5))) (eC (.int 1))))
  (sSet 4 (eBin modD (eBin addD (eBin mulD (eVar 4) (eC (.int 48271))) (eBin modD (eBin powD (eVar 6) (eC (.int 3))) (eBin ixD (eVar 2) (eVar 5)))) (eC (.int 2147483629))))))
  (sSeq (sIf (tV (eBin ltD (eVar 3) (eBin powD (eC (.int 10)) (eC (.int 18))))) (sSet 3 (eC (.int 0))) (sPass))
  (sRet (eNew (lNew (aCons (eVar 3) (aCons (eBin addD (eVar 4) (eC (.int 1))) (aNil))))))))))
noncomputable def sp_law_bagB : FL := body 7 m_law_bagB
/-- _law_take(_law_bag_here, _law_many); slots 0 _law_bag_here, 1 _law_many, 2 _law_digit -/
noncomputable def m_law_takeB : MS :=
  sSeq (sIf (tV (eBin gtD (eBin ixD (eVar 0) (eC (.int 0))) (eC (.int 0)))) (sSeq (sSet 2 (eBin modD (eBin ixD (eVar 0) (eC (.int 0))) (eVar 1)))
  (sSeq (sSetIx (eVar 0) (eC (.int 0)) (eBin fdivD (eBin ixD (eVar 0) (eC (.int 0))) (eVar 1)))
  (sRet (eVar 2)))) (sPass))
  (sSeq (sSetIx (eVar 0) (eC (.int 1)) (eBin modD (eBin mulD (eBin ixD (eVar 0) (eC (.int 1))) (eC (.int 48271))) (eC (.int 2147483647))))
  (sRet (eBin modD (eBin modD (eBin modD (eBin powD (eBin ixD (eVar 0) (eC (.int 1))) (eC (.int 3))) (eC (.int 2147483629))) (eC (.int 1000003))) (eVar 1))))
noncomputable def sp_law_takeB : FL := body 3 m_law_takeB
def Bag2 (S : Sto) (b : Nat) : Prop := ∃ a m : Int, S[b]? = some (.lst false [.int a, .int m]) ∧ 0 ≤ a ∧ 0 ≤ m ∧ m ≤ 2147483647
def Took (b : Nat) (S S' : Sto) : Prop := Bag2 S' b ∧ ∃ l, S' = S.set b (.lst false l)
def Grown (b : Nat) (S S' : Sto) : Prop := Bag2 S' b ∧ S.length ≤ S'.length ∧ ∀ n, n < S.length → n ≠ b → S'[n]? = S[n]?
theorem Bag2.lt {S : Sto} {b : Nat} (h : Bag2 S b) : b < S.length := by
  obtain ⟨a, m, h, _⟩ := h
  exact (List.getElem?_eq_some_iff.mp h).1
theorem Took.trans {b : Nat} {S S1 S2 : Sto} (h : Took b S S1) (g : Took b S1 S2) : Took b S S2 := by
  obtain ⟨_, l, rfl⟩ := h
  obtain ⟨g, m, rfl⟩ := g
  exact ⟨g, m, by rw [List.set_set]⟩
theorem Took.refl {b : Nat} {S : Sto} (h : Bag2 S b) : Took b S S := by
  refine ⟨h, ?_⟩
  obtain ⟨a, m, e, _⟩ := h
  obtain ⟨hl, e⟩ := List.getElem?_eq_some_iff.mp e
  exact ⟨[.int a, .int m], by rw [← e]; simp⟩
theorem Took.get {b n : Nat} {S S' : Sto} (h : Took b S S') (hn : n ≠ b) : S'[n]? = S[n]? := by
  obtain ⟨_, l, rfl⟩ := h
  rw [List.getElem?_set_ne (Ne.symm hn)]
theorem Took.len {b : Nat} {S S' : Sto} (h : Took b S S') : S'.length = S.length := by
  obtain ⟨_, l, rfl⟩ := h
  simp
theorem Grown.refl {b : Nat} {S : Sto} (h : Bag2 S b) : Grown b S S := ⟨h, Nat.le_refl _, fun _ _ _ => rfl⟩
theorem Grown.trans {b : Nat} {S S1 S2 : Sto} (h : Grown b S S1) (g : Grown b S1 S2) : Grown b S S2 := ⟨g.1, Nat.le_trans h.2.1 g.2.1, fun n hn hb => by rw [g.2.2 n (by have := h.2.1; omega) hb, h.2.2 n hn hb]⟩
theorem Bag2.app {b : Nat} {S : Sto} (h : Bag2 S b) (T : Sto) : Bag2 (S ++ T) b := by
  have := h.lt
  obtain ⟨a, m, e, r⟩ := h
  exact ⟨a, m, by rw [List.getElem?_append_left this, e], r⟩
theorem Grown.app {b : Nat} {S S' : Sto} (h : Grown b S S') (T : Sto) : Grown b S (S' ++ T) := ⟨h.1.app T, by have := h.2.1; simp; omega, fun n hn hb => by rw [List.getElem?_append_left (by have := h.2.1; omega), h.2.2 n hn hb]⟩
section
variable {b : Nat} {S : Sto} {n : Int}
theorem two_ix (S : Sto) (x y : D) (h : S[b]? = some (.lst false [x, y])) : ixD (.ref b) (.int 0) S = .ok x S ∧ ixD (.ref b) (.int 1) S = .ok y S := ⟨by rw [ixD_ref h]; rfl, by rw [ixD_ref h]; rfl⟩
theorem two_set (S : Sto) (x y v : D) (h : S[b]? = some (.lst false [x, y])) : setIx (.ref b) (.int 0) v S = some (S.set b (.lst false [v, y])) ∧ setIx (.ref b) (.int 1) v S = some (S.set b (.lst false [x, v])) := ⟨setIx_ev (j := 0) h rfl, setIx_ev (j := 1) h rfl⟩
theorem takeB_ev (hb : Bag2 S b) (h1 : 1 ≤ n) (h2 : n < 2 ^ 120) : ∃ d S', sp_law_takeB [.ref b, .int n] S = .ok (.int d) S' ∧ 0 ≤ d ∧ d < n ∧ Took b S S' := by
  have hlt := hb.lt
  obtain ⟨a, m, hs, ha, hm0, hm1⟩ := hb
  have g := two_ix S _ _ hs
  unfold sp_law_takeB m_law_takeB
  by_cases hp : 0 < a
  · refine ⟨a % n, S.set b (.lst false [.int (a / n), .int m]), ?_, Int.emod_nonneg _ (by omega), Int.emod_lt_of_pos _ (by omega), ⟨a / n, m, List.getElem?_set_self hlt, Int.ediv_nonneg ha (by omega), hm0, hm1⟩, _, rfl⟩
    simp [g.1, hp, modD_pos (show 0 < n by omega), fdivD_pos (show 0 < n by omega) (by omega), (two_set S _ _ _ hs).1]
  · have hmm := emod_bounds (m * 48271) (n := 2147483647) (by decide)
    generalize hm2 : m * 48271 % 2147483647 = m' at hmm
    have hs' : (S.set b (.lst false [.int a, .int m']))[b]? = some (.lst false [.int a, .int m']) := List.getElem?_set_self hlt
    have g' := two_ix _ _ _ hs'
    have c1 : mulD (.int m) (.int 48271) S = .ok (.int (m * 48271)) S := mulD_r (by decide)
    have c2 : modD (.int (m * 48271)) (.int 2147483647) S = .ok (.int m') S := by rw [modD_pos (by decide), hm2]
    have c3 : powD (.int m') (.int 3) (S.set b (.lst false [.int a, .int m'])) = .ok (.int (m' ^ 3)) (S.set b (.lst false [.int a, .int m'])) := powD_pos (by decide) (by decide) (by omega)
    refine ⟨m' ^ 3 % 2147483629 % 1000003 % n, S.set b (.lst false [.int a, .int m']), ?_, Int.emod_nonneg _ (by omega), Int.emod_lt_of_pos _ (by omega), ⟨a, m', hs', ha, hmm.1, by omega⟩, _, rfl⟩
    simp [g.1, g.2, hp, c1, c2, (two_set S _ _ _ hs).2, g'.2, c3, modD_pos (show 0 < n by omega), modD_pos (j := 2147483629) (by decide), modD_pos (j := 1000003) (by decide)]
end
theorem takeB_of {b : Nat} {S : Sto} {n : Int} {r : R D} (hr : sp_law_takeB [.ref b, .int n] S = r) (hb : Bag2 S b) (h1 : 1 ≤ n) (h2 : n < 2 ^ 120) : ∃ d S', r = .ok (.int d) S' ∧ 0 ≤ d ∧ d < n ∧ Took b S S' ∧ Bag2 S' b := by
  obtain ⟨d, S', e, h0, h1, w⟩ := takeB_ev hb h1 h2
  exact ⟨d, S', hr ▸ e, h0, h1, w, w.1⟩
theorem cell_ev {ns : List Int} {k : Int} {S : Sto} (h0 : 0 ≤ k) : ∃ v, sp_law_cell_at [.scr ns, .int k] S = .ok (.int v) S := by
  unfold sp_law_cell_at m_law_cell_at
  by_cases h : k < (ns.length : Int)
  · have hx : atI ns k = some (ns[k.toNat]'(by omega)) := atI_of (j := k.toNat) (by omega) (List.getElem?_eq_getElem (by omega))
    exact ⟨_, by simp [h, hx]; rfl⟩
  · exact ⟨0, by simp [h]⟩
def primesB : List D := [.int 99991, .int 99971, .int 99961, .int 99929, .int 99923, .int 99907, .int 99901, .int 99881, .int 99877]
theorem primeB_at {k : Nat} (h : k < 9) : ∃ p : Int, atI primesB (k : Int) = some (.int p) ∧ 0 < p := by
  match k, h with
  | 0, _ => exact ⟨_, rfl, by decide⟩
  | 1, _ => exact ⟨_, rfl, by decide⟩
  | 2, _ => exact ⟨_, rfl, by decide⟩
  | 3, _ => exact ⟨_, rfl, by decide⟩
  | 4, _ => exact ⟨_, rfl, by decide⟩
  | 5, _ => exact ⟨_, rfl, by decide⟩
  | 6, _ => exact ⟨_, rfl, by decide⟩
  | 7, _ => exact ⟨_, rfl, by decide⟩
  | 8, _ => exact ⟨_, rfl, by decide⟩
theorem bagB_ev {ns : List Int} {k : Int} {S : Sto} (h0 : 0 ≤ k) (h1 : k ≤ 1000) : ∃ l, sp_law_bagB [.scr ns, .int k] S = .ok (.ref S.length) (S ++ [.lst false l]) ∧ Bag2 (S ++ [.lst false l]) S.length := by
  obtain ⟨cell, hc⟩ := cell_ev (ns := ns) (S := S) h0
  have p18 : ∀ S, powD (.int 10) (.int 18) S = .ok (.int 1000000000000000000) S := fun S => rfl
  have c0 : mulD (.int 7919) (.int k) S = .ok (.int (7919 * k)) S := mulD_l (by decide)
  have hw : Wd 9 := wd_of (by decide) (by decide)
  unfold sp_law_bagB m_law_bagB
  simp [sizeL, hc, c0, hw]
  rw [show [D.int 99991, D.int 99971, D.int 99961, D.int 99929, D.int 99923, D.int 99907, D.int 99901, D.int 99881, D.int 99877] = primesB from rfl]
  generalize hB : sSeq (sSet 6 _) _ = B
  have L := for_run (g := noG) (tg := tN 5) (b := B) (items := rangeD 0 9) (ρ := [some (.scr ns), some (.int k), some (.tup primesB), some (.int cell), some (.int (7919 * k + 29)), none, none]) (S := S)
    (fun i ρ S' => S' = S ∧ ∃ m x5 x6, ρ = [some (.scr ns), some (.int k), some (.tup primesB), some (.int cell), some (.int m), x5, x6] ∧ 0 ≤ m ∧ (0 < i → m < 2147483629))
    ⟨rfl, _, none, none, rfl, by omega, by omega⟩ (fun _ _ _ _ => trivial) (by
      rintro i d ρ S' hd ⟨rfl, m, x5, x6, rfl, hm0, hm1⟩
      obtain ⟨hi, rfl⟩ := range_get hd
      obtain ⟨v, hv⟩ := cell_ev (ns := ns) (k := k + (0 + (i : Int))) (S := S') (by omega)
      obtain ⟨p, hp, hp0⟩ := primeB_at hi
      have hp' : atI primesB (0 + (i : Int)) = some (.int p) := by rw [Int.zero_add]; exact hp
      have b1 := emod_bounds v (n := 1000000000000000000) (by decide)
      generalize hone : v % 1000000000000000000 + 11 * (0 + (i : Int)) + 1 = one
      have c1 : modD (.int v) (.int 1000000000000000000) S' = .ok (.int (v % 1000000000000000000)) S' := modD_pos (by decide)
      have c2 : mulD (.int 11) (.int (0 + (i : Int))) S' = .ok (.int (11 * (0 + (i : Int)))) S' := mulD_l (by decide)
      have c3 : powD (.int one) (.int 3) S' = .ok (.int (one ^ 3)) S' := powD_pos (by decide) (by decide) (by omega)
      have c4 : mulD (.int m) (.int 48271) S' = .ok (.int (m * 48271)) S' := mulD_r (by decide)
      have c5 : modD (.int (m * 48271 + one ^ 3 % p)) (.int 2147483629) S' = .ok (.int ((m * 48271 + one ^ 3 % p) % 2147483629)) S' := modD_pos (by decide)
      have b2 := emod_bounds (m * 48271 + one ^ 3 % p) (n := 2147483629) (by decide)
      subst hB
      refine ⟨_, rfl, [some (.scr ns), some (.int k), some (.tup primesB), some (.int cell), some (.int ((m * 48271 + one ^ 3 % p) % 2147483629)), some (.int (0 + (i : Int))), some (.int one)], S', ?_, rfl, _, _, _, rfl, b2.1, fun _ => b2.2⟩
      simp only [Int.zero_add] at *
      simp [hv, p18, c1, c2, hone, c3, hp, modD_pos hp0, c4, c5])
  obtain ⟨ρ', S', e, rfl, m, x5, x6, rfl, hm0, hm1⟩ := L
  have hm2 : m < 2147483629 := hm1 (by decide)
  have he : (Int.toNat 9) = 9 := rfl
  by_cases hcell : cell < 1000000000000000000
  · refine ⟨[.int 0, .int (m + 1)], ?_, 0, m + 1, by simp, by decide, by omega, by omega⟩
    simp [e, p18, hcell, sizeL]
  · refine ⟨[.int cell, .int (m + 1)], ?_, cell, m + 1, by simp, by omega, by omega, by omega⟩
    simp [e, p18, hcell, sizeL]
theorem bagB_of {ns : List Int} {k : Int} {S : Sto} {r : R D} (hr : sp_law_bagB [.scr ns, .int k] S = r) (h0 : 0 ≤ k) (h1 : k ≤ 1000) : ∃ S', r = .ok (.ref S.length) S' ∧ Grown S.length S S' ∧ Bag2 S' S.length := by
  obtain ⟨l, e, hb⟩ := bagB_ev (ns := ns) (S := S) h0 h1
  exact ⟨_, hr ▸ e, ⟨hb, by simp, fun n hn _ => by rw [List.getElem?_append_left hn]⟩, hb⟩
end CW

namespace CW
open PySem PySem.Spec PyProof.Rows L2 MM
/-- _law_number(_law_bag_here); slots 0 _law_bag_here, 1 _law_most, 2 _law_many, 3 _law_left, 4 _law_text, 5 _law_k, 6 _law_figure -/
noncomputable def m_law_numB : MS :=
  sSeq (sSet 1 (eBin ixD (ePl (lNew (aCons (eC (.int 2)) (aCons (eC (.int 4)) (aCons (eC (.int 9)) (aNil)))))) (eCall sp_law_takeB (aCons (eVar 0) (aCons (eC (.int 3)) (aNil))))))
  (sSeq (sSet 2 (eBin addD (eC (.int 1)) (eCall sp_law_takeB (aCons (eVar 0) (aCons (eC (.int 4)) (aNil))))))
  (sSeq (sSet 3 (eC (.int 24)))
  (sSeq (sSet 4 (eC (.str "")))
  (sSeq (sFor (iR1 (aCons (eVar 2) (aNil))) (tN 5) (sSeq (sSet 6 (eBin addD (eC (.int 1)) (eCall sp_law_takeB (aCons (eVar 0) (aCons (eCall minD (aCons (eVar 1) (aCons (eBin subD (eBin addD (eBin addD (eVar 3) (eC (.int 1))) (eVar 5)) (eVar 2)) (aNil)))) (aNil))))))
  (sSeq (sSet 3 (eBin subD (eVar 3) (eVar 6)))
  (sSet 4 (eBin addD (eVar 4) (eCall strD (aCons (eVar 6) (aNil))))))))
  (sRet (eVar 4))))))
noncomputable def sp_law_numB : FL := body 7 m_law_numB
/-- _law_near(_law_bag_here, _law_number_here); slots 0 _law_bag_here, 1 _law_number_here, 2 _law_way, 3 _law_last, 4 _law_together, 5 _law_figure -/
noncomputable def m_law_nearB : MS :=
  sSeq (sSet 2 (eCall sp_law_takeB (aCons (eVar 0) (aCons (eC (.int 4)) (aNil)))))
  (sSeq (sSet 3 (eCall toIntD (aCons (eBin ixD (eVar 1) (eUn negD (eC (.int 1)))) (aNil))))
  (sSeq (sSet 4 (eLs sumD (lComp (iA (eVar 1)) [5] (tN 5) tYs (eCall toIntD (aCons (eVar 5) (aNil))))))
  (sSeq (sIf (tAn (tV (eBin eqD (eVar 2) (eC (.int 0)))) (tV (eBin gtD (eCall lenD (aCons (eVar 1) (aNil))) (eC (.int 1))))) (sRet (eSl (eVar 1) (oN) (oS (eUn negD (eC (.int 1)))))) (sPass))
  (sSeq (sIf (tAn (tV (eBin eqD (eVar 2) (eC (.int 1)))) (tAn (tV (eBin ltD (eCall lenD (aCons (eVar 1) (aNil))) (eC (.int 4)))) (tV (eBin ltD (eVar 4) (eC (.int 24)))))) (sRet (eBin addD (eVar 1) (eC (.str "1")))) (sPass))
  (sSeq (sIf (tAn (tV (eBin eqD (eVar 2) (eC (.int 2)))) (tV (eBin gtD (eVar 3) (eC (.int 1))))) (sRet (eBin addD (eSl (eVar 1) (oN) (oS (eUn negD (eC (.int 1))))) (eCall strD (aCons (eBin subD (eVar 3) (eC (.int 1))) (aNil))))) (sPass))
  (sSeq (sIf (tAn (tV (eBin ltD (eVar 3) (eC (.int 9)))) (tV (eBin ltD (eVar 4) (eC (.int 24))))) (sRet (eBin addD (eSl (eVar 1) (oN) (oS (eUn negD (eC (.int 1))))) (eCall strD (aCons (eBin addD (eVar 3) (eC (.int 1))) (aNil))))) (sPass))
  (sRet (eVar 1))))))))
noncomputable def sp_law_nearB : FL := body 6 m_law_nearB
/-- _law_numbers(_law_bag_here, _law_many); slots 0 _law_bag_here, 1 _law_many, 2 _law_found, 3 _law_turn, 4 _law_near_here, 5 _law_number_here -/
noncomputable def m_law_numbersB : MS :=
  sSeq (sSet 2 (eNew (lNew (aCons (eCall sp_law_numB (aCons (eVar 0) (aNil))) (aNil)))))
  (sSeq (sFor (iR1 (aCons (eBin mulD (eC (.int 2)) (eVar 1)) (aNil))) (tN 3) (sSeq (sSet 4 (eCall sp_law_takeB (aCons (eVar 0) (aCons (eC (.int 3)) (aNil)))))
  (sSeq (sSet 5 (eCall sp_law_numB (aCons (eVar 0) (aNil))))
  (sSeq (sIf (tV (eBin eqD (eVar 4) (eC (.int 1)))) (sSet 5 (eCall sp_law_nearB (aCons (eVar 0) (aCons (eBin ixD (eVar 2) (eCall sp_law_takeB (aCons (eVar 0) (aCons (eCall lenD (aCons (eVar 2) (aNil))) (aNil))))) (aNil))))) (sPass))
  (sIf (tAn (tV (eBin ltD (eCall lenD (aCons (eVar 2) (aNil))) (eVar 1))) (tV (eBin notInD (eVar 5) (eVar 2)))) (sExpr (eMeth isLstD appendD (eVar 2) (aCons (eVar 5) (aNil)))) (sPass))))))
  (sRet (eVar 2)))
noncomputable def sp_law_numbersB : FL := gcF (body 6 m_law_numbersB)
theorem most_at {g : Int} (h0 : 0 ≤ g) (h1 : g < 3) : ∃ c : Int, atI [D.int 2, D.int 4, D.int 9] g = some (.int c) ∧ 2 ≤ c ∧ c ≤ 9 := by
  have : g = 0 ∨ g = 1 ∨ g = 2 := by omega
  rcases this with rfl | rfl | rfl <;> exact ⟨_, rfl, by decide, by decide⟩
theorem numS_snoc (es : List Nat) (d : Nat) : numS es ++ numS [d] = numS (es ++ [d]) := by
  apply str_ext
  rw [app_list, numS_cps, numS_cps, numS_cps, List.map_append]
theorem numB_ev {b : Nat} {S : Sto} (hb : Bag2 S b) : ∃ ds S', sp_law_numB [.ref b] S = .ok (.str (numS ds)) S' ∧ GoodN ds ∧ Took b S S' := by
  unfold sp_law_numB m_law_numB
  simp [sizeL]
  generalize hr_ : sp_law_takeB [D.ref _, D.int _] _ = r_
  obtain ⟨g, S1, hq_, a1, b1, w1, hb1⟩ := takeB_of hr_ (by assumption) (by omega) (by omega)
  clear hr_
  subst hq_
  obtain ⟨most, hc, hc0, hc1⟩ := most_at a1 b1
  simp [hc]
  generalize hr_ : sp_law_takeB [D.ref _, D.int _] _ = r_
  obtain ⟨m, S2, hq_, a2, b2, w2, hb2⟩ := takeB_of hr_ (by assumption) (by omega) (by omega)
  clear hr_
  subst hq_
  have hwd : Wd (1 + m) := wd_of (by omega) (by omega)
  simp [hwd]
  generalize hB : sSeq (sSet 6 _) _ = B
  have L := for_nx (g := noG) (tg := tN 5) (b := B) (items := rangeD 0 (1 + m).toNat) (ρ := [some (.ref b), some (.int most), some (.int (1 + m)), some (.int 24), some (.str (Str.ofString "")), none, none]) (S := S2)
    (fun i ρ S' => Took b S S' ∧ ∃ (es : List Nat) (x5 x6 : Option D), ρ = [some (.ref b), some (.int most), some (.int (1 + m)), some (.int (24 - (es.sum : Nat))), some (.str (numS es)), x5, x6] ∧ es.length = i ∧ (∀ d ∈ es, 1 ≤ d ∧ d ≤ 9) ∧ (es.sum : Int) + (1 + m - i) ≤ 24)
    ⟨w1.trans w2, [], none, none, by simp [numS]; rfl, rfl, by simp, by simp; omega⟩ (fun _ _ _ _ => trivial) (by
      rintro i d ρ S' hd ⟨w, es, x5, x6, rfl, hl, hf, hs⟩
      obtain ⟨hi, rfl⟩ := range_get hd
      have hb' := w.1
      subst hB
      refine ⟨_, rfl, nx_of fun Q hQ => ?_⟩
      simp
      have hm : ∃ k : Int, (if 24 - (es.sum : Int) + 1 + (i : Int) - (1 + m) < most then 24 - (es.sum : Int) + 1 + (i : Int) - (1 + m) else most) = k ∧ 1 ≤ k ∧ k ≤ 9 ∧ k ≤ 24 - (es.sum : Int) + 1 + (i : Int) - (1 + m) := ⟨_, rfl, by split <;> omega, by split <;> omega, by split <;> omega⟩
      obtain ⟨k, hk, k1, k9, kk⟩ := hm
      rw [hk]
      generalize hr_ : sp_law_takeB [D.ref _, D.int _] _ = r_
      obtain ⟨f, S4, hq_, a4, b4, w4, hb4⟩ := takeB_of hr_ (by assumption) (by omega) (by omega)
      clear hr_
      subst hq_
      have e1 := strD_fig (i := 1 + f) (S := S4) (by omega) (by omega)
      have e2 := add_str (x := numS es) (y := numS [(1 + f).toNat]) (S := S4) (by simp; omega)
      obtain ⟨es', hes⟩ : ∃ es', es' = es ++ [(1 + f).toNat] := ⟨_, rfl⟩
      have e3 : (24 : Int) - (es.sum : Nat) - (1 + f) = 24 - (es'.sum : Nat) := by rw [hes]; simp; omega
      rw [numS_snoc, ← hes] at e2
      simp [e1, e2, e3]
      refine hQ _ _ ⟨w.trans w4, es', _, _, rfl, by simp [hl, hes], ?_, by rw [hes]; simp; omega⟩
      intro d hd
      rw [hes] at hd
      rcases List.mem_append.mp hd with hd | hd
      · exact hf d hd
      · rw [List.mem_singleton.mp hd]; omega)
  obtain ⟨ρ', S', e, w, es, x5, x6, rfl, hl, hf, hs⟩ := L
  have hrl : (rangeD 0 (1 + m).toNat).length = (1 + m).toNat := by simp [rangeD]
  rw [hrl] at hl hs
  refine ⟨es, S', by simp [e], ⟨by omega, by omega, hf, by omega⟩, w⟩
theorem numB_of {b : Nat} {S : Sto} {r : R D} (hr : sp_law_numB [.ref b] S = r) (hb : Bag2 S b) : ∃ ds S', r = .ok (.str (numS ds)) S' ∧ GoodN ds ∧ Took b S S' ∧ Bag2 S' b := by
  obtain ⟨ds, S', e, h, w⟩ := numB_ev hb
  exact ⟨ds, S', hr ▸ e, h, w, w.1⟩
theorem sIx_neg1 {n d : Nat} : HT.sIx n d (some (-1)) = n - 1 := by
  unfold HT.sIx
  simp
  omega
theorem cut_last {ds : List Nat} : cutS (numS ds) none (some (-1)) = numS ds.dropLast := by
  apply str_ext
  rw [cut_list, HT.sIx_none, sIx_neg1, numS_cps, numS_cps, List.drop_zero, Nat.sub_zero, numS_length, List.dropLast_eq_take, List.map_take]
theorem num_last {ds : List Nat} {d : Nat} {S : Sto} (hl : ds.length < 1000) : ixD (.str (numS (ds ++ [d]))) (.int (-1)) S = .ok (.str (numS [d])) S := by
  have h1 : (numS (ds ++ [d])).length ≤ sizeLine := by rw [sizeL]; simp; omega
  have h2 : atI (numS (ds ++ [d])).cps.toList (-1) = some (d + 48) := by
    rw [numS_cps, List.map_append]
    exact atI_last _ _
  unfold ixD
  simp only [h1, if_true, h2]
  rfl
theorem num_sum {ds : List Nat} (h : ∀ d ∈ ds, 1 ≤ d ∧ d ≤ 9) {ρ : Fr} {S : Sto} {k : Nat} (hk : k < ρ.length) : lcD noG (tN k) tYs (eCall toIntD (aCons (eVar k) (aNil))) ρ (signsD (numS ds)) S = .ok (ds.map fun (d : Nat) => D.int (d : Int)) S := by
  rw [signs_num]
  have := lc_map (g := noG) (tg := tN k) (m := eCall toIntD (aCons (eVar k) (aNil))) (ρ := ρ) (S := S) (fun d => match d with | .str u => .int ((u.cps.getD 0 0 - 48 : Nat)) | _ => .non) trivial (items := ds.map fun d => D.str (numS [d])) (by
    intro d hd
    obtain ⟨e, he, rfl⟩ := List.mem_map.mp hd
    have hf := h e he
    refine ⟨_, rfl, ?_⟩
    have := int_fig hf.1 hf.2 S
    have hg : (ρ.set k (some (D.str (numS [e]))))[k]? = some (some (D.str (numS [e]))) := List.getElem?_set_self hk
    simp only [eCall_ev, aCons_ev, eVar_ev, hg, bind_ok, aNil_ev, this]
    rfl)
  rw [this, List.map_map]
  congr 1
theorem sum_figs (ds : List Nat) (S : Sto) : sumD (ds.map (fun (d : Nat) => D.int (d : Int))) S = .ok (.int (ds.sum : Nat)) S := by
  have := sumD_map (fun (d : Nat) => (d : Int)) ds S
  rw [sum_cast] at this
  exact this
theorem GoodN.snoc {ds : List Nat} (h : GoodN ds) : ∃ es d, ds = es ++ [d] ∧ 1 ≤ d ∧ d ≤ 9 ∧ es.length ≤ 3 ∧ (∀ e ∈ es, 1 ≤ e ∧ e ≤ 9) ∧ es.sum + d ≤ 24 := by
  rcases List.eq_nil_or_concat ds with rfl | ⟨es, d, rfl⟩
  · have := h.pos; simp at this
  · have hs := h.sum
    have hl := h.len
    have hf := h.fig
    simp at hs hl
    exact ⟨es, d, by simp, (hf d (by simp)).1, (hf d (by simp)).2, by omega, fun x hx => hf x (by simp [hx]), by omega⟩
theorem nearB_ev {b : Nat} {S : Sto} {ds : List Nat} (hb : Bag2 S b) (hg : GoodN ds) : ∃ es S', sp_law_nearB [.ref b, .str (numS ds)] S = .ok (.str (numS es)) S' ∧ GoodN es ∧ Took b S S' := by
  obtain ⟨es, d, rfl, h1, h9, hl, hf, hs⟩ := hg.snoc
  have hp := hg.pos
  have hlen : (numS (es ++ [d])).length ≤ 1000 := by simp; omega
  have hlen2 : (numS (es ++ [d])).length ≤ sizeLine := by rw [sizeL]; omega
  have hsg : (signsD (numS (es ++ [d]))).length ≤ 16777216 := by rw [signs_num]; simp; omega
  have hi0 : ∀ (k : Nat) (S : Sto), 1 ≤ k → k ≤ 9 → toIntD [.str (numS [k])] S = .ok (.int k) S := fun k S a b => int_fig a b S
  have hns : ∀ (ρ : Fr) (S : Sto), ρ.length = 6 → lcD noG (tN 5) tYs (eCall toIntD (aCons (eVar 5) (aNil))) ρ (signsD (numS (es ++ [d]))) S = .ok ((es ++ [d]).map fun (d : Nat) => D.int (d : Int)) S := fun ρ S h => num_sum hg.fig (k := 5) (by omega)
  unfold sp_law_nearB m_law_nearB
  generalize toIntD = tI at hi0 hns ⊢
  simp [sizeL]
  generalize hr_ : sp_law_takeB [D.ref _, D.int _] _ = r_
  obtain ⟨way, S1, hq_, a1, b1, w1, hb1⟩ := takeB_of hr_ (by assumption) (by omega) (by omega)
  clear hr_
  subst hq_
  have hns1 := hns [some (.ref b), some (.str (numS (es ++ [d]))), some (.int way), some (.int d), none, none] S1 rfl
  have hsum := sum_figs (es ++ [d]) S1
  have hsl := sl_str (lo := none) (hi := some (-1)) (S := S1) hlen
  rw [cut_last, List.dropLast_concat] at hsl
  simp only [List.sum_append_nat, List.sum_cons, List.sum_nil, Nat.add_zero] at hsum
  have hL := lenD_str (S := S1) hlen2
  simp only [numS_length, List.length_append, List.length_cons, List.length_nil] at hL
  have hone : (Str.ofString "1").length = 1 := by decide +kernel
  have ha1 := add_str (x := numS (es ++ [d])) (y := Str.ofString "1") (S := S1) (by rw [hone]; simp; omega)
  have ha2 := fun k => add_str (x := numS es) (y := numS [k]) (S := S1) (by simp; omega)
  have e1 : Str.ofString "1" = numS [1] := by decide +kernel
  rw [e1, numS_snoc] at ha1
  simp only [numS_snoc] at ha2
  have fin : ∀ k : Nat, 1 ≤ k → k ≤ 9 → es.sum + k ≤ 24 → GoodN (es ++ [k]) := fun k k1 k9 ks => ⟨by simp, by simp; omega, fun x hx => by
    rcases List.mem_append.mp hx with hx | hx
    · exact hf x hx
    · rw [List.mem_singleton.mp hx]; exact ⟨k1, k9⟩, by simp; omega⟩
  simp only [List.map_append, List.map_cons, List.map_nil] at hsum hns1
  simp [num_last (show es.length < 1000 by omega), hi0 d S1 h1 h9, hsg, hns1, hsum, hsl, hL, e1, ha1, sizeL]
  by_cases c0 : way = 0 ∧ (1 : Int) < (es.length : Int) + 1
  · rw [if_pos c0]
    exact ⟨es, S1, rfl, ⟨by omega, by omega, hf, by omega⟩, w1⟩
  rw [if_neg c0]
  simp [hL, ha1]
  by_cases c1 : way = 1 ∧ (es.length : Int) + 1 < 4 ∧ (es.sum : Int) + d < 24
  · rw [if_pos c1]
    refine ⟨es ++ d :: [1], S1, rfl, ⟨by simp, by simp; omega, fun x hx => ?_, by simp; omega⟩, w1⟩
    rcases List.mem_append.mp hx with hx | hx
    · exact hf x hx
    · rcases List.mem_cons.mp hx with rfl | hx
      · omega
      · rw [List.mem_singleton.mp hx]; omega
  rw [if_neg c1]
  simp [hL, hsl]
  split
  · rename_i c2
    have e2 := strD_fig (i := (d : Int) - 1) (S := S1) (by omega) (by omega)
    have e3 : ((d : Int) - 1).toNat = d - 1 := by omega
    rw [e3] at e2
    simp [e2, ha2]
    exact ⟨es ++ [d - 1], S1, ⟨rfl, rfl⟩, fin _ (by omega) (by omega) (by omega), w1⟩
  simp [hsl]
  split
  · rename_i c3
    have e2 := strD_fig (i := (d : Int) + 1) (S := S1) (by omega) (by omega)
    have e3 : ((d : Int) + 1).toNat = d + 1 := by omega
    rw [e3] at e2
    simp [e2, ha2]
    exact ⟨es ++ [d + 1], S1, ⟨rfl, rfl⟩, fin _ (by omega) (by omega) (by omega), w1⟩
  simp
  exact ⟨es ++ [d], S1, ⟨rfl, rfl⟩, hg, w1⟩
theorem nearB_of {b : Nat} {S : Sto} {ds : List Nat} {r : R D} (hr : sp_law_nearB [.ref b, .str (numS ds)] S = r) (hb : Bag2 S b) (hg : GoodN ds) : ∃ es S', r = .ok (.str (numS es)) S' ∧ GoodN es ∧ Took b S S' ∧ Bag2 S' b := by
  obtain ⟨ds, S', e, h, w⟩ := nearB_ev hb hg
  exact ⟨ds, S', hr ▸ e, h, w, w.1⟩
end CW

namespace CW
open PySem PySem.Spec PyProof.Rows L2 MM
theorem Took.split {b : Nat} {S T S2 : Sto} (h : Took b (S ++ T) S2) (hb : b < S.length) : ∃ S1, S2 = S1 ++ T ∧ Took b S S1 ∧ Bag2 S1 b := by
  obtain ⟨⟨a, m, g, r⟩, l, rfl⟩ := h
  rw [List.set_append_left _ _ hb] at g ⊢
  rw [List.getElem?_append_left (by simpa using hb)] at g
  exact ⟨_, rfl, ⟨⟨a, m, g, r⟩, l, rfl⟩, ⟨a, m, g, r⟩⟩
theorem Took.lt {b : Nat} {S S' : Sto} (h : Took b S S') : b < S.length := by
  have := h.1.lt
  rw [h.len] at this
  exact this
theorem Took.kept {b : Nat} {S S' : Sto} (h : Took b S S') : Kept S S' := by
  have hlt := h.lt
  obtain ⟨⟨a, m, g, r⟩, l, rfl⟩ := h
  rw [List.getElem?_set_self hlt] at g
  cases g
  exact Kept.set (by simp)
theorem inL_num {ds : List Nat} : ∀ {l : List (List Nat)}, inL (.str (numS ds)) (nD l) = decide (ds ∈ l)
  | [] => by simp [inL, nD]
  | e :: l => by
    have ih := inL_num (ds := ds) (l := l)
    unfold inL nD at ih ⊢
    rw [List.map_cons, List.any_cons, ih]
    have : eqF (.str (numS e)) (.str (numS ds)) = decide (ds = e) := by
      show (numS e == numS ds) = _
      by_cases h : ds = e
      · subst h; simp
      · have hn : numS e ≠ numS ds := fun q => h (numS_inj q).symm
        simp [h, hn]
    rw [this]
    by_cases h : ds = e <;> simp [h]
theorem flat_nD {l : List (List Nat)} : (nD l).all flatD = true := by
  rw [List.all_eq_true]
  intro d hd
  obtain ⟨e, _, rfl⟩ := List.mem_map.mp hd
  rfl
theorem notIn_num {ds : List Nat} {l : List (List Nat)} {x : D} {S : Sto} (h : lstOf S x = some (nD l)) (hx : ∀ u, x ≠ .str u) (ht : ∀ u, x ≠ .tup u) : notInD (.str (numS ds)) x S = .ok (.bl (!decide (ds ∈ l))) S := by
  have : inB S (.str (numS ds)) x = some (decide (ds ∈ l)) := by
    cases x with
    | str u => exact absurd rfl (hx u)
    | tup u => exact absurd rfl (ht u)
    | _ => (first | (cases h; done) | (unfold inB; simp only [h, flat_nD, flatD, and_self, if_true, inL_num]))
  unfold notInD
  rw [this]
theorem bdL_nD {n : Nat} {l : List (List Nat)} : bdL n (nD l) := by
  rw [bdL_iff]
  intro d hd
  obtain ⟨e, _, rfl⟩ := List.mem_map.mp hd
  simp
/-- unlike numbers -/
structure Nums (l : List (List Nat)) : Prop where
  good : ∀ ds ∈ l, GoodN ds
  nd : l.Nodup
  pos : 1 ≤ l.length
theorem numbersB_ev {b : Nat} {S : Sto} {many : Int} (hb : Bag2 S b) (h1 : 1 ≤ many) (h2 : many ≤ 1000) : ∃ l S', sp_law_numbersB [.ref b, .int many] S = .ok (.pl (nD l)) S' ∧ Nums l ∧ (l.length : Int) ≤ many ∧ Took b S S' := by
  have raw : ∃ l S1, body 6 m_law_numbersB [.ref b, .int many] S = .ok (.ref S.length) (S1 ++ [.lst false (nD l)]) ∧ Nums l ∧ (l.length : Int) ≤ many ∧ Took b S S1 := by
    unfold m_law_numbersB
    simp [sizeL]
    generalize hr_ : sp_law_numB [D.ref _] _ = r_
    obtain ⟨ds, S1, hq_, hg, w1, hb1⟩ := numB_of hr_ (by assumption)
    clear hr_
    subst hq_
    have hwd : Wd (2 * many) := wd_of (by omega) (by omega)
    have hm : ∀ S, mulD (.int 2) (.int many) S = .ok (.int (2 * many)) S := fun S => mulD_l (by decide)
    simp [sizeL, hwd, hm]
    have hl1 := w1.len
    rw [hl1]
    generalize hB : sSeq (sSet 4 _) _ = B
    have L := for_nx (g := noG) (tg := tN 3) (b := B) (items := rangeD 0 (2 * many).toNat) (ρ := [some (.ref b), some (.int many), some (.ref S.length), none, none, none]) (S := S1 ++ [.lst false [.str (numS ds)]])
      (fun i ρ S' => ∃ l S1 x3 x4 x5, S' = S1 ++ [.lst false (nD l)] ∧ ρ = [some (.ref b), some (.int many), some (.ref S.length), x3, x4, x5] ∧ Nums l ∧ (l.length : Int) ≤ many ∧ Took b S S1)
      ⟨[ds], S1, none, none, none, rfl, rfl, ⟨by simpa using hg, by simp, by simp⟩, by simpa using h1, w1⟩ (fun _ _ _ _ => trivial) (by
        rintro i d ρ S' hd ⟨l, S1, x3, x4, x5, rfl, rfl, hn, hlm, w⟩
        obtain ⟨hi, rfl⟩ := range_get hd
        have hlt : b < S1.length := w.1.lt
        have hb' : Bag2 (S1 ++ [.lst false (nD l)]) b := w.1.app _
        subst hB
        refine ⟨_, rfl, nx_of fun Q hQ => ?_⟩
        simp
        generalize hr_ : sp_law_takeB [D.ref _, D.int _] _ = r_
        obtain ⟨near, S2, hq_, a2, b2, w2, hb2⟩ := takeB_of hr_ (by assumption) (by omega) (by omega)
        clear hr_
        subst hq_
        obtain ⟨S2, rfl, w2, _⟩ := w2.split hlt
        simp
        generalize hr_ : sp_law_numB [D.ref _] _ = r_
        obtain ⟨es, S3, hq_, hge, w3, hb3⟩ := numB_of hr_ (by assumption)
        clear hr_
        subst hq_
        obtain ⟨S3, rfl, w3, _⟩ := w3.split w2.1.lt
        have w03 := (w.trans w2).trans w3
        have fin : ∀ (es : List Nat) (S4 : Sto) (x3 x4 : Option D), GoodN es → Took b S S4 → Nx (sIf (tAn (tV (eBin ltD (eCall lenD (aCons (eVar 2) (aNil))) (eVar 1))) (tV (eBin notInD (eVar 5) (eVar 2)))) (sExpr (eMeth isLstD appendD (eVar 2) (aCons (eVar 5) (aNil)))) (sPass) [some (.ref b), some (.int many), some (.ref S.length), x3, x4, some (.str (numS es))] (S4 ++ [.lst false (nD l)])) Q := by
          intro es S4 x3 x4 hes w4
          have hl4 := w4.len
          have q4 : (S4 ++ [O.lst false (nD l)])[S.length]? = some (.lst false (nD l)) := by rw [← hl4]; simp
          have e1 := lenD_ref q4
          have e2 := notIn_num (ds := es) (l := l) (x := .ref S.length) (S := S4 ++ [O.lst false (nD l)]) (by simp [q4]) (fun _ h => nomatch h) (fun _ h => nomatch h)
          have e3 := append_ev (d := .str (numS es)) q4 (by rw [nD_length, sizeL]; omega)
          have e4 := isLst_ev q4
          have e5 : nD l ++ [D.str (numS es)] = nD (l ++ [es]) := by simp [nD]
          rw [e5, ← hl4, set_last, hl4] at e3
          simp [e1, e2, e3, e4]
          split
          · rename_i hc
            simp
            refine hQ _ _ ⟨l ++ [es], S4, _, _, _, rfl, rfl, ⟨fun x hx => ?_, ?_, by simp⟩, by simp; omega, w4⟩
            · rcases List.mem_append.mp hx with hx | hx
              · exact hn.good x hx
              · rw [List.mem_singleton.mp hx]; exact hes
            · rw [List.nodup_append]
              refine ⟨hn.nd, by simp, fun x hx y hy e => ?_⟩
              rw [List.mem_singleton.mp hy] at e
              exact hc.2 (e ▸ hx)
          · simp
            exact hQ _ _ ⟨l, S4, _, _, _, rfl, rfl, hn, hlm, w4⟩
        simp
        by_cases hnear : near = 1
        · have hl3 := w03.len
          have q3 : (S3 ++ [O.lst false (nD l)])[S.length]? = some (.lst false (nD l)) := by rw [← hl3]; simp
          have e1 := lenD_ref q3
          have hpos := hn.pos
          simp [hnear, e1]
          generalize hr_ : sp_law_takeB [D.ref _, D.int _] _ = r_
          obtain ⟨j, S4, hq_, a4, b4, w4, hb4⟩ := takeB_of hr_ (by assumption) (by omega) (by omega)
          clear hr_
          subst hq_
          obtain ⟨S4, rfl, w4, _⟩ := w4.split w03.1.lt
          have hl4 := (w03.trans w4).len
          have q4 : (S4 ++ [O.lst false (nD l)])[S.length]? = some (.lst false (nD l)) := by rw [← hl4]; simp
          obtain ⟨x, hx, ex⟩ := atI_mem (l := nD l) a4 (by rw [nD_length]; exact b4)
          obtain ⟨es2, hes2, rfl⟩ := List.mem_map.mp hx
          simp [ixD_ref q4, ex]
          generalize hr : sp_law_nearB [D.ref _, D.str _] _ = r
          obtain ⟨es3, S5, hq, hg5, w5, hb5⟩ := nearB_of hr (by assumption) (hn.good es2 hes2)
          clear hr
          subst hq
          obtain ⟨S5, rfl, w5, _⟩ := w5.split w4.1.lt
          simp
          simpa using fin es3 S5 _ _ hg5 ((w03.trans w4).trans w5)
        · simp [hnear]
          simpa using fin es S3 _ _ hge w03)
    obtain ⟨ρ', S', e, l, S1, x3, x4, x5, rfl, rfl, hn, hlm, w⟩ := L
    exact ⟨l, S1, by simp [e], hn, hlm, w⟩
  obtain ⟨l, S1, e, hn, hlm, w⟩ := raw
  refine ⟨l, S1, ?_, hn, hlm, w⟩
  show gc S _ = _
  rw [e]
  exact gc_new w.len w.kept rfl bdL_nD
end CW

namespace CW
open PySem PySem.Spec PyProof.Rows L2 MM
end CW

namespace CW
open PySem PySem.Spec PyProof.Rows L2 MM
inductive Pc where
  | rnd (ds : List Nat) | odd (n : Nat) | spoilt (n : Nat) | begun (n : Nat) | quiet (n : Nat) | key (n : Nat)
def Pc.d : Pc → D
  | .rnd ds => .tup [.str (Str.ofString "round"), .str (numS ds)]
  | .odd n => .tup [.str (Str.ofString "odd"), .int n]
  | .spoilt n => .tup [.str (Str.ofString "spoilt"), .int n]
  | .begun n => .tup [.str (Str.ofString "begun"), .int n]
  | .quiet n => .tup [.str (Str.ofString "quiet"), .int n]
  | .key n => .tup [.str (Str.ofString "key"), .int n]
def Pc.ticks : Pc → Nat
  | .rnd ds => (rowN ds).length
  | .odd n => n
  | .spoilt n => n
  | .begun n => n
  | .quiet n => n
  | .key n => n
/-- like signs from here on -/
def runL (x : Int) : List Int → Nat
  | [] => 0
  | y :: r => if y = x then runL x r + 1 else 0
/-- a piece that begins with a break: how long, how many quiet ticks at its end -/
def brk : Nat → List Int → Nat × Nat
  | q, [] => (0, q)
  | q, x :: r => if x ≠ 2 ∧ q < 5 then ((brk (if x = 0 then q + 1 else 0) r).1 + 1, (brk (if x = 0 then q + 1 else 0) r).2) else (0, q)
open Classical in
noncomputable def numR (bits : List Int) : Option (List Nat) := if h : ∃ ds, GoodN ds ∧ bits = rowN ds then some (Classical.choose h) else none
/-- the first piece of a tape -/
noncomputable def piece1 (t : List Int) : Pc := match t with
  | [] => .quiet 0
  | x :: _ => if x = 1 then (if (brk 0 t).2 < 5 then (if (brk 0 t).1 < t.length then .spoilt (brk 0 t).1 else .begun (brk 0 t).1) else (match numR (t.take (brk 0 t).1) with | some ds => .rnd ds | none => .odd (brk 0 t).1))
    else if x = 2 then .key (runL x t) else .quiet (runL x t)
def len1 (t : List Int) : Nat := match t with
  | [] => 0
  | x :: _ => if x = 1 then (brk 0 t).1 else runL x t
noncomputable def ptF : Nat → List Int → List Pc
  | 0, _ => []
  | n + 1, t => match t with
    | [] => []
    | x :: r => piece1 (x :: r) :: ptF n ((x :: r).drop (len1 (x :: r)))
noncomputable def pt (t : List Int) : List Pc := ptF t.length t
@[simp] theorem pt_nil : pt [] = [] := rfl
def Pc.Ok (p : Pc) : Prop := ∀ ds, p = .rnd ds → GoodN ds
end CW

namespace CW
open PySem PySem.Spec PyProof.Rows L2 MM
mutual
def plD : Nat → D → Prop
  | _, .non => True
  | _, .bl _ => True
  | _, .int _ => True
  | _, .str x => PyData.strOk x = true
  | _, .ref _ => False
  | _, .scr _ => False
  | 0, .tup _ => False
  | 0, .pl _ => False
  | n + 1, .tup l => plL n l
  | n + 1, .pl l => plL n l
def plL : Nat → List D → Prop
  | _, [] => True
  | n, d :: ds => plD n d ∧ plL n ds
end
theorem plL_iff {n : Nat} : ∀ {l : List D}, plL n l ↔ ∀ d ∈ l, plD n d
  | [] => by unfold plL; simp
  | d :: r => by
    unfold plL
    rw [plL_iff]
    simp
mutual
theorem plD_toP : ∀ (n : Nat) (d : D), plD n d → ∃ p, toP d = some p ∧ p.depth ≤ n ∧ p.canLay0 = true
  | n, .non, h => ⟨_, by unfold toP; rfl, by simp [PyData.depth], by simp [PyData.canLay0]⟩
  | n, .bl _, h => ⟨_, by unfold toP; rfl, by simp [PyData.depth], by simp [PyData.canLay0]⟩
  | n, .int _, h => ⟨_, by unfold toP; rfl, by simp [PyData.depth], by simp [PyData.canLay0]⟩
  | n, .str x, h => by
    unfold plD at h
    exact ⟨_, by unfold toP; rw [if_pos h], by simp [PyData.depth], by simpa [PyData.canLay0] using h⟩
  | n, .ref _, h => by unfold plD at h; exact h.elim
  | n, .scr _, h => by unfold plD at h; exact h.elim
  | 0, .tup _, h => by unfold plD at h; exact h.elim
  | 0, .pl _, h => by unfold plD at h; exact h.elim
  | n + 1, .tup l, h => by
    unfold plD at h
    obtain ⟨ps, e, hd, hc⟩ := plL_toP n l h
    exact ⟨.tuple ps, by unfold toP; rw [e]; rfl, by simp [PyData.depth]; omega, by simpa [PyData.canLay0] using hc⟩
  | n + 1, .pl l, h => by
    unfold plD at h
    obtain ⟨ps, e, hd, hc⟩ := plL_toP n l h
    exact ⟨.list ps, by unfold toP; rw [e]; rfl, by simp [PyData.depth]; omega, by simpa [PyData.canLay0] using hc⟩
theorem plL_toP : ∀ (n : Nat) (l : List D), plL n l → ∃ ps, toPl l = some ps ∧ PyData.depthAll ps ≤ n ∧ PyData.canLayAll0 ps = true
  | n, [], h => ⟨[], by unfold toPl; rfl, by simp [PyData.depthAll], by simp [PyData.canLayAll0]⟩
  | n, d :: ds, h => by
    unfold plL at h
    obtain ⟨p, e1, d1, c1⟩ := plD_toP n d h.1
    obtain ⟨ps, e2, d2, c2⟩ := plL_toP n ds h.2
    exact ⟨p :: ps, by unfold toPl; rw [e1, e2], by simp [PyData.depthAll]; omega, by simp [PyData.canLayAll0, c1, c2]⟩
end
theorem view_pl {S : Sto} {d : D} (h : ∀ n, d ≠ .ref n) : view S d = toP d := by
  cases d <;> first | rfl | exact absurd rfl (h _)
/-- a thing is like itself -/
theorem eqB_same {S : Sto} {d : D} {n : Nat} (h : plD n d) (hn : n ≤ 64) : eqB S d d = some true := by
  obtain ⟨p, e, hd, hc⟩ := plD_toP n d h
  have hr := PySem.SeqAt.eqv_refl p hc
  unfold eqB
  split
  · cases d <;> first | (simp [sameD]; done) | (simp [scalD] at *; done)
  · rw [view_pl (fun k q => by rw [q] at h; unfold plD at h; exact h), e]
    simp only
    rw [if_pos ⟨by omega, by omega⟩, hr]
theorem ne_same {S : Sto} {d : D} {n : Nat} (h : plD n d) (hn : n ≤ 64) : neD d d S = .ok (.bl false) S := by
  unfold neD
  rw [eqB_same h hn]
  rfl
theorem strOk_num (ds : List Nat) (h : ∀ d ∈ ds, d ≤ 9) : PyData.strOk (numS ds) = true := Uni.ok fun c hc => by
  rw [numS_cps] at hc
  obtain ⟨d, hd, rfl⟩ := List.mem_map.mp hc
  have := h d hd
  omega
theorem GoodN.strOk {ds : List Nat} (h : GoodN ds) : PyData.strOk (numS ds) = true := strOk_num ds fun d hd => (h.fig d hd).2
end CW

namespace CW
open PySem PySem.Spec PyProof.Rows L2 MM
def qaft : Nat → List Int → Nat
  | q, [] => q
  | q, x :: r => qaft (if x = 0 then q + 1 else 0) r
def calm : Nat → List Int → Prop
  | _, [] => True
  | q, x :: r => x ≠ 2 ∧ q < 5 ∧ calm (if x = 0 then q + 1 else 0) r
instance (ds : List Nat) : Decidable (GoodN ds) := if h : 1 ≤ ds.length ∧ ds.length ≤ 4 ∧ (∀ d ∈ ds, 1 ≤ d ∧ d ≤ 9) ∧ ds.sum ≤ 24 then .isTrue ⟨h.1, h.2.1, h.2.2.1, h.2.2.2⟩ else .isFalse fun g => h ⟨g.pos, g.len, g.fig, g.sum⟩
inductive Sg : Pc → List Int → Prop
  | rnd {ds : List Nat} (h : GoodN ds) : Sg (.rnd ds) (rowN ds)
  | quiet {n : Nat} (h : 1 ≤ n) : Sg (.quiet n) (List.replicate n 0)
  | key {n : Nat} (h : 1 ≤ n) : Sg (.key n) (List.replicate n 2)
  | spoilt {ds : List Nat} {n : Nat} (h : GoodN ds) (h1 : 1 ≤ n) (hn : n < (rowN ds).length) : Sg (.spoilt n) ((rowN ds).take n)
  | begun {ds : List Nat} {n : Nat} (h : GoodN ds) (h1 : 1 ≤ n) (hn : n < (rowN ds).length) : Sg (.begun n) ((rowN ds).take n)
  | odd {s : List Int} (h : calm 0 s) (hq : qaft 0 s = 5) (h1 : ∃ r, s = 1 :: r) (hn : numR s = none) : Sg (.odd s.length) s
def Pc.isQ : Pc → Bool
  | .quiet _ => true
  | _ => false
def Pc.isK : Pc → Bool
  | .key _ => true
  | _ => false
theorem Sg.ticks {p : Pc} {s : List Int} (h : Sg p s) : p.ticks = s.length := by
  cases h <;> simp [Pc.ticks] <;> omega
theorem Sg.ok {p : Pc} {s : List Int} (h : Sg p s) : p.Ok := by
  intro ds e
  cases h <;> cases e
  assumption
abbrev LP := Pc × List Int
/-- one piece behind another -/
def Next (p : Pc) (l : List LP) : Prop := match p with
  | .quiet _ => ∀ q r, l = q :: r → q.1.isQ = false
  | .key _ => ∀ q r, l = q :: r → q.1.isK = false
  | .spoilt _ => ∃ q r, l = q :: r ∧ q.1.isK = true
  | .begun _ => l = []
  | _ => True
def Good : List LP → Prop
  | [] => True
  | p :: r => Sg p.1 p.2 ∧ Next p.1 r ∧ Good r
end CW

namespace CW
open PySem PySem.Spec PyProof.Rows L2 MM
def Pc.w : Pc → Str
  | .rnd _ => Str.ofString "round"
  | .odd _ => Str.ofString "odd"
  | .spoilt _ => Str.ofString "spoilt"
  | .begun _ => Str.ofString "begun"
  | .quiet _ => Str.ofString "quiet"
  | .key _ => Str.ofString "key"
def Pc.h : Pc → D
  | .rnd ds => .str (numS ds)
  | .odd n => .int n
  | .spoilt n => .int n
  | .begun n => .int n
  | .quiet n => .int n
  | .key n => .int n
def lpD (x : LP) : D := .tup [.str x.1.w, x.1.h, .pl (iD x.2)]
def Pc.isB : Pc → Bool
  | .begun _ => true
  | _ => false
def Fit (y : Pc) (m : List LP) : Prop := ∀ q r, m = q :: r → (y.isQ = true → q.1.isQ = false) ∧ (y.isK = true → q.1.isK = false) ∧ y.isB = false
theorem good_app : ∀ (l m : List LP), Good l → Good m → (∀ y, l.getLast? = some y → Fit y.1 m) → Good (l ++ m)
  | [], m, _, hm, _ => hm
  | p :: l, m, hl, hm, hf => by
    obtain ⟨h1, h2, h3⟩ := hl
    refine ⟨h1, ?_, good_app l m h3 hm fun y hy => hf y (by
      cases l with
      | nil => cases hy
      | cons a b => rw [List.getLast?_cons_cons]; exact hy)⟩
    cases l with
    | cons a b =>
      obtain ⟨p, s⟩ := p
      cases p with
      | quiet n => exact fun q r e => by cases e; exact h2 _ _ rfl
      | key n => exact fun q r e => by cases e; exact h2 _ _ rfl
      | spoilt n => obtain ⟨q, r, e, hk⟩ := h2; cases e; exact ⟨_, _, rfl, hk⟩
      | begun n => cases h2
      | rnd ds => trivial
      | odd n => trivial
    | nil =>
      have hf' := hf p rfl
      obtain ⟨p, s⟩ := p
      cases p with
      | quiet n => exact fun q r e => (hf' q r e).1 rfl
      | key n => exact fun q r e => (hf' q r e).2.1 rfl
      | spoilt n => obtain ⟨q, r, e, hk⟩ := h2; cases e
      | begun n =>
        cases m with
        | nil => rfl
        | cons q r => exact absurd (hf' q r rfl).2.2 (by simp [Pc.isB])
      | rnd ds => trivial
      | odd n => trivial
def noB (l : List LP) : Prop := ∀ y, l.getLast? = some y → y.1.isB = false
instance calmDec : ∀ (q : Nat) (l : List Int), Decidable (calm q l)
  | _, [] => .isTrue trivial
  | q, x :: r => match calmDec (if x = 0 then q + 1 else 0) r with
    | .isTrue h => if h2 : x ≠ 2 ∧ q < 5 then .isTrue ⟨h2.1, h2.2, h⟩ else .isFalse fun g => h2 ⟨g.1, g.2.1⟩
    | .isFalse h => .isFalse fun g => h g.2.2
end CW

namespace CW
open PySem PySem.Spec PyProof.Rows L2 MM
theorem set_right {S T : Sto} {n : Nat} {o : O} (h : S.length ≤ n) : (S ++ T).set n o = S ++ T.set (n - S.length) o := List.set_append_right _ _ h
theorem get_right {S T : Sto} {n : Nat} (h : S.length ≤ n) : (S ++ T)[n]? = T[n - S.length]? := List.getElem?_append_right h
/-- the list of pieces stands at n, behind the first k objects -/
structure At (b : Nat) (S : Sto) (l : List LP) (n : Nat) (S' : Sto) : Prop where
  ex : ∃ S1 T, S' = S1 ++ T ∧ Took b S S1 ∧ T[n - S.length]? = some (.lst false (l.map lpD))
  le : S.length ≤ n
  bd : ∀ x ∈ l, x.2.length ≤ 100
theorem At.get {b : Nat} {S : Sto} {l : List LP} {n : Nat} {S' : Sto} (h : At b S l n S') : S'[n]? = some (.lst false (l.map lpD)) := by
  obtain ⟨⟨S1, T, rfl, w, e⟩, hl, hbd⟩ := h
  rw [get_right (by rw [w.len]; exact hl), w.len, e]
theorem At.bag {b : Nat} {S : Sto} {l : List LP} {n : Nat} {S' : Sto} (h : At b S l n S') : Bag2 S' b := by
  obtain ⟨⟨S1, T, rfl, w, e⟩, hl, hbd⟩ := h
  exact w.1.app _
theorem bd_app {l m : List LP} (h : ∀ x ∈ l, x.2.length ≤ 100) (g : ∀ x ∈ m, x.2.length ≤ 100) : ∀ x ∈ l ++ m, x.2.length ≤ 100 := fun x hx => (List.mem_append.mp hx).elim (h x) (g x)
theorem At.app {b : Nat} {S : Sto} {l m : List LP} {n : Nat} {S' : Sto} (h : At b S l n S') (hm : ∀ x ∈ m, x.2.length ≤ 100) : At b S (l ++ m) n (S'.set n (.lst false (l.map lpD ++ m.map lpD))) := by
  obtain ⟨⟨S1, T, rfl, w1, e⟩, hl, hbd⟩ := h
  refine ⟨⟨S1, T.set (n - S.length) (.lst false (l.map lpD ++ m.map lpD)), by rw [set_right (by rw [w1.len]; exact hl), w1.len], w1, ?_⟩, hl, bd_app hbd hm⟩
  rw [List.getElem?_set_self (List.getElem?_eq_some_iff.mp e).1]
  simp
theorem At.new {b : Nat} {S : Sto} {l m : List LP} {n : Nat} {S' : Sto} (h : At b S l n S') (hm : ∀ x ∈ m, x.2.length ≤ 100) : At b S (l ++ m) S'.length (S' ++ [.lst false (l.map lpD ++ m.map lpD)]) := by
  obtain ⟨⟨S1, T, rfl, w1, e⟩, hl, hbd⟩ := h
  have := w1.len
  refine ⟨⟨S1, T ++ [.lst false (l.map lpD ++ m.map lpD)], by simp, w1, ?_⟩, by simp; omega, bd_app hbd hm⟩
  rw [List.length_append, w1.len, Nat.add_sub_cancel_left, List.getElem?_append_right (Nat.le_refl _)]
  simp
/-- what is added at the end -/
theorem Good.snoc {l m : List LP} (hl : Good l) (hb : noB l) (hm : Good m) (h : ∀ y, l.getLast? = some y → ∀ q r, m = q :: r → (y.1.isQ = true → q.1.isQ = false) ∧ (y.1.isK = true → q.1.isK = false)) : Good (l ++ m) :=
  good_app l m hl hm fun y hy q r e => ⟨(h y hy q r e).1, (h y hy q r e).2, hb y hy⟩
end CW

namespace CW
open PySem PySem.Spec PyProof.Rows L2 MM
end CW

namespace CW
open PySem PySem.Spec PyProof.Rows L2 MM
/-- only the bag at b was changed; things were made -/
def Grew (b : Nat) (S S' : Sto) : Prop := BagAt S' b ∧ S.length ≤ S'.length ∧ ∀ n, n < S.length → n ≠ b → S'[n]? = S[n]?
theorem Drew.grew {b : Nat} {S S' : Sto} (h : Drew b S S') : Grew b S S' := ⟨h.1, by rw [h.len]; exact Nat.le_refl _, fun n _ hb => h.get hb⟩
theorem Grew.refl {b : Nat} {S : Sto} (h : BagAt S b) : Grew b S S := ⟨h, Nat.le_refl _, fun _ _ _ => rfl⟩
theorem Grew.trans {b : Nat} {S S1 S2 : Sto} (h : Grew b S S1) (g : Grew b S1 S2) : Grew b S S2 := ⟨g.1, Nat.le_trans h.2.1 g.2.1, fun n hn hb => by rw [g.2.2 n (by have := h.2.1; omega) hb, h.2.2 n hn hb]⟩
theorem BagAt.app {b : Nat} {S : Sto} (h : BagAt S b) (T : Sto) : BagAt (S ++ T) b := by
  have := h.lt
  obtain ⟨a, m, k, e, r⟩ := h
  exact ⟨a, m, k, by rw [List.getElem?_append_left this, e], r⟩
theorem Grew.app {b : Nat} {S S' : Sto} (h : Grew b S S') (T : Sto) : Grew b S (S' ++ T) := ⟨h.1.app T, by have := h.2.1; simp; omega, fun n hn hb => by rw [List.getElem?_append_left (by have := h.2.1; omega), h.2.2 n hn hb]⟩
end CW

namespace CW
open PySem PySem.Spec PyProof.Rows L2 MM
end CW

namespace CW
open PySem PySem.Spec PyProof.Rows L2 MM
end CW

namespace CW
open PySem PySem.Spec PyProof.Rows L2 MM
end CW

namespace CW
open PySem PySem.Spec PyProof.Rows L2 MM
end CW

namespace CW
open PySem PySem.Spec PyProof.Rows L2 MM
section
variable {ρ : Fr} {S : Sto} {a b o i e x : ME} {l : ML} {m n : MS} {k : Nat} {f : Str}
@[simp] theorem then_ex {c : Nat} {q : Fr → Sto → RS} : (RS.ex c ρ S).then q = .ex c ρ S := rfl
end
theorem valD_cons (k j : Key) (d : D) (l : List (Key × D)) : valD ((k, d) :: l) j = if k = j then some d else valD l j := by
  unfold valD
  rw [List.find?_cons]
  by_cases h : k = j <;> simp [h]
theorem valD_any (l : List (Key × D)) (k : Key) : (l.any fun kv => decide (kv.1 = k)) = (valD l k).isSome := by
  induction l with
  | nil => rfl
  | cons x l ih =>
    obtain ⟨j, d⟩ := x
    rw [List.any_cons, valD_cons, ih]
    by_cases h : j = k <;> simp [h]
theorem valD_put (l : List (Key × D)) (k j : Key) (v : D) : valD (putD l k v) j = if k = j then some v else valD l j := by
  unfold putD
  rw [valD_any]
  cases hv : valD l k with
  | none =>
    simp only [Option.isSome_none, Bool.false_eq_true, if_false]
    have : ∀ (l : List (Key × D)), valD l k = none → valD (l ++ [(k, v)]) j = if k = j then some v else valD l j := by
      intro l
      induction l with
      | nil => intro _; rw [List.nil_append, valD_cons]
      | cons x l ih =>
        obtain ⟨i, d⟩ := x
        intro h
        rw [valD_cons] at h
        by_cases hi : i = k
        · rw [if_pos hi] at h; cases h
        · rw [if_neg hi] at h
          rw [List.cons_append, valD_cons, ih h, valD_cons]
          by_cases hij : i = j
          · rw [if_pos hij, if_pos hij, if_neg (fun e => hi (hij.trans e.symm))]
          · rw [if_neg hij, if_neg hij]
    exact this l hv
  | some d0 =>
    simp only [Option.isSome_some, if_true]
    have : ∀ (l : List (Key × D)) d0, valD l k = some d0 → valD (l.map fun kv => if kv.1 = k then (kv.1, v) else kv) j = if k = j then some v else valD l j := by
      intro l
      induction l with
      | nil => intro d0 h; cases h
      | cons x l ih =>
        obtain ⟨i, d⟩ := x
        intro d0 h
        rw [List.map_cons, valD_cons i j]
        by_cases hi : i = k
        · subst hi
          simp only [if_true]
          rw [valD_cons]
          by_cases hij : i = j
          · rw [if_pos hij, if_pos hij]
          · rw [if_neg hij, if_neg hij, if_neg hij]
            have : ∀ (l : List (Key × D)), valD (l.map fun kv => if kv.1 = i then (kv.1, v) else kv) j = valD l j := by
              intro l
              induction l with
              | nil => rfl
              | cons y l ih2 =>
                obtain ⟨i2, d2⟩ := y
                rw [List.map_cons, valD_cons i2 j]
                by_cases h2 : i2 = i
                · simp only [h2, if_true]
                  rw [valD_cons, if_neg hij, if_neg hij, ih2]
                · simp only [h2, if_false]
                  rw [valD_cons, ih2]
            exact this l
        · simp only [hi, if_false]
          rw [valD_cons] at h
          rw [if_neg hi] at h
          rw [valD_cons, ih d0 h]
          by_cases hij : i = j
          · rw [if_pos hij, if_pos hij, if_neg (fun e => hi (hij.trans e.symm))]
          · rw [if_neg hij, if_neg hij]
    exact this l d0 hv
theorem putD_len (l : List (Key × D)) (k : Key) (v : D) : (putD l k v).length ≤ l.length + 1 := by unfold putD; split <;> simp
theorem lcOf {α : Type} {g : Sto → Prop} {tg : MG} {m : ME} {ρ : Fr} {S : Sto} (r f : α → D) (hg : g S) : ∀ {l : List α}, (∀ x ∈ l, ∃ ρ1, tg (r x) ρ = some ρ1 ∧ m ρ1 S = .ok (f x) S) → lcD g tg tYs m ρ (l.map r) S = .ok (l.map f) S
  | [], _ => by rw [List.map_nil]; unfold lcD; rw [if_pos hg]; rfl
  | d :: ds, h => by
    rw [List.map_cons]
    unfold lcD
    rw [if_pos hg]
    obtain ⟨ρ1, e1, e2⟩ := h d List.mem_cons_self
    rw [e1]
    simp [e2, lcOf r f hg (l := ds) fun d hd => h d (List.mem_cons_of_mem _ hd)]
/-- a dict that counts texts -/
structure Cnt (l : List (Key × D)) (f : Str → Int) (b : Nat) : Prop where
  get : ∀ z, (valD l (.inr z)).getD (.int 0) = .int (f z)
  len : l.length ≤ b
def setN (f : Str → Int) (z : Str) (v : Int) : Str → Int := fun y => if y = z then v else f y
@[simp] theorem setN_same (f : Str → Int) (z : Str) (v : Int) : setN f z v z = v := if_pos rfl
theorem Cnt.nil {b : Nat} : Cnt [] (fun _ => 0) b := ⟨fun _ => rfl, Nat.zero_le _⟩
theorem Cnt.put {l : List (Key × D)} {f : Str → Int} {b : Nat} (h : Cnt l f b) (z : Str) (v : Int) : Cnt (putD l (.inr z) (.int v)) (setN f z v) (b + 1) := by
  refine ⟨fun y => ?_, Nat.le_trans (putD_len _ _ _) (by have := h.len; omega)⟩
  rw [valD_put]
  unfold setN
  by_cases hy : y = z
  · subst hy; simp
  · have : ¬ (Sum.inr z : Key) = Sum.inr y := fun e => hy (by cases e; rfl)
    rw [if_neg this, if_neg hy]
    exact h.get y
end CW

namespace CW
open PySem PySem.Spec PyProof.Rows L2 MM
theorem sz {n : Nat} (h : n ≤ 1000) : (n ≤ sizeLine) = True := eq_true (by rw [sizeL]; omega)
/-- more pigeons than holes -/
theorem pigeon {α : Type} [DecidableEq α] : ∀ {A l : List α}, A.Nodup → (∀ x ∈ A, x ∈ l) → A.length ≤ l.length
  | [], _, _, _ => Nat.zero_le _
  | a :: A, l, nd, h => by
    have ha := h a List.mem_cons_self
    have h2 := List.nodup_cons.mp nd
    have := pigeon (A := A) (l := l.erase a) h2.2 fun x hx => (List.mem_erase_of_ne (fun e : x = a => h2.1 (by rw [← e]; exact hx))).mpr (h x (List.mem_cons_of_mem _ hx))
    rw [List.length_erase_of_mem ha] at this
    have hp : 0 < l.length := List.length_pos_of_mem ha
    simp only [List.length_cons]
    omega
def two (n : Nat) : List Nat := [n / 10, n % 10]
def free (l : List (List Nat)) (n : Nat) : Bool := decide (0 < n % 10) && !decide (two n ∈ l)
theorem ints_of : ∀ {out : List D} {P : Int → Prop}, (∀ d ∈ out, ∃ v : Int, d = .int v ∧ P v) → ∃ l : List Int, out = iD l ∧ ∀ v ∈ l, P v
  | [], _, _ => ⟨[], rfl, by simp⟩
  | d :: r, P, h => by
    obtain ⟨v, rfl, hv⟩ := h d List.mem_cons_self
    obtain ⟨l, rfl, hl⟩ := ints_of fun d hd => h d (List.mem_cons_of_mem _ hd)
    exact ⟨v :: l, rfl, fun x hx => by
      rcases List.mem_cons.mp hx with rfl | hx
      · exact hv
      · exact hl x hx⟩
def ixsD (l : List Nat) : List D := l.map fun (k : Nat) => D.int (k : Int)
@[simp] theorem ixsD_length (l : List Nat) : (ixsD l).length = l.length := by simp [ixsD]
structure GoodR (n : Nat) (r : List Nat) : Prop where
  nd : r.Nodup
  lt : ∀ k ∈ r, k < n
theorem GoodR.len {n : Nat} {r : List Nat} (h : GoodR n r) : r.length ≤ n := by
  have := pigeon (A := r) (l := List.range n) h.nd fun x hx => List.mem_range.mpr (h.lt x hx)
  simpa using this
structure Crd where
  order : List Nat
  counts : List Int
  covers : List (Nat × Int)
def covD (p : Nat × Int) : D := .tup [.int (p.1 : Nat), .int p.2]
def crdL (c : Crd) : List D := [.tup (ixsD c.order), .tup (iD c.counts), .tup (c.covers.map covD)]
def crdD (c : Crd) : D := .tup (crdL c)
def cardD (ds : List Nat) (c : Crd) : D := .tup (.str (numS ds) :: crdL c)
/-- a card by the houses hs -/
structure GoodC (hs : List Int) (c : Crd) : Prop where
  order : GoodR hs.length c.order
  cnt : c.counts.length = 3
  cnt9 : ∀ v ∈ c.counts, 0 ≤ v ∧ v ≤ 9
  cov : ∀ p ∈ c.covers, p.1 < hs.length ∧ p.2 ∈ hs
  few : c.covers.length ≤ 9
end CW

namespace CW
open PySem PySem.Spec PyProof.Rows L2 MM
structure GoodCs (hs : List Int) (cs : List (List Nat × Crd)) : Prop where
  num : ∀ x ∈ cs, GoodN x.1
  card : ∀ x ∈ cs, GoodC hs x.2
  nd : (cs.map (·.1)).Nodup
  len : cs.length ≤ 20
def cardsD (cs : List (List Nat × Crd)) : List D := cs.map fun x => cardD x.1 x.2
end CW

namespace CW
open PySem PySem.Spec PyProof.Rows L2 MM
inductive Std where
  | at_ (h : Int) | out (z : Str)
deriving DecidableEq
def inS : Str := Str.ofString "in"
def outS : Str := Str.ofString "out"
def stdD : Std → D
  | .at_ h => .tup [.str inS, .int h]
  | .out z => .tup [.str outS, .str z]
structure WSt where
  often : Int
  own : List Int
  cards : Str → Option Crd
  st : List Std
  rn : Str → Int
  cl : Str → Int
def fW (o : Int) (own : List Int) (n : Nat) : List (Str × D) := [("often", .int o), ("own", .tup (iD own)), ("by_number", .ref (n + 1)), ("stands", .ref (n + 2)), ("rounds_of", .ref (n + 3)), ("calls_of", .ref (n + 4))]
section
variable {o : Int} {own : List Int} {n : Nat}
end
structure WatchAt (S : Sto) (n : Nat) (w : WSt) (b : Nat) : Prop where
  ob : S[n]? = some (.ins 1 (fW w.often w.own n))
  by_ : ∃ l, S[n + 1]? = some (.dct false l) ∧ ∀ z, valD l (.inr z) = (w.cards z).map crdD
  st : S[n + 2]? = some (.lst false (w.st.map stdD))
  rn : ∃ l, S[n + 3]? = some (.dct false l) ∧ Cnt l w.rn b
  cl : ∃ l, S[n + 4]? = some (.dct false l) ∧ Cnt l w.cl b
  pos : 1 ≤ w.often
  len : w.st.length = w.own.length
  few : w.own.length ≤ 9
  good : ∀ z c, w.cards z = some c → GoodC w.own c
  txt : ∀ z, Std.out z ∈ w.st → PyData.strOk z = true
  bd : b ≤ 50000
/-- nothing but the watch at n was changed; things were made -/
def Wch (n : Nat) (S S' : Sto) : Prop := S.length ≤ S'.length ∧ ∀ i, i < S.length → (i < n ∨ n + 4 < i) → S'[i]? = S[i]?
theorem Wch.refl {n : Nat} {S : Sto} : Wch n S S := ⟨Nat.le_refl _, fun _ _ _ => rfl⟩
theorem Wch.trans {n : Nat} {S S1 S2 : Sto} (h : Wch n S S1) (g : Wch n S1 S2) : Wch n S S2 := ⟨Nat.le_trans h.1 g.1, fun i hi hn => by rw [g.2 i (by have := h.1; omega) hn, h.2 i hi hn]⟩
theorem Wch.app {n : Nat} {S S' : Sto} (h : Wch n S S') (T : Sto) : Wch n S (S' ++ T) := ⟨by have := h.1; simp; omega, fun i hi hn => by rw [List.getElem?_append_left (by have := h.1; omega), h.2 i hi hn]⟩
theorem Wch.set {n j : Nat} {S S' : Sto} {o : O} (h : Wch n S S') (hj : n ≤ j ∧ j ≤ n + 4 ∨ S.length ≤ j) : Wch n S (S'.set j o) := ⟨by rw [List.length_set]; exact h.1, fun i hi hn => by rw [List.getElem?_set_ne (by omega), h.2 i hi hn]⟩
theorem get_of {α : Type} {S : List α} {i : Nat} {o : α} (h : S[i]? = some o) : i < S.length := (List.getElem?_eq_some_iff.mp h).1
theorem WatchAt.lt {S : Sto} {n b : Nat} {w : WSt} (h : WatchAt S n w b) : n + 4 < S.length := by
  obtain ⟨l, e, _⟩ := h.cl
  exact get_of e
/-- other places may change -/
theorem WatchAt.other {S S' : Sto} {n b : Nat} {w : WSt} (h : WatchAt S n w b) (g : ∀ i, n ≤ i → i ≤ n + 4 → S'[i]? = S[i]?) : WatchAt S' n w b := by
  obtain ⟨h1, ⟨l2, h2, h2'⟩, h3, ⟨l4, h4, h4'⟩, ⟨l5, h5, h5'⟩, r1, r2, r3, r4, r5, r6⟩ := h
  exact ⟨by rw [g n (by omega) (by omega)]; exact h1, ⟨l2, by rw [g (n + 1) (by omega) (by omega)]; exact h2, h2'⟩, by rw [g (n + 2) (by omega) (by omega)]; exact h3, ⟨l4, by rw [g (n + 3) (by omega) (by omega)]; exact h4, h4'⟩, ⟨l5, by rw [g (n + 4) (by omega) (by omega)]; exact h5, h5'⟩, r1, r2, r3, r4, r5, r6⟩
theorem WatchAt.app {S : Sto} {n b : Nat} {w : WSt} (h : WatchAt S n w b) (T : Sto) : WatchAt (S ++ T) n w b := h.other fun i _ h2 => List.getElem?_append_left (by have := h.lt; omega)
theorem Cnt.mono {l : List (Key × D)} {f : Str → Int} {a b : Nat} (h : Cnt l f a) (hab : a ≤ b) : Cnt l f b := ⟨h.get, Nat.le_trans h.len hab⟩
theorem WatchAt.mono {S : Sto} {n a b : Nat} {w : WSt} (h : WatchAt S n w a) (hab : a ≤ b) (hb : b ≤ 50000) : WatchAt S n w b := by
  obtain ⟨h1, h2, h3, ⟨l4, h4, h4'⟩, ⟨l5, h5, h5'⟩, r1, r2, r3, r4, r5, _⟩ := h
  exact ⟨h1, h2, h3, ⟨l4, h4, h4'.mono hab⟩, ⟨l5, h5, h5'.mono hab⟩, r1, r2, r3, r4, r5, hb⟩
/-- the stands are put otherwise -/
theorem WatchAt.stands {S : Sto} {n b : Nat} {w : WSt} (h : WatchAt S n w b) {st : List Std} (hl : st.length = w.st.length) (ht : ∀ z, Std.out z ∈ st → PyData.strOk z = true) : WatchAt (S.set (n + 2) (.lst false (st.map stdD))) n { w with st := st } b := by
  have hlt := h.lt
  obtain ⟨h1, ⟨l2, h2, h2'⟩, h3, ⟨l4, h4, h4'⟩, ⟨l5, h5, h5'⟩, r1, r2, r3, r4, r5, r6⟩ := h
  exact ⟨by rw [List.getElem?_set_ne (by omega)]; exact h1, ⟨l2, by rw [List.getElem?_set_ne (by omega)]; exact h2, h2'⟩, List.getElem?_set_self (by omega), ⟨l4, by rw [List.getElem?_set_ne (by omega)]; exact h4, h4'⟩, ⟨l5, by rw [List.getElem?_set_ne (by omega)]; exact h5, h5'⟩, r1, hl.trans r2, r3, r4, ht, r6⟩
def cardOf (cs : List (List Nat × Crd)) (z : Str) : Option Crd := (cs.find? fun x => decide (numS x.1 = z)).map (·.2)
theorem mem_set {st : List Std} {k : Nat} {s x : Std} (h : x ∈ st.set k s) : x ∈ st ∨ x = s := List.mem_or_eq_of_mem_set h
end CW

namespace CW
open PySem PySem.Spec PyProof.Rows L2 MM
def noCard : Crd := ⟨[], [0, 0, 0], []⟩
def cardZ (w : WSt) (z : Str) : Crd := (w.cards z).getD noCard
theorem goodNo (hs : List Int) : GoodC hs noCard := ⟨⟨by simp [noCard], by simp [noCard]⟩, rfl, by simp [noCard], by simp [noCard], by simp [noCard]⟩
theorem WatchAt.card {S : Sto} {n b : Nat} {w : WSt} (h : WatchAt S n w b) (z : Str) : GoodC w.own (cardZ w z) := by
  unfold cardZ
  cases hc : w.cards z with
  | none => exact goodNo _
  | some c => exact h.good z c hc
end CW

namespace CW
open PySem PySem.Spec PyProof.Rows L2 MM
def emp : Str := Str.ofString ""
def goneS : Std → Str
  | .at_ _ => emp
  | .out z => z
def goneD (st : List Std) : List D := st.map fun s => D.str (goneS s)
def plF (o : Int) (own : List Int) (cs : List (List Nat × Crd)) (m : Nat) : List (Key × D) := [(.inr "often", .int o), (.inr "own", .tup (iD own)), (.inr "cards", .tup (cardsD cs)), (.inr "at", .ref (m + 1)), (.inr "gone", .ref (m + 2)), (.inr "many", .ref (m + 3)), (.inr "calls", .ref (m + 4))]
structure PlV (S : Sto) (m : Nat) (o : Int) (own : List Int) (cs : List (List Nat × Crd)) (st : List Std) (la : List Int) : Prop where
  ob : S[m]? = some (.dct false (plF o own cs m))
  at_ : S[m + 1]? = some (.lst false (iD la))
  gone : S[m + 2]? = some (.lst false (goneD st))
  ok : ∀ (k : Nat) h, st[k]? = some (.at_ h) → la[k]? = some h
  ll : la.length = st.length
  len : st.length = own.length
  few : own.length ≤ 9
  ne : ∀ z, Std.out z ∈ st → ¬ z = emp
section
variable {S S' : Sto} {m : Nat} {o : Int} {own : List Int} {cs : List (List Nat × Crd)} {st : List Std} {la : List Int}
theorem PlV.other (h : PlV S m o own cs st la) (g : ∀ i, m ≤ i → i ≤ m + 2 → S'[i]? = S[i]?) : PlV S' m o own cs st la :=
  ⟨by rw [g m (by omega) (by omega)]; exact h.ob, by rw [g (m + 1) (by omega) (by omega)]; exact h.at_, by rw [g (m + 2) (by omega) (by omega)]; exact h.gone, h.ok, h.ll, h.len, h.few, h.ne⟩
theorem PlV.lt (h : PlV S m o own cs st la) : m + 2 < S.length := get_of h.gone
/-- a crew goes out -/
theorem PlV.out (h : PlV S m o own cs st la) {z : Str} (hz : ¬ z = emp) (k : Nat) : PlV (S.set (m + 2) (.lst false (goneD (st.set k (.out z))))) m o own cs (st.set k (.out z)) la := by
  have hlt := h.lt
  refine ⟨by rw [List.getElem?_set_ne (by omega)]; exact h.ob, by rw [List.getElem?_set_ne (by omega)]; exact h.at_, List.getElem?_set_self hlt, fun j v hj => ?_, by rw [List.length_set]; exact h.ll, by rw [List.length_set]; exact h.len, h.few, fun y hy => ?_⟩
  · rw [List.getElem?_set] at hj
    split at hj
    · split at hj <;> cases hj
    · exact h.ok j v hj
  · rcases mem_set hy with h1 | h1
    · exact h.ne y h1
    · cases h1; exact hz
end
structure PlAt (S : Sto) (m : Nat) (w : WSt) (cs : List (List Nat × Crd)) (b : Nat) : Prop where
  v : ∃ la, PlV S m w.often w.own cs w.st la
  mn : ∃ l, S[m + 3]? = some (.dct false l) ∧ Cnt l w.rn b
  cl : ∃ l, S[m + 4]? = some (.dct false l) ∧ Cnt l w.cl b
  crd : w.cards = cardOf cs
  good : GoodCs w.own cs
  pos : 1 ≤ w.often
  bd : b ≤ 50000
/-- nothing but the plain watch at m was changed -/
def Plc (m : Nat) (S S' : Sto) : Prop := S'.length = S.length ∧ ∀ i, (i < m ∨ m + 4 < i) → S'[i]? = S[i]?
theorem Plc.refl {m : Nat} {S : Sto} : Plc m S S := ⟨rfl, fun _ _ => rfl⟩
theorem Plc.trans {m : Nat} {S S1 S2 : Sto} (h : Plc m S S1) (g : Plc m S1 S2) : Plc m S S2 := ⟨g.1.trans h.1, fun i hi => by rw [g.2 i hi, h.2 i hi]⟩
theorem Plc.set {m j : Nat} {S S' : Sto} {o : O} (h : Plc m S S') (h1 : m ≤ j) (h2 : j ≤ m + 4) : Plc m S (S'.set j o) := ⟨by rw [List.length_set]; exact h.1, fun i hi => by rw [List.getElem?_set_ne (by omega), h.2 i hi]⟩
section
variable {S S' : Sto} {m b : Nat} {w : WSt} {cs : List (List Nat × Crd)}
theorem PlAt.lt (h : PlAt S m w cs b) : m + 4 < S.length := by
  obtain ⟨l, e, _⟩ := h.cl
  exact get_of e
theorem PlAt.other (h : PlAt S m w cs b) (g : ∀ i, m ≤ i → i ≤ m + 4 → S'[i]? = S[i]?) : PlAt S' m w cs b := by
  obtain ⟨⟨la, h1⟩, ⟨l2, h2, h2'⟩, ⟨l3, h3, h3'⟩, r1, r2, r3, r4⟩ := h
  exact ⟨⟨la, h1.other fun i h1 h2 => g i h1 (by omega)⟩, ⟨l2, by rw [g _ (by omega) (by omega)]; exact h2, h2'⟩, ⟨l3, by rw [g _ (by omega) (by omega)]; exact h3, h3'⟩, r1, r2, r3, r4⟩
theorem PlAt.mono {a : Nat} (h : PlAt S m w cs a) (hab : a ≤ b) (hb : b ≤ 50000) : PlAt S m w cs b := by
  obtain ⟨h1, ⟨l2, h2, h2'⟩, ⟨l3, h3, h3'⟩, r1, r2, r3, _⟩ := h
  exact ⟨h1, ⟨l2, h2, h2'.mono hab⟩, ⟨l3, h3, h3'.mono hab⟩, r1, r2, r3, hb⟩
end
end CW

namespace CW
open PySem PySem.Spec PyProof.Rows L2 MM
section
variable {a b c : ME} {ρ : Fr} {S : Sto}
@[simp] theorem iZ2_ev : iZ2 a b ρ S = (a ρ S).bind fun d1 S1 => (b ρ S1).bind fun d2 S2 => (match srcX S2 d1, srcX S2 d2 with | some x1, some x2 => .ok (zipD2 x1.1 x2.1, fun S => x1.2.1 S ∧ x2.2.1 S) S2 | _, _ => .no) := rfl
end
theorem PlV.back {S : Sto} {m : Nat} {o : Int} {own : List Int} {cs : List (List Nat × Crd)} {st : List Std} {la : List Int} (h : PlV S m o own cs st la) {k : Nat} (hk : k < st.length) (x : Int) : PlV ((S.set (m + 2) (.lst false (goneD (st.set k (.at_ x))))).set (m + 1) (.lst false (iD (la.set k x)))) m o own cs (st.set k (.at_ x)) (la.set k x) := by
  have hlt := h.lt
  refine ⟨by rw [List.getElem?_set_ne (by omega), List.getElem?_set_ne (by omega)]; exact h.ob, List.getElem?_set_self (by rw [List.length_set]; omega), by rw [List.getElem?_set_ne (by omega), List.getElem?_set_self (by omega)], fun j u hj => ?_, by simp [h.ll], by rw [List.length_set]; exact h.len, h.few, fun y hy => ?_⟩
  · rw [List.getElem?_set] at hj ⊢
    split at hj
    · rename_i e
      subst e
      rw [if_pos rfl, if_pos (by rw [h.ll]; exact hk)]
      cases hj
      rfl
    · rename_i e
      rw [if_neg e]
      exact h.ok j u hj
  · rcases mem_set hy with h1 | h1
    · exact h.ne y h1
    · cases h1
end CW

namespace CW
open PySem PySem.Spec PyProof.Rows L2 MM
theorem cut_toN (l : List D) (k : Nat) : MM.cutD l none (some (k : Int)) = l.take k := by
  rw [cut_to]
theorem get_last {c : List Nat} {a : Nat} (h : c.getLast? = some a) : atI (ixsD c) (-1) = some (.int (a : Int)) := by
  obtain ⟨ys, rfl⟩ := List.getLast?_eq_some_iff.mp h
  unfold ixsD
  rw [List.map_append]
  exact atI_last _ _
theorem cut_fromN (l : List D) (k : Nat) : MM.cutD l (some (k : Int)) none = l.drop k := by
  unfold MM.cutD
  rw [HT.sIx_none, HT.sIx_nat, List.take_of_length_le (by rw [List.length_drop]; exact Nat.le_refl _)]
  by_cases h : k ≤ l.length
  · rw [Nat.min_eq_left h]
  · rw [Nat.min_eq_right (by omega), List.drop_eq_nil_of_le (Nat.le_refl _), List.drop_eq_nil_of_le (by omega)]
def loopD (l : List (List Nat)) : D := .tup (nD l)
/-- how it stands while a town is drawn -/
structure Tw (b B : Nat) (S S' : Sto) (ls : List (List (List Nat))) (cur : List (List Nat)) : Prop where
  grew : Grew b S S'
  lt : b < S.length
  loops : S'[S.length]? = some (.lst false (ls.map loopD))
  met : ∃ M, S'[S.length + 1]? = some (.dct false M) ∧ (∀ z, (valD M (.inr z)).isSome = decide (z ∈ (ls.flatten ++ cur).map numS)) ∧ M.length ≤ (ls.flatten ++ cur).length
  nd : (ls.flatten ++ cur).Nodup
  good : ∀ ds ∈ ls.flatten ++ cur, GoodN ds
  sz : ∀ l ∈ ls, 1 ≤ l.length ∧ l.length ≤ B
theorem Tw.bag {b B : Nat} {S S' : Sto} {ls : List (List (List Nat))} {cur : List (List Nat)} (h : Tw b B S S' ls cur) : BagAt S' b := h.grew.1
theorem Tw.app {b B : Nat} {S S' : Sto} {ls : List (List (List Nat))} {cur : List (List Nat)} (h : Tw b B S S' ls cur) (T : Sto) : Tw b B S (S' ++ T) ls cur := by
  have e : ∀ {n : Nat} {o : O}, S'[n]? = some o → (S' ++ T)[n]? = some o := fun e => by rw [List.getElem?_append_left (List.getElem?_eq_some_iff.mp e).1, e]
  refine ⟨h.grew.app T, h.lt, e h.loops, ?_, h.nd, h.good, h.sz⟩
  obtain ⟨M, h1, h2⟩ := h.met
  exact ⟨M, e h1, h2⟩
theorem Grew.set {b q : Nat} {S S' : Sto} {o : O} (h : Grew b S S') (hq : S.length ≤ q) (hb : b < S.length) : Grew b S (S'.set q o) := by
  refine ⟨?_, by rw [List.length_set]; exact h.2.1, fun n hn hb' => by rw [List.getElem?_set_ne (by omega)]; exact h.2.2 n hn hb'⟩
  obtain ⟨a, m, k, e, r⟩ := h.1
  exact ⟨a, m, k, by rw [List.getElem?_set_ne (by omega)]; exact e, r⟩
theorem Tw.set {b B q : Nat} {S S' : Sto} {ls : List (List (List Nat))} {cur : List (List Nat)} {o : O} (h : Tw b B S S' ls cur) (hq : S.length + 2 ≤ q) : Tw b B S (S'.set q o) ls cur := by
  refine ⟨h.grew.set (by omega) h.lt, h.lt, by rw [List.getElem?_set_ne (by omega)]; exact h.loops, ?_, h.nd, h.good, h.sz⟩
  obtain ⟨M, h1, h2⟩ := h.met
  exact ⟨M, by rw [List.getElem?_set_ne (by omega)]; exact h1, h2⟩
theorem Tw.put {b B : Nat} {S S' : Sto} {ls : List (List (List Nat))} {cur : List (List Nat)} {M : List (Key × D)} {ds : List Nat} (h : Tw b B S S' ls cur) (hM : S'[S.length + 1]? = some (.dct false M)) (hn : ds ∉ ls.flatten ++ cur) (hg : GoodN ds) :
    Tw b B S (S'.set (S.length + 1) (.dct false (putD M (.inr (numS ds)) (.bl true)))) ls (cur ++ [ds]) := by
  obtain ⟨M', h1, h2, h3⟩ := h.met
  rw [hM] at h1
  cases h1
  have hlt := (List.getElem?_eq_some_iff.mp hM).1
  refine ⟨h.grew.set (by omega) h.lt, h.lt, by rw [List.getElem?_set_ne (by omega)]; exact h.loops, ⟨_, List.getElem?_set_self hlt, fun z => ?_, ?_⟩, ?_, ?_, h.sz⟩
  · rw [valD_put]
    by_cases hz : z = numS ds
    · subst hz
      simp
    · have : ¬ (Sum.inr (numS ds) : Key) = Sum.inr z := fun e => hz (by cases e; rfl)
      rw [if_neg this, h2]
      simp only [List.map_append, List.mem_append, List.map_cons, List.map_nil, List.mem_singleton]
      simp [hz]
  · have := putD_len M (.inr (numS ds)) (.bl true)
    simp only [List.length_append, List.length_cons, List.length_nil] at *
    omega
  · rw [← List.append_assoc, List.nodup_append]
    refine ⟨h.nd, by simp, fun x hx y hy e => ?_⟩
    rw [List.mem_singleton.mp hy] at e
    exact hn (e ▸ hx)
  · intro x hx
    rw [← List.append_assoc] at hx
    rcases List.mem_append.mp hx with hx | hx
    · exact h.good x hx
    · rw [List.mem_singleton.mp hx]; exact hg
theorem Tw.next {b B : Nat} {S S' : Sto} {ls : List (List (List Nat))} {cur : List (List Nat)} (h : Tw b B S S' ls cur) (h1 : 1 ≤ cur.length) (h2 : cur.length ≤ B) : Tw b B S (S'.set S.length (.lst false ((ls ++ [cur]).map loopD))) (ls ++ [cur]) [] := by
  have hlt := (List.getElem?_eq_some_iff.mp h.loops).1
  have e : (ls ++ [cur]).flatten ++ [] = ls.flatten ++ cur := by simp
  refine ⟨h.grew.set (Nat.le_refl _) h.lt, h.lt, List.getElem?_set_self hlt, ?_, by rw [e]; exact h.nd, by rw [e]; exact h.good, fun l hl => ?_⟩
  · obtain ⟨M, q1, q2⟩ := h.met
    exact ⟨M, by rw [List.getElem?_set_ne (by omega)]; exact q1, by rw [e]; exact q2⟩
  · rcases List.mem_append.mp hl with hl | hl
    · exact h.sz l hl
    · rw [List.mem_singleton.mp hl]; exact ⟨h1, h2⟩
theorem Drew.kept {b : Nat} {S S' : Sto} (h : Drew b S S') : Kept S S' := by
  have hlt := h.1.lt
  rw [h.len] at hlt
  obtain ⟨⟨a, m, k, g, r⟩, l, rfl⟩ := h
  rw [List.getElem?_set_self hlt] at g
  cases g
  exact Kept.set (by simp)
/-- what grew, cut back -/
theorem Grew.cut {b : Nat} {S S' : Sto} (h : Grew b S S') (hb : b < S.length) : Drew b S (S'.take S.length) := by
  obtain ⟨⟨a, m, k, e, r⟩, h2, h3⟩ := h
  have e' : (S'.take S.length)[b]? = some (.lst false [.int a, .int m, .int k]) := by rw [List.getElem?_take_of_lt hb]; exact e
  refine ⟨⟨a, m, k, e', r⟩, [.int a, .int m, .int k], ?_⟩
  apply List.ext_getElem?
  intro n
  by_cases hn : n < S.length
  · by_cases hnb : n = b
    · subst hnb
      rw [e', List.getElem?_set_self hb]
    · rw [List.getElem?_take_of_lt hn, h3 n hn hnb, List.getElem?_set_ne (Ne.symm hnb)]
  · rw [List.getElem?_eq_none (by rw [List.length_take]; omega), List.getElem?_eq_none (by rw [List.length_set]; omega)]
end CW

namespace CW
open PySem PySem.Spec PyProof.Rows L2 MM
end CW

namespace CW
open PySem PySem.Spec PyProof.Rows L2 MM
/-- goes_ahead(one, other); slots 0 one, 1 other, 2 mine, 3 theirs -/
noncomputable def m_goes_ahead : MS :=
  sSeq (sFor (iZA (eCall sp_row_of (aCons (eVar 0) (aNil))) (eCall sp_row_of (aCons (eVar 1) (aNil)))) (tTp 2 (tsCons (tN 2) (tsCons (tN 3) (tsNil)))) (sIf (tV (eBin neD (eVar 2) (eVar 3))) (sRet (eBin eqD (eVar 2) (eC (.int 1)))) (sPass)))
  (sRet (eC (.bl false)))
noncomputable def sp_goes_ahead : FL := body 4 m_goes_ahead
/-- first_of(numbers); slots 0 numbers, 1 first, 2 number -/
noncomputable def m_first_of : MS :=
  sSeq (sSet 1 (eBin ixD (eVar 0) (eC (.int 0))))
  (sSeq (sFor (iA (eSl (eVar 0) (oS (eC (.int 1))) (oN))) (tN 2) (sIf (tV (eCall sp_goes_ahead (aCons (eVar 2) (aCons (eVar 1) (aNil))))) (sSet 1 (eVar 2)) (sPass)))
  (sRet (eVar 1)))
noncomputable def sp_first_of : FL := body 3 m_first_of
/-- leaving_place(first, number); slots 0 first, 1 number, 2 place, 3 ahead, 4 own -/
noncomputable def m_leaving_place : MS :=
  sSeq (sFor (iEZ (eCall sp_row_of (aCons (eVar 0) (aNil))) (eCall sp_row_of (aCons (eVar 1) (aNil)))) (tTp 2 (tsCons (tN 2) (tsCons (tTp 2 (tsCons (tN 3) (tsCons (tN 4) (tsNil)))) (tsNil)))) (sIf (tV (eBin neD (eVar 3) (eVar 4))) (sRet (eVar 2)) (sPass)))
  (sRet (eC .non))
noncomputable def sp_leaving_place : FL := body 5 m_leaving_place
/-- meeting(numbers); slots 0 numbers, 1 first, 2 number -/
noncomputable def m_meeting : MS :=
  sSeq (sSet 1 (eCall sp_first_of (aCons (eVar 0) (aNil))))
  (sRet (eTup (aCons (eVar 1) (aCons (eLs tupleD (lComp (iA (eVar 0)) [2] (tN 2) tYs (eCall sp_leaving_place (aCons (eVar 1) (aCons (eVar 2) (aNil)))))) (aNil)))))
noncomputable def sp_meeting : FL := body 3 m_meeting
def ahead : List Int → List Int → Bool
  | a :: r, b :: t => if a = b then ahead r t else decide (a = 1)
  | _, _ => false
theorem ahead_app : ∀ P X Y : List Int, ahead (P ++ X) (P ++ Y) = ahead X Y
  | [], _, _ => rfl
  | p :: P, X, Y => by simp [ahead, ahead_app P X Y]
theorem rowN_cons (d : Nat) (ds : List Nat) : rowN (d :: ds) = strokes d ++ ([0, 0] ++ rowN ds) := by simp [rowN, figsR, figR]
theorem strokes_add (a b : Nat) : strokes (a + b) = strokes a ++ strokes b := by
  unfold strokes
  rw [← List.flatten_append, List.replicate_append_replicate]
theorem strokes_one (a : Nat) : strokes (a + 1) = 1 :: 0 :: strokes a := by
  unfold strokes
  rw [List.replicate_succ]
  rfl
theorem ahead_lex : ∀ ds es : List Nat, (∀ d ∈ ds, 1 ≤ d) → (∀ d ∈ es, 1 ≤ d) → ahead (rowN ds) (rowN es) = decide (es < ds)
  | [], [], _, _ => by simp [rowN, figsR, ahead]
  | [], e :: es, _, he => by
    have h1 := he e List.mem_cons_self
    obtain ⟨k, rfl⟩ : ∃ k, e = k + 1 := ⟨e - 1, by omega⟩
    rw [rowN_cons, strokes_one]
    simp [rowN, figsR, ahead]
  | d :: ds, [], hd, _ => by
    have h1 := hd d List.mem_cons_self
    obtain ⟨k, rfl⟩ : ∃ k, d = k + 1 := ⟨d - 1, by omega⟩
    rw [rowN_cons, strokes_one]
    simp [rowN, figsR, ahead]
  | d :: ds, e :: es, hd, he => by
    rw [rowN_cons, rowN_cons]
    rcases Nat.lt_trichotomy d e with h | h | h
    · obtain ⟨k, rfl⟩ : ∃ k, e = d + (k + 1) := ⟨e - d - 1, by omega⟩
      rw [strokes_add, List.append_assoc, ahead_app, strokes_one]
      have : ¬ ((d + (k + 1)) :: es < d :: ds) := by
        rw [List.cons_lt_cons_iff]
        omega
      simp [ahead, this]
    · subst h
      rw [ahead_app, ahead_app, ahead_lex ds es (fun x hx => hd x (List.mem_cons_of_mem _ hx)) fun x hx => he x (List.mem_cons_of_mem _ hx)]
      simp [List.cons_lt_cons_iff]
    · obtain ⟨k, rfl⟩ : ∃ k, d = e + (k + 1) := ⟨d - e - 1, by omega⟩
      rw [strokes_add, List.append_assoc, ahead_app, strokes_one]
      have : e :: es < (e + (k + 1)) :: ds := by
        rw [List.cons_lt_cons_iff]
        omega
      simp [ahead, this]
theorem range_idx {n i j : Nat} (h : (List.range n)[i]? = some j) : j = i ∧ i < n := by
  have hi : i < n := by
    have := (List.getElem?_eq_some_iff.mp h).1
    simpa using this
  exact ⟨by simpa [List.getElem?_range hi] using h.symm, hi⟩
theorem zip_get {a b : List Int} {i : Nat} {d : D} (h : (zipD (iD a) (iD b))[i]? = some d) : ∃ x y, a[i]? = some x ∧ b[i]? = some y ∧ d = .tup [.int x, .int y] := by
  unfold zipD at h
  rw [List.getElem?_map] at h
  obtain ⟨j, hj, rfl⟩ := Option.map_eq_some_iff.mp h
  obtain ⟨rfl, hi⟩ := range_idx hj
  rw [iD_length, iD_length] at hi
  have h1 : j < a.length := by omega
  have h2 : j < b.length := by omega
  refine ⟨a[j], b[j], List.getElem?_eq_getElem h1, List.getElem?_eq_getElem h2, ?_⟩
  simp [iD, h1, h2]
theorem ahead_drop {A B : List Int} {i : Nat} {x : Int} (hx : A[i]? = some x) (hy : B[i]? = some x) : ahead (A.drop (i + 1)) (B.drop (i + 1)) = ahead (A.drop i) (B.drop i) := by
  obtain ⟨h1, e1⟩ := List.getElem?_eq_some_iff.mp hx
  obtain ⟨h2, e2⟩ := List.getElem?_eq_some_iff.mp hy
  rw [List.drop_eq_getElem_cons h1, List.drop_eq_getElem_cons h2]
  simp [ahead, e1, e2]
theorem ahead_at {A B : List Int} {i : Nat} {x y : Int} (hx : A[i]? = some x) (hy : B[i]? = some y) (hne : x ≠ y) : ahead (A.drop i) (B.drop i) = decide (x = 1) := by
  obtain ⟨h1, e1⟩ := List.getElem?_eq_some_iff.mp hx
  obtain ⟨h2, e2⟩ := List.getElem?_eq_some_iff.mp hy
  rw [List.drop_eq_getElem_cons h1, List.drop_eq_getElem_cons h2]
  simp [ahead, e1, e2, hne]
theorem zip_len (a b : List Int) : (zipD (iD a) (iD b)).length = min a.length b.length := by simp [zipD]
theorem ahead_end {A B : List Int} : ahead (A.drop (min A.length B.length)) (B.drop (min A.length B.length)) = false := by
  rcases Nat.le_total A.length B.length with h | h
  · rw [Nat.min_eq_left h, List.drop_length]
    simp [ahead]
  · rw [Nat.min_eq_right h, List.drop_length]
    cases A.drop B.length <;> simp [ahead]
theorem goes_ahead_ev {ds es : List Nat} (hd : GoodN ds) (he : GoodN es) (S : Sto) : sp_goes_ahead [.str (numS ds), .str (numS es)] S = .ok (.bl (ahead (rowN ds) (rowN es))) S := by
  have r1 := row_of_ev hd.fig (by have := hd.len; omega) S
  have r2 := row_of_ev he.fig (by have := he.len; omega) S
  unfold sp_goes_ahead m_goes_ahead
  simp [r1, r2]
  generalize hB : sIf _ _ _ = B
  refine for_post (g := noG) (Post := fun r => (r.then (sRet (eC (.bl false)))).end = .ok (.bl (ahead (rowN ds) (rowN es))) S)
    (fun k ρ S' => S' = S ∧ (∃ x y, ρ = [some (.str (numS ds)), some (.str (numS es)), x, y]) ∧ ahead ((rowN ds).drop k) ((rowN es).drop k) = ahead (rowN ds) (rowN es)) _ 0 _ _ ⟨rfl, ⟨none, none, rfl⟩, rfl⟩ (fun _ _ _ _ => trivial) ?_ ?_
  · rintro ρ S' ⟨rfl, ⟨x, y, rfl⟩, h⟩
    rw [zip_len, Nat.zero_add, ahead_end] at h
    simp [← h]
  · rintro i d ρ S' hd' ⟨rfl, ⟨x, y, rfl⟩, h⟩
    obtain ⟨u, v, hu, hv, rfl⟩ := zip_get hd'
    rw [Nat.zero_add] at h
    refine ⟨[some (.str (numS ds)), some (.str (numS es)), some (.int u), some (.int v)], by simp, ?_⟩
    subst hB
    by_cases huv : u = v
    · subst huv
      simp
      rw [ahead_drop hu hv]
      exact h
    · simp [huv]
      rw [← h, ahead_at hu hv huv]

/-- the first place at which two rows differ -/
def diffAt : List Int → List Int → Option Nat
  | a :: r, b :: t => if a = b then (diffAt r t).map (· + 1) else some 0
  | _, _ => none
theorem diffAt_self : ∀ A : List Int, diffAt A A = none
  | [] => rfl
  | a :: r => by simp [diffAt, diffAt_self r]
theorem diffAt_some : ∀ {A B : List Int} {k : Nat}, diffAt A B = some k → ∃ x y, A[k]? = some x ∧ B[k]? = some y ∧ x ≠ y ∧ ∀ i, i < k → A[i]? = B[i]?
  | [], B, k, h => by cases B <;> simp [diffAt] at h
  | a :: r, [], k, h => by simp [diffAt] at h
  | a :: r, b :: t, k, h => by
    unfold diffAt at h
    split at h
    · rename_i hab
      obtain ⟨j, hj, rfl⟩ := Option.map_eq_some_iff.mp h
      obtain ⟨x, y, h1, h2, h3, h4⟩ := diffAt_some hj
      refine ⟨x, y, by simpa using h1, by simpa using h2, h3, fun i hi => ?_⟩
      cases i with
      | zero => simp [hab]
      | succ i => simpa using h4 i (by omega)
    · rename_i hab
      cases h
      exact ⟨a, b, rfl, rfl, hab, fun i hi => absurd hi (Nat.not_lt_zero _)⟩
theorem diffAt_none : ∀ {A B : List Int}, diffAt A B = none → ∀ i, i < A.length → i < B.length → A[i]? = B[i]?
  | [], B, _, i, h1, _ => by simp at h1
  | a :: r, [], _, i, _, h2 => by simp at h2
  | a :: r, b :: t, h, i, h1, h2 => by
    unfold diffAt at h
    split at h
    · rename_i hab
      have h' : diffAt r t = none := by simpa using h
      cases i with
      | zero => simp [hab]
      | succ i => simpa using diffAt_none h' i (by simpa using h1) (by simpa using h2)
    · cases h
theorem diffAt_iff {A B : List Int} {k : Nat} {x y : Int} (h1 : A[k]? = some x) (h2 : B[k]? = some y) (h3 : x ≠ y) (h4 : ∀ i, i < k → A[i]? = B[i]?) : diffAt A B = some k := by
  cases hd : diffAt A B with
  | none =>
    have := diffAt_none hd k (List.getElem?_eq_some_iff.mp h1).1 (List.getElem?_eq_some_iff.mp h2).1
    rw [h1, h2] at this
    exact absurd (Option.some.inj this) h3
  | some j =>
    obtain ⟨u, v, q1, q2, q3, q4⟩ := diffAt_some hd
    rcases Nat.lt_trichotomy j k with h | h | h
    · have := h4 j h
      rw [q1, q2] at this
      exact absurd (Option.some.inj this) q3
    · rw [h]
    · have := q4 k h
      rw [h1, h2] at this
      exact absurd (Option.some.inj this) h3
theorem ahead_diff : ∀ {A B : List Int}, ahead A B = true → ∃ k, diffAt A B = some k ∧ A[k]? = some 1
  | [], B, h => by cases B <;> simp [ahead] at h
  | a :: r, [], h => by simp [ahead] at h
  | a :: r, b :: t, h => by
    unfold ahead at h
    unfold diffAt
    split at h
    · rename_i hab
      obtain ⟨k, h1, h2⟩ := ahead_diff h
      exact ⟨k + 1, by simp [hab, h1], by simpa using h2⟩
    · rename_i hab
      have : a = 1 := by simpa using h
      exact ⟨0, by simp [hab], by simp [this]⟩
theorem lt_diff {ds es : List Nat} (hd : GoodN ds) (he : GoodN es) (h : es < ds) : ∃ k, diffAt (rowN ds) (rowN es) = some k ∧ (rowN ds)[k]? = some 1 :=
  ahead_diff (by rw [ahead_lex ds es (fun d h => (hd.fig d h).1) (fun d h => (he.fig d h).1)]; simpa using h)
def plOf : Option Nat → D
  | some k => .int (k : Int)
  | none => .non
theorem leaving_ev {ds es : List Nat} (hd : GoodN ds) (he : GoodN es) (S : Sto) : sp_leaving_place [.str (numS ds), .str (numS es)] S = .ok (plOf (diffAt (rowN ds) (rowN es))) S := by
  have r1 := row_of_ev hd.fig (by have := hd.len; omega) S
  have r2 := row_of_ev he.fig (by have := he.len; omega) S
  unfold sp_leaving_place m_leaving_place
  simp [r1, r2]
  generalize hB : sIf _ _ _ = B
  refine for_post (g := noG) (Post := fun r => (r.then (sRet (eC .non))).end = .ok (plOf (diffAt (rowN ds) (rowN es))) S)
    (fun k ρ S' => S' = S ∧ (∃ x2 x3 x4, ρ = [some (.str (numS ds)), some (.str (numS es)), x2, x3, x4]) ∧ ∀ i, i < k → (rowN ds)[i]? = (rowN es)[i]?) _ 0 _ _ ⟨rfl, ⟨none, none, none, rfl⟩, fun i hi => absurd hi (Nat.not_lt_zero _)⟩ (fun _ _ _ _ => trivial) ?_ ?_
  · rintro ρ S' ⟨rfl, ⟨x2, x3, x4, rfl⟩, h⟩
    rw [enumZD_len, iD_length, iD_length, Nat.zero_add] at h
    have : diffAt (rowN ds) (rowN es) = none := by
      cases hq : diffAt (rowN ds) (rowN es) with
      | none => rfl
      | some k =>
        obtain ⟨x, y, h1, h2, h3, _⟩ := diffAt_some hq
        have := h k (by have := (List.getElem?_eq_some_iff.mp h1).1; have := (List.getElem?_eq_some_iff.mp h2).1; omega)
        rw [h1, h2] at this
        exact absurd (Option.some.inj this) h3
    simp [this, plOf]
  · rintro i d ρ S' hd' ⟨rfl, ⟨x2, x3, x4, rfl⟩, h⟩
    obtain ⟨u, v, hu, hv, rfl⟩ := enumZD_get hd'
    rw [Nat.zero_add] at h
    unfold iD at hu hv
    rw [List.getElem?_map] at hu hv
    obtain ⟨x, hx, rfl⟩ := Option.map_eq_some_iff.mp hu
    obtain ⟨y, hy, rfl⟩ := Option.map_eq_some_iff.mp hv
    refine ⟨[some (.str (numS ds)), some (.str (numS es)), some (.int (i : Int)), some (.int x), some (.int y)], by simp, ?_⟩
    subst hB
    by_cases hxy : x = y
    · subst hxy
      simp
      intro j hj
      by_cases hji : j = i
      · subst hji; rw [hx, hy]
      · exact h j (by omega)
    · have : diffAt (rowN ds) (rowN es) = some i := diffAt_iff hx hy hxy h
      simp [hxy, this, plOf]
/-- the greatest of some numbers -/
def mxN (f : List Nat) (l : List (List Nat)) : List Nat := l.foldl (fun a n => if a < n then n else a) f
theorem mxN_mem : ∀ (l : List (List Nat)) (f : List Nat), mxN f l = f ∨ mxN f l ∈ l
  | [], f => .inl rfl
  | n :: l, f => by
    unfold mxN
    rw [List.foldl_cons]
    have := mxN_mem l (if f < n then n else f)
    unfold mxN at this
    rcases this with h | h
    · split at h
      · rename_i hc; rw [if_pos hc] at *; exact .inr (by rw [h]; exact List.mem_cons_self)
      · rename_i hc; rw [if_neg hc] at *; exact .inl h
    · exact .inr (List.mem_cons_of_mem _ h)
theorem mxN_ge : ∀ (l : List (List Nat)) (f : List Nat), f ≤ mxN f l ∧ ∀ n ∈ l, n ≤ mxN f l
  | [], f => ⟨List.le_refl _, by simp⟩
  | n :: l, f => by
    have ih := mxN_ge l (if f < n then n else f)
    have e : mxN f (n :: l) = mxN (if f < n then n else f) l := rfl
    rw [e]
    have hf : f ≤ (if f < n then n else f) ∧ n ≤ (if f < n then n else f) := by
      split
      · rename_i h; exact ⟨List.le_of_lt h, List.le_refl _⟩
      · rename_i h; exact ⟨List.le_refl _, List.not_lt.mp h⟩
    refine ⟨List.le_trans hf.1 ih.1, fun x hx => ?_⟩
    rcases List.mem_cons.mp hx with rfl | hx
    · exact List.le_trans hf.2 ih.1
    · exact ih.2 x hx
theorem mxN_good {f : List Nat} {l : List (List Nat)} (hf : GoodN f) (h : ∀ n ∈ l, GoodN n) : GoodN (mxN f l) := by
  rcases mxN_mem l f with q | q
  · rw [q]; exact hf
  · exact h _ q
theorem first_of_ev {f : List Nat} {l : List (List Nat)} {S : Sto} (hf : GoodN f) (h : ∀ n ∈ l, GoodN n) : sp_first_of [.tup (nD (f :: l))] S = .ok (.str (numS (mxN f l))) S := by
  unfold sp_first_of m_first_of
  generalize hB : sIf _ (sSet 1 (eVar 2)) sPass = B
  have e0 : atI (nD (f :: l)) 0 = some (.str (numS f)) := atI_nat (j := 0) rfl
  have c1 : MM.cutD (nD (f :: l)) (some (1 : Int)) none = nD l := by
    have := cut_fromN (nD (f :: l)) 1
    rw [show ((1 : Nat) : Int) = 1 from rfl] at this
    rw [this]
    rfl
  have L := for_nx (g := noG) (tg := tN 2) (b := B) (items := nD l) (ρ := [some (.tup (nD (f :: l))), some (.str (numS f)), none]) (S := S)
    (fun i ρ S' => S' = S ∧ ∃ x2, ρ = [some (.tup (nD (f :: l))), some (.str (numS (mxN f (l.take i)))), x2])
    ⟨rfl, none, rfl⟩ (fun _ _ _ _ => trivial) (by
      rintro i d ρ S' hd ⟨rfl, x2, rfl⟩
      unfold nD at hd
      rw [List.getElem?_map] at hd
      obtain ⟨n, hn, rfl⟩ := Option.map_eq_some_iff.mp hd
      have hgn := h n (List.mem_of_getElem? hn)
      have hgm := mxN_good hf fun x hx => h x (List.mem_of_mem_take (i := i) hx)
      have e := goes_ahead_ev hgn hgm S'
      rw [ahead_lex n _ (fun d h => (hgn.fig d h).1) (fun d h => (hgm.fig d h).1)] at e
      have hs : mxN f (l.take (i + 1)) = if mxN f (l.take i) < n then n else mxN f (l.take i) := by
        unfold mxN
        rw [List.take_add_one, hn, Option.toList_some, List.foldl_append]
        rfl
      rw [hs]
      subst hB
      refine ⟨_, rfl, nx_of fun Q hQ => ?_⟩
      by_cases hlt : mxN f (l.take i) < n
      · simp -implicitDefEqProofs [e, hlt]
        apply hQ
        exact ⟨rfl, _, by rw [if_pos hlt]⟩
      · simp -implicitDefEqProofs [e, hlt]
        apply hQ
        exact ⟨rfl, _, by rw [if_neg hlt]⟩)
  obtain ⟨ρ', S', e, rfl, x2, rfl⟩ := L
  rw [nD_length, List.take_length] at e
  simp -implicitDefEqProofs [e0, c1, e]
/-- where each steps back -/
def leavesD (m : List Nat) (l : List (List Nat)) : List D := l.map fun n => plOf (diffAt (rowN m) (rowN n))
theorem meeting_ev {f : List Nat} {l : List (List Nat)} {S : Sto} (hf : GoodN f) (h : ∀ n ∈ l, GoodN n) (hl : l.length ≤ 1000) : sp_meeting [.tup (nD (f :: l))] S = .ok (.tup [.str (numS (mxN f l)), .tup (leavesD (mxN f l) (f :: l))]) S := by
  have e1 := first_of_ev (S := S) hf h
  have hm := mxN_good hf h
  have e2 : lcD noG (tN 2) tYs (eCall sp_leaving_place (aCons (eVar 1) (aCons (eVar 2) (aNil)))) [some (.tup (nD (f :: l))), some (.str (numS (mxN f l))), none] (nD (f :: l)) S = .ok (leavesD (mxN f l) (f :: l)) S := by
    refine lcOf (g := noG) (fun n => D.str (numS n)) (fun n => plOf (diffAt (rowN (mxN f l)) (rowN n))) trivial (l := f :: l) (fun n hn => ⟨_, rfl, ?_⟩)
    have hgn : GoodN n := by
      rcases List.mem_cons.mp hn with rfl | hn
      · exact hf
      · exact h n hn
    have e := leaving_ev hm hgn S
    simp -implicitDefEqProofs [e]
  have hz : (nD (f :: l)).length ≤ 16777216 := by rw [nD_length, List.length_cons]; omega
  unfold sp_meeting m_meeting
  generalize nD (f :: l) = N at *
  simp -implicitDefEqProofs [e1, e2, hz, sizeL]
theorem map_lt : ∀ (a b : List Nat), (a.map (· + 48) < b.map (· + 48)) ↔ a < b
  | [], [] => by simp
  | [], b :: bs => by simp
  | a :: as, [] => by simp
  | a :: as, b :: bs => by
    rw [List.map_cons, List.map_cons, List.cons_lt_cons_iff, List.cons_lt_cons_iff, map_lt as bs, Nat.add_lt_add_iff_right, Nat.add_right_cancel_iff]
theorem num_lt (a b : List Nat) : strLt (numS a) (numS b) = decide (a < b) := by
  unfold strLt
  apply decide_eq_decide.mpr
  rw [numS_cps, numS_cps]
  have e : ∀ l : List Nat, l.map (fun d => 48 + d) = l.map (· + 48) := fun l => List.map_congr_left fun d _ => Nat.add_comm _ _
  first | exact map_lt a b | (rw [e, e]; exact map_lt a b)
end CW

namespace CW
open PySem PySem.Spec PyProof.Rows L2 MM
theorem row01 {ds : List Nat} : ∀ x ∈ rowN ds, x = 0 ∨ x = 1 := by
  intro x hx
  unfold rowN figsR figR at hx
  rcases List.mem_append.mp hx with hx | hx
  · obtain ⟨l, hl, hx⟩ := List.mem_flatten.mp hx
    obtain ⟨d, _, rfl⟩ := List.mem_map.mp hl
    rcases List.mem_append.mp hx with hx | hx
    · unfold strokes at hx
      obtain ⟨l, hl, hx⟩ := List.mem_flatten.mp hx
      rw [(List.mem_replicate.mp hl).2] at hx
      simp at hx
      omega
    · simp at hx
      omega
  · simp at hx
    omega
/-- the number at k, its row -/
def nK (l : List (List Nat)) (k : Nat) : List Nat := l.getD k []
def rowK (l : List (List Nat)) (k : Nat) : List Int := rowN (nK l k)
theorem nK_at {l : List (List Nat)} {k : Nat} {n : List Nat} (h : l[k]? = some n) : nK l k = n := by unfold nK; rw [List.getD_eq_getElem?_getD, h]; rfl
section
variable (l : List (List Nat)) (m : List Nat)
/-- where the number at k steps back -/
def dAt (k : Nat) : Option Nat := diffAt (rowN m) (rowK l k)
end
/-- the greatest of them stands at im -/
structure Mx (l : List (List Nat)) (m : List Nat) (im : Nat) : Prop where
  good : ∀ n ∈ l, GoodN n
  nd : l.Nodup
  at_ : l[im]? = some m
  ge : ∀ n ∈ l, n ≤ m
section
variable {l : List (List Nat)} {m : List Nat} {im : Nat}
theorem Mx.lt (h : Mx l m im) : im < l.length := (List.getElem?_eq_some_iff.mp h.at_).1
theorem Mx.gm (h : Mx l m im) : GoodN m := h.good m (List.mem_of_getElem? h.at_)
theorem Mx.row (h : Mx l m im) : rowK l im = rowN m := by unfold rowK; rw [nK_at h.at_]
theorem Mx.self (h : Mx l m im) : dAt l m im = none := by
  unfold dAt
  rw [h.row]
  exact diffAt_self _
theorem Mx.gk (h : Mx l m im) {k : Nat} (hk : k < l.length) : GoodN (nK l k) := by
  rw [nK_at (List.getElem?_eq_getElem hk)]
  exact h.good _ (List.getElem_mem hk)
theorem Mx.eq_iff (h : Mx l m im) {k : Nat} (hk : k < l.length) : nK l k = m ↔ k = im := by
  have h2 := List.getElem?_eq_some_iff.mp h.at_
  rw [nK_at (List.getElem?_eq_getElem hk)]
  constructor
  · intro q
    exact (List.getElem_inj h.nd).mp (q.trans h2.2.symm)
  · rintro rfl
    exact h2.2
theorem Mx.other (h : Mx l m im) {k : Nat} (hk : k < l.length) (hne : k ≠ im) : ∃ d, dAt l m k = some d ∧ (rowN m)[d]? = some 1 ∧ (rowK l k)[d]? = some 0 ∧ ∀ i, i < d → (rowN m)[i]? = (rowK l k)[i]? := by
  have hg := h.gk hk
  have hm : nK l k ∈ l := by rw [nK_at (List.getElem?_eq_getElem hk)]; exact List.getElem_mem hk
  have hlt : nK l k < m := by
    rcases List.le_iff_lt_or_eq.mp (h.ge _ hm) with q | q
    · exact q
    · exact absurd ((h.eq_iff hk).mp q) hne
  obtain ⟨d, h1, h2⟩ := lt_diff h.gm hg hlt
  obtain ⟨x, y, q1, q2, q3, q4⟩ := diffAt_some h1
  refine ⟨d, h1, h2, ?_, q4⟩
  show (rowN (nK l k))[d]? = some 0
  rw [q2]
  rw [h2] at q1
  cases q1
  rcases row01 y (List.mem_of_getElem? q2) with rfl | rfl
  · rfl
  · exact absurd rfl q3
end
theorem plD_leaves {m : List Nat} {l : List (List Nat)} (hm : GoodN m) : plD 2 (.tup [.str (numS m), .tup (leavesD m l)]) := by
  have h1 : PyData.strOk (numS m) = true := (fine_num hm.fig).uni.ok
  have h2 : plL 0 (leavesD m l) := plL_iff.mpr fun d hd => by
    obtain ⟨n, _, rfl⟩ := List.mem_map.mp hd
    cases diffAt (rowN m) (rowN n) <;> simp [plOf, plD]
  simp [plD, plL, h1, h2]
end CW

namespace LK19
open PySem PySem.Spec PyProof.Rows L2 MM CW
/-- law(_law_script); slots 0 _law_script, 1 _law_k, 2 _law_bag_here, 3 _law_numbers_here, 4 _law_told, 5 _law_first, 6 _law_leaves, 7 _law_some, 8 _law_at, 9 _law_due, 10 _law_number_here, 11 _law_place -/
noncomputable def m_law : MS :=
  sSeq (sFor (iR1 (aCons (eBin addD (eC (.int 1)) (eCall minD (aCons (eC (.int 3)) (aCons (eCall lenD (aCons (eVar 0) (aNil))) (aNil))))) (aNil))) (tN 1) (sSeq (sSet 2 (eCall CW.sp_law_bagB (aCons (eVar 0) (aCons (eVar 1) (aNil)))))
  (sSeq (sSet 3 (eCall CW.sp_law_numbersB (aCons (eVar 2) (aCons (eBin addD (eC (.int 1)) (eCall CW.sp_law_takeB (aCons (eVar 2) (aCons (eC (.int 12)) (aNil))))) (aNil)))))
  (sSeq (sSet 4 (eCall CW.sp_meeting (aCons (eCall tupleA (aCons (eVar 3) (aNil))) (aNil))))
  (sSeq (sAsg (eVar 4) (tTp 2 (tsCons (tN 5) (tsCons (tN 6) (tsNil)))))
  (sSeq (sIf (tOo (tV (eBin neD (eVar 5) (eCall maxLD (aCons (eVar 3) (aNil))))) (tV (eBin neD (eCall lenD (aCons (eVar 6) (aNil))) (eCall lenD (aCons (eVar 3) (aNil)))))) (sRet (eC (.bl false))) (sPass))
  (sSeq (sSet 7 (ePl (lComp (iA (eVar 3)) [10] (tN 10) (tOo (tV (eBin eqD (eVar 10) (eVar 5))) (tV (eBin eqD (eCall CW.sp_law_takeB (aCons (eVar 2) (aCons (eC (.int 2)) (aNil)))) (eC (.int 1))))) (eVar 10))))
  (sSeq (sSet 8 (eCall CW.sp_law_takeB (aCons (eVar 2) (aCons (eCall lenD (aCons (eVar 7) (aNil))) (aNil)))))
  (sSeq (sSet 7 (eBin addD (eSl (eVar 7) (oS (eVar 8)) (oN)) (eSl (eVar 7) (oN) (oS (eVar 8)))))
  (sSeq (sSet 9 (eLs tupleD (lComp (iA (eVar 7)) [10] (tN 10) tYs (eBin ixD (eVar 6) (eMeth isPlD indexD (eVar 3) (aCons (eVar 10) aNil))))))
  (sSeq (sIf (tV (eBin neD (eCall CW.sp_meeting (aCons (eCall tupleA (aCons (eVar 7) (aNil))) (aNil))) (eTup (aCons (eVar 5) (aCons (eVar 9) (aNil)))))) (sRet (eC (.bl false))) (sPass))
  (sSeq (sFor (iZ2 (eVar 3) (eVar 6)) (tTp 2 (tsCons (tN 10) (tsCons (tN 11) (tsNil)))) (sIf (tAn (tV (eBin neD (eVar 10) (eVar 5))) (tV (eBin neD (eCall CW.sp_meeting (aCons (eTup (aCons (eVar 10) (aCons (eVar 5) (aNil)))) (aNil))) (eTup (aCons (eVar 5) (aCons (eTup (aCons (eVar 11) (aCons (eC .non) (aNil)))) (aNil))))))) (sRet (eC (.bl false))) (sPass)))
  (sIf (tOo (tV (eBin neD (eCall CW.sp_meeting (aCons (eCall tupleA (aCons (eRev (eVar 3)) (aNil))) (aNil))) (eTup (aCons (eVar 5) (aCons (eRev (eVar 6)) (aNil)))))) (tV (eBin neD (eCall CW.sp_meeting (aCons (eCall tupleA (aCons (eVar 3) (aNil))) (aNil))) (eVar 4)))) (sRet (eC (.bl false))) (sPass))))))))))))))
  (sRet (eC (.bl true)))
noncomputable def sp_law : FL := body 12 m_law
theorem le_anti {a b : List Nat} (h : a ≤ b) (g : b ≤ a) : a = b := List.le_antisymm h g
theorem meet_all {L : List (List Nat)} {m : List Nat} {S : Sto} (hg : ∀ n ∈ L, GoodN n) (hm : m ∈ L) (hge : ∀ n ∈ L, n ≤ m) (hl : L.length ≤ 1000) :
    sp_meeting [.tup (nD L)] S = .ok (.tup [.str (numS m), .tup (leavesD m L)]) S := by
  cases L with
  | nil => cases hm
  | cons f l =>
    have e := meeting_ev (f := f) (l := l) (S := S) (hg f (by simp)) (fun n h => hg n (by simp [h])) (by simp at hl; omega)
    have hx : mxN f l ∈ f :: l := by
      rcases mxN_mem l f with q | q
      · rw [q]; exact List.mem_cons_self
      · exact List.mem_cons_of_mem _ q
    have h1 : m ≤ mxN f l := by
      rcases List.mem_cons.mp hm with rfl | h
      · exact (mxN_ge l m).1
      · exact (mxN_ge l f).2 _ h
    rw [le_anti (hge _ hx) h1] at e
    exact e
theorem maxS_num : ∀ (l : List (List Nat)) (f : List Nat), maxS (numS f) (l.map numS) = numS (mxN f l)
  | [], f => rfl
  | n :: l, f => by
    have ih := maxS_num l (if f < n then n else f)
    have e : mxN f (n :: l) = mxN (if f < n then n else f) l := rfl
    rw [e, ← ih]
    unfold maxS
    rw [List.map_cons, List.foldl_cons, num_lt]
    by_cases h : f < n
    · simp [h]
    · simp [h]
theorem txts_nD (l : List (List Nat)) : txts (nD l) = some (l.map numS) := txts_map numS l
theorem max_nums {f : List Nat} {l : List (List Nat)} {S : Sto} : maxLD [.pl (nD (f :: l))] S = .ok (.str (numS (mxN f l))) S := by
  have e1 : seqOf S (.pl (nD (f :: l))) = some (nD (f :: l)) := rfl
  have e2 : intsD (nD (f :: l)) = none := rfl
  unfold maxLD
  simp only [e1, e2, txts_nD, List.map_cons]
  rw [maxS_num]
/-- some of them -/
noncomputable def tst : MT := tOo (tV (eBin eqD (eVar 10) (eVar 5))) (tV (eBin eqD (eCall CW.sp_law_takeB (aCons (eVar 2) (aCons (eC (.int 2)) (aNil)))) (eC (.int 1))))
theorem some_ev {m : List Nat} {b : Nat} {x0 x1 x3 x4 x6 x7 x8 x9 x10 x11 : Option D} : ∀ (l : List (List Nat)) {S : Sto}, Bag2 S b → ∃ l' S', lcD noG (tN 10) tst (eVar 10) [x0, x1, some (.ref b), x3, x4, some (.str (numS m)), x6, x7, x8, x9, x10, x11] (nD l) S = .ok (nD l') S'
    ∧ (∀ n ∈ l', n ∈ l) ∧ (m ∈ l → m ∈ l') ∧ l'.length ≤ l.length ∧ Took b S S'
  | [], S, hb => ⟨[], S, by simp [nD, lcD, noG], by simp, by simp, by simp, Took.refl hb⟩
  | n :: l, S, hb => by
    have ht : ∀ ρ1 : Fr, ρ1 = [x0, x1, some (.ref b), x3, x4, some (.str (numS m)), x6, x7, x8, x9, some (.str (numS n)), x11] → ∃ p S1, tst ρ1 S = .ok p S1 ∧ (n = m → p = true) ∧ Took b S S1 := by
      rintro _ rfl
      unfold tst
      by_cases h : n = m
      · subst h
        exact ⟨true, S, by simp, fun _ => rfl, Took.refl hb⟩
      · have h' : ¬ numS n = numS m := fun q => h (numS_inj q)
        obtain ⟨d, S', e, h0, h1, w⟩ := takeB_ev (n := 2) hb (by decide) (by decide)
        exact ⟨decide (d = 1), S', by simp [h', e], fun q => absurd q h, w⟩
    obtain ⟨p, S1, e1, hp, w1⟩ := ht _ rfl
    obtain ⟨l', S2, e2, h1, h2, h3, w2⟩ := some_ev (m := m) (x0 := x0) (x1 := x1) (x3 := x3) (x4 := x4) (x6 := x6) (x7 := x7) (x8 := x8) (x9 := x9) (x10 := x10) (x11 := x11) l w1.1
    have en : nD (n :: l) = .str (numS n) :: nD l := rfl
    rw [en]
    cases p with
    | true =>
      refine ⟨n :: l', S2, ?_, ?_, ?_, by simp; exact h3, w1.trans w2⟩
      · rw [show nD (n :: l') = .str (numS n) :: nD l' from rfl]
        simp [lcD, noG, tN, e1]
        rw [e2]
        rfl
      · intro k hk
        rcases List.mem_cons.mp hk with rfl | hk
        · simp
        · simp [h1 k hk]
      · intro hk
        rcases List.mem_cons.mp hk with rfl | hk
        · simp
        · simp [h2 hk]
    | false =>
      refine ⟨l', S2, ?_, fun k hk => by simp [h1 k hk], ?_, by simp; omega, w1.trans w2⟩
      · simp [lcD, noG, tN, e1]
        exact e2
      · intro hk
        rcases List.mem_cons.mp hk with rfl | hk
        · exact absurd (hp rfl) (by decide)
        · exact h2 hk
theorem index_ev {l : List (List Nat)} {n : List Nat} {S : Sto} (h : n ∈ l) : ∃ j : Nat, indexD (.pl (nD l)) [.str (numS n)] S = .ok (.int (j : Int)) S ∧ l[j]? = some n := by
  have hm : numS n ∈ l.map numS := List.mem_map.mpr ⟨n, h, rfl⟩
  refine ⟨(l.map numS).idxOf (numS n), ?_, ?_⟩
  · unfold indexD
    simp only [txts_nD, hm, if_true]
  · have hi := List.idxOf_lt_length_of_mem hm
    have hg := List.getElem_idxOf hi
    rw [List.getElem_map] at hg
    rw [List.length_map] at hi
    rw [List.getElem?_eq_getElem hi, numS_inj hg]
theorem leaves_of {l : List (List Nat)} {m n : List Nat} {j : Nat} (h : l[j]? = some n) : atI (leavesD m l) (j : Int) = some (plOf (diffAt (rowN m) (rowN n))) := by
  refine atI_nat (j := j) ?_
  unfold leavesD
  rw [List.getElem?_map, h]
  rfl
noncomputable def elt : ME := eBin ixD (eVar 6) (eMeth isPlD indexD (eVar 3) (aCons (eVar 10) aNil))
theorem due_ev {l L : List (List Nat)} {m : List Nat} {S : Sto} {x0 x1 x2 x4 x5 x7 x8 x9 x10 x11 : Option D} (h : ∀ n ∈ L, n ∈ l) :
    lcD noG (tN 10) tYs elt [x0, x1, x2, some (.pl (nD l)), x4, x5, some (.tup (leavesD m l)), x7, x8, x9, x10, x11] (nD L) S = .ok (leavesD m L) S := by
  refine lcOf (g := noG) (fun n => D.str (numS n)) (fun n => plOf (diffAt (rowN m) (rowN n))) trivial (l := L) (fun n hn => ⟨_, rfl, ?_⟩)
  obtain ⟨j, e, hj⟩ := index_ev (S := S) (h n hn)
  have g := leaves_of (m := m) hj
  unfold elt
  simp -implicitDefEqProofs [eMeth, isPlD, e, g]
noncomputable def one : MS := sIf (tAn (tV (eBin neD (eVar 10) (eVar 5))) (tV (eBin neD (eCall CW.sp_meeting (aCons (eTup (aCons (eVar 10) (aCons (eVar 5) (aNil)))) (aNil))) (eTup (aCons (eVar 5) (aCons (eTup (aCons (eVar 11) (aCons (eC .non) (aNil)))) (aNil))))))) (sRet (eC (.bl false))) (sPass)
theorem one_ev {m n : List Nat} {S : Sto} {x0 x1 x2 x3 x4 x6 x7 x8 x9 : Option D} (hm : GoodN m) (hn : GoodN n) (hle : n ≤ m) :
    Nx (one [x0, x1, x2, x3, x4, some (.str (numS m)), x6, x7, x8, x9, some (.str (numS n)), some (plOf (diffAt (rowN m) (rowN n)))] S)
      fun ρ S' => S' = S ∧ ρ = [x0, x1, x2, x3, x4, some (.str (numS m)), x6, x7, x8, x9, some (.str (numS n)), some (plOf (diffAt (rowN m) (rowN n)))] := by
  refine nx_of fun Q hQ => ?_
  have e := meet_all (L := [n, m]) (m := m) (S := S) (by simp [hm, hn]) (by simp) (by simp [hle]) (by simp)
  have e1 : leavesD m [n, m] = [plOf (diffAt (rowN m) (rowN n)), .non] := by simp [leavesD, diffAt_self, plOf]
  have n1 := ne_same (S := S) (n := 2) (plD_leaves (m := m) (l := [n, m]) hm) (by decide)
  rw [e1] at e n1
  rw [show nD [n, m] = [.str (numS n), .str (numS m)] from rfl] at e
  unfold one
  by_cases h : numS n = numS m
  · simp -implicitDefEqProofs [h]
    exact hQ _ _ ⟨rfl, by rw [h]⟩
  · simp -implicitDefEqProofs [h, e, n1, sizeL]
    exact hQ _ _ ⟨rfl, rfl⟩
theorem law_turn {ns : List Int} {i : Nat} (hi : i < 7) {S : Sto} {x2 x3 x4 x5 x6 x7 x8 x9 x10 x11 : Option D} :
    Ran (fun ρ => ∃ x1 x2 x3 x4 x5 x6 x7 x8 x9 x10 x11, ρ = [some (.scr ns), x1, x2, x3, x4, x5, x6, x7, x8, x9, x10, x11]) ((sSeq (sSet 2 (eCall CW.sp_law_bagB (aCons (eVar 0) (aCons (eVar 1) (aNil)))))
  (sSeq (sSet 3 (eCall CW.sp_law_numbersB (aCons (eVar 2) (aCons (eBin addD (eC (.int 1)) (eCall CW.sp_law_takeB (aCons (eVar 2) (aCons (eC (.int 12)) (aNil))))) (aNil)))))
  (sSeq (sSet 4 (eCall CW.sp_meeting (aCons (eCall tupleA (aCons (eVar 3) (aNil))) (aNil))))
  (sSeq (sAsg (eVar 4) (tTp 2 (tsCons (tN 5) (tsCons (tN 6) (tsNil)))))
  (sSeq (sIf (tOo (tV (eBin neD (eVar 5) (eCall maxLD (aCons (eVar 3) (aNil))))) (tV (eBin neD (eCall lenD (aCons (eVar 6) (aNil))) (eCall lenD (aCons (eVar 3) (aNil)))))) (sRet (eC (.bl false))) (sPass))
  (sSeq (sSet 7 (ePl (lComp (iA (eVar 3)) [10] (tN 10) tst (eVar 10))))
  (sSeq (sSet 8 (eCall CW.sp_law_takeB (aCons (eVar 2) (aCons (eCall lenD (aCons (eVar 7) (aNil))) (aNil)))))
  (sSeq (sSet 7 (eBin addD (eSl (eVar 7) (oS (eVar 8)) (oN)) (eSl (eVar 7) (oN) (oS (eVar 8)))))
  (sSeq (sSet 9 (eLs tupleD (lComp (iA (eVar 7)) [10] (tN 10) tYs elt)))
  (sSeq (sIf (tV (eBin neD (eCall CW.sp_meeting (aCons (eCall tupleA (aCons (eVar 7) (aNil))) (aNil))) (eTup (aCons (eVar 5) (aCons (eVar 9) (aNil)))))) (sRet (eC (.bl false))) (sPass))
  (sSeq (sFor (iZ2 (eVar 3) (eVar 6)) (tTp 2 (tsCons (tN 10) (tsCons (tN 11) (tsNil)))) one)
  (sIf (tOo (tV (eBin neD (eCall CW.sp_meeting (aCons (eCall tupleA (aCons (eRev (eVar 3)) (aNil))) (aNil))) (eTup (aCons (eVar 5) (aCons (eRev (eVar 6)) (aNil)))))) (tV (eBin neD (eCall CW.sp_meeting (aCons (eCall tupleA (aCons (eVar 3) (aNil))) (aNil))) (eVar 4)))) (sRet (eC (.bl false))) (sPass))))))))))))) [some (.scr ns), some (.int (i : Int)), x2, x3, x4, x5, x6, x7, x8, x9, x10, x11] S) := by
  show Nx _ (fun ρ _ => _)
  refine nx_of fun Q hQ => ?_
  simp
  generalize hr_ : sp_law_bagB [D.scr _, D.int _] _ = r_
  obtain ⟨S1, hq_, w1, hb1⟩ := bagB_of hr_ (by omega) (by omega)
  clear hr_
  subst hq_
  simp
  generalize hr_ : sp_law_takeB [D.ref _, D.int _] _ = r_
  obtain ⟨k, S2, hq_, a2, b2, w2, hb2⟩ := takeB_of hr_ (by assumption) (by omega) (by omega)
  clear hr_
  subst hq_
  obtain ⟨l, S3, e3, hl, hl2, w3⟩ := numbersB_ev (many := 1 + k) hb2 (by omega) (by omega)
  simp [e3]
  cases l with
  | nil => exact absurd hl.pos (by simp)
  | cons f l0 =>
  have hx : mxN f l0 ∈ f :: l0 := by
    rcases mxN_mem l0 f with q | q
    · rw [q]; exact List.mem_cons_self
    · exact List.mem_cons_of_mem _ q
  have hge : ∀ n ∈ f :: l0, n ≤ mxN f l0 := fun n hq => by
    rcases List.mem_cons.mp hq with rfl | hq
    · exact (mxN_ge l0 n).1
    · exact (mxN_ge l0 f).2 n hq
  have emax := fun S => max_nums (f := f) (l := l0) (S := S)
  generalize mxN f l0 = m at *
  generalize f :: l0 = l at *
  have hgm : GoodN m := hl.good m hx
  have hlen : l.length ≤ 12 := by omega
  have meet0 := fun S => meet_all (S := S) hl.good hx hge (by omega)
  have hz : l.length ≤ 16777216 := by omega
  have hlz : (leavesD m l).length = l.length := by simp [leavesD]
  have l1 : ∀ S, lenD [.tup (leavesD m l)] S = .ok (.int (l.length : Int)) S := fun S => by simp [lenD, hlz]
  have l2 : ∀ S, lenD [.pl (nD l)] S = .ok (.int (l.length : Int)) S := fun S => by simp [lenD]
  obtain ⟨l', S4, e4, hs1, hs2, hs3, w4⟩ := some_ev (m := m) (x0 := some (.scr ns)) (x1 := some (.int (i : Int))) (x3 := some (.pl (nD l))) (x4 := some (.tup [.str (numS m), .tup (leavesD m l)])) (x6 := some (.tup (leavesD m l))) (x7 := x7) (x8 := x8) (x9 := x9) (x10 := none) (x11 := x11) l w3.1
  have hb4 := w4.1
  have hp : 1 ≤ l'.length := List.length_pos_of_mem (hs2 hx)
  obtain ⟨at_, S5, e5, a5, b5, w5⟩ := takeB_ev (n := (l'.length : Int)) hb4 (by omega) (by omega)
  obtain ⟨j, rfl⟩ := Int.eq_ofNat_of_zero_le a5
  have big : ∀ n : Nat, n ≤ 100 → n ≤ sizeLine := fun n h => by rw [sizeL]; omega
  have hzs := big l.length (by omega)
  have l3 : ∀ S, lenD [.pl (nD l')] S = .ok (.int (l'.length : Int)) S := fun S => by simp [lenD]
  have c1 : MM.cutD (nD l') (some (j : Int)) none = nD (l'.drop j) := by rw [cut_fromN]; simp [nD, List.map_drop]
  have c2 : MM.cutD (nD l') none (some (j : Int)) = nD (l'.take j) := by rw [cut_toN]; simp [nD, List.map_take]
  have c3 : ∀ S, addD (.pl (nD (l'.drop j))) (.pl (nD (l'.take j))) S = .ok (.pl (nD (l'.drop j ++ l'.take j))) S := fun S => by
    rw [addD_pl (by simp only [nD_length, List.length_drop, List.length_take]; exact big _ (by omega))]
    simp [nD]
  have hL1 : ∀ n ∈ l'.drop j ++ l'.take j, n ∈ l := fun n h => by
    rcases List.mem_append.mp h with h | h
    · exact hs1 n (List.mem_of_mem_drop h)
    · exact hs1 n (List.mem_of_mem_take h)
  have hL2 : m ∈ l'.drop j ++ l'.take j := by
    have := hs2 hx
    rw [← List.take_append_drop j l'] at this
    rcases List.mem_append.mp this with h | h
    · exact List.mem_append_right _ h
    · exact List.mem_append_left _ h
  have hL3 : (l'.drop j ++ l'.take j).length ≤ 12 := by simp only [List.length_append, List.length_drop, List.length_take]; omega
  have c4 : ∀ S, addD (.pl (MM.cutD (nD l') (some (j : Int)) none)) (.pl (MM.cutD (nD l') none (some (j : Int)))) S = .ok (.pl (nD (l'.drop j ++ l'.take j))) S := fun S => by rw [c1, c2, c3]
  generalize l'.drop j ++ l'.take j = L at *
  have hzL := big L.length (by omega)
  have meetL := fun S => meet_all (S := S) (fun n h => hl.good n (hL1 n h)) hL2 (fun n h => hge n (hL1 n h)) (by omega)
  have dueL := fun T x8 => due_ev (l := l) (L := L) (m := m) (S := T) (x0 := some (.scr ns)) (x1 := some (.int (i : Int))) (x2 := some (.ref (List.length S))) (x4 := some (.tup [.str (numS m), .tup (leavesD m l)])) (x5 := some (.str (numS m))) (x7 := some (.pl (nD L))) (x8 := x8) (x9 := x9) (x10 := none) (x11 := x11) hL1
  simp -implicitDefEqProofs [meet0, emax, l1, l2, l3, hz, hzs, e4, e5, c4, hzL, meetL, dueL]
  have n1 := fun S => ne_same (S := S) (n := 2) (plD_leaves (m := m) (l := L) hgm) (by decide)
  have n2 := fun S => ne_same (S := S) (n := 2) (plD_leaves (m := m) (l := l) hgm) (by decide)
  have n3 := fun S => ne_same (S := S) (n := 2) (plD_leaves (m := m) (l := l.reverse) hgm) (by decide)
  have meetR := fun S => meet_all (S := S) (L := l.reverse) (m := m) (fun n h => hl.good n (List.mem_reverse.mp h)) (List.mem_reverse.mpr hx) (fun n h => hge n (List.mem_reverse.mp h)) (by rw [List.length_reverse]; omega)
  have r1 : (nD l).reverse = nD l.reverse := by simp [nD, List.map_reverse]
  have r2 : (leavesD m l).reverse = leavesD m l.reverse := by simp [leavesD, List.map_reverse]
  have Lp := for_nx (g := fun S => noG S) (tg := tTp 2 (tsCons (tN 10) (tsCons (tN 11) tsNil))) (b := one) (items := zipD2 (nD l) (leavesD m l)) (ρ := [some (.scr ns), some (.int (i : Int)), some (.ref S.length), some (.pl (nD l)), some (.tup [.str (numS m), .tup (leavesD m l)]), some (.str (numS m)), some (.tup (leavesD m l)), some (.pl (nD L)), some (.int (j : Int)), some (.tup (leavesD m L)), x10, x11]) (S := S5)
    (fun _ ρ S' => S' = S5 ∧ ∃ x10 x11, ρ = [some (.scr ns), some (.int (i : Int)), some (.ref S.length), some (.pl (nD l)), some (.tup [.str (numS m), .tup (leavesD m l)]), some (.str (numS m)), some (.tup (leavesD m l)), some (.pl (nD L)), some (.int (j : Int)), some (.tup (leavesD m L)), x10, x11])
    ⟨rfl, _, _, rfl⟩ (fun _ _ _ _ => trivial) (by
      rintro p d ρ S' hd' ⟨rfl, x10, x11, rfl⟩
      obtain ⟨y1, y2, g1, g2, rfl⟩ := zipD2_get hd'
      unfold nD at g1
      unfold leavesD at g2
      rw [List.getElem?_map] at g1 g2
      obtain ⟨n, hn, rfl⟩ := Option.map_eq_some_iff.mp g1
      rw [hn] at g2
      cases g2
      have hnl := List.mem_of_getElem? hn
      refine ⟨_, rfl, ?_⟩
      obtain ⟨ρ2, S2, e, rfl, rfl⟩ := one_ev (S := S') (m := m) (n := n) (x0 := some (.scr ns)) (x1 := some (.int (i : Int))) (x2 := some (.ref S.length)) (x3 := some (.pl (nD l))) (x4 := some (.tup [.str (numS m), .tup (leavesD m l)])) (x6 := some (.tup (leavesD m l))) (x7 := some (.pl (nD L))) (x8 := some (.int (j : Int))) (x9 := some (.tup (leavesD m L))) hgm (hl.good n hnl) (hge n hnl)
      exact ⟨_, _, e, rfl, _, _, rfl⟩)
  obtain ⟨ρ2, S6, e6, rfl, y10, y11, rfl⟩ := Lp
  have two : 2 ≤ sizeLine := big 2 (by omega)
  have z1 : ∀ S, (srcX S (.pl (nD l))) = some (nD l, noG, false) := fun S => rfl
  have z2 : ∀ S, (srcX S (.tup (leavesD m l))) = some (leavesD m l, noG, true) := fun S => rfl
  have v1 : ∀ S, revD (.pl (nD l)) S = .ok (.pl (nD l.reverse)) S := fun S => by rw [← r1]; rfl
  have v2 : ∀ S, revD (.tup (leavesD m l)) S = .ok (.tup (leavesD m l.reverse)) S := fun S => by rw [← r2]; rfl
  have hzr : l.reverse.length ≤ 16777216 := by rw [List.length_reverse]; omega
  generalize l.reverse = lr at *
  simp -implicitDefEqProofs [two, n1, z1, z2, e6, eRev, v1, v2, meetR, n3, meet0, n2, hz, hzs, hzr]
  exact hQ _ _ ⟨_, _, _, _, _, _, _, _, _, _, _, rfl⟩
theorem law_true : ∀ ns : List Int, ns.length ≤ 63 → ∃ S, sp_law [.scr ns] [] = .ok (.bl true) S := by
  intro ns hl
  have hm : ∀ n : Nat, (1 + (if (n : Int) < 3 then (n : Int) else 3)).toNat ≤ 4 := fun n => by split <;> omega
  have hwd : ∀ n : Nat, Wd (1 + (if (n : Int) < 3 then (n : Int) else 3)) := fun n => by split <;> exact wd_of (by omega) (by omega)
  unfold sp_law m_law
  simp [hwd]
  refine cells_range (v := 1) _ (fun ρ => ∃ x1 x2 x3 x4 x5 x6 x7 x8 x9 x10 x11, ρ = [some (.scr ns), x1, x2, x3, x4, x5, x6, x7, x8, x9, x10, x11]) ⟨_, _, _, _, _, _, _, _, _, _, _, rfl⟩ ?_ ?_
  · rintro i ρ S' hi ⟨x1, x2, x3, x4, x5, x6, x7, x8, x9, x10, x11, rfl⟩
    exact law_turn (by have := hm ns.length; omega)
  · rintro ρ S ⟨x1, x2, x3, x4, x5, x6, x7, x8, x9, x10, x11, rfl⟩
    exact ⟨S, by simp⟩
end LK19

namespace LK19
open PySem PySem.Spec PyProof.Rows L2 MM CW
def topS (i : Nat) : Stmt := PySem.Challenge.pw_callwheel_k19_meetings_of_some.main.body.getD i (.Pass ⟨0, 0, 0, 0⟩)
abbrev s__law_cell_at : Stmt := topS 12
abbrev N__law_cell_at : List Str := ["_law_script", "_law_k"]
theorem sc__law_cell_at : FnScope N__law_cell_at ["_law_script", "_law_k"] (defScope s__law_cell_at) := ⟨rfl, rfl, rfl, by decide +kernel, rfl, by decide +kernel, by decide +kernel⟩
abbrev s__law_bag : Stmt := topS 13
abbrev N__law_bag : List Str := ["_law_script", "_law_at", "_law_primes", "_law_cell", "_law_mix", "_law_k", "_law_one"]
theorem sc__law_bag : FnScope N__law_bag ["_law_script", "_law_at"] (defScope s__law_bag) := ⟨rfl, rfl, rfl, by decide +kernel, rfl, by decide +kernel, by decide +kernel⟩
abbrev s__law_take : Stmt := topS 14
abbrev N__law_take : List Str := ["_law_bag_here", "_law_many", "_law_digit"]
theorem sc__law_take : FnScope N__law_take ["_law_bag_here", "_law_many"] (defScope s__law_take) := ⟨rfl, rfl, rfl, by decide +kernel, rfl, by decide +kernel, by decide +kernel⟩
abbrev s__law_number : Stmt := topS 15
abbrev N__law_number : List Str := ["_law_bag_here", "_law_most", "_law_many", "_law_left", "_law_text", "_law_k", "_law_figure"]
theorem sc__law_number : FnScope N__law_number ["_law_bag_here"] (defScope s__law_number) := ⟨rfl, rfl, rfl, by decide +kernel, rfl, by decide +kernel, by decide +kernel⟩
abbrev s__law_near : Stmt := topS 16
abbrev N__law_near : List Str := ["_law_bag_here", "_law_number_here", "_law_way", "_law_last", "_law_together", "_law_figure"]
theorem sc__law_near : FnScope N__law_near ["_law_bag_here", "_law_number_here"] (defScope s__law_near) := ⟨rfl, rfl, rfl, by decide +kernel, rfl, by decide +kernel, by decide +kernel⟩
abbrev s__law_numbers : Stmt := topS 17
abbrev N__law_numbers : List Str := ["_law_bag_here", "_law_many", "_law_found", "_law_turn", "_law_near_here", "_law_number_here"]
theorem sc__law_numbers : FnScope N__law_numbers ["_law_bag_here", "_law_many"] (defScope s__law_numbers) := ⟨rfl, rfl, rfl, by decide +kernel, rfl, by decide +kernel, by decide +kernel⟩
abbrev s_figure_row : Stmt := topS 4
abbrev N_figure_row : List Str := ["figure"]
theorem sc_figure_row : FnScope N_figure_row ["figure"] (defScope s_figure_row) := ⟨rfl, rfl, rfl, by decide +kernel, rfl, by decide +kernel, by decide +kernel⟩
abbrev s_row_of : Stmt := topS 5
abbrev N_row_of : List Str := ["number", "found", "figure"]
theorem sc_row_of : FnScope N_row_of ["number"] (defScope s_row_of) := ⟨rfl, rfl, rfl, by decide +kernel, rfl, by decide +kernel, by decide +kernel⟩
abbrev s_goes_ahead : Stmt := topS 6
abbrev N_goes_ahead : List Str := ["one", "other", "mine", "theirs"]
theorem sc_goes_ahead : FnScope N_goes_ahead ["one", "other"] (defScope s_goes_ahead) := ⟨rfl, rfl, rfl, by decide +kernel, rfl, by decide +kernel, by decide +kernel⟩
abbrev s_first_of : Stmt := topS 7
abbrev N_first_of : List Str := ["numbers", "first", "number"]
theorem sc_first_of : FnScope N_first_of ["numbers"] (defScope s_first_of) := ⟨rfl, rfl, rfl, by decide +kernel, rfl, by decide +kernel, by decide +kernel⟩
abbrev s_leaving_place : Stmt := topS 9
abbrev N_leaving_place : List Str := ["first", "number", "place", "ahead", "own"]
theorem sc_leaving_place : FnScope N_leaving_place ["first", "number"] (defScope s_leaving_place) := ⟨rfl, rfl, rfl, by decide +kernel, rfl, by decide +kernel, by decide +kernel⟩
abbrev s_meeting : Stmt := topS 10
abbrev N_meeting : List Str := ["numbers", "first", "number"]
theorem sc_meeting : FnScope N_meeting ["numbers"] (defScope s_meeting) := ⟨rfl, rfl, rfl, by decide +kernel, rfl, by decide +kernel, by decide +kernel⟩
abbrev s_law : Stmt := topS 18
abbrev N_law : List Str := ["_law_script", "_law_k", "_law_bag_here", "_law_numbers_here", "_law_told", "_law_first", "_law_leaves", "_law_some", "_law_at", "_law_due", "_law_number_here", "_law_place"]
theorem sc_law : FnScope N_law ["_law_script"] (defScope s_law) := ⟨rfl, rfl, rfl, by decide +kernel, rfl, by decide +kernel, by decide +kernel⟩
structure Txt (K : PySem.W.Frag) (mg : Str → Option Value) (c : Cl) : Prop where
  d__law_cell_at : Def K mg "_law_cell_at" ["_law_script", "_law_k"] s__law_cell_at
  d__law_bag : Def K mg "_law_bag" ["_law_script", "_law_at"] s__law_bag
  d__law_take : Def K mg "_law_take" ["_law_bag_here", "_law_many"] s__law_take
  d__law_number : Def K mg "_law_number" ["_law_bag_here"] s__law_number
  d__law_near : Def K mg "_law_near" ["_law_bag_here", "_law_number_here"] s__law_near
  d__law_numbers : Def K mg "_law_numbers" ["_law_bag_here", "_law_many"] s__law_numbers
  d_figure_row : Def K mg "figure_row" ["figure"] s_figure_row
  d_row_of : Def K mg "row_of" ["number"] s_row_of
  d_goes_ahead : Def K mg "goes_ahead" ["one", "other"] s_goes_ahead
  d_first_of : Def K mg "first_of" ["numbers"] s_first_of
  d_leaving_place : Def K mg "leaving_place" ["first", "number"] s_leaving_place
  d_meeting : Def K mg "meeting" ["numbers"] s_meeting
  d_law : Def K mg "law" ["_law_script"] s_law
  n_enumerate : mg "enumerate" = none
  n_int : mg "int" = none
  n_len : mg "len" = none
  n_max : mg "max" = none
  n_min : mg "min" = none
  n_range : mg "range" = none
  n_str : mg "str" = none
  n_sum : mg "sum" = none
  n_tuple : mg "tuple" = none
  n_zip : mg "zip" = none
  c_BREAK : ∃ t, mg "BREAK" = some (.int 1 t)
  c_CLOSED : ∃ t, mg "CLOSED" = some (.int 0 t)
  c_GAP : ∃ t, mg "GAP" = some (.int 2 t)
section
variable {P : Program} {w : World} {K : PySem.W.Frag} {mg : Str → Option Value} {base : Heap} {c : Cl}
set_option maxHeartbeats 4000000 in
theorem ok__law_cell_at (T : Txt K mg c) : FnG P w K mg base c 1 "_law_cell_at" ["_law_script", "_law_k"] CW.sp_law_cell_at :=
  fnG_of (k := 0) (N := N__law_cell_at) T.d__law_cell_at sc__law_cell_at fun f cdv A outer s H E hr tk hp => dss_cons (ds_if (dt_cmp op_ltA fits_ord (de_var (pv 1)) (de_callB call_len fits_len rfl T.n_len boot_len (da_cons (de_var (pv 0)) (da_nil))) (nomark _)) (dss_one (ds_ret (de_ix (de_var (pv 0)) (de_var (pv 1))))) (dss_nil))
    (dss_one (ds_ret (de_int)))
set_option maxHeartbeats 4000000 in
theorem ok__law_bag (T : Txt K mg c) : FnG P w K mg base c 2 "_law_bag" ["_law_script", "_law_at"] CW.sp_law_bagB :=
  fnG_of (k := 1) (N := N__law_bag) T.d__law_bag sc__law_bag fun f cdv A outer s H E hr tk hp => dss_cons (ds_set (i := 2) sc__law_bag.nd rfl (Or.inl rfl) (de_tup (da_cons (de_int) (da_cons (de_int) (da_cons (de_int) (da_cons (de_int) (da_cons (de_int) (da_cons (de_int) (da_cons (de_int) (da_cons (de_int) (da_cons (de_int) (da_nil))))))))))))
    (dss_cons (ds_set (i := 3) sc__law_bag.nd rfl (Or.inl rfl) (de_callG (ok__law_cell_at T) hr (by decide) rfl tk (da_cons (de_var (pv 0)) (da_cons (de_var (pv 1)) (da_nil))) rfl (aCons_len (aCons_len aNil_len))))
    (dss_cons (ds_set (i := 4) sc__law_bag.nd rfl (Or.inl rfl) (de_binF op_addA fits_add (de_binF op_mulA fits_mul (de_int) (de_var (pv 1))) (de_int)))
    (dss_cons (ds_for hp rfl (di_range1 rfl T.n_range (da_cons (de_int) (da_nil))) (dg_name (pg_name (i := 5) sc__law_bag.nd rfl (Or.inl rfl))) (dss_cons (ds_set (i := 6) sc__law_bag.nd rfl (Or.inl rfl) (de_binF op_addA fits_add (de_binF op_addA fits_add (de_bin op_mod fits_mod (de_callG (ok__law_cell_at T) hr (by decide) rfl tk (da_cons (de_var (pv 0)) (da_cons (de_binF op_addA fits_add (de_var (pv 1)) (de_var (pv 5))) (da_nil))) rfl (aCons_len (aCons_len aNil_len))) (de_bin op_pow fits_pow (de_int) (de_int))) (de_binF op_mulA fits_mul (de_int) (de_var (pv 5)))) (de_int)))
    (dss_one (ds_set (i := 4) sc__law_bag.nd rfl (Or.inl rfl) (de_bin op_mod fits_mod (de_binF op_addA fits_add (de_binF op_mulA fits_mul (de_var (pv 4)) (de_int)) (de_bin op_mod fits_mod (de_bin op_pow fits_pow (de_var (pv 6)) (de_int)) (de_ix (de_var (pv 2)) (de_var (pv 5))))) (de_int))))))
    (dss_cons (ds_if (dt_cmp op_ltA fits_ord (de_var (pv 3)) (de_bin op_pow fits_pow (de_int) (de_int)) (nomark _)) (dss_one (ds_set (i := 3) sc__law_bag.nd rfl (Or.inl rfl) (de_int))) (dss_nil))
    (dss_one (ds_ret (de_new (dn_lst (da_cons (de_var (pv 3)) (da_cons (de_binF op_addA fits_add (de_var (pv 4)) (de_int)) (da_nil)))))))))))
set_option maxHeartbeats 4000000 in
theorem ok__law_take (T : Txt K mg c) : FnG P w K mg base c 1 "_law_take" ["_law_bag_here", "_law_many"] CW.sp_law_takeB :=
  fnG_of (k := 0) (N := N__law_take) T.d__law_take sc__law_take fun f cdv A outer s H E hr tk hp => dss_cons (ds_if (dt_cmp op_gtA fits_ord (de_ix (de_var (pv 0)) (de_int)) (de_int) (nomark _)) (dss_cons (ds_set (i := 2) sc__law_take.nd rfl (Or.inl rfl) (de_bin op_mod fits_mod (de_ix (de_var (pv 0)) (de_int)) (de_var (pv 1))))
    (dss_cons (ds_setIx (de_bin op_fdivW fits_fdiv (de_ix (de_var (pv 0)) (de_int)) (de_var (pv 1))) (de_var (pv 0)) (de_int))
    (dss_one (ds_ret (de_var (pv 2)))))) (dss_nil))
    (dss_cons (ds_setIx (de_bin op_mod fits_mod (de_binF op_mulA fits_mul (de_ix (de_var (pv 0)) (de_int)) (de_int)) (de_int)) (de_var (pv 0)) (de_int))
    (dss_one (ds_ret (de_bin op_mod fits_mod (de_bin op_mod fits_mod (de_bin op_mod fits_mod (de_bin op_pow fits_pow (de_ix (de_var (pv 0)) (de_int)) (de_int)) (de_int)) (de_int)) (de_var (pv 1))))))
set_option maxHeartbeats 4000000 in
theorem ok__law_number (T : Txt K mg c) : FnG P w K mg base c 2 "_law_number" ["_law_bag_here"] CW.sp_law_numB :=
  fnG_of (k := 1) (N := N__law_number) T.d__law_number sc__law_number fun f cdv A outer s H E hr tk hp => dss_cons (ds_set (i := 1) sc__law_number.nd rfl (Or.inl rfl) (de_ix (de_pl (dn_lst (da_cons (de_int) (da_cons (de_int) (da_cons (de_int) (da_nil)))))) (de_callG (ok__law_take T) hr (by decide) rfl tk (da_cons (de_var (pv 0)) (da_cons (de_int) (da_nil))) rfl (aCons_len (aCons_len aNil_len)))))
    (dss_cons (ds_set (i := 2) sc__law_number.nd rfl (Or.inl rfl) (de_binF op_addA fits_add (de_int) (de_callG (ok__law_take T) hr (by decide) rfl tk (da_cons (de_var (pv 0)) (da_cons (de_int) (da_nil))) rfl (aCons_len (aCons_len aNil_len)))))
    (dss_cons (ds_set (i := 3) sc__law_number.nd rfl (Or.inl rfl) (de_int))
    (dss_cons (ds_set (i := 4) sc__law_number.nd rfl (Or.inl rfl) (de_str))
    (dss_cons (ds_for hp rfl (di_range1 rfl T.n_range (da_cons (de_var (pv 2)) (da_nil))) (dg_name (pg_name (i := 5) sc__law_number.nd rfl (Or.inl rfl))) (dss_cons (ds_set (i := 6) sc__law_number.nd rfl (Or.inl rfl) (de_binF op_addA fits_add (de_int) (de_callG (ok__law_take T) hr (by decide) rfl tk (da_cons (de_var (pv 0)) (da_cons (de_callB (call_min2 rfl) fits_min rfl T.n_min boot_min (da_cons (de_var (pv 1)) (da_cons (de_bin op_sub fits_sub (de_binF op_addA fits_add (de_binF op_addA fits_add (de_var (pv 3)) (de_int)) (de_var (pv 5))) (de_var (pv 2))) (da_nil)))) (da_nil))) rfl (aCons_len (aCons_len aNil_len)))))
    (dss_cons (ds_set (i := 3) sc__law_number.nd rfl (Or.inl rfl) (de_bin op_sub fits_sub (de_var (pv 3)) (de_var (pv 6))))
    (dss_one (ds_set (i := 4) sc__law_number.nd rfl (Or.inl rfl) (de_binF op_addA fits_add (de_var (pv 4)) (de_callTy call_str_int fits_str rfl T.n_str boot_str (da_cons (de_var (pv 6)) (da_nil)))))))))
    (dss_one (ds_ret (de_var (pv 4))))))))
set_option maxHeartbeats 4000000 in
theorem ok__law_near (T : Txt K mg c) : FnG P w K mg base c 2 "_law_near" ["_law_bag_here", "_law_number_here"] CW.sp_law_nearB :=
  fnG_of (k := 1) (N := N__law_near) T.d__law_near sc__law_near fun f cdv A outer s H E hr tk hp => dss_cons (ds_set (i := 2) sc__law_near.nd rfl (Or.inl rfl) (de_callG (ok__law_take T) hr (by decide) rfl tk (da_cons (de_var (pv 0)) (da_cons (de_int) (da_nil))) rfl (aCons_len (aCons_len aNil_len))))
    (dss_cons (ds_set (i := 3) sc__law_near.nd rfl (Or.inl rfl) (de_callTy cr_intA fits_int rfl T.n_int boot_int (da_cons (de_ix (de_var (pv 1)) (de_neg (de_int))) (da_nil))))
    (dss_cons (ds_set (i := 4) sc__law_near.nd rfl (Or.inl rfl) (de_lsB (cr_sum rfl) fits_sum rfl T.n_sum boot_sum (dl_new (dn_lc (own := [("_law_figure", 5)]) rfl sc__law_near.nd (di_any (de_var (pv 1))) (blkOk_by (own := [("_law_figure", 5)]) (N := N__law_near) (sc := defScope s__law_near) (by decide +kernel)) (fun _ _ _ _ _ => dgo_name (pg_name (i := 5) sc__law_near.nd rfl (Or.inl rfl)) (by decide)) (fun _ _ _ _ _ => de_callTy cr_intA fits_int rfl T.n_int boot_int (da_cons (de_var (pv 5)) (da_nil)))))))
    (dss_cons (ds_if (dt_w (dw_and (dt_cmp (op_eqA hr.units) fits_eq (de_var (pv 2)) (de_int) (nomark _)) (dw_and1 (dt_cmp op_gtA fits_ord (de_callB call_len fits_len rfl T.n_len boot_len (da_cons (de_var (pv 1)) (da_nil))) (de_int) (nomark _))))) (dss_one (ds_ret (de_sl (de_var (pv 1)) (do_none) (do_some (de_neg (de_int)))))) (dss_nil))
    (dss_cons (ds_if (dt_w (dw_and (dt_cmp (op_eqA hr.units) fits_eq (de_var (pv 2)) (de_int) (nomark _)) (dw_and (dt_cmp op_ltA fits_ord (de_callB call_len fits_len rfl T.n_len boot_len (da_cons (de_var (pv 1)) (da_nil))) (de_int) (nomark _)) (dw_and1 (dt_cmp op_ltA fits_ord (de_var (pv 4)) (de_int) (nomark _)))))) (dss_one (ds_ret (de_binF op_addA fits_add (de_var (pv 1)) (de_str)))) (dss_nil))
    (dss_cons (ds_if (dt_w (dw_and (dt_cmp (op_eqA hr.units) fits_eq (de_var (pv 2)) (de_int) (nomark _)) (dw_and1 (dt_cmp op_gtA fits_ord (de_var (pv 3)) (de_int) (nomark _))))) (dss_one (ds_ret (de_binF op_addA fits_add (de_sl (de_var (pv 1)) (do_none) (do_some (de_neg (de_int)))) (de_callTy call_str_int fits_str rfl T.n_str boot_str (da_cons (de_bin op_sub fits_sub (de_var (pv 3)) (de_int)) (da_nil)))))) (dss_nil))
    (dss_cons (ds_if (dt_w (dw_and (dt_cmp op_ltA fits_ord (de_var (pv 3)) (de_int) (nomark _)) (dw_and1 (dt_cmp op_ltA fits_ord (de_var (pv 4)) (de_int) (nomark _))))) (dss_one (ds_ret (de_binF op_addA fits_add (de_sl (de_var (pv 1)) (do_none) (do_some (de_neg (de_int)))) (de_callTy call_str_int fits_str rfl T.n_str boot_str (da_cons (de_binF op_addA fits_add (de_var (pv 3)) (de_int)) (da_nil)))))) (dss_nil))
    (dss_one (ds_ret (de_var (pv 1))))))))))
set_option maxHeartbeats 4000000 in
theorem ok__law_numbers (T : Txt K mg c) : FnG P w K mg base c 3 "_law_numbers" ["_law_bag_here", "_law_many"] (body 6 CW.m_law_numbersB) :=
  fnG_of (k := 2) (N := N__law_numbers) T.d__law_numbers sc__law_numbers fun f cdv A outer s H E hr tk hp => dss_cons (ds_set (i := 2) sc__law_numbers.nd rfl (Or.inl rfl) (de_new (dn_lst (da_cons (de_callG (ok__law_number T) hr (by decide) rfl tk (da_cons (de_var (pv 0)) (da_nil)) rfl (aCons_len aNil_len)) (da_nil)))))
    (dss_cons (ds_for hp rfl (di_range1 rfl T.n_range (da_cons (de_binF op_mulA fits_mul (de_int) (de_var (pv 1))) (da_nil))) (dg_name (pg_name (i := 3) sc__law_numbers.nd rfl (Or.inl rfl))) (dss_cons (ds_set (i := 4) sc__law_numbers.nd rfl (Or.inl rfl) (de_callG (ok__law_take T) hr (by decide) rfl tk (da_cons (de_var (pv 0)) (da_cons (de_int) (da_nil))) rfl (aCons_len (aCons_len aNil_len))))
    (dss_cons (ds_set (i := 5) sc__law_numbers.nd rfl (Or.inl rfl) (de_callG (ok__law_number T) hr (by decide) rfl tk (da_cons (de_var (pv 0)) (da_nil)) rfl (aCons_len aNil_len)))
    (dss_cons (ds_if (dt_cmp (op_eqA hr.units) fits_eq (de_var (pv 4)) (de_int) (nomark _)) (dss_one (ds_set (i := 5) sc__law_numbers.nd rfl (Or.inl rfl) (de_callG (ok__law_near T) hr (by decide) rfl tk (da_cons (de_var (pv 0)) (da_cons (de_ix (de_var (pv 2)) (de_callG (ok__law_take T) hr (by decide) rfl tk (da_cons (de_var (pv 0)) (da_cons (de_callB call_len fits_len rfl T.n_len boot_len (da_cons (de_var (pv 2)) (da_nil))) (da_nil))) rfl (aCons_len (aCons_len aNil_len)))) (da_nil))) rfl (aCons_len (aCons_len aNil_len))))) (dss_nil))
    (dss_one (ds_if (dt_w (dw_and (dt_cmp op_ltA fits_ord (de_callB call_len fits_len rfl T.n_len boot_len (da_cons (de_var (pv 2)) (da_nil))) (de_var (pv 1)) (nomark _)) (dw_and1 (dt_cmp (op_notInA hr.units) fits_notIn (de_var (pv 5)) (de_var (pv 2)) (by rfl))))) (dss_one (ds_expr (de_bm PySem.F.plainAttrs_list PySem.F.slot_list_append PySem.F.type_list_append mt_append fits_append typed_lst (de_var (pv 2)) (da_cons (de_var (pv 5)) (da_nil))))) (dss_nil)))))))
    (dss_one (ds_ret (de_var (pv 2)))))
set_option maxHeartbeats 4000000 in
theorem ok_figure_row (T : Txt K mg c) : FnG P w K mg base c 1 "figure_row" ["figure"] CW.sp_figure_row :=
  fnG_of (k := 0) (N := N_figure_row) T.d_figure_row sc_figure_row fun f cdv A outer s H E hr tk hp => dss_one (ds_ret (de_binF op_addA fits_add (de_binF op_mulA fits_mul (de_tup (da_cons (de_gint rfl T.c_BREAK) (da_cons (de_gint rfl T.c_CLOSED) (da_nil)))) (de_callTy cr_intA fits_int rfl T.n_int boot_int (da_cons (de_var (pv 0)) (da_nil)))) (de_binF op_mulA fits_mul (de_tup (da_cons (de_gint rfl T.c_CLOSED) (da_nil))) (de_gint rfl T.c_GAP))))
set_option maxHeartbeats 4000000 in
theorem ok_row_of (T : Txt K mg c) : FnG P w K mg base c 2 "row_of" ["number"] CW.sp_row_of :=
  fnG_of (k := 1) (N := N_row_of) T.d_row_of sc_row_of fun f cdv A outer s H E hr tk hp => dss_cons (ds_set (i := 1) sc_row_of.nd rfl (Or.inl rfl) (de_tup (da_nil)))
    (dss_cons (ds_for hp rfl (di_any (de_var (pv 0))) (dg_name (pg_name (i := 2) sc_row_of.nd rfl (Or.inl rfl))) (dss_one (ds_set (i := 1) sc_row_of.nd rfl (Or.inl rfl) (de_binF op_addA fits_add (de_var (pv 1)) (de_callG (ok_figure_row T) hr (by decide) rfl tk (da_cons (de_var (pv 2)) (da_nil)) rfl (aCons_len aNil_len))))))
    (dss_one (ds_ret (de_binF op_addA fits_add (de_var (pv 1)) (de_binF op_mulA fits_mul (de_tup (da_cons (de_gint rfl T.c_CLOSED) (da_nil))) (de_gint rfl T.c_GAP))))))
set_option maxHeartbeats 4000000 in
theorem ok_goes_ahead (T : Txt K mg c) : FnG P w K mg base c 3 "goes_ahead" ["one", "other"] CW.sp_goes_ahead :=
  fnG_of (k := 2) (N := N_goes_ahead) T.d_goes_ahead sc_goes_ahead fun f cdv A outer s H E hr tk hp => dss_cons (ds_for hp rfl (di_zipA rfl T.n_zip (de_callG (ok_row_of T) hr (by decide) rfl tk (da_cons (de_var (pv 0)) (da_nil)) rfl (aCons_len aNil_len)) (de_callG (ok_row_of T) hr (by decide) rfl tk (da_cons (de_var (pv 1)) (da_nil)) rfl (aCons_len aNil_len))) (dg_tup rfl (dgs_cons (dg_name (pg_name (i := 2) sc_goes_ahead.nd rfl (Or.inl rfl))) (dgs_cons (dg_name (pg_name (i := 3) sc_goes_ahead.nd rfl (Or.inl rfl))) (dgs_nil)))) (dss_one (ds_if (dt_cmp (op_neA hr.units) fits_ne (de_var (pv 2)) (de_var (pv 3)) (nomark _)) (dss_one (ds_ret (de_cmp (op_eqA hr.units) fits_eq (de_var (pv 2)) (de_gint rfl T.c_BREAK) (nomark _)))) (dss_nil))))
    (dss_one (ds_ret (de_bl)))
set_option maxHeartbeats 4000000 in
theorem ok_first_of (T : Txt K mg c) : FnG P w K mg base c 4 "first_of" ["numbers"] CW.sp_first_of :=
  fnG_of (k := 3) (N := N_first_of) T.d_first_of sc_first_of fun f cdv A outer s H E hr tk hp => dss_cons (ds_set (i := 1) sc_first_of.nd rfl (Or.inl rfl) (de_ix (de_var (pv 0)) (de_int)))
    (dss_cons (ds_for hp rfl (di_any (de_sl (de_var (pv 0)) (do_some (de_int)) (do_none))) (dg_name (pg_name (i := 2) sc_first_of.nd rfl (Or.inl rfl))) (dss_one (ds_if (dt_val (de_callG (ok_goes_ahead T) hr (by decide) rfl tk (da_cons (de_var (pv 2)) (da_cons (de_var (pv 1)) (da_nil))) rfl (aCons_len (aCons_len aNil_len)))) (dss_one (ds_set (i := 1) sc_first_of.nd rfl (Or.inl rfl) (de_var (pv 2)))) (dss_nil))))
    (dss_one (ds_ret (de_var (pv 1)))))
set_option maxHeartbeats 4000000 in
theorem ok_leaving_place (T : Txt K mg c) : FnG P w K mg base c 3 "leaving_place" ["first", "number"] CW.sp_leaving_place :=
  fnG_of (k := 2) (N := N_leaving_place) T.d_leaving_place sc_leaving_place fun f cdv A outer s H E hr tk hp => dss_cons (ds_for hp rfl (di_enumZ rfl T.n_enumerate rfl T.n_zip (de_callG (ok_row_of T) hr (by decide) rfl tk (da_cons (de_var (pv 0)) (da_nil)) rfl (aCons_len aNil_len)) (de_callG (ok_row_of T) hr (by decide) rfl tk (da_cons (de_var (pv 1)) (da_nil)) rfl (aCons_len aNil_len))) (dg_tup rfl (dgs_cons (dg_name (pg_name (i := 2) sc_leaving_place.nd rfl (Or.inl rfl))) (dgs_cons (dg_tup rfl (dgs_cons (dg_name (pg_name (i := 3) sc_leaving_place.nd rfl (Or.inl rfl))) (dgs_cons (dg_name (pg_name (i := 4) sc_leaving_place.nd rfl (Or.inl rfl))) (dgs_nil)))) (dgs_nil)))) (dss_one (ds_if (dt_cmp (op_neA hr.units) fits_ne (de_var (pv 3)) (de_var (pv 4)) (nomark _)) (dss_one (ds_ret (de_var (pv 2)))) (dss_nil))))
    (dss_one (ds_ret (de_non)))
set_option maxHeartbeats 4000000 in
theorem ok_meeting (T : Txt K mg c) : FnG P w K mg base c 5 "meeting" ["numbers"] CW.sp_meeting :=
  fnG_of (k := 4) (N := N_meeting) T.d_meeting sc_meeting fun f cdv A outer s H E hr tk hp => dss_cons (ds_set (i := 1) sc_meeting.nd rfl (Or.inr rfl) (de_callG (ok_first_of T) hr (by decide) rfl tk (da_cons (de_var (pv 0)) (da_nil)) rfl (aCons_len aNil_len)))
    (dss_one (ds_ret (de_tup (da_cons (de_var (pv 1)) (da_cons (de_lsTy call_tuple_of fits_tuple rfl T.n_tuple boot_tuple (dl_new (dn_lc (own := [("number", 2)]) rfl sc_meeting.nd (di_any (de_var (pv 0))) (blkOk_by (own := [("number", 2)]) (N := N_meeting) (sc := defScope s_meeting) (by decide +kernel)) (fun _ _ _ _ _ => dgo_name (pg_name (i := 2) sc_meeting.nd rfl (Or.inl rfl)) (by decide)) (fun _ _ _ _ _ => de_callG (ok_leaving_place T) hr (by decide) rfl takes0 (da_cons (de_var (pv 1)) (da_cons (de_var (pv 2)) (da_nil))) rfl (aCons_len (aCons_len aNil_len)))))) (da_nil))))))
set_option maxHeartbeats 4000000 in
theorem ok_law (T : Txt K mg c) {f : Addr} {fd : FuncData} (F : Fun K "law" "law" s_law f fd) : FnD P w K mg base c 6 f fd ["_law_script"] sp_law :=
  fnD_of (k := 5) (N := N_law) F sc_law fun cdv A outer s H E hr tk hp => dss_cons (ds_for hp rfl (di_range1 rfl T.n_range (da_cons (de_binF op_addA fits_add (de_int) (de_callB (call_min2 rfl) fits_min rfl T.n_min boot_min (da_cons (de_int) (da_cons (de_callB call_len fits_len rfl T.n_len boot_len (da_cons (de_var (pv 0)) (da_nil))) (da_nil))))) (da_nil))) (dg_name (pg_name (i := 1) sc_law.nd rfl (Or.inl rfl))) (dss_cons (ds_set (i := 2) sc_law.nd rfl (Or.inr rfl) (de_callG (ok__law_bag T) hr (by decide) rfl tk (da_cons (de_var (pv 0)) (da_cons (de_var (pv 1)) (da_nil))) rfl (aCons_len (aCons_len aNil_len))))
    (dss_cons (ds_set (i := 3) sc_law.nd rfl (Or.inr rfl) (de_callC (ok__law_numbers T) hr (by decide) rfl tk (da_cons (de_var (pv 2)) (da_cons (de_binF op_addA fits_add (de_int) (de_callG (ok__law_take T) hr (by decide) rfl tk (da_cons (de_var (pv 2)) (da_cons (de_int) (da_nil))) rfl (aCons_len (aCons_len aNil_len)))) (da_nil))) rfl (aCons_len (aCons_len aNil_len))))
    (dss_cons (ds_set (i := 4) sc_law.nd rfl (Or.inl rfl) (de_callG (ok_meeting T) hr (by decide) rfl tk (da_cons (de_callTy call_tuple_of fits_tupleA rfl T.n_tuple boot_tuple (da_cons (de_var (pv 3)) (da_nil))) (da_nil)) rfl (aCons_len aNil_len)))
    (dss_cons (ds_asg (de_var (pv 4)) (dg_tup rfl (dgs_cons (dg_name (pg_name (i := 5) sc_law.nd rfl (Or.inr rfl))) (dgs_cons (dg_name (pg_name (i := 6) sc_law.nd rfl (Or.inr rfl))) (dgs_nil)))))
    (dss_cons (ds_if (dt_w (dw_or (dt_cmp (op_neA hr.units) fits_ne (de_var (pv 5)) (de_callB (call_maxA rfl (hu_of hr)) fits_maxL rfl T.n_max boot_max (da_cons (de_var (pv 3)) (da_nil))) (nomark _)) (dw_or1 (dt_cmp (op_neA hr.units) fits_ne (de_callB call_len fits_len rfl T.n_len boot_len (da_cons (de_var (pv 6)) (da_nil))) (de_callB call_len fits_len rfl T.n_len boot_len (da_cons (de_var (pv 3)) (da_nil))) (nomark _))))) (dss_one (ds_ret (de_bl))) (dss_nil))
    (dss_cons (ds_setLcIfQ (i := 7) (own := [("_law_number_here", 10)]) rfl sc_law.nd rfl rfl (sw_true rfl rfl rfl (by decide +kernel)) (di_any (de_var (pv 3))) (blkOk_by (own := [("_law_number_here", 10)]) (N := N_law) (sc := defScope s_law) (by decide +kernel)) (fun _ _ _ _ _ => dgo_name (pg_name (i := 10) sc_law.nd rfl (Or.inl rfl)) (by decide)) (fun _ _ _ _ _ => dt_w (dw_or (dt_cmp (op_eqA hr.units) fits_eq (de_var (pv 10)) (de_var (pv 5)) (nomark _)) (dw_or1 (dt_cmp (op_eqA hr.units) fits_eq (de_callG (ok__law_take T) hr (by decide) rfl takes0 (da_cons (de_var (pv 2)) (da_cons (de_int) (da_nil))) rfl (aCons_len (aCons_len aNil_len))) (de_int) (nomark _))))) (fun _ _ _ _ _ => de_var (pv 10)))
    (dss_cons (ds_set (i := 8) sc_law.nd rfl (Or.inl rfl) (de_callG (ok__law_take T) hr (by decide) rfl tk (da_cons (de_var (pv 2)) (da_cons (de_callB call_len fits_len rfl T.n_len boot_len (da_cons (de_var (pv 7)) (da_nil))) (da_nil))) rfl (aCons_len (aCons_len aNil_len))))
    (dss_cons (ds_set (i := 7) sc_law.nd rfl (Or.inl rfl) (de_binF op_addA fits_add (de_sl (de_var (pv 7)) (do_some (de_var (pv 8))) (do_none)) (de_sl (de_var (pv 7)) (do_none) (do_some (de_var (pv 8))))))
    (dss_cons (ds_set (i := 9) sc_law.nd rfl (Or.inl rfl) (de_lsTy call_tuple_of fits_tuple rfl T.n_tuple boot_tuple (dl_new (dn_lc (own := [("_law_number_here", 10)]) rfl sc_law.nd (di_any (de_var (pv 7))) (blkOk_by (own := [("_law_number_here", 10)]) (N := N_law) (sc := defScope s_law) (by decide +kernel)) (fun _ _ _ _ _ => dgo_name (pg_name (i := 10) sc_law.nd rfl (Or.inl rfl)) (by decide)) (fun _ _ _ _ _ => de_ix (de_var (pv 6)) (de_index (de_var (pv 3)) (de_var (pv 10))))))))
    (dss_cons (ds_if (dt_cmp (op_neA hr.units) fits_ne (de_callG (ok_meeting T) hr (by decide) rfl tk (da_cons (de_callTy call_tuple_of fits_tupleA rfl T.n_tuple boot_tuple (da_cons (de_var (pv 7)) (da_nil))) (da_nil)) rfl (aCons_len aNil_len)) (de_tup (da_cons (de_var (pv 5)) (da_cons (de_var (pv 9)) (da_nil)))) (nomark _)) (dss_one (ds_ret (de_bl))) (dss_nil))
    (dss_cons (ds_for hp rfl (di_z2 rfl T.n_zip (de_var (pv 3)) (de_var (pv 6))) (dg_tup rfl (dgs_cons (dg_name (pg_name (i := 10) sc_law.nd rfl (Or.inl rfl))) (dgs_cons (dg_name (pg_name (i := 11) sc_law.nd rfl (Or.inl rfl))) (dgs_nil)))) (dss_one (ds_if (dt_w (dw_and (dt_cmp (op_neA hr.units) fits_ne (de_var (pv 10)) (de_var (pv 5)) (nomark _)) (dw_and1 (dt_cmp (op_neA hr.units) fits_ne (de_callG (ok_meeting T) hr (by decide) rfl tk (da_cons (de_tup (da_cons (de_var (pv 10)) (da_cons (de_var (pv 5)) (da_nil)))) (da_nil)) rfl (aCons_len aNil_len)) (de_tup (da_cons (de_var (pv 5)) (da_cons (de_tup (da_cons (de_var (pv 11)) (da_cons (de_non) (da_nil)))) (da_nil)))) (nomark _))))) (dss_one (ds_ret (de_bl))) (dss_nil))))
    (dss_one (ds_if (dt_w (dw_or (dt_cmp (op_neA hr.units) fits_ne (de_callG (ok_meeting T) hr (by decide) rfl tk (da_cons (de_callTy call_tuple_of fits_tupleA rfl T.n_tuple boot_tuple (da_cons (de_rev (de_var (pv 3))) (da_nil))) (da_nil)) rfl (aCons_len aNil_len)) (de_tup (da_cons (de_var (pv 5)) (da_cons (de_rev (de_var (pv 6))) (da_nil)))) (nomark _)) (dw_or1 (dt_cmp (op_neA hr.units) fits_ne (de_callG (ok_meeting T) hr (by decide) rfl tk (da_cons (de_callTy call_tuple_of fits_tupleA rfl T.n_tuple boot_tuple (da_cons (de_var (pv 3)) (da_nil))) (da_nil)) rfl (aCons_len aNil_len)) (de_var (pv 4)) (nomark _))))) (dss_one (ds_ret (de_bl))) (dss_nil)))))))))))))))
    (dss_one (ds_ret (de_bl)))
end
end LK19

namespace LK19
open PySem PySem.Spec PyProof.Rows L2 MM CW
set_option maxHeartbeats 4000000 in
theorem txt_mk {K : PySem.W.Frag} {h : Heap} {mg : Str → Option Value} (X : K.In h) (G : h.Ns mainGlobals mg)
  {f1 : Addr} {oc1 kV1 dc1 pm1 cd1 ct1 : Value} {od1 an1 : Option Addr} {sl1 : Array (Option Value)}
  {f2 : Addr} {oc2 kV2 dc2 pm2 cd2 ct2 : Value} {od2 an2 : Option Addr} {sl2 : Array (Option Value)}
  {f3 : Addr} {oc3 kV3 dc3 pm3 cd3 ct3 : Value} {od3 an3 : Option Addr} {sl3 : Array (Option Value)}
  {f4 : Addr} {oc4 kV4 dc4 pm4 cd4 ct4 : Value} {od4 an4 : Option Addr} {sl4 : Array (Option Value)}
  {f5 : Addr} {oc5 kV5 dc5 pm5 cd5 ct5 : Value} {od5 an5 : Option Addr} {sl5 : Array (Option Value)}
  {f6 : Addr} {oc6 kV6 dc6 pm6 cd6 ct6 : Value} {od6 an6 : Option Addr} {sl6 : Array (Option Value)}
  {f7 : Addr} {oc7 kV7 dc7 pm7 cd7 ct7 : Value} {od7 an7 : Option Addr} {sl7 : Array (Option Value)}
  {f8 : Addr} {oc8 kV8 dc8 pm8 cd8 ct8 : Value} {od8 an8 : Option Addr} {sl8 : Array (Option Value)}
  {f9 : Addr} {oc9 kV9 dc9 pm9 cd9 ct9 : Value} {od9 an9 : Option Addr} {sl9 : Array (Option Value)}
  {f10 : Addr} {oc10 kV10 dc10 pm10 cd10 ct10 : Value} {od10 an10 : Option Addr} {sl10 : Array (Option Value)}
  {f11 : Addr} {oc11 kV11 dc11 pm11 cd11 ct11 : Value} {od11 an11 : Option Addr} {sl11 : Array (Option Value)}
  {f12 : Addr} {oc12 kV12 dc12 pm12 cd12 ct12 : Value} {od12 an12 : Option Addr} {sl12 : Array (Option Value)}
  {fL : Addr} {ocL kVL dcL pmL cdL ctL : Value} {odL anL : Option Addr} {slL : Array (Option Value)}
  {t_BREAK : Tok}
  {t_CLOSED : Tok}
  {t_GAP : Tok}
  (a1 : PySem.W.nsIn K mainGlobals "_law_cell_at" = some (some (.ref f1))) (l1 : K.lookup f1 = some ⟨oc1, od1, .func (PySem.W.fnOf "_law_cell_at" "_law_cell_at" (defArgs s__law_cell_at) (defBody s__law_cell_at) (defScope s__law_cell_at) .none kV1 dc1 pm1 an1 cd1 ct1), sl1⟩) (c1 : PySem.W.codeIn K cd1 "_law_cell_at" = true) (k1 : PySem.W.keepIn K (.ref f1) = true)
  (a2 : PySem.W.nsIn K mainGlobals "_law_bag" = some (some (.ref f2))) (l2 : K.lookup f2 = some ⟨oc2, od2, .func (PySem.W.fnOf "_law_bag" "_law_bag" (defArgs s__law_bag) (defBody s__law_bag) (defScope s__law_bag) .none kV2 dc2 pm2 an2 cd2 ct2), sl2⟩) (c2 : PySem.W.codeIn K cd2 "_law_bag" = true) (k2 : PySem.W.keepIn K (.ref f2) = true)
  (a3 : PySem.W.nsIn K mainGlobals "_law_take" = some (some (.ref f3))) (l3 : K.lookup f3 = some ⟨oc3, od3, .func (PySem.W.fnOf "_law_take" "_law_take" (defArgs s__law_take) (defBody s__law_take) (defScope s__law_take) .none kV3 dc3 pm3 an3 cd3 ct3), sl3⟩) (c3 : PySem.W.codeIn K cd3 "_law_take" = true) (k3 : PySem.W.keepIn K (.ref f3) = true)
  (a4 : PySem.W.nsIn K mainGlobals "_law_number" = some (some (.ref f4))) (l4 : K.lookup f4 = some ⟨oc4, od4, .func (PySem.W.fnOf "_law_number" "_law_number" (defArgs s__law_number) (defBody s__law_number) (defScope s__law_number) .none kV4 dc4 pm4 an4 cd4 ct4), sl4⟩) (c4 : PySem.W.codeIn K cd4 "_law_number" = true) (k4 : PySem.W.keepIn K (.ref f4) = true)
  (a5 : PySem.W.nsIn K mainGlobals "_law_near" = some (some (.ref f5))) (l5 : K.lookup f5 = some ⟨oc5, od5, .func (PySem.W.fnOf "_law_near" "_law_near" (defArgs s__law_near) (defBody s__law_near) (defScope s__law_near) .none kV5 dc5 pm5 an5 cd5 ct5), sl5⟩) (c5 : PySem.W.codeIn K cd5 "_law_near" = true) (k5 : PySem.W.keepIn K (.ref f5) = true)
  (a6 : PySem.W.nsIn K mainGlobals "_law_numbers" = some (some (.ref f6))) (l6 : K.lookup f6 = some ⟨oc6, od6, .func (PySem.W.fnOf "_law_numbers" "_law_numbers" (defArgs s__law_numbers) (defBody s__law_numbers) (defScope s__law_numbers) .none kV6 dc6 pm6 an6 cd6 ct6), sl6⟩) (c6 : PySem.W.codeIn K cd6 "_law_numbers" = true) (k6 : PySem.W.keepIn K (.ref f6) = true)
  (a7 : PySem.W.nsIn K mainGlobals "figure_row" = some (some (.ref f7))) (l7 : K.lookup f7 = some ⟨oc7, od7, .func (PySem.W.fnOf "figure_row" "figure_row" (defArgs s_figure_row) (defBody s_figure_row) (defScope s_figure_row) .none kV7 dc7 pm7 an7 cd7 ct7), sl7⟩) (c7 : PySem.W.codeIn K cd7 "figure_row" = true) (k7 : PySem.W.keepIn K (.ref f7) = true)
  (a8 : PySem.W.nsIn K mainGlobals "row_of" = some (some (.ref f8))) (l8 : K.lookup f8 = some ⟨oc8, od8, .func (PySem.W.fnOf "row_of" "row_of" (defArgs s_row_of) (defBody s_row_of) (defScope s_row_of) .none kV8 dc8 pm8 an8 cd8 ct8), sl8⟩) (c8 : PySem.W.codeIn K cd8 "row_of" = true) (k8 : PySem.W.keepIn K (.ref f8) = true)
  (a9 : PySem.W.nsIn K mainGlobals "goes_ahead" = some (some (.ref f9))) (l9 : K.lookup f9 = some ⟨oc9, od9, .func (PySem.W.fnOf "goes_ahead" "goes_ahead" (defArgs s_goes_ahead) (defBody s_goes_ahead) (defScope s_goes_ahead) .none kV9 dc9 pm9 an9 cd9 ct9), sl9⟩) (c9 : PySem.W.codeIn K cd9 "goes_ahead" = true) (k9 : PySem.W.keepIn K (.ref f9) = true)
  (a10 : PySem.W.nsIn K mainGlobals "first_of" = some (some (.ref f10))) (l10 : K.lookup f10 = some ⟨oc10, od10, .func (PySem.W.fnOf "first_of" "first_of" (defArgs s_first_of) (defBody s_first_of) (defScope s_first_of) .none kV10 dc10 pm10 an10 cd10 ct10), sl10⟩) (c10 : PySem.W.codeIn K cd10 "first_of" = true) (k10 : PySem.W.keepIn K (.ref f10) = true)
  (a11 : PySem.W.nsIn K mainGlobals "leaving_place" = some (some (.ref f11))) (l11 : K.lookup f11 = some ⟨oc11, od11, .func (PySem.W.fnOf "leaving_place" "leaving_place" (defArgs s_leaving_place) (defBody s_leaving_place) (defScope s_leaving_place) .none kV11 dc11 pm11 an11 cd11 ct11), sl11⟩) (c11 : PySem.W.codeIn K cd11 "leaving_place" = true) (k11 : PySem.W.keepIn K (.ref f11) = true)
  (a12 : PySem.W.nsIn K mainGlobals "meeting" = some (some (.ref f12))) (l12 : K.lookup f12 = some ⟨oc12, od12, .func (PySem.W.fnOf "meeting" "meeting" (defArgs s_meeting) (defBody s_meeting) (defScope s_meeting) .none kV12 dc12 pm12 an12 cd12 ct12), sl12⟩) (c12 : PySem.W.codeIn K cd12 "meeting" = true) (k12 : PySem.W.keepIn K (.ref f12) = true)
  (aL : PySem.W.nsIn K mainGlobals "law" = some (some (.ref fL))) (lL : K.lookup fL = some ⟨ocL, odL, .func (PySem.W.fnOf "law" "law" (defArgs s_law) (defBody s_law) (defScope s_law) .none kVL dcL pmL anL cdL ctL), slL⟩) (cL : PySem.W.codeIn K cdL "law" = true) (kL : PySem.W.keepIn K (.ref fL) = true)
  (z_enumerate : PySem.W.nsIn K mainGlobals "enumerate" = some none)
  (z_int : PySem.W.nsIn K mainGlobals "int" = some none)
  (z_len : PySem.W.nsIn K mainGlobals "len" = some none)
  (z_max : PySem.W.nsIn K mainGlobals "max" = some none)
  (z_min : PySem.W.nsIn K mainGlobals "min" = some none)
  (z_range : PySem.W.nsIn K mainGlobals "range" = some none)
  (z_str : PySem.W.nsIn K mainGlobals "str" = some none)
  (z_sum : PySem.W.nsIn K mainGlobals "sum" = some none)
  (z_tuple : PySem.W.nsIn K mainGlobals "tuple" = some none)
  (z_zip : PySem.W.nsIn K mainGlobals "zip" = some none)
  (q_BREAK : PySem.W.nsIn K mainGlobals "BREAK" = some (some (.int 1 t_BREAK)))
  (q_CLOSED : PySem.W.nsIn K mainGlobals "CLOSED" = some (some (.int 0 t_CLOSED)))
  (q_GAP : PySem.W.nsIn K mainGlobals "GAP" = some (some (.int 2 t_GAP))) : Txt K mg (⟨fun _ => 0⟩ : Cl) where
  d__law_cell_at := def_mk X G a1 l1 c1 k1 fun _ _ _ _ _ _ us hl => match us, hl with | [_, _], _ => rfl
  d__law_bag := def_mk X G a2 l2 c2 k2 fun _ _ _ _ _ _ us hl => match us, hl with | [_, _], _ => rfl
  d__law_take := def_mk X G a3 l3 c3 k3 fun _ _ _ _ _ _ us hl => match us, hl with | [_, _], _ => rfl
  d__law_number := def_mk X G a4 l4 c4 k4 fun _ _ _ _ _ _ us hl => match us, hl with | [_], _ => rfl
  d__law_near := def_mk X G a5 l5 c5 k5 fun _ _ _ _ _ _ us hl => match us, hl with | [_, _], _ => rfl
  d__law_numbers := def_mk X G a6 l6 c6 k6 fun _ _ _ _ _ _ us hl => match us, hl with | [_, _], _ => rfl
  d_figure_row := def_mk X G a7 l7 c7 k7 fun _ _ _ _ _ _ us hl => match us, hl with | [_], _ => rfl
  d_row_of := def_mk X G a8 l8 c8 k8 fun _ _ _ _ _ _ us hl => match us, hl with | [_], _ => rfl
  d_goes_ahead := def_mk X G a9 l9 c9 k9 fun _ _ _ _ _ _ us hl => match us, hl with | [_, _], _ => rfl
  d_first_of := def_mk X G a10 l10 c10 k10 fun _ _ _ _ _ _ us hl => match us, hl with | [_], _ => rfl
  d_leaving_place := def_mk X G a11 l11 c11 k11 fun _ _ _ _ _ _ us hl => match us, hl with | [_, _], _ => rfl
  d_meeting := def_mk X G a12 l12 c12 k12 fun _ _ _ _ _ _ us hl => match us, hl with | [_], _ => rfl
  d_law := def_mk X G aL lL cL kL fun _ _ _ _ _ _ us hl => match us, hl with | [_], _ => rfl
  n_enumerate := PySem.W.mg_none_of X G z_enumerate
  n_int := PySem.W.mg_none_of X G z_int
  n_len := PySem.W.mg_none_of X G z_len
  n_max := PySem.W.mg_none_of X G z_max
  n_min := PySem.W.mg_none_of X G z_min
  n_range := PySem.W.mg_none_of X G z_range
  n_str := PySem.W.mg_none_of X G z_str
  n_sum := PySem.W.mg_none_of X G z_sum
  n_tuple := PySem.W.mg_none_of X G z_tuple
  n_zip := PySem.W.mg_none_of X G z_zip
  c_BREAK := ⟨t_BREAK, PySem.W.mg_of X G q_BREAK⟩
  c_CLOSED := ⟨t_CLOSED, PySem.W.mg_of X G q_CLOSED⟩
  c_GAP := ⟨t_GAP, PySem.W.mg_of X G q_GAP⟩
set_option maxHeartbeats 4000000 in
theorem all_mk {l : PySem.W.OpenLaw} {w : World} {K : PySem.W.Frag} {h : Heap} {mg : Str → Option Value} {fa : Addr} (X : K.In h) (G : h.Ns mainGlobals mg) (hfa : mg "law" = some (.ref fa))
  {f1 : Addr} {oc1 kV1 dc1 pm1 cd1 ct1 : Value} {od1 an1 : Option Addr} {sl1 : Array (Option Value)}
  {f2 : Addr} {oc2 kV2 dc2 pm2 cd2 ct2 : Value} {od2 an2 : Option Addr} {sl2 : Array (Option Value)}
  {f3 : Addr} {oc3 kV3 dc3 pm3 cd3 ct3 : Value} {od3 an3 : Option Addr} {sl3 : Array (Option Value)}
  {f4 : Addr} {oc4 kV4 dc4 pm4 cd4 ct4 : Value} {od4 an4 : Option Addr} {sl4 : Array (Option Value)}
  {f5 : Addr} {oc5 kV5 dc5 pm5 cd5 ct5 : Value} {od5 an5 : Option Addr} {sl5 : Array (Option Value)}
  {f6 : Addr} {oc6 kV6 dc6 pm6 cd6 ct6 : Value} {od6 an6 : Option Addr} {sl6 : Array (Option Value)}
  {f7 : Addr} {oc7 kV7 dc7 pm7 cd7 ct7 : Value} {od7 an7 : Option Addr} {sl7 : Array (Option Value)}
  {f8 : Addr} {oc8 kV8 dc8 pm8 cd8 ct8 : Value} {od8 an8 : Option Addr} {sl8 : Array (Option Value)}
  {f9 : Addr} {oc9 kV9 dc9 pm9 cd9 ct9 : Value} {od9 an9 : Option Addr} {sl9 : Array (Option Value)}
  {f10 : Addr} {oc10 kV10 dc10 pm10 cd10 ct10 : Value} {od10 an10 : Option Addr} {sl10 : Array (Option Value)}
  {f11 : Addr} {oc11 kV11 dc11 pm11 cd11 ct11 : Value} {od11 an11 : Option Addr} {sl11 : Array (Option Value)}
  {f12 : Addr} {oc12 kV12 dc12 pm12 cd12 ct12 : Value} {od12 an12 : Option Addr} {sl12 : Array (Option Value)}
  {fL : Addr} {ocL kVL dcL pmL cdL ctL : Value} {odL anL : Option Addr} {slL : Array (Option Value)}
  {t_BREAK : Tok}
  {t_CLOSED : Tok}
  {t_GAP : Tok}
  (a1 : PySem.W.nsIn K mainGlobals "_law_cell_at" = some (some (.ref f1))) (l1 : K.lookup f1 = some ⟨oc1, od1, .func (PySem.W.fnOf "_law_cell_at" "_law_cell_at" (defArgs s__law_cell_at) (defBody s__law_cell_at) (defScope s__law_cell_at) .none kV1 dc1 pm1 an1 cd1 ct1), sl1⟩) (c1 : PySem.W.codeIn K cd1 "_law_cell_at" = true) (k1 : PySem.W.keepIn K (.ref f1) = true)
  (a2 : PySem.W.nsIn K mainGlobals "_law_bag" = some (some (.ref f2))) (l2 : K.lookup f2 = some ⟨oc2, od2, .func (PySem.W.fnOf "_law_bag" "_law_bag" (defArgs s__law_bag) (defBody s__law_bag) (defScope s__law_bag) .none kV2 dc2 pm2 an2 cd2 ct2), sl2⟩) (c2 : PySem.W.codeIn K cd2 "_law_bag" = true) (k2 : PySem.W.keepIn K (.ref f2) = true)
  (a3 : PySem.W.nsIn K mainGlobals "_law_take" = some (some (.ref f3))) (l3 : K.lookup f3 = some ⟨oc3, od3, .func (PySem.W.fnOf "_law_take" "_law_take" (defArgs s__law_take) (defBody s__law_take) (defScope s__law_take) .none kV3 dc3 pm3 an3 cd3 ct3), sl3⟩) (c3 : PySem.W.codeIn K cd3 "_law_take" = true) (k3 : PySem.W.keepIn K (.ref f3) = true)
  (a4 : PySem.W.nsIn K mainGlobals "_law_number" = some (some (.ref f4))) (l4 : K.lookup f4 = some ⟨oc4, od4, .func (PySem.W.fnOf "_law_number" "_law_number" (defArgs s__law_number) (defBody s__law_number) (defScope s__law_number) .none kV4 dc4 pm4 an4 cd4 ct4), sl4⟩) (c4 : PySem.W.codeIn K cd4 "_law_number" = true) (k4 : PySem.W.keepIn K (.ref f4) = true)
  (a5 : PySem.W.nsIn K mainGlobals "_law_near" = some (some (.ref f5))) (l5 : K.lookup f5 = some ⟨oc5, od5, .func (PySem.W.fnOf "_law_near" "_law_near" (defArgs s__law_near) (defBody s__law_near) (defScope s__law_near) .none kV5 dc5 pm5 an5 cd5 ct5), sl5⟩) (c5 : PySem.W.codeIn K cd5 "_law_near" = true) (k5 : PySem.W.keepIn K (.ref f5) = true)
  (a6 : PySem.W.nsIn K mainGlobals "_law_numbers" = some (some (.ref f6))) (l6 : K.lookup f6 = some ⟨oc6, od6, .func (PySem.W.fnOf "_law_numbers" "_law_numbers" (defArgs s__law_numbers) (defBody s__law_numbers) (defScope s__law_numbers) .none kV6 dc6 pm6 an6 cd6 ct6), sl6⟩) (c6 : PySem.W.codeIn K cd6 "_law_numbers" = true) (k6 : PySem.W.keepIn K (.ref f6) = true)
  (a7 : PySem.W.nsIn K mainGlobals "figure_row" = some (some (.ref f7))) (l7 : K.lookup f7 = some ⟨oc7, od7, .func (PySem.W.fnOf "figure_row" "figure_row" (defArgs s_figure_row) (defBody s_figure_row) (defScope s_figure_row) .none kV7 dc7 pm7 an7 cd7 ct7), sl7⟩) (c7 : PySem.W.codeIn K cd7 "figure_row" = true) (k7 : PySem.W.keepIn K (.ref f7) = true)
  (a8 : PySem.W.nsIn K mainGlobals "row_of" = some (some (.ref f8))) (l8 : K.lookup f8 = some ⟨oc8, od8, .func (PySem.W.fnOf "row_of" "row_of" (defArgs s_row_of) (defBody s_row_of) (defScope s_row_of) .none kV8 dc8 pm8 an8 cd8 ct8), sl8⟩) (c8 : PySem.W.codeIn K cd8 "row_of" = true) (k8 : PySem.W.keepIn K (.ref f8) = true)
  (a9 : PySem.W.nsIn K mainGlobals "goes_ahead" = some (some (.ref f9))) (l9 : K.lookup f9 = some ⟨oc9, od9, .func (PySem.W.fnOf "goes_ahead" "goes_ahead" (defArgs s_goes_ahead) (defBody s_goes_ahead) (defScope s_goes_ahead) .none kV9 dc9 pm9 an9 cd9 ct9), sl9⟩) (c9 : PySem.W.codeIn K cd9 "goes_ahead" = true) (k9 : PySem.W.keepIn K (.ref f9) = true)
  (a10 : PySem.W.nsIn K mainGlobals "first_of" = some (some (.ref f10))) (l10 : K.lookup f10 = some ⟨oc10, od10, .func (PySem.W.fnOf "first_of" "first_of" (defArgs s_first_of) (defBody s_first_of) (defScope s_first_of) .none kV10 dc10 pm10 an10 cd10 ct10), sl10⟩) (c10 : PySem.W.codeIn K cd10 "first_of" = true) (k10 : PySem.W.keepIn K (.ref f10) = true)
  (a11 : PySem.W.nsIn K mainGlobals "leaving_place" = some (some (.ref f11))) (l11 : K.lookup f11 = some ⟨oc11, od11, .func (PySem.W.fnOf "leaving_place" "leaving_place" (defArgs s_leaving_place) (defBody s_leaving_place) (defScope s_leaving_place) .none kV11 dc11 pm11 an11 cd11 ct11), sl11⟩) (c11 : PySem.W.codeIn K cd11 "leaving_place" = true) (k11 : PySem.W.keepIn K (.ref f11) = true)
  (a12 : PySem.W.nsIn K mainGlobals "meeting" = some (some (.ref f12))) (l12 : K.lookup f12 = some ⟨oc12, od12, .func (PySem.W.fnOf "meeting" "meeting" (defArgs s_meeting) (defBody s_meeting) (defScope s_meeting) .none kV12 dc12 pm12 an12 cd12 ct12), sl12⟩) (c12 : PySem.W.codeIn K cd12 "meeting" = true) (k12 : PySem.W.keepIn K (.ref f12) = true)
  (aL : PySem.W.nsIn K mainGlobals "law" = some (some (.ref fL))) (lL : K.lookup fL = some ⟨ocL, odL, .func (PySem.W.fnOf "law" "law" (defArgs s_law) (defBody s_law) (defScope s_law) .none kVL dcL pmL anL cdL ctL), slL⟩) (cL : PySem.W.codeIn K cdL "law" = true) (kL : PySem.W.keepIn K (.ref fL) = true)
  (z_enumerate : PySem.W.nsIn K mainGlobals "enumerate" = some none)
  (z_int : PySem.W.nsIn K mainGlobals "int" = some none)
  (z_len : PySem.W.nsIn K mainGlobals "len" = some none)
  (z_max : PySem.W.nsIn K mainGlobals "max" = some none)
  (z_min : PySem.W.nsIn K mainGlobals "min" = some none)
  (z_range : PySem.W.nsIn K mainGlobals "range" = some none)
  (z_str : PySem.W.nsIn K mainGlobals "str" = some none)
  (z_sum : PySem.W.nsIn K mainGlobals "sum" = some none)
  (z_tuple : PySem.W.nsIn K mainGlobals "tuple" = some none)
  (z_zip : PySem.W.nsIn K mainGlobals "zip" = some none)
  (q_BREAK : PySem.W.nsIn K mainGlobals "BREAK" = some (some (.int 1 t_BREAK)))
  (q_CLOSED : PySem.W.nsIn K mainGlobals "CLOSED" = some (some (.int 0 t_CLOSED)))
  (q_GAP : PySem.W.nsIn K mainGlobals "GAP" = some (some (.int 2 t_GAP))) :
  ∃ fd : FuncData, (∀ (s : Shared) (v : Value), BindsTo s fd ⟨[v], []⟩ [("_law_script", v)]) ∧ ∀ base : Heap, K.In base → base.Ns mainGlobals mg → FnOk l.prog w K mg base (L2.CX l.prog w) 6 fa fd ["_law_script"] (spLaw K) := by
  have T : Txt K mg _ := txt_mk X G a1 l1 c1 k1 a2 l2 c2 k2 a3 l3 c3 k3 a4 l4 c4 k4 a5 l5 c5 k5 a6 l6 c6 k6 a7 l7 c7 k7 a8 l8 c8 k8 a9 l9 c9 k9 a10 l10 c10 k10 a11 l11 c11 k11 a12 l12 c12 k12 aL lL cL kL z_enumerate z_int z_len z_max z_min z_range z_str z_sum z_tuple z_zip q_BREAK q_CLOSED q_GAP
  have e := hfa.symm.trans (PySem.W.mg_of X G aL)
  cases e
  refine ⟨PySem.W.fnOf "law" "law" (defArgs s_law) (defBody s_law) (defScope s_law) .none kVL dcL pmL anL cdL ctL, fun s v => .of_eq rfl, fun base _ _ => ?_⟩
  exact law_end (ok_law T (fun_mk lL cL kL)) law_true
end LK19
open PySem PySem.W PyProof.Rows
set_option maxHeartbeats 0 in
theorem PySem.Challenge.cw_callwheel_k19_meetings_of_some_holds : PySem.Challenge.rw_callwheel_k19_meetings_of_some.Holds := by
  w_on; o_law; k_head; (case hw => w_witness2)
  k_fill
  refine L2.walk_of (l := PySem.Challenge.rw_callwheel_k19_meetings_of_some) (n := 63) (k := 6) (x := "_law_script") (CX := fun w => L2.CX PySem.Challenge.rw_callwheel_k19_meetings_of_some.prog w) (sp := fun w => MM.spLaw _) rfl (by decide) rfl ⟨rfl, by decide, by decide⟩ (fun w h Y => PySem.W.kIn_of Y) ?F (fun _ H a ns hl hO hS => ⟨a, ns, rfl, hO, hS, hl, fun _ => rfl⟩) (fun w H s e s' h => MM.cx_never h)
  case F =>
    intro w mg fa h KX G hmg
    refine' LK19.all_mk KX G hmg ?a1 ?l1 ?c1 ?k1 ?a2 ?l2 ?c2 ?k2 ?a3 ?l3 ?c3 ?k3 ?a4 ?l4 ?c4 ?k4 ?a5 ?l5 ?c5 ?k5 ?a6 ?l6 ?c6 ?k6 ?a7 ?l7 ?c7 ?k7 ?a8 ?l8 ?c8 ?k8 ?a9 ?l9 ?c9 ?k9 ?a10 ?l10 ?c10 ?k10 ?a11 ?l11 ?c11 ?k11 ?a12 ?l12 ?c12 ?k12 ?aL ?lL ?cL ?kL ?z_enumerate ?z_int ?z_len ?z_max ?z_min ?z_range ?z_str ?z_sum ?z_tuple ?z_zip ?q_BREAK ?q_CLOSED ?q_GAP
    (case a1 => k_is); (case l1 => k_is); (case c1 => k_is); (case k1 => k_is); (case a2 => k_is); (case l2 => k_is); (case c2 => k_is); (case k2 => k_is); (case a3 => k_is); (case l3 => k_is); (case c3 => k_is); (case k3 => k_is); (case a4 => k_is); (case l4 => k_is); (case c4 => k_is); (case k4 => k_is); (case a5 => k_is); (case l5 => k_is); (case c5 => k_is); (case k5 => k_is); (case a6 => k_is); (case l6 => k_is); (case c6 => k_is); (case k6 => k_is); (case a7 => k_is); (case l7 => k_is); (case c7 => k_is); (case k7 => k_is); (case a8 => k_is); (case l8 => k_is); (case c8 => k_is); (case k8 => k_is); (case a9 => k_is); (case l9 => k_is); (case c9 => k_is); (case k9 => k_is); (case a10 => k_is); (case l10 => k_is); (case c10 => k_is); (case k10 => k_is); (case a11 => k_is); (case l11 => k_is); (case c11 => k_is); (case k11 => k_is); (case a12 => k_is); (case l12 => k_is); (case c12 => k_is); (case k12 => k_is); (case aL => k_is); (case lL => k_is); (case cL => k_is); (case kL => k_is); (case z_enumerate => k_is); (case z_int => k_is); (case z_len => k_is); (case z_max => k_is); (case z_min => k_is); (case z_range => k_is); (case z_str => k_is); (case z_sum => k_is); (case z_tuple => k_is); (case z_zip => k_is); (case q_BREAK => k_is); (case q_CLOSED => k_is); (case q_GAP => k_is)

