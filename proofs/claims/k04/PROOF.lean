import PyProof.Rows.All
import Wide.All
import OpenK.AllK
import Wide.FinOn
import HandS.ForMost
import HandS.Walk
import HandS.TupMul
import KE.GoesEnum
import HandS.Wide
import HandS.TupAny
import HandS.Zip
import HandS.IsInst
import HandS.ForExc
import HandS.Conv
import HandS.Style
import HandS.Replace
import HandS.RaiseMore
import HandS.TryOnly
import HandS.ExcOwn
import HandS.SetKeys
import HandS.Strs
import HandS.Zip0
import HandS.SetFor
import HandS.Set
import HandS.TupLe
import KE.DataMinMax
import HandS.SortKw
import HandS.More
import HandS.Iter
import HandS.Sort
import HandS.HotCalls
import HandS.ExcIs
import HandS.SetTxt0
import HandS.SortOrd
import HandS.SortRule
import KE.KEqDict
import HandS.DeepEq
import HandS.Rev
import HandS.StrMore
import HandS.ReplaceLit
import HandS.ReplaceList
import PySem.Challenge.RW_callwheel_k04_whole_no_row_begins_anothe
set_option Elab.async false
set_option linter.all false
set_option maxRecDepth 100000
namespace MM
open PySem PySem.Spec PyProof.Rows L2
open Builtin
theorem tuple_mul1 (l : Addr) (items : Array Value) (n : Nat) (dd : Option Addr) (sl : Array (Option Value)) (u : Tok) :
    Meets (Builtin.«tuple.__mul__» ⟨[.ref l, .int 1 u], []⟩) (fun A R s => s.heap.get? l = some { cls := .type "tuple", dict := dd, data := .seq items n, slots := sl } ∧ R (.ok (.ret (.ref l))) s) :=
  .of_wp fun prog w A R s h => by
    obtain ⟨hp, g, d, tk, os⟩ := s
    obtain ⟨hl, h⟩ := h
    have f1 := AutoSeq1.idx_int
    have c0 : (decide ((1 : Int) < -(2 ^ 63)) || decide ((1 : Int) ≥ 2 ^ 63)) = false := by decide
    have c1 : (items.isEmpty || (1 : Int) == 1) = true := by simp
    wp_walk using wpAny_loadPart' hl
    repeat (first
      | (refine wpAny_ite_false (decide_eq_false (by rw [c0]; exact Bool.false_ne_true)) ?_; wp_walk using wpAny_loadPart' hl)
      | (refine wpAny_ite_true (decide_eq_true c1) ?_; wp_walk using wpAny_loadPart' hl))
    exact ⟨_, rfl, h⟩
def rRep1 (K : PySem.W.Frag) : R2 := fun x y H Q => ∃ l xs, x = .ref l ∧ y = .int 1 ∧ SqT K H l xs ∧ Q (.ref l) H
theorem op_rep1 {X : Cx} : OpR X (binaryOp .Mult) (rRep1 X.K) := by
  intro pins s σ H x y v u Q I rx ry h
  obtain ⟨l, xs, rfl, rfl, hT, q⟩ := h
  cases rx
  obtain ⟨t, rfl⟩ := ry
  obtain ⟨its, r, ⟨⟨cls, dd, data, sl⟩, ho, hc, n, hd⟩, hs⟩ := I.tuple hT
  simp only at hc hd
  subst hc hd
  refine wpAny_binaryOp_repeat_ref (T := "tuple") (U := "int") (by decide) ⟨_, ho, rfl⟩ (fun s' => typeIs_int s' 1 t) noFill_tuple_mul F.fills_int_mul F.slot_int_rmul repeat_tuple F.slot_int_index.lookup
    (call_meets F.slot_int_rmul (typeIs_int s 1 t) F.entry_int_rmul (F.args_int_rmul_2 _ _) (int_rmul_tuple 1 t l its.toArray n dd sl)
      ⟨ho, rfl, ⟨_, ho, rfl⟩, call_meets F.slot_tuple_mul ⟨_, ho, rfl⟩ F.entry_tuple_mul (F.args_tuple_mul_2 _ _) (tuple_mul1 l its.toArray n dd sl t) ⟨ho, ?_⟩⟩)
  exact ⟨.ref l, H, I, rfl, q⟩
end MM

namespace MM
open PySem PySem.Spec PyProof.Rows L2
def FrzBy (as : List Addr) (H H' : Hp) : Prop := (∀ b, b ∉ as → H' b = H b) ∧ ∀ a ∈ as, ∃ ob vs, H a = some (.lst vs) ∧ H' a = some (.frz ob (.lst vs))
def FrzTo (H : Hp) (R : Hp → Prop) : Prop := ∃ as : List Addr, (∀ a ∈ as, ∃ vs, H a = some (.lst vs)) ∧ ∀ H', FrzBy as H H' → R H'
theorem FrzBy.nil {H H' : Hp} (h : FrzBy [] H H') : H' = H := by
  funext b
  exact h.1 b (by simp)
theorem FrzTo.nil {H : Hp} {R : Hp → Prop} (h : R H) : FrzTo H R := ⟨[], by simp, fun H' q => by rw [q.nil]; exact h⟩
open Classical in
theorem inv_frz {X : Cx} {pins : List (Addr × Obj)} {σ : List (Option V)} {H : Hp} {s : Shared} (I : Inv X pins σ H s) {as : List Addr} (ha : ∀ a ∈ as, ∃ vs, H a = some (.lst vs)) : ∃ H', FrzBy as H H' ∧ Inv X pins σ H' s := by
  have obj : ∀ a ∈ as, ∃ ob vs, H a = some (.lst vs) ∧ s.heap.get? a = some ob := fun a h => by
    obtain ⟨vs, e⟩ := ha a h
    obtain ⟨_, its, n, _, g⟩ := I.hok a _ e
    exact ⟨_, vs, e, g⟩
  let H' : Hp := fun b => if h : b ∈ as then some (.frz (obj b h).choose (.lst (obj b h).choose_spec.choose)) else H b
  have out : ∀ b, b ∉ as → H' b = H b := fun b h => dif_neg h
  have ins : ∀ b, b ∈ as → ∃ ob vs, H b = some (.lst vs) ∧ H' b = some (.frz ob (.lst vs)) ∧ s.heap.get? b = some ob := fun b h => by
    have q := (obj b h).choose_spec.choose_spec
    exact ⟨_, _, q.1, dif_pos h, q.2⟩
  have not : ∀ b (u : HO), H b = some u → (∀ vs, u ≠ .lst vs) → H' b = some u := fun b u e n => by
    have nb : b ∉ as := fun h => by
      obtain ⟨ob, vs, q, _⟩ := ins b h
      rw [e] at q
      exact n vs (Option.some.inj q)
    rw [out b nb, e]
  refine ⟨H', ⟨out, fun a h => let ⟨ob, vs, q1, q2, _⟩ := ins a h; ⟨ob, vs, q1, q2⟩⟩, ?_⟩
  have hok : HOk X.prog X.w H' s.heap := fun b u e => by
    have st : ∀ o, ObjOk X.prog X.w H s.heap b o → ObjOk X.prog X.w H' s.heap b o := fun o x =>
      x.stay (fun c v _ q => q) (fun c q => not c _ q (fun _ z => nomatch z)) (fun c xs q => not c _ q (fun _ z => nomatch z))
    by_cases h : b ∈ as
    · obtain ⟨ob, vs, q1, q2, q3⟩ := ins b h
      rw [q2] at e
      cases e
      exact ⟨q3, st _ (I.hok b _ q1)⟩
    · rw [out b h] at e
      exact st _ (I.hok b u e)
  have := I.step (H' := H') (h' := s.heap) (g' := s.gens) (t' := s.toks) (d' := s.drawn) (ch := []) (fun _ z => nomatch z) (fun b o _ _ _ e _ => e) (fun b o _ _ _ e _ => ⟨o.slots, e⟩)
    (fun b o _ _ n => by
      have nb : b ∉ as := fun h => by
        obtain ⟨_, _, q, _⟩ := ins b h
        rw [n] at q; cases q
      rw [out b nb, n])
    (fun b o _ e => ⟨o, e⟩) (fun b xs e => not b _ e (fun _ z => nomatch z)) (fun b o u e => not b _ e (fun _ z => nomatch z)) (fun b ps e => ⟨#[], by rw [not b _ e (fun _ z => nomatch z)]; simp⟩) (fun m q => q) hok I.bare
  exact this
/-- an expression, and then some new lists are locked -/
def tFrz (t : TE) : TE := fun σ H Q => t σ H fun v H' => FrzTo H' (Q v)
theorem pe_frz {X : Cx} {e : Expr} {t : TE} (h : PE X e t) : PE X e (tFrz t) := ⟨fun pins s σ H Q I q => thn (h.run pins s σ H _ I q) fun u s1 ⟨v, H1, I1, rv, as, ha, r⟩ => by
  obtain ⟨H2, f, I2⟩ := inv_frz I1 ha
  exact ⟨v, H2, I2, rv, r H2 f⟩⟩
theorem rd_obj {X : Cx} {pins : List (Addr × Obj)} {σ : List (Option V)} {H : Hp} {s : Shared} {a : Addr} {xs : List V} (I : Inv X pins σ H s) (h : Rd H a (.lst xs)) : ∃ (its : List Value) (n : Nat), xs.length ≤ sizeLine ∧ Vals xs its ∧ xs.length = its.length ∧ s.heap.get? a = some { cls := .type "list", data := .seq its.toArray n } := by
  obtain ⟨z, its, n, r, e⟩ := h.ok I.hok
  exact ⟨its, n, z, r, r.length, e⟩
def rCatR : R2 := fun x y H Q => ∃ l b xs zs, x = .ref l ∧ y = .ref b ∧ Rd H l (.lst xs) ∧ Rd H b (.lst zs) ∧ xs.length + zs.length ≤ sizeLine ∧
  ∀ q, H q = none → Q (.ref q) (upd H q (.lst (xs ++ zs)))
theorem op_catR {X : Cx} : OpR X (binaryOp .Add) rCatR := by
  rintro pins s σ H _ _ v u Q I rx ry ⟨l, b, xs, zs, rfl, rfl, h1, h2, hz, q⟩
  cases rx; cases ry
  obtain ⟨i1, n1, _, r1, l1, e1⟩ := rd_obj I h1
  obtain ⟨i2, n2, _, r2, l2, e2⟩ := rd_obj I h2
  refine PySem.P.add_list e1 e2 ?_ (by simp only [List.size_toArray]; omega)
  rw [show i1.toArray ++ i2.toArray = (i1 ++ i2).toArray from by simp]
  exact ⟨.ref _, _, I.lnew (t' := s.toks) (r1.append r2) (by simp only [List.length_append]; omega), rfl, q _ I.fresh⟩
def rRepR : R2 := fun x y H Q => ∃ l k xs, x = .ref l ∧ y = .int k ∧ Rd H l (.lst xs) ∧ -(2 ^ 63) ≤ k ∧ k < 2 ^ 63 ∧ xs.length * k.toNat ≤ sizeLine ∧
  ∀ q, H q = none → Q (.ref q) (upd H q (.lst (List.replicate k.toNat xs).flatten))
theorem op_repR {X : Cx} : OpR X (binaryOp .Mult) rRepR := by
  rintro pins s σ H _ _ v u Q I rx ry ⟨l, k, xs, rfl, rfl, h, h1, h2, hz, q⟩
  cases rx
  obtain ⟨t, rfl⟩ := ry
  obtain ⟨its, n, _, r, hl, e⟩ := rd_obj I h
  have hlen : its.length * k.toNat ≤ sizeLine := hl ▸ hz
  have big : (sizeLine : Nat) ≤ (2 ^ 63 - 1) / 8 := by decide
  have c1 : ¬ (!Builtin.List.listFitsIndex k) = true := by simp [fitsIndex_both h1 h2]
  have c2 : ¬ its.toArray.size * k.toNat > (2 ^ 63 - 1) / 8 := by rw [List.size_toArray]; omega
  have c3 : ¬ Builtin.List.listTooLong (its.toArray.size * k.toNat) = true := by rw [notLongL (show its.toArray.size * k.toNat ≤ sizeLine by rw [List.size_toArray]; exact hlen)]; decide
  have f : ∀ m : Nat, (List.replicate m its.toArray).foldl (· ++ ·) #[] = (List.replicate m its).flatten.toArray := fun m => by simpa using foldl_rep its m []
  have f2 : (List.replicate (if its.toArray.isEmpty = true then 0 else k.toNat) its.toArray).foldl (· ++ ·) #[] = (List.replicate k.toNat its).flatten.toArray := by
    rw [f]
    cases its <;> simp
  have m1 := AutoListH.list___mul___list_int_3 l its.toArray n k t c1 c2 c3
  refine wpAny_binaryOp_repeat_ref (T := "list") (U := "int") (by decide) ⟨_, e, rfl⟩ (fun s' => typeIs_int s' k t) noFill_list_mul F.fills_int_mul F.slot_int_rmul repeat_list F.slot_int_index.lookup
    (call_meets F.slot_int_rmul (typeIs_int s k t) F.entry_int_rmul (F.args_int_rmul_2 _ _) (int___rmul___int_list k t l its.toArray n) ⟨e, rfl, ⟨_, e, rfl⟩, call_meets F.slot_list_mul ⟨_, e, rfl⟩ F.entry_list_mul (F.args_list_mul_2 _ _) m1 ⟨e, ?_⟩⟩)
  rw [f2]
  exact ⟨.ref _, _, I.lnew (t' := s.toks) (r.rep k.toNat) (by rw [PyProof.Rows.lm_len_rep_flat, Nat.mul_comm]; exact hz), rfl, q _ I.fresh⟩
end MM

namespace MM
open PySem PySem.Spec PyProof.Rows L2

inductive D where
  | non | bl (b : Bool) | int (i : Int) | str (x : Str) | tup (l : List D) | ref (n : Nat) | scr (ns : List Int) | pl (l : List D)

inductive O where
  | lst (fz : Bool) (l : List D) | dct (fz : Bool) (l : List (Key × D)) | ins (c : Nat) (fs : List (Str × D))

abbrev Sto := List O
abbrev Fr := List (Option D)

inductive R (α : Type) where
  | ok (a : α) (s : Sto) | ex (c : Nat) (s : Sto) | no

inductive RS where
  | nx (r : Fr) (s : Sto) | rt (d : D) (s : Sto) | bk (r : Fr) (s : Sto) | ct (r : Fr) (s : Sto) | ex (c : Nat) (r : Fr) (s : Sto) | no

def R.bind {α β : Type} : R α → (α → Sto → R β) → R β
  | .ok a s, f => f a s
  | .ex c s, _ => .ex c s
  | .no, _ => .no

abbrev ME := Fr → Sto → R D
abbrev MT := Fr → Sto → R Bool
abbrev ML := Fr → Sto → R (List D)
abbrev MS := Fr → Sto → RS

/-- a locked list that the store does not know -/
def Pul (φ : List Addr) (H : Hp) (a : Addr) (xs : List V) : Prop := a ∉ φ ∧ ∃ o, H a = some (.frz o (.lst xs))
theorem Pul.rd {φ : List Addr} {H : Hp} {a : Addr} {xs : List V} (h : Pul φ H a xs) : Rd H a (.lst xs) := .inr h.2
theorem Pul.sq {K : PySem.W.Frag} {φ : List Addr} {H : Hp} {a : Addr} {xs : List V} (h : Pul φ H a xs) : SqL K H a xs := .inl (.inr h.2)
/-- the law's script: locked, or an object of the module's own -/
def Fro (K : PySem.W.Frag) (φ : List Addr) (H : Hp) (a : Addr) (xs : List V) : Prop :=
  (a ∉ φ ∧ ∃ o, H a = some (.frz o (.lst xs))) ∨
    ∃ (o : Obj) (its : Array Value) (n : Nat), K.lookup a = some o ∧ o.cls = .type "list" ∧ o.dict = none ∧ o.data = .seq its n ∧ its.size ≤ sizeLine ∧ Vals xs its.toList
theorem Fro.sq {K : PySem.W.Frag} {φ : List Addr} {H : Hp} {a : Addr} {xs : List V} (h : Fro K φ H a xs) : SqL K H a xs := by
  rcases h with ⟨_, h⟩ | h
  · exact .inl (.inr h)
  · exact .inr h
/-- tuples of texts: the object has no dict -/
def isSt : D → Bool
  | .str _ => true
  | _ => false
def isTx (l : List D) : Bool := !l.isEmpty && l.all isSt
def txD : D → Bool
  | .tup l => isTx l
  | _ => false
def NoD (H : Hp) (a : Addr) : Prop := ∃ o xs, H a = some (.frz o (.tup xs)) ∧ o.dict = none
mutual
def Rep (K : PySem.W.Frag) (φ : List Addr) (H : Hp) : D → V → Prop
  | .non, v => v = .non
  | .bl b, v => v = .bl b
  | .int i, v => v = .int i
  | .str x, v => v = .str x
  | .ref n, v => ∃ a, φ[n]? = some a ∧ v = .ref a
  | .tup l, v => ∃ a vs, v = .ref a ∧ SqT K H a vs ∧ RepL K φ H l vs ∧ (isTx l = true → NoD H a)
  | .scr ns, v => ∃ a, v = .ref a ∧ Fro K φ H a (ns.map V.int)
  | .pl l, v => ∃ a vs, v = .ref a ∧ Pul φ H a vs ∧ RepL K φ H l vs
def RepL (K : PySem.W.Frag) (φ : List Addr) (H : Hp) : List D → List V → Prop
  | [], vs => vs = []
  | d :: ds, vs => ∃ v r, vs = v :: r ∧ Rep K φ H d v ∧ RepL K φ H ds r
end

/-- pairs of a dict, fields of an instance -/
def RepKV {κ : Type} (K : PySem.W.Frag) (φ : List Addr) (H : Hp) : List (κ × D) → List (κ × V) → Prop
  | [], vs => vs = []
  | d :: ds, vs => ∃ v r, vs = (d.1, v) :: r ∧ Rep K φ H d.2 v ∧ RepKV K φ H ds r

/-- what is known around: the classes' addresses -/
structure Cl where
  cl : Nat → Addr

def RepO (K : PySem.W.Frag) (c : Cl) (φ : List Addr) (H : Hp) (a : Addr) : O → Prop
  | .lst fz l => ∃ vs, RepL K φ H l vs ∧ if fz = true then ∃ ob, H a = some (.frz ob (.lst vs)) else H a = some (.lst vs)
  | .dct fz l => ∃ vs, RepKV K φ H l vs ∧ if fz = true then ∃ ob, H a = some (.frz ob (.dK vs)) else H a = some (.dK vs)
  | .ins k fs => ∃ dx vs, RepKV K φ H fs vs ∧ H a = some (.ins (c.cl k) dx vs)

structure Rel (K : PySem.W.Frag) (c : Cl) (φ : List Addr) (S : Sto) (H : Hp) : Prop where
  len : φ.length = S.length
  nd : φ.Nodup
  obj : ∀ (n : Nat) a o, φ[n]? = some a → S[n]? = some o → RepO K c φ H a o

structure Ext (φ : List Addr) (H : Hp) (φ' : List Addr) (H' : Hp) : Prop where
  more : ∃ ψ, φ' = φ ++ ψ ∧ ∀ a ∈ ψ, H a = none
  nd : φ'.Nodup
  keep : ∀ a o, H a = some o → a ∉ φ → H' a = some o
  frz : ∀ a ob u, H a = some (.frz ob u) → H' a = some (.frz ob u)

def FrRel (K : PySem.W.Frag) (φ : List Addr) (H : Hp) (σ : L2.St) (ρ : Fr) : Prop :=
  ρ.length = σ.length ∧ ∀ (i : Nat) d, ρ[i]? = some (some d) → ∃ v, σ[i]? = some (some v) ∧ Rep K φ H d v

section
variable {K : PySem.W.Frag} {c : Cl} {φ φ' φ1 φ2 : List Addr} {H H' H1 H2 : Hp} {S S' : Sto}

theorem Ext.refl (nd : φ.Nodup) : Ext φ H φ H := ⟨⟨[], by simp, by simp⟩, nd, fun _ _ h _ => h, fun _ _ _ h => h⟩
theorem Ext.notin (e : Ext φ H φ' H') {a : Addr} {o : HO} (h : H a = some o) (n : a ∉ φ) : a ∉ φ' := by
  obtain ⟨ψ, rfl, hψ⟩ := e.more
  intro q
  rcases List.mem_append.mp q with q | q
  · exact n q
  · rw [hψ a q] at h; cases h
theorem Ext.trans (e : Ext φ H φ1 H1) (f : Ext φ1 H1 φ2 H2) : Ext φ H φ2 H2 := by
  refine ⟨?_, f.nd, fun a o h n => f.keep a o (e.keep a o h n) (e.notin h n), fun a ob u h => f.frz a ob u (e.frz a ob u h)⟩
  obtain ⟨ψ, e1, hψ⟩ := e.more
  obtain ⟨χ, e2, hχ⟩ := f.more
  refine ⟨ψ ++ χ, by rw [e2, e1, List.append_assoc], fun a ha => ?_⟩
  rcases List.mem_append.mp ha with q | q
  · exact hψ a q
  · cases h : H a with
    | none => rfl
    | some o =>
      by_cases n : a ∈ φ
      · have nd := f.nd
        rw [e2, e1, List.append_assoc] at nd
        exact absurd rfl ((List.nodup_append.mp nd).2.2 a n a (List.mem_append_right _ q))
      · have := hχ a q
        rw [e.keep a o h n] at this
        cases this
theorem Ext.ix (e : Ext φ H φ' H') {n : Nat} {a : Addr} (h : φ[n]? = some a) : φ'[n]? = some a := by
  obtain ⟨ψ, rfl, _⟩ := e.more
  rw [List.getElem?_append_left (List.getElem?_eq_some_iff.mp h).1]
  exact h
theorem Rel.there (r : Rel K c φ S H) {a : Addr} (h : a ∈ φ) : ∃ (n : Nat) (o : O), φ[n]? = some a ∧ S[n]? = some o ∧ RepO K c φ H a o := by
  obtain ⟨n, hn, e⟩ := List.getElem_of_mem h
  have h1 : φ[n]? = some a := by rw [List.getElem?_eq_getElem hn, e]
  have h2 : n < S.length := by rw [← r.len]; exact hn
  have h3 : S[n]? = some S[n] := List.getElem?_eq_getElem h2
  exact ⟨n, _, h1, h3, r.obj n a _ h1 h3⟩
theorem RepO.some (r : RepO K c φ H a o) : ∃ u, H a = some u ∧ (∀ xs, u ≠ .tup xs) ∧ ∀ ob xs, u ≠ .frz ob (.tup xs) := by
  cases o with
  | lst fz l =>
    obtain ⟨vs, _, h⟩ := r
    split at h
    · obtain ⟨ob, h⟩ := h
      exact ⟨_, h, fun _ q => (nomatch q), fun _ _ q => (nomatch q)⟩
    · exact ⟨_, h, fun _ q => (nomatch q), fun _ _ q => (nomatch q)⟩
  | dct fz l =>
    obtain ⟨vs, _, h⟩ := r
    split at h
    · obtain ⟨ob, h⟩ := h
      exact ⟨_, h, fun _ q => (nomatch q), fun _ _ q => (nomatch q)⟩
    · exact ⟨_, h, fun _ q => (nomatch q), fun _ _ q => (nomatch q)⟩
  | ins k fs =>
    obtain ⟨dx, vs, _, h⟩ := r
    exact ⟨_, h, fun _ q => (nomatch q), fun _ _ q => (nomatch q)⟩
theorem Rel.tupNot (r : Rel K c φ S H) {a : Addr} {xs : List V} (h : Rd H a (.tup xs)) : a ∉ φ := fun q => by
  obtain ⟨n, o, _, _, ro⟩ := r.there q
  obtain ⟨u, hu, n1, n2⟩ := ro.some
  rcases h with h | ⟨ob, h⟩
  · rw [h] at hu; exact n1 _ (Option.some.inj hu).symm
  · rw [h] at hu; exact n2 _ _ (Option.some.inj hu).symm
theorem Rel.free (r : Rel K c φ S H) {a : Addr} (h : H a = none) : a ∉ φ := fun q => by
  obtain ⟨n, o, _, _, ro⟩ := r.there q
  obtain ⟨u, hu, _⟩ := ro.some
  rw [h] at hu; cases hu
theorem Ext.tup (e : Ext φ H φ' H') (r : Rel K c φ S H) {a : Addr} {xs : List V} (h : SqT K H a xs) : SqT K H' a xs := by
  rcases h with h | h
  · have n := r.tupNot h
    rcases h with h | ⟨ob, h⟩
    · exact .inl (.inl (e.keep _ _ h n))
    · exact .inl (.inr ⟨ob, e.keep _ _ h n⟩)
  · exact .inr h
/-- heaps in which all tuples stay, addresses stay -/
structure Stays (K : PySem.W.Frag) (φ : List Addr) (H : Hp) (φ' : List Addr) (H' : Hp) : Prop where
  ix : ∀ (n : Nat) a, φ[n]? = some a → φ'[n]? = some a
  tup : ∀ a xs, SqT K H a xs → SqT K H' a xs
  pul : ∀ a xs, Pul φ H a xs → Pul φ' H' a xs
  nod : ∀ a, NoD H a → NoD H' a
theorem Stays.fro (st : Stays K φ H φ' H') (a : Addr) (xs : List V) (h : Fro K φ H a xs) : Fro K φ' H' a xs := by
  rcases h with h | h
  · exact .inl (st.pul a xs h)
  · exact .inr h
theorem Ext.stays (e : Ext φ H φ' H') (r : Rel K c φ S H) : Stays K φ H φ' H' := ⟨fun _ _ h => e.ix h, fun _ _ h => e.tup r h, fun a xs h => by
  obtain ⟨n, o, h⟩ := h
  exact ⟨e.notin h n, o, e.keep _ _ h n⟩, fun a h => by
  obtain ⟨o, xs, h, hd⟩ := h
  exact ⟨o, xs, e.frz _ _ _ h, hd⟩⟩
mutual
theorem Rep.stay (e : Stays K φ H φ' H') : ∀ (d : D) (v : V), Rep K φ H d v → Rep K φ' H' d v
  | .non, _, h => h
  | .bl _, _, h => h
  | .int _, _, h => h
  | .str _, _, h => h
  | .ref n, v, h => by
    unfold Rep at h ⊢
    obtain ⟨a, h1, h2⟩ := h
    exact ⟨a, e.ix _ _ h1, h2⟩
  | .tup l, v, h => by
    unfold Rep at h ⊢
    obtain ⟨a, vs, h1, h2, h3, h4⟩ := h
    exact ⟨a, vs, h1, e.tup _ _ h2, RepL.stay e l vs h3, fun q => e.nod _ (h4 q)⟩
  | .scr ns, v, h => by
    unfold Rep at h ⊢
    obtain ⟨a, h1, h2⟩ := h
    exact ⟨a, h1, e.fro _ _ h2⟩
  | .pl l, v, h => by
    unfold Rep at h ⊢
    obtain ⟨a, vs, h1, h2, h3⟩ := h
    exact ⟨a, vs, h1, e.pul _ _ h2, RepL.stay e l vs h3⟩
theorem RepL.stay (e : Stays K φ H φ' H') : ∀ (d : List D) (v : List V), RepL K φ H d v → RepL K φ' H' d v
  | [], _, h => h
  | d :: ds, vs, h => by
    unfold RepL at h ⊢
    obtain ⟨v, r, h1, h2, h3⟩ := h
    exact ⟨v, r, h1, Rep.stay e d v h2, RepL.stay e ds r h3⟩
end
theorem RepKV.stay {κ : Type} (e : Stays K φ H φ' H') : ∀ (d : List (κ × D)) (v : List (κ × V)), RepKV K φ H d v → RepKV K φ' H' d v
  | [], _, h => h
  | d :: ds, vs, h => by
    unfold RepKV at h ⊢
    obtain ⟨v, r, h1, h2, h3⟩ := h
    exact ⟨v, r, h1, Rep.stay e d.2 v h2, RepKV.stay e ds r h3⟩
theorem FrRel.stay {σ : L2.St} {ρ : Fr} (e : Stays K φ H φ' H') (f : FrRel K φ H σ ρ) : FrRel K φ' H' σ ρ := ⟨f.1, fun i d h => by
  obtain ⟨v, h1, h2⟩ := f.2 i d h
  exact ⟨v, h1, h2.stay e⟩⟩
end

def PostW {α : Type} (K : PySem.W.Frag) (c : Cl) (W : WX) (σ : L2.St) (φ : List Addr) (H : Hp) (good : α → Sto → List Addr → Hp → Prop) : R α → Prop
  | .ok d S' => ∀ φ' H', Ext φ H φ' H' → Rel K c φ' S' H' → good d S' φ' H'
  | .ex k S' => ∀ φ' H', Ext φ H φ' H' → Rel K c φ' S' H' → W (.ref (c.cl k)) none σ H'
  | .no => False
section
variable {K : PySem.W.Frag} {c : Cl} {W : WX} {σ : L2.St} {φ φ' φ1 : List Addr} {H H' H1 : Hp} {α β : Type} {good : α → Sto → List Addr → Hp → Prop} {good' : β → Sto → List Addr → Hp → Prop}
theorem PostW.from {r : R α} (e : Ext φ H φ1 H1) (h : PostW K c W σ φ H good r) : PostW K c W σ φ1 H1 good r := by
  cases r with
  | ok d S' => exact fun φ' H' e' r' => h φ' H' (e.trans e') r'
  | ex k S' => exact fun φ' H' e' r' => h φ' H' (e.trans e') r'
  | no => exact h
theorem PostW.elim {r : R β} {f : β → Sto → R α} (h : PostW K c W σ φ H good (r.bind f))
    (k : ∀ a S1 φ1 H1, Ext φ H φ1 H1 → Rel K c φ1 S1 H1 → PostW K c W σ φ1 H1 good (f a S1) → good' a S1 φ1 H1) : PostW K c W σ φ H good' r := by
  cases r with
  | ok d S' => exact fun φ1 H1 e1 r1 => k d S' φ1 H1 e1 r1 (PostW.from e1 h)
  | ex k S' => exact h
  | no => exact h
theorem PostW.here {a : α} {S : Sto} (r : Rel K c φ S H) (h : PostW K c W σ φ H good (.ok a S)) : good a S φ H := h φ H (Ext.refl r.nd) r
theorem PostW.imp {r : R α} {good2 : α → Sto → List Addr → Hp → Prop} (h : PostW K c W σ φ H good r) (k : ∀ a S φ' H', good a S φ' H' → good2 a S φ' H') : PostW K c W σ φ H good2 r := by
  cases r with
  | ok d S' => exact fun φ' H' e' r' => k _ _ _ _ (h φ' H' e' r')
  | ex k S' => exact h
  | no => exact h
end

/-- a value, a test, arguments, a list to be read, a new list -/
abbrev gE (K : PySem.W.Frag) (Q : VK) : D → Sto → List Addr → Hp → Prop := fun d _ φ H => ∀ v, Rep K φ H d v → Q v H
abbrev gT (Q : Bool → Hp → Prop) : Bool → Sto → List Addr → Hp → Prop := fun b _ _ H => Q b H
abbrev gA (K : PySem.W.Frag) (Q : List V → Hp → Prop) : List D → Sto → List Addr → Hp → Prop := fun ds _ φ H => ∀ vs, RepL K φ H ds vs → Q vs H
abbrev gL (K : PySem.W.Frag) (Q : VK) : List D → Sto → List Addr → Hp → Prop := fun ds _ φ H => ∀ a vs, SqL K H a vs → RepL K φ H ds vs → Q (.ref a) H
abbrev gN (K : PySem.W.Frag) (H0 : Hp) (Q : VK) : List D → Sto → List Addr → Hp → Prop := fun ds _ φ H => ∀ a vs, H0 a = none → H a = some (.lst vs) → a ∉ φ → RepL K φ H ds vs → Q (.ref a) H

def DE (X : Cx) (c : Cl) (W : WX) (e : Expr) (m : ME) : Prop :=
  ∃ t, PE X e t ∧ ∀ φ σ H ρ S Q, Rel X.K c φ S H → FrRel X.K φ H σ ρ → PostW X.K c W σ φ H (gE X.K Q) (m ρ S) → t σ H Q
def DT (X : Cx) (c : Cl) (W : WX) (e : Expr) (m : MT) : Prop :=
  ∃ t, PT X e t ∧ ∀ φ σ H ρ S Q, Rel X.K c φ S H → FrRel X.K φ H σ ρ → PostW X.K c W σ φ H (gT Q) (m ρ S) → t σ H Q
/-- and, or as tests -/
def DW (X : Cx) (c : Cl) (W : WX) (e : Expr) (m : MT) : Prop :=
  ∃ t, PW X e t ∧ ∀ φ σ H ρ S Q, Rel X.K c φ S H → FrRel X.K φ H σ ρ → PostW X.K c W σ φ H (gT Q) (m ρ S) → t σ H Q
def DA (X : Cx) (c : Cl) (W : WX) (es : List Expr) (m : ML) : Prop :=
  ∃ t, PA X es t ∧ ∀ φ σ H ρ S Q, Rel X.K c φ S H → FrRel X.K φ H σ ρ → PostW X.K c W σ φ H (gA X.K Q) (m ρ S) → t σ H Q
def DL (X : Cx) (c : Cl) (W : WX) (e : Expr) (m : ML) : Prop :=
  ∃ t, PE X e t ∧ ∀ φ σ H ρ S Q, Rel X.K c φ S H → FrRel X.K φ H σ ρ → PostW X.K c W σ φ H (gL X.K Q) (m ρ S) → t σ H Q
def DN (X : Cx) (c : Cl) (W : WX) (e : Expr) (m : ML) : Prop :=
  ∃ t, PE X e t ∧ ∀ φ σ H ρ S Q, Rel X.K c φ S H → FrRel X.K φ H σ ρ → PostW X.K c W σ φ H (gN X.K H Q) (m ρ S) → t σ H Q

def eVar (i : Nat) : ME := fun ρ S => match ρ[i]? with
  | some (some d) => .ok d S
  | _ => .no
def eC (d : D) : ME := fun _ S => .ok d S
section
variable {X : Cx} {c : Cl} {W : WX}
theorem de_var {i : Nat} {x : Str} {pos : Pos} (h : PE X (.Name x pos) (tVar i)) : DE X c W (.Name x pos) (eVar i) := by
  refine ⟨_, h, fun φ σ H ρ S Q r f p => ?_⟩
  unfold eVar at p
  split at p
  · rename_i d e
    obtain ⟨v, h1, h2⟩ := f.2 i d e
    exact ⟨v, h1, PostW.here r p v h2⟩
  · exact False.elim p
/-- a constant without an address -/
theorem de_c {e : Expr} {v : V} {d : D} (h : PE X e (tC v)) (hv : ∀ φ H, Rep X.K φ H d v) : DE X c W e (eC d) :=
  ⟨_, h, fun φ σ H ρ S Q r f p => PostW.here r p v (hv φ H)⟩
theorem de_int {i j pos} : DE X c W (.Constant (.int i) j pos) (eC (.int i)) := de_c pe_int fun _ _ => by unfold Rep; rfl
theorem de_bl {i j pos} : DE X c W (.Constant (.bool i) j pos) (eC (.bl i)) := de_c pe_bl fun _ _ => by unfold Rep; rfl
theorem de_str {i j pos} : DE X c W (.Constant (.str i) j pos) (eC (.str i)) := de_c pe_str fun _ _ => by unfold Rep; rfl
end

/-- rules that may lock what is new -/
theorem PostW.frz {K : PySem.W.Frag} {c : Cl} {W : WX} {σ : L2.St} {φ : List Addr} {H : Hp} {Q : VK} {r : R D} (h : PostW K c W σ φ H (gE K Q) r) : PostW K c W σ φ H (gE K fun v H' => FrzTo H' (Q v)) r :=
  h.imp fun _ _ _ _ g v hv => FrzTo.nil (g v hv)
abbrev F1 := D → Sto → R D
abbrev F2 := D → D → Sto → R D
def eUn (f : F1) (a : ME) : ME := fun ρ S => (a ρ S).bind f
def eBin (f : F2) (a b : ME) : ME := fun ρ S => (a ρ S).bind fun x S1 => (b ρ S1).bind fun y S2 => f x y S2
/-- f is what the rule r says -/
def Fits2 (K : PySem.W.Frag) (c : Cl) (r : R2) (f : F2) : Prop := ∀ W σ φ H S x y dx dy Q, Rel K c φ S H → Rep K φ H dx x → Rep K φ H dy y → PostW K c W σ φ H (gE K Q) (f dx dy S) → r x y H Q
/-- the same, with locking -/
def Fits2F (K : PySem.W.Frag) (c : Cl) (r : R2) (f : F2) : Prop := ∀ W σ φ H S x y dx dy Q, Rel K c φ S H → Rep K φ H dx x → Rep K φ H dy y → PostW K c W σ φ H (gE K Q) (f dx dy S) → r x y H (fun v H' => FrzTo H' (Q v))
theorem Fits2.frz {K : PySem.W.Frag} {c : Cl} {r : R2} {f : F2} (h : Fits2 K c r f) : Fits2F K c r f := fun W σ φ H S x y dx dy Q r hx hy p => h W σ φ H S x y dx dy _ r hx hy p.frz
section
variable {X : Cx} {c : Cl} {W : WX} {a b : Expr} {ma mb : ME} {pos : Pos}
theorem de_binF {op : Operator} {r : R2} {f : F2} (ho : OpR X (binaryOp op) r) (hf : Fits2F X.K c r f) (ha : DE X c W a ma) (hb : DE X c W b mb) : DE X c W (.BinOp a op b pos) (eBin f ma mb) := by
  obtain ⟨ta, pa, ha⟩ := ha
  obtain ⟨tb, pb, hb⟩ := hb
  refine ⟨_, pe_frz (pe_op ho pa pb), fun φ σ H ρ S Q r f p => ?_⟩
  refine ha φ σ H ρ S _ r f (PostW.elim p fun d S1 φ1 H1 e1 r1 p1 => fun x hx => ?_)
  refine hb φ1 σ H1 ρ S1 _ r1 (f.stay (e1.stays r)) (PostW.elim p1 fun d2 S2 φ2 H2 e2 r2 p2 => fun y hy => ?_)
  exact hf W σ φ2 H2 S2 x y _ _ Q r2 (hx.stay (e2.stays r1)) hy p2
theorem de_bin {op : Operator} {r : R2} {f : F2} (ho : OpR X (binaryOp op) r) (hf : Fits2 X.K c r f) (ha : DE X c W a ma) (hb : DE X c W b mb) : DE X c W (.BinOp a op b pos) (eBin f ma mb) := by
  obtain ⟨ta, pa, ha⟩ := ha
  obtain ⟨tb, pb, hb⟩ := hb
  refine ⟨_, pe_op ho pa pb, fun φ σ H ρ S Q r f p => ?_⟩
  refine ha φ σ H ρ S _ r f (PostW.elim p fun d S1 φ1 H1 e1 r1 p1 => fun x hx => ?_)
  refine hb φ1 σ H1 ρ S1 _ r1 (f.stay (e1.stays r)) (PostW.elim p1 fun d2 S2 φ2 H2 e2 r2 p2 => fun y hy => ?_)
  exact hf W σ φ2 H2 S2 x y _ _ Q r2 (hx.stay (e2.stays r1)) hy p2
theorem de_cmp {op : CmpOp} {r : R2} {f : F2} (ho : OpR X (compareOp op) r) (hf : Fits2 X.K c r f) (ha : DE X c W a ma) (hb : DE X c W b mb) (hm : behindInMarks op b = false) : DE X c W (.Compare a [op] [b] pos) (eBin f ma mb) := by
  obtain ⟨ta, pa, ha⟩ := ha
  obtain ⟨tb, pb, hb⟩ := hb
  refine ⟨_, pe_cmpR ho pa pb hm, fun φ σ H ρ S Q r f p => ?_⟩
  refine ha φ σ H ρ S _ r f (PostW.elim p fun d S1 φ1 H1 e1 r1 p1 => fun x hx => ?_)
  refine hb φ1 σ H1 ρ S1 _ r1 (f.stay (e1.stays r)) (PostW.elim p1 fun d2 S2 φ2 H2 e2 r2 p2 => fun y hy => ?_)
  exact hf W σ φ2 H2 S2 x y _ _ Q r2 (hx.stay (e2.stays r1)) hy p2
end
end MM

namespace MM
open PySem PySem.Spec PyProof.Rows L2
section
variable {K : PySem.W.Frag} {c : Cl} {φ φ' φ1 φ2 : List Addr} {H H' H1 H2 : Hp} {S S' : Sto} {a p : Addr} {o : O} {u : HO}
theorem RepO.stay (e : Stays K φ H φ' H') (h : H' a = H a) (r : RepO K c φ H a o) : RepO K c φ' H' a o := by
  cases o with
  | lst fz l =>
    obtain ⟨vs, h1, h2⟩ := r
    refine ⟨vs, h1.stay e, ?_⟩
    rw [h]; exact h2
  | dct fz l =>
    obtain ⟨vs, h1, h2⟩ := r
    refine ⟨vs, h1.stay e, ?_⟩
    rw [h]; exact h2
  | ins k fs =>
    obtain ⟨dx, vs, h1, h2⟩ := r
    refine ⟨dx, vs, h1.stay e, ?_⟩
    rw [h]; exact h2
theorem stays_free (h : H p = none) : Stays K φ H φ (upd H p u) := ⟨fun _ _ q => q, fun a xs q => by
  rcases q with (q | ⟨ob, q⟩) | q
  · exact .inl (.inl (by rw [upd_ne (ne_of_none q h)]; exact q))
  · exact .inl (.inr ⟨ob, by rw [upd_ne (ne_of_none q h)]; exact q⟩)
  · exact .inr q, fun a xs q => by
  obtain ⟨n, o, q⟩ := q
  exact ⟨n, o, by rw [upd_ne (ne_of_none q h)]; exact q⟩, fun a q => by
  obtain ⟨o, xs, q, hd⟩ := q
  exact ⟨o, xs, by rw [upd_ne (ne_of_none q h)]; exact q, hd⟩⟩
/-- a new object that the store does not know -/
theorem Rel.fresh (r : Rel K c φ S H) (h : H p = none) : Ext φ H φ (upd H p u) ∧ Rel K c φ S (upd H p u) := by
  refine ⟨⟨⟨[], by simp, by simp⟩, r.nd, fun a o e _ => by rw [upd_ne (ne_of_none e h)]; exact e, fun a ob u e => by rw [upd_ne (ne_of_none e h)]; exact e⟩, r.len, r.nd, fun n a o h1 h2 => ?_⟩
  refine (r.obj n a o h1 h2).stay (stays_free h) (upd_ne ?_)
  obtain ⟨w, hw, _⟩ := (r.obj n a o h1 h2).some
  exact ne_of_none hw h
theorem Ext.fresh (nd : φ.Nodup) (h : H p = none) : Ext φ H φ (upd H p u) :=
  ⟨⟨[], by simp, by simp⟩, nd, fun a o e _ => by rw [upd_ne (ne_of_none e h)]; exact e, fun a ob u e => by rw [upd_ne (ne_of_none e h)]; exact e⟩
theorem stays_write (r : Rel K c φ S H) {n : Nat} (h1 : φ[n]? = some a) : Stays K φ H φ (upd H a u) := by
  refine ⟨fun _ _ q => q, fun b xs q => ?_, fun b xs q => ?_, fun b q => ?_⟩
  rotate_left
  · obtain ⟨n, o, q⟩ := q
    exact ⟨n, o, by rw [upd_ne (fun e => n (by rw [e]; exact List.mem_of_getElem? h1))]; exact q⟩
  · obtain ⟨o, xs, q, hd⟩ := q
    have nb : b ≠ a := fun e => r.tupNot (.inr ⟨o, q⟩) (by rw [e]; exact List.mem_of_getElem? h1)
    exact ⟨o, xs, by rw [upd_ne nb]; exact q, hd⟩
  rcases q with q | q
  · have nb : b ≠ a := fun e => r.tupNot q (by rw [e]; exact List.mem_of_getElem? h1)
    rcases q with q | ⟨ob, q⟩
    · exact .inl (.inl (by rw [upd_ne nb]; exact q))
    · exact .inl (.inr ⟨ob, by rw [upd_ne nb]; exact q⟩)
  · exact .inr q
theorem nodup_ne {l : List Addr} (nd : l.Nodup) {n m : Nat} {a b : Addr} (h1 : l[n]? = some a) (h2 : l[m]? = some b) (h : n ≠ m) : b ≠ a := by
  intro e
  subst e
  obtain ⟨i1, e1⟩ := List.getElem?_eq_some_iff.mp h1
  obtain ⟨i2, e2⟩ := List.getElem?_eq_some_iff.mp h2
  exact h ((List.getElem_inj nd).mp (e1.trans e2.symm))
/-- an object of the store is changed -/
theorem Rel.write (r : Rel K c φ S H) {n : Nat} (h1 : φ[n]? = some a) (ho : RepO K c φ (upd H a u) a o) (hz : ∀ ob w, H a ≠ some (.frz ob w)) : Ext φ H φ (upd H a u) ∧ Rel K c φ (S.set n o) (upd H a u) := by
  refine ⟨⟨⟨[], by simp, by simp⟩, r.nd, fun b w e nb => by rw [upd_ne (fun q => nb (by rw [q]; exact List.mem_of_getElem? h1))]; exact e, fun b ob w e => by rw [upd_ne (fun q => hz ob w (by rw [← q]; exact e))]; exact e⟩, by simp [r.len], r.nd, fun m b o' h2 h3 => ?_⟩
  by_cases hm : n = m
  · subst hm
    rw [h1] at h2
    cases h2
    rw [List.getElem?_set_self (by rw [← r.len]; exact (List.getElem?_eq_some_iff.mp h1).1)] at h3
    cases h3
    exact ho
  · rw [List.getElem?_set_ne hm] at h3
    exact (r.obj m b o' h2 h3).stay (stays_write r h1) (upd_ne (nodup_ne r.nd h1 h2 hm))
theorem Ext.back (e : Ext φ H φ' H') (r : Rel K c φ' S' H') (h : H' p = none) : H p = none := by
  cases q : H p with
  | none => rfl
  | some o =>
    by_cases n : p ∈ φ
    · obtain ⟨ψ, e1, _⟩ := e.more
      exact absurd (by rw [e1]; exact List.mem_append_left _ n) (r.free h)
    · rw [e.keep p o q n] at h
      cases h
theorem RepL.length : ∀ {ds : List D} {vs : List V}, RepL K φ H ds vs → ds.length = vs.length
  | [], vs, h => by unfold RepL at h; subst h; rfl
  | d :: ds, vs, h => by
    unfold RepL at h
    obtain ⟨v, r, rfl, _, h3⟩ := h
    simp [RepL.length h3]
theorem RepL.append : ∀ {ds es : List D} {vs us : List V}, RepL K φ H ds vs → RepL K φ H es us → RepL K φ H (ds ++ es) (vs ++ us)
  | [], es, vs, us, h, g => by unfold RepL at h; subst h; exact g
  | d :: ds, es, vs, us, h, g => by
    unfold RepL at h
    obtain ⟨v, r, rfl, h2, h3⟩ := h
    show RepL K φ H (d :: (ds ++ es)) _
    unfold RepL
    exact ⟨v, r ++ us, rfl, h2, RepL.append h3 g⟩
theorem RepL.nil : RepL K φ H [] [] := by unfold RepL; rfl
theorem RepL.cons {d : D} {ds : List D} {v : V} {vs : List V} (h : Rep K φ H d v) (g : RepL K φ H ds vs) : RepL K φ H (d :: ds) (v :: vs) := by
  unfold RepL
  exact ⟨v, vs, rfl, h, g⟩
theorem RepL.uncons {d : D} {ds : List D} {vs : List V} (h : RepL K φ H (d :: ds) vs) : ∃ v r, vs = v :: r ∧ Rep K φ H d v ∧ RepL K φ H ds r := by
  unfold RepL at h
  exact h
theorem RepL.isNil {vs : List V} (h : RepL K φ H [] vs) : vs = [] := by
  unfold RepL at h
  exact h
theorem RepL.get : ∀ {ds : List D} {vs : List V} {i : Nat} {d : D}, RepL K φ H ds vs → ds[i]? = some d → ∃ v, vs[i]? = some v ∧ Rep K φ H d v
  | [], _, _, _, _, e => by simp at e
  | d :: ds, vs, 0, d', h, e => by
    obtain ⟨v, r, rfl, h2, h3⟩ := h.uncons
    simp at e
    subst e
    exact ⟨v, rfl, h2⟩
  | d :: ds, vs, i + 1, d', h, e => by
    obtain ⟨v, r, rfl, h2, h3⟩ := h.uncons
    simpa using RepL.get h3 (by simpa using e)
theorem RepL.take : ∀ {ds : List D} {vs : List V} (i : Nat), RepL K φ H ds vs → RepL K φ H (ds.take i) (vs.take i)
  | ds, vs, 0, h => by simp; exact RepL.nil
  | [], vs, i + 1, h => by rw [h.isNil]; simp; exact RepL.nil
  | d :: ds, vs, i + 1, h => by
    obtain ⟨v, r, rfl, h2, h3⟩ := h.uncons
    simp
    exact RepL.cons h2 (RepL.take i h3)
theorem RepL.drop : ∀ {ds : List D} {vs : List V} (i : Nat), RepL K φ H ds vs → RepL K φ H (ds.drop i) (vs.drop i)
  | ds, vs, 0, h => by simpa using h
  | [], vs, i + 1, h => by rw [h.isNil]; simp; exact RepL.nil
  | d :: ds, vs, i + 1, h => by
    obtain ⟨v, r, rfl, h2, h3⟩ := h.uncons
    simp
    exact RepL.drop i h3
theorem RepL.set : ∀ {ds : List D} {vs : List V} {d : D} {v : V} (i : Nat), RepL K φ H ds vs → Rep K φ H d v → RepL K φ H (ds.set i d) (vs.set i v)
  | [], vs, d, v, i, h, g => by rw [h.isNil]; simp; exact RepL.nil
  | d :: ds, vs, d', v', 0, h, g => by
    obtain ⟨v, r, rfl, h2, h3⟩ := h.uncons
    simp
    exact RepL.cons g h3
  | d :: ds, vs, d', v', i + 1, h, g => by
    obtain ⟨v, r, rfl, h2, h3⟩ := h.uncons
    simp
    exact RepL.cons h2 (RepL.set i h3 g)
theorem RepL.flatRep {ds : List D} {vs : List V} (h : RepL K φ H ds vs) : ∀ n : Nat, RepL K φ H (List.replicate n ds).flatten (List.replicate n vs).flatten
  | 0 => by simp; exact RepL.nil
  | n + 1 => by
    rw [List.replicate_succ, List.replicate_succ, List.flatten_cons, List.flatten_cons]
    exact RepL.append h (RepL.flatRep h n)
theorem Rep.int_ {i : Int} {v : V} (h : Rep K φ H (.int i) v) : v = .int i := by unfold Rep at h; exact h
theorem Rep.bl_ {i : Bool} {v : V} (h : Rep K φ H (.bl i) v) : v = .bl i := by unfold Rep at h; exact h
theorem Rep.str_ {i : Str} {v : V} (h : Rep K φ H (.str i) v) : v = .str i := by unfold Rep at h; exact h
theorem Rep.non_ {v : V} (h : Rep K φ H .non v) : v = .non := by unfold Rep at h; exact h
theorem Rep.tup_ {l : List D} {v : V} (h : Rep K φ H (.tup l) v) : ∃ a vs, v = .ref a ∧ SqT K H a vs ∧ RepL K φ H l vs := by
  unfold Rep at h
  obtain ⟨a, vs, h1, h2, h3, _⟩ := h
  exact ⟨a, vs, h1, h2, h3⟩
theorem Rep.nod {l : List D} {a : Addr} (h : Rep K φ H (.tup l) (.ref a)) : isTx l = true → NoD H a := by
  unfold Rep at h
  obtain ⟨b, vs, h1, h2, h3, h4⟩ := h
  cases h1
  exact h4
theorem Rep.ref_ {n : Nat} {v : V} (h : Rep K φ H (.ref n) v) : ∃ a, φ[n]? = some a ∧ v = .ref a := by unfold Rep at h; exact h
theorem Rep.scr_ {l : List Int} {v : V} (h : Rep K φ H (.scr l) v) : ∃ a, v = .ref a ∧ Fro K φ H a (l.map V.int) := by unfold Rep at h; exact h
theorem Rep.pl_ {l : List D} {v : V} (h : Rep K φ H (.pl l) v) : ∃ a vs, v = .ref a ∧ Pul φ H a vs ∧ RepL K φ H l vs := by unfold Rep at h; exact h
theorem rep_pl {l : List D} {vs : List V} {a : Addr} (h : Pul φ H a vs) (g : RepL K φ H l vs) : Rep K φ H (.pl l) (.ref a) := by unfold Rep; exact ⟨a, vs, rfl, h, g⟩
theorem rep_int {i : Int} : Rep K φ H (.int i) (.int i) := by unfold Rep; rfl
theorem rep_bl {i : Bool} : Rep K φ H (.bl i) (.bl i) := by unfold Rep; rfl
theorem rep_str {i : Str} : Rep K φ H (.str i) (.str i) := by unfold Rep; rfl
theorem rep_non : Rep K φ H .non .non := by unfold Rep; rfl
theorem rep_tup {l : List D} {vs : List V} {a : Addr} (h : SqT K H a vs) (g : RepL K φ H l vs) (n : isTx l = true → NoD H a) : Rep K φ H (.tup l) (.ref a) := by unfold Rep; exact ⟨a, vs, rfl, h, g, n⟩
theorem rep_ref {n : Nat} {a : Addr} (h : φ[n]? = some a) : Rep K φ H (.ref n) (.ref a) := by unfold Rep; exact ⟨a, h, rfl⟩
/-- a list of the store -/
theorem Rel.lst (r : Rel K c φ S H) {n : Nat} {l : List D} (h1 : φ[n]? = some a) {fz : Bool} (h2 : S[n]? = some (.lst fz l)) : ∃ vs, RepL K φ H l vs ∧ SqL K H a vs ∧ (fz = false → H a = some (.lst vs)) := by
  obtain ⟨vs, g, h⟩ := r.obj n a _ h1 h2
  refine ⟨vs, g, ?_, fun e => ?_⟩
  · split at h
    · exact .inl (.inr h)
    · exact .inl (.inl h)
  · subst e
    simpa using h
end

/-- a new tuple -/
theorem post_tup {K : PySem.W.Frag} {c : Cl} {W : WX} {σ : L2.St} {φ : List Addr} {H : Hp} {S : Sto} {Q : VK} {l : List D} {vs : List V} {p : Addr} (r : Rel K c φ S H) (g : RepL K φ H l vs) (hp : H p = none)
    (ob : Obj) (hob : ob.dict = none) (h : PostW K c W σ φ H (gE K Q) (.ok (.tup l) S)) : Q (.ref p) (upd H p (.frz ob (.tup vs))) := by
  obtain ⟨e, r'⟩ := r.fresh (u := .frz ob (.tup vs)) hp
  exact h φ _ e r' _ (rep_tup (.inl (.inr ⟨ob, upd_same⟩)) (g.stay (stays_free hp)) fun _ => ⟨ob, vs, upd_same, hob⟩)
/-- a new tuple that is none of texts -/
theorem post_tup0 {K : PySem.W.Frag} {c : Cl} {W : WX} {σ : L2.St} {φ : List Addr} {H : Hp} {S : Sto} {Q : VK} {l : List D} {vs : List V} {p : Addr} (r : Rel K c φ S H) (g : RepL K φ H l vs) (hp : H p = none) (hl : isTx l = false)
    (h : PostW K c W σ φ H (gE K Q) (.ok (.tup l) S)) : Q (.ref p) (upd H p (.tup vs)) := by
  obtain ⟨e, r'⟩ := r.fresh (u := .tup vs) hp
  exact h φ _ e r' _ (rep_tup (SqT.of upd_same) (g.stay (stays_free hp)) fun q => by rw [hl] at q; cases q)
/-- an object that the store does not know is locked -/
theorem Rel.lock {K : PySem.W.Frag} {c : Cl} {φ : List Addr} {S : Sto} {H : Hp} (r : Rel K c φ S H) {p : Addr} {vs : List V} {ob : Obj} (hp : H p = some (.lst vs)) (hn : p ∉ φ) : Rel K c φ S (upd H p (.frz ob (.lst vs))) ∧ Stays K φ H φ (upd H p (.frz ob (.lst vs))) := by
  have st : Stays K φ H φ (upd H p (.frz ob (.lst vs))) := ⟨fun _ _ q => q, fun b zs q => by
    rcases q with (q | ⟨o, q⟩) | q
    · exact .inl (.inl (by rw [upd_ne (fun e => by rw [e, hp] at q; cases q)]; exact q))
    · exact .inl (.inr ⟨o, by rw [upd_ne (fun e => by rw [e, hp] at q; cases q)]; exact q⟩)
    · exact .inr q, fun b zs q => by
    obtain ⟨n, o, q⟩ := q
    exact ⟨n, o, by rw [upd_ne (fun e => by rw [e, hp] at q; cases q)]; exact q⟩, fun b q => by
    obtain ⟨o, xs, q, hd⟩ := q
    exact ⟨o, xs, by rw [upd_ne (fun e => by rw [e, hp] at q; cases q)]; exact q, hd⟩⟩
  refine ⟨⟨r.len, r.nd, fun m b o h1 h2 => (r.obj m b o h1 h2).stay st (upd_ne fun e => hn (by rw [← e]; exact List.mem_of_getElem? h1))⟩, st⟩
theorem frzBy_one {H H' : Hp} {p : Addr} (h : FrzBy [p] H H') : ∃ ob vs, H p = some (.lst vs) ∧ H' = upd H p (.frz ob (.lst vs)) := by
  obtain ⟨ob, vs, h1, h2⟩ := h.2 p (by simp)
  refine ⟨ob, vs, h1, ?_⟩
  funext b
  by_cases e : b = p
  · subst e; rw [upd_same, h2]
  · rw [upd_ne e, h.1 b (by simpa using e)]
/-- a new list that is locked at once -/
theorem post_pl {K : PySem.W.Frag} {c : Cl} {W : WX} {σ : L2.St} {φ : List Addr} {H : Hp} {S : Sto} {Q : VK} {l : List D} {vs : List V} {p : Addr} (r : Rel K c φ S H) (g : RepL K φ H l vs) (hp : H p = none)
    (h : PostW K c W σ φ H (gE K Q) (.ok (.pl l) S)) : FrzTo (upd H p (.lst vs)) (Q (.ref p)) := by
  refine ⟨[p], fun a ha => by rw [List.mem_singleton.mp ha]; exact ⟨vs, upd_same⟩, fun H' f => ?_⟩
  obtain ⟨ob, vs', h1, rfl⟩ := frzBy_one f
  rw [upd_same] at h1
  cases h1
  rw [upd_upd]
  obtain ⟨e, r'⟩ := r.fresh (u := .frz ob (.lst vs)) hp
  exact h φ _ e r' _ (rep_pl ⟨r.free hp, ob, upd_same⟩ (g.stay (stays_free hp)))
/-- what stands in a list, of the store or locked -/
def lstOf (S : Sto) : D → Option (List D)
  | .pl l => some l
  | .ref n => match S[n]? with
    | some (.lst _ l) => some l
    | _ => none
  | _ => none
theorem lstOf_rd {K : PySem.W.Frag} {c : Cl} {φ : List Addr} {H : Hp} {S : Sto} {d : D} {v : V} {l : List D} (r : Rel K c φ S H) (h : Rep K φ H d v) (e : lstOf S d = some l) : ∃ a vs, v = .ref a ∧ Rd H a (.lst vs) ∧ RepL K φ H l vs := by
  cases d with
  | pl l' =>
    cases e
    obtain ⟨a, vs, rfl, h1, h2⟩ := h.pl_
    exact ⟨a, vs, rfl, h1.rd, h2⟩
  | ref n =>
    simp only [lstOf] at e
    split at e
    · rename_i fz l' hl
      cases e
      obtain ⟨a, i1, rfl⟩ := h.ref_
      obtain ⟨vs, g, h⟩ := r.obj n a _ i1 hl
      refine ⟨a, vs, rfl, ?_, g⟩
      split at h
      · exact .inr h
      · exact .inl h
    · cases e
  | _ => cases e
/-- t + u, where a new tuple is known to have no dict -/
def rCatF (K : PySem.W.Frag) : R2 := fun x y H Q => ∃ a b xs ys, x = .ref a ∧ y = .ref b ∧ SqT K H a xs ∧ SqT K H b ys ∧ xs.length + ys.length ≤ sizeLine ∧
  (xs = [] → Q (.ref b) H) ∧ (xs ≠ [] → ys = [] → Q (.ref a) H) ∧ (xs ≠ [] → ys ≠ [] → ∀ p ob, H p = none → ob.dict = none → Q (.ref p) (upd H p (.frz ob (.tup (xs ++ ys)))))
theorem op_catF {X : Cx} : OpR X (binaryOp .Add) (rCatF X.K) := by
  rintro pins s σ H x y v u Q I rx ry ⟨a, b, xs, ys, rfl, rfl, ha, hb, hz, q0, q1, q2⟩
  cases rx; cases ry
  obtain ⟨i1, r1, p1, _⟩ := I.tuple ha
  obtain ⟨i2, r2, p2, _⟩ := I.tuple hb
  by_cases hx : xs = []
  · subst hx
    cases r1
    exact cat_tup0 p1 p2 ⟨.ref b, H, I, rfl, q0 rfl⟩
  · refine HT.cat_tup p1 p2 (fun z => hx (r1.nil_iff.mp z)) (fun z => ⟨.ref a, H, I, rfl, q1 hx (r2.nil_iff.mp z)⟩) (fun z => ?_) (by have := r1.length; have := r2.length; omega)
    refine ⟨.ref _, _, I.laid (t' := s.toks) (o := .frz { cls := .type "tuple", data := .seq (i1 ++ i2).toArray } (.tup (xs ++ ys))) (fun b ob => Heap.get?_push_of_some _) (Nat.le_refl _) ⟨?_, ?_⟩, rfl, q2 hx (fun w => z (r2.nil_iff.mpr w)) _ _ (I.hok.fresh (Nat.le_refl _)) rfl⟩
    · exact Heap.get?_push_size _ rfl
    · exact ⟨by simpa using hz, _, r1.append r2, IsTup.new _ _⟩
/-- the sum of lists is never written -/
def addD : F2
  | .int i, .int j, S => .ok (.int (i + j)) S
  | .str x, .str y, S => if x.length + y.length ≤ sizeLine then .ok (.str (x ++ y)) S else .no
  | .tup a, .tup b, S => if a.length + b.length ≤ sizeLine then .ok (.tup (a ++ b)) S else .no
  | x, y, S => match lstOf S x, lstOf S y with
    | some a, some b => if a.length + b.length ≤ sizeLine then .ok (.pl (a ++ b)) S else .no
    | _, _ => .no
def rAddA (K : PySem.W.Frag) : R2 := fun x y H Q => (∃ i j, x = .int i ∧ y = .int j ∧ Q (.int (i + j)) H) ∨ (∃ i j, x = .str i ∧ y = .str j ∧ i.length + j.length ≤ sizeLine ∧ Q (.str (i ++ j)) H) ∨ rCatF K x y H Q ∨ rCatR x y H Q
theorem op_addA {X : Cx} : OpR X (binaryOp .Add) (rAddA X.K) := op_add.or (op_add_str.or (op_catF.or op_catR))
theorem fits_add_tup {K : PySem.W.Frag} {c : Cl} {W : WX} {σ : L2.St} {φ : List Addr} {H : Hp} {S : Sto} {Q : VK} {a b : List D} {x y : V} (r : Rel K c φ S H) (hx : Rep K φ H (.tup a) x) (hy : Rep K φ H (.tup b) y) (hz : a.length + b.length ≤ sizeLine)
    (p : PostW K c W σ φ H (gE K Q) (.ok (.tup (a ++ b)) S)) : rCatF K x y H Q := by
  obtain ⟨a1, v1, rfl, s1, g1⟩ := hx.tup_
  obtain ⟨a2, v2, rfl, s2, g2⟩ := hy.tup_
  have e1 := g1.length
  have e2 := g2.length
  refine ⟨a1, a2, v1, v2, rfl, rfl, s1, s2, by omega, fun e => ?_, fun _ e => ?_, fun _ _ q ob hq hob => ?_⟩
  · subst e
    have z : a = [] := List.eq_nil_of_length_eq_zero (by simpa using e1)
    subst z
    exact PostW.here r p _ hy
  · subst e
    have z : b = [] := List.eq_nil_of_length_eq_zero (by simpa using e2)
    subst z
    rw [List.append_nil] at p
    exact PostW.here r p _ hx
  · exact post_tup r (g1.append g2) hq ob hob p
theorem fits_add {K : PySem.W.Frag} {c : Cl} : Fits2F K c (rAddA K) addD := by
  intro W σ φ H S x y dx dy Q r hx hy p
  unfold addD at p
  split at p
  · rw [hx.int_, hy.int_]
    exact .inl ⟨_, _, rfl, rfl, PostW.here r p.frz _ rep_int⟩
  · split at p
    · rename_i hz
      rw [hx.str_, hy.str_]
      exact .inr (.inl ⟨_, _, rfl, rfl, hz, PostW.here r p.frz _ rep_str⟩)
    · exact False.elim p
  · split at p
    · rename_i hz
      exact .inr (.inr (.inl (fits_add_tup r hx hy hz p.frz)))
    · exact False.elim p
  · split at p
    · split at p
      · rename_i h1 h2 hz
        obtain ⟨a1, v1, rfl, s1, g1⟩ := lstOf_rd r hx h1
        obtain ⟨a2, v2, rfl, s2, g2⟩ := lstOf_rd r hy h2
        have e1 := g1.length
        have e2 := g2.length
        refine .inr (.inr (.inr ⟨a1, a2, v1, v2, rfl, rfl, s1, s2, by omega, fun q hq => ?_⟩))
        exact post_pl r (g1.append g2) hq p
      · exact False.elim p
    · exact False.elim p
end MM

namespace MM
open PySem PySem.Spec PyProof.Rows L2

def subD : F2
  | .int i, .int j, S => .ok (.int (i - j)) S
  | _, _, _ => .no
theorem fits_sub {K : PySem.W.Frag} {c : Cl} : Fits2 K c (rI0 fun i j => .int (i - j)) subD := by
  intro W σ φ H S x y dx dy Q r hx hy p
  unfold subD at p
  split at p
  · rw [hx.int_, hy.int_]
    exact ⟨_, _, rfl, rfl, PostW.here r p _ rep_int⟩
  · exact False.elim p
/-- a text n times -/
def repS (x : Str) (n : Nat) : Str := ⟨(List.replicate n x.cps).foldl (· ++ ·) #[]⟩
theorem fold_len : ∀ (l : List (Array Nat)) (a : Array Nat), (l.foldl (· ++ ·) a).toList = a.toList ++ (l.map Array.toList).flatten
  | [], a => by simp
  | x :: l, a => by
    rw [List.foldl_cons, fold_len l (a ++ x)]
    simp
theorem repS_list (x : Str) (n : Nat) : (repS x n).cps.toList = (List.replicate n x.cps.toList).flatten := by
  unfold repS
  rw [fold_len, List.map_replicate]
  simp
theorem repS_len (x : Str) (n : Nat) : (repS x n).length = n * x.length := by
  have h : (repS x n).length = (repS x n).cps.toList.length := by simp [Str.length]
  rw [h, repS_list]
  simp [Str.length]
def rRepS : R2 := fun x y H Q => ∃ a k, x = .str a ∧ y = .int k ∧ 1 ≤ a.length ∧ a.length ≤ 1000 ∧ 2 ≤ k ∧ k ≤ 1000 ∧ Q (.str (repS a k.toNat)) H
theorem op_repS {X : Cx} : OpR X (binaryOp .Mult) rRepS := by
  intro pins s σ H x y v u Q I rx ry h
  obtain ⟨a, k, rfl, rfl, h1, h2, h3, h4, q⟩ := h
  obtain ⟨t, rfl⟩ := rx
  obtain ⟨t', rfl⟩ := ry
  have hm : a.length * k.toNat ≤ 1000 * 1000 := Nat.mul_le_mul h2 (by omega)
  have c0 : (decide (k < -(2 ^ 63)) || decide (k ≥ 2 ^ 63)) = false := by
    rw [decide_eq_false (by omega), decide_eq_false (by omega)] <;> rfl
  refine PySem.P.mul_str c0 (fun _ _ => ?_) (fun _ _ => ?_) ?_
  · have hd : (1000 : Int) ≤ (2 ^ 63 - 1) / k := (Int.le_ediv_iff_mul_le (by omega)).mpr (by omega)
    omega
  · unfold Builtin.Str.tooLong
    exact decide_eq_false (by rw [sizeLine_eq]; omega)
  · have e1 : (k == 1 || a.length == 0) = false := by
      rw [beq_eq_false_iff_ne.mpr (show k ≠ 1 by omega), beq_eq_false_iff_ne.mpr (show a.length ≠ 0 by omega)] <;> rfl
    rw [if_neg (show ¬ k < 1 by omega), e1, if_neg (by decide)]
    refine ⟨?_, .str (repS a k.toNat), H, I.tok _, ⟨_, rfl⟩, q⟩
    show (repS a k.toNat).length ≤ sizeLine
    rw [repS_len, Nat.mul_comm, sizeLine_eq]
    omega
def MulOk (k : Int) (n : Nat) : Prop := -(2 ^ 63) ≤ k ∧ k < 2 ^ 63 ∧ n * k.toNat ≤ sizeLine
/-- a list so many times, never written -/
noncomputable def mulD : F2
  | .str a, .int k, S => if 1 ≤ a.length ∧ a.length ≤ 1000 ∧ 2 ≤ k ∧ k ≤ 1000 then .ok (.str (repS a k.toNat)) S else .no
  | .int i, .int j, S => if (-(2 ^ 64) < i ∧ i < 2 ^ 64) ∨ (-(2 ^ 64) < j ∧ j < 2 ^ 64) then .ok (.int (i * j)) S else .no
  | .tup l, .int k, S => if k = 1 then .ok (.tup l) S else if l ≠ [] ∧ 2 ≤ k ∧ k ≤ 1000 ∧ l.length ≤ 1000 ∧ l.all isSt = false then .ok (.tup (List.replicate k.toNat l).flatten) S else .no
  | x, .int k, S => match lstOf S x with
    | some l => @ite _ (MulOk k l.length) (Classical.propDecidable _) (.ok (.pl (List.replicate k.toNat l).flatten) S) .no
    | _ => .no
  | _, _, _ => .no
def rMulA (K : PySem.W.Frag) : R2 := fun x y H Q => (rI CMul fun i j => .int (i * j)) x y H Q ∨ rRepT K x y H Q ∨ rRepR x y H Q ∨ rRep1 K x y H Q ∨ rRepS x y H Q
theorem op_mulA {X : Cx} : OpR X (binaryOp .Mult) (rMulA X.K) := op_mul.or (op_repT.or (op_repR.or (op_rep1.or op_repS)))
theorem rep_noTx {l : List D} (h : l.all isSt = false) : ∀ n : Nat, isTx (List.replicate n l).flatten = false
  | 0 => rfl
  | n + 1 => by
    unfold isTx
    rw [List.replicate_succ, List.flatten_cons, List.all_append, h, Bool.false_and, Bool.and_false]
theorem fits_mul_tup {K : PySem.W.Frag} {c : Cl} {W : WX} {σ : L2.St} {φ : List Addr} {H : Hp} {S : Sto} {Q : VK} {l : List D} {k : Int} {x y : V} (r : Rel K c φ S H) (hx : Rep K φ H (.tup l) x) (hy : Rep K φ H (.int k) y)
    (p : PostW K c W σ φ H (gE K Q) (if k = 1 then .ok (.tup l) S else if l ≠ [] ∧ 2 ≤ k ∧ k ≤ 1000 ∧ l.length ≤ 1000 ∧ l.all isSt = false then .ok (.tup (List.replicate k.toNat l).flatten) S else .no)) : rRepT K x y H Q ∨ rRep1 K x y H Q := by
  obtain ⟨a1, v1, rfl, s1, g1⟩ := hx.tup_
  rw [hy.int_]
  split at p
  · rename_i hk
    rw [hk]
    exact .inr ⟨a1, v1, rfl, rfl, s1, PostW.here r p _ hx⟩
  · split at p
    · rename_i h
      obtain ⟨h1, h2, h3, h4, h5⟩ := h
      have e := g1.length
      refine .inl ⟨a1, _, v1, rfl, rfl, s1, fun z => ?_, h2, h3, by omega, fun q hq => ?_⟩
      · subst z
        exact h1 (List.eq_nil_of_length_eq_zero (by simpa using e))
      · exact post_tup0 r (g1.flatRep _) hq (rep_noTx h5 _) p
    · exact False.elim p
theorem fits_mul {K : PySem.W.Frag} {c : Cl} : Fits2F K c (rMulA K) mulD := by
  intro W σ φ H S x y dx dy Q r hx hy p
  unfold mulD at p
  split at p
  · split at p
    · rename_i h
      rw [hx.str_, hy.int_]
      exact .inr (.inr (.inr (.inr ⟨_, _, rfl, rfl, h.1, h.2.1, h.2.2.1, h.2.2.2, PostW.here r p.frz _ rep_str⟩)))
    · exact False.elim p
  · split at p
    · rename_i h
      rw [hx.int_, hy.int_]
      exact .inl ⟨_, _, rfl, rfl, h, PostW.here r p.frz _ rep_int⟩
    · exact False.elim p
  · rcases fits_mul_tup r hx hy p.frz with q | q
    · exact .inr (.inl q)
    · exact .inr (.inr (.inr (.inl q)))
  · split at p
    · split at p
      · rename_i hs h
        obtain ⟨h1, h2, h3⟩ := h
        obtain ⟨a1, v1, rfl, s1, g1⟩ := lstOf_rd r hx hs
        rw [hy.int_]
        have e := g1.length
        refine .inr (.inr (.inl ⟨a1, _, v1, rfl, rfl, s1, h1, h2, by rw [← e]; exact h3, fun q hq => ?_⟩))
        exact post_pl r (g1.flatRep _) hq p
      · exact False.elim p
    · exact False.elim p
  · exact False.elim p
def modD : F2
  | .int i, .int j, S => if 0 < j then .ok (.int (i % j)) S else .no
  | _, _, _ => .no
theorem fits_mod {K : PySem.W.Frag} {c : Cl} : Fits2 K c (rI (fun _ j => 0 < j) fun i j => .int (i % j)) modD := by
  intro W σ φ H S x y dx dy Q r hx hy p
  unfold modD at p
  split at p
  · split at p
    · rename_i h
      rw [hx.int_, hy.int_]
      exact ⟨_, _, rfl, rfl, h, PostW.here r p _ rep_int⟩
    · exact False.elim p
  · exact False.elim p
def fdivD : F2
  | .int i, .int j, S => if 0 < j ∧ j.natAbs.log2 < 9000 then .ok (.int (i / j)) S else .no
  | _, _, _ => .no
theorem fits_fdiv {K : PySem.W.Frag} {c : Cl} : Fits2 K c (rI CDivW fun i j => .int (i / j)) fdivD := by
  intro W σ φ H S x y dx dy Q r hx hy p
  unfold fdivD at p
  split at p
  · split at p
    · rename_i h
      rw [hx.int_, hy.int_]
      exact ⟨_, _, rfl, rfl, h, PostW.here r p _ rep_int⟩
    · exact False.elim p
  · exact False.elim p
def powD : F2
  | .int i, .int j, S => if 0 ≤ j ∧ j ≤ 1000000 ∧ i.natAbs < 2 ^ 64 then .ok (.int (i ^ j.toNat)) S else .no
  | _, _, _ => .no
theorem fits_pow {K : PySem.W.Frag} {c : Cl} : Fits2 K c (rI CPow fun i j => .int (i ^ j.toNat)) powD := by
  intro W σ φ H S x y dx dy Q r hx hy p
  unfold powD at p
  split at p
  · split at p
    · rename_i h
      rw [hx.int_, hy.int_]
      exact ⟨_, _, rfl, rfl, h, PostW.here r p _ rep_int⟩
    · exact False.elim p
  · exact False.elim p
def negD : F1
  | .int i, S => .ok (.int (-i)) S
  | _, _ => .no

def ordD (fi : Int → Int → Bool) (fs : List Nat → List Nat → Bool) : F2
  | .int i, .int j, S => .ok (.bl (fi i j)) S
  | .str x, .str y, S => .ok (.bl (fs x.cps.toList y.cps.toList)) S
  | _, _, _ => .no
def ltD : F2 := ordD (fun i j => decide (i < j)) fun x y => decide (x < y)
def leD : F2 := ordD (fun i j => decide (i ≤ j)) fun x y => !decide (y < x)
def gtD : F2 := ordD (fun i j => decide (j < i)) fun x y => decide (y < x)
def geD : F2 := ordD (fun i j => decide (j ≤ i)) fun x y => !decide (x < y)
def rOrd (fi : Int → Int → Bool) (fs : List Nat → List Nat → Bool) : R2 := fun x y H Q => (rI0 fun i j => .bl (fi i j)) x y H Q ∨ ∃ i j, x = .str i ∧ y = .str j ∧ Q (.bl (fs i.cps.toList j.cps.toList)) H
theorem fits_ord {K : PySem.W.Frag} {c : Cl} {fi : Int → Int → Bool} {fs : List Nat → List Nat → Bool} : Fits2 K c (rOrd fi fs) (ordD fi fs) := by
  intro W σ φ H S x y dx dy Q r hx hy p
  unfold ordD at p
  split at p
  · rw [hx.int_, hy.int_]
    exact .inl ⟨_, _, rfl, rfl, PostW.here r p _ rep_bl⟩
  · rw [hx.str_, hy.str_]
    exact .inr ⟨_, _, rfl, rfl, PostW.here r p _ rep_bl⟩
  · exact False.elim p
section
variable {X : Cx}
theorem op_ltA : OpR X (compareOp .Lt) (rOrd (fun i j => decide (i < j)) fun x y => decide (x < y)) := op_lt.or op_lt_str
theorem op_leA : OpR X (compareOp .LtE) (rOrd (fun i j => decide (i ≤ j)) fun x y => !decide (y < x)) := op_le.or op_le_str
theorem op_gtA : OpR X (compareOp .Gt) (rOrd (fun i j => decide (j < i)) fun x y => decide (y < x)) := op_gt.or op_gt_str
end

mutual
/-- as data; none where it has an address -/
def toP : D → Option PyData
  | .non => some .none
  | .bl b => some (.bool b)
  | .int i => some (.int i)
  | .str x => if PyData.strOk x = true then some (.str x) else none
  | .tup l => (toPl l).map .tuple
  | .ref _ => none
  | .scr _ => none
  | .pl l => (toPl l).map .list
def toPl : List D → Option (List PyData)
  | [] => some []
  | d :: ds => match toP d, toPl ds with
    | some p, some q => some (p :: q)
    | _, _ => none
end
/-- a list of the store of such data too -/
def view (S : Sto) : D → Option PyData
  | .ref n => match S[n]? with
    | some (.lst _ l) => (toPl l).map .list
    | _ => none
  | d => toP d
mutual
theorem Rep.dp {K : PySem.W.Frag} {φ : List Addr} {H : Hp} : ∀ (d : D) (v : V) (p : PyData), Rep K φ H d v → toP d = some p → Dp K H v p ∧ p.canLay0 = true
  | .non, v, p, h, e => by unfold toP at e; cases e; rw [h.non_]; exact ⟨.non, by simp [PyData.canLay0]⟩
  | .bl b, v, p, h, e => by unfold toP at e; cases e; rw [h.bl_]; exact ⟨.bl b, by simp [PyData.canLay0]⟩
  | .int b, v, p, h, e => by unfold toP at e; cases e; rw [h.int_]; exact ⟨.int b, by simp [PyData.canLay0]⟩
  | .str b, v, p, h, e => by
    unfold toP at e
    split at e
    · rename_i hs
      cases e; rw [h.str_]; exact ⟨.str b, by simpa [PyData.canLay0] using hs⟩
    · cases e
  | .ref b, v, p, h, e => by unfold toP at e; cases e
  | .scr b, v, p, h, e => by unfold toP at e; cases e
  | .pl l, v, p, h, e => by
    unfold toP at e
    obtain ⟨q, e1, rfl⟩ := Option.map_eq_some_iff.mp e
    obtain ⟨a, vs, rfl, s, g⟩ := h.pl_
    obtain ⟨h1, h2⟩ := RepL.dp l vs q g e1
    exact ⟨.lst s.sq h1, by simpa [PyData.canLay0] using h2⟩
  | .tup l, v, p, h, e => by
    unfold toP at e
    obtain ⟨q, e1, rfl⟩ := Option.map_eq_some_iff.mp e
    obtain ⟨a, vs, rfl, s, g⟩ := h.tup_
    obtain ⟨h1, h2⟩ := RepL.dp l vs q g e1
    exact ⟨.tup s h1, by simpa [PyData.canLay0] using h2⟩
theorem RepL.dp {K : PySem.W.Frag} {φ : List Addr} {H : Hp} : ∀ (d : List D) (v : List V) (p : List PyData), RepL K φ H d v → toPl d = some p → DpAll K H v p ∧ PyData.canLayAll0 p = true
  | [], v, p, h, e => by unfold toPl at e; cases e; rw [h.isNil]; exact ⟨.nil, by simp [PyData.canLayAll0]⟩
  | d :: ds, v, p, h, e => by
    unfold toPl at e
    obtain ⟨x, r, rfl, h1, h2⟩ := h.uncons
    split at e
    · rename_i p1 p2 e1 e2
      cases e
      obtain ⟨a1, a2⟩ := Rep.dp d x p1 h1 e1
      obtain ⟨b1, b2⟩ := RepL.dp ds r p2 h2 e2
      exact ⟨.cons a1 b1, by simp [PyData.canLayAll0, a2, b2]⟩
    · cases e
end
theorem Rep.view {K : PySem.W.Frag} {c : Cl} {φ : List Addr} {H : Hp} {S : Sto} (r : Rel K c φ S H) {d : D} {v : V} {p : PyData} (h : Rep K φ H d v) (e : view S d = some p) : Dp K H v p ∧ p.canLay0 = true := by
  unfold MM.view at e
  split at e
  · split at e
    · rename_i n _ l hs
      obtain ⟨q, e1, rfl⟩ := Option.map_eq_some_iff.mp e
      obtain ⟨a, i1, rfl⟩ := h.ref_
      obtain ⟨vs, g, s, _⟩ := r.lst i1 hs
      obtain ⟨h1, h2⟩ := RepL.dp l vs q g e1
      exact ⟨.lst s h1, by simpa [PyData.canLay0] using h2⟩
    · cases e
  · exact h.dp _ _ _ e
def scalD : D → D → Bool
  | .non, .non => true | .non, .int _ => true | .int _, .non => true | .non, .bl _ => true | .bl _, .non => true | .non, .str _ => true | .str _, .non => true
  | .int _, .int _ => true | .bl _, .bl _ => true | .str _, .str _ => true
  | .int _, .str _ => true | .str _, .int _ => true | .bl _, .str _ => true | .str _, .bl _ => true
  | _, _ => false
def sameD : D → D → Bool
  | .non, .non => true
  | .int i, .int j => decide (i = j)
  | .bl i, .bl j => decide (i = j)
  | .str i, .str j => decide (i = j)
  | _, _ => false
/-- == : scalars, else data -/
def eqB (S : Sto) (x y : D) : Option Bool :=
  if scalD x y = true then some (sameD x y) else match view S x, view S y with
  | some p, some q => if p.depth ≤ 64 ∧ q.depth ≤ 64 then some (PyData.eqv p q) else none
  | _, _ => none
def eqD : F2 := fun x y S => match eqB S x y with
  | some b => .ok (.bl b) S
  | none => .no
def neD : F2 := fun x y S => match eqB S x y with
  | some b => .ok (.bl (!b)) S
  | none => .no
theorem scal_of {K : PySem.W.Frag} {φ : List Addr} {H : Hp} {dx dy : D} {x y : V} (hx : Rep K φ H dx x) (hy : Rep K φ H dy y) (h : scalD dx dy = true) : scal x y = true ∧ decide (x = y) = sameD dx dy := by
  unfold scalD at h
  split at h <;> first
    | (cases h; done)
    | (unfold Rep at hx hy
       subst hx hy
       refine ⟨rfl, ?_⟩
       unfold sameD
       simp)
theorem fits_eq {K : PySem.W.Frag} {c : Cl} : Fits2 K c (fun x y H Q => rEq x y H Q ∨ rEqD K x y H Q) eqD := by
  intro W σ φ H S x y dx dy Q r hx hy p
  unfold eqD eqB at p
  split at p
  · rename_i b hb
    split at hb
    · rename_i hs
      cases hb
      obtain ⟨h1, h2⟩ := scal_of hx hy hs
      exact .inl ⟨h1, by rw [h2]; exact PostW.here r p _ rep_bl⟩
    · split at hb
      · rename_i p1 p2 e1 e2
        split at hb
        · rename_i hd
          cases hb
          obtain ⟨a1, a2⟩ := hx.view r e1
          obtain ⟨b1, b2⟩ := hy.view r e2
          refine .inr ⟨p1, p2, a1, b1, ?_, ?_, PostW.here r p _ rep_bl⟩
          · unfold SeqAt.shaped; simp [a2, hd.1]
          · unfold SeqAt.shaped; simp [b2, hd.2]
        · cases hb
      · cases hb
  · exact False.elim p
theorem fits_ne {K : PySem.W.Frag} {c : Cl} : Fits2 K c (fun x y H Q => rNe x y H Q ∨ rNeD K x y H Q) neD := by
  intro W σ φ H S x y dx dy Q r hx hy p
  unfold neD eqB at p
  split at p
  · rename_i b hb
    split at hb
    · rename_i hs
      cases hb
      obtain ⟨h1, h2⟩ := scal_of hx hy hs
      exact .inl ⟨h1, by rw [h2]; exact PostW.here r p _ rep_bl⟩
    · split at hb
      · rename_i p1 p2 e1 e2
        split at hb
        · rename_i hd
          cases hb
          obtain ⟨a1, a2⟩ := hx.view r e1
          obtain ⟨b1, b2⟩ := hy.view r e2
          refine .inr ⟨p1, p2, a1, b1, ?_, ?_, PostW.here r p _ rep_bl⟩
          · unfold SeqAt.shaped; simp [a2, hd.1]
          · unfold SeqAt.shaped; simp [b2, hd.2]
        · cases hb
      · cases hb
  · exact False.elim p
theorem op_eqA {X : Cx} (hu : X.A.units + 64 < cLine) : OpR X (compareOp .Eq) (fun x y H Q => rEq x y H Q ∨ rEqD X.K x y H Q) := op_eq.or (op_eqD hu)
theorem op_neA {X : Cx} (hu : X.A.units + 64 < cLine) : OpR X (compareOp .NotEq) (fun x y H Q => rNe x y H Q ∨ rNeD X.K x y H Q) := op_ne.or (op_neD hu)

def isNB : D → Bool
  | .non => true
  | _ => false
def isND : F2
  | x, .non, S => .ok (.bl (isNB x)) S
  | _, _, _ => .no
def notND : F2
  | x, .non, S => .ok (.bl (!isNB x)) S
  | _, _, _ => .no
def flatD : D → Bool
  | .non => true | .bl _ => true | .int _ => true | .str _ => true
  | _ => false
def eqF : D → D → Bool
  | .non, .non => true
  | .bl a, .bl b => a == b
  | .bl a, .int b => (if a then 1 else 0) == b
  | .int a, .bl b => a == (if b then 1 else 0)
  | .int a, .int b => a == b
  | .str a, .str b => a == b
  | _, _ => false
def inL (x : D) (l : List D) : Bool := l.any fun y => eqF y x
/-- things of any depth -/
def deepIn (S : Sto) (x y : D) : Option Bool := match view S x, view S y with
  | some d, some (.list ds) => if d.depth ≤ 60 ∧ (PyData.list ds).depth ≤ 64 then some (ds.any fun z => PyData.eqv z d) else none
  | some d, some (.tuple ds) => if d.depth ≤ 60 ∧ (PyData.tuple ds).depth ≤ 64 then some (ds.any fun z => PyData.eqv z d) else none
  | _, _ => none
def inB (S : Sto) (x y : D) : Option Bool := match x, y with
  | .str u, .str z => if u.cps.size = 1 then some (decide (u.cps.getD 0 0 ∈ z.cps.toList)) else none
  | x, .tup l => if flatD x = true ∧ l.all flatD = true then some (inL x l) else deepIn S x (.tup l)
  | x, y => match lstOf S y with
    | some l => if flatD x = true ∧ l.all flatD = true then some (inL x l) else deepIn S x y
    | _ => none
def inD : F2 := fun x y S => match inB S x y with
  | some b => .ok (.bl b) S
  | none => .no
def notInD : F2 := fun x y S => match inB S x y with
  | some b => .ok (.bl (!b)) S
  | none => .no
section
variable {K : PySem.W.Frag} {c : Cl} {φ : List Addr} {H : Hp} {S : Sto}
theorem flat_of {d : D} {x : V} (h : Rep K φ H d x) (f : flatD d = true) : flatV x = true := by
  cases d with
  | non => rw [h.non_]; rfl
  | bl b => rw [h.bl_]; rfl
  | int b => rw [h.int_]; rfl
  | str b => rw [h.str_]; rfl
  | tup l => cases f
  | ref n => cases f
  | scr n => cases f
  | pl n => cases f
theorem flats_of : ∀ {ds : List D} {vs : List V}, RepL K φ H ds vs → ds.all flatD = true → vs.all flatV = true
  | [], vs, h, f => by rw [h.isNil]; rfl
  | d :: ds, vs, h, f => by
    obtain ⟨v, r, rfl, h1, h2⟩ := h.uncons
    simp only [List.all_cons, Bool.and_eq_true] at f ⊢
    exact ⟨flat_of h1 f.1, flats_of h2 f.2⟩
theorem eqF_of {d e : D} {x y : V} (h : Rep K φ H d x) (g : Rep K φ H e y) (f : flatD d = true) (f' : flatD e = true) : eqV x y = eqF d e := by
  cases d <;> first | (cases f; done) | (cases e <;> first | (cases f'; done) | (unfold Rep at h g; subst h g; rfl))
theorem inL_of {e : D} {y : V} (g : Rep K φ H e y) (f' : flatD e = true) : ∀ {ds : List D} {vs : List V}, RepL K φ H ds vs → ds.all flatD = true → inV y vs = inL e ds
  | [], vs, h, f => by rw [h.isNil]; rfl
  | d :: ds, vs, h, f => by
    obtain ⟨v, r, rfl, h1, h2⟩ := h.uncons
    simp only [List.all_cons, Bool.and_eq_true] at f
    have := inL_of g f' h2 f.2
    unfold inV inL at this ⊢
    rw [List.any_cons, List.any_cons, eqF_of h1 g f.1 f', this]
theorem one_sign {u : Str} (h : u.cps.size = 1) : u = ⟨#[u.cps.getD 0 0]⟩ := by
  obtain ⟨a⟩ := u
  obtain ⟨l⟩ := a
  match l, h with
  | [x], _ => rfl
end
def rInQ (K : PySem.W.Frag) (neg : Bool) : R2 := fun x y H Q => ∃ d ds, Dp K H x d ∧ (Dp K H y (.list ds) ∨ Dp K H y (.tuple ds)) ∧ SeqAt.shaped d = true ∧ PyData.canLayAll0 ds = true ∧ d.depth ≤ 60 ∧ Q (.bl (if neg then !(ds.any fun z => PyData.eqv z d) else ds.any fun z => PyData.eqv z d)) H
theorem deep_ok {K : PySem.W.Frag} {c : Cl} {φ : List Addr} {H : Hp} {S : Sto} {dx dy : D} {x y : V} {b : Bool} {neg : Bool} {Q : VK} (r : Rel K c φ S H) (hx : Rep K φ H dx x) (hy : Rep K φ H dy y) (h : deepIn S dx dy = some b) (q : Q (.bl (if neg then !b else b)) H) : rInQ K neg x y H Q := by
  unfold deepIn at h
  split at h
  · rename_i d ds e1 e2
    split at h
    · rename_i hd
      cases h
      obtain ⟨a1, a2⟩ := hx.view r e1
      obtain ⟨b1, b2⟩ := hy.view r e2
      exact ⟨d, ds, a1, .inl b1, by unfold SeqAt.shaped; simp [a2]; omega, by simpa [PyData.canLay0] using b2, hd.1, q⟩
    · cases h
  · rename_i d ds e1 e2
    split at h
    · rename_i hd
      cases h
      obtain ⟨a1, a2⟩ := hx.view r e1
      obtain ⟨b1, b2⟩ := hy.view r e2
      exact ⟨d, ds, a1, .inr b1, by unfold SeqAt.shaped; simp [a2]; omega, by simpa [PyData.canLay0] using b2, hd.1, q⟩
    · cases h
  · cases h
theorem op_notInQ {X : Cx} (hu : X.A.units + 64 < cLine) : OpR X (compareOp .NotIn) (rInQ X.K true) := by
  rintro pins s σ H x y v u Q I rx ry ⟨d, ds, hd, he, sd, se, hz, q⟩
  obtain ⟨as, r1⟩ := Dp.reads I d x v hd rx
  have hm : X.A.units + 1 + min (PyData.depthAll ds) d.depth < cLine := by omega
  rcases he with he | he
  · obtain ⟨bs, r2⟩ := Dp.reads I _ y u he ry
    exact SeqAt.notIn_list_reads r2 r1 se (SeqAt.canLay_of_shaped sd) hm ⟨.bl _, H, I, rfl, q⟩
  · obtain ⟨bs, r2⟩ := Dp.reads I _ y u he ry
    exact SeqAt.notIn_tuple_reads r2 r1 se (SeqAt.canLay_of_shaped sd) hm ⟨.bl _, H, I, rfl, q⟩
theorem fits_notIn {K : PySem.W.Frag} {c : Cl} : Fits2 K c (fun x y H Q => (∃ (c : Nat) (z : Str), x = .str ⟨#[c]⟩ ∧ y = .str z ∧ Q (.bl (!decide (c ∈ z.cps.toList))) H) ∨ rIn K true x y H Q ∨ rInQ K true x y H Q) notInD := by
  intro W σ φ H S x y dx dy Q r hx hy p
  unfold notInD at p
  split at p
  · rename_i b hb
    unfold inB at hb
    split at hb
    · split at hb
      · rename_i u z hu
        cases hb
        rw [hx.str_, hy.str_]
        refine .inl ⟨_, _, congrArg _ (one_sign hu), rfl, PostW.here r p _ rep_bl⟩
      · cases hb
    · split at hb
      · rename_i hf
        cases hb
        obtain ⟨a, vs, rfl, s, g⟩ := hy.tup_
        refine .inr (.inl ⟨a, vs, rfl, .inr s, flat_of hx hf.1, flats_of g hf.2, ?_⟩)
        rw [inL_of hx hf.1 g hf.2]
        exact PostW.here r p _ rep_bl
      · exact .inr (.inr (deep_ok r hx hy hb (PostW.here r p _ rep_bl)))
    · split at hb
      · split at hb
        · rename_i hl hf
          cases hb
          obtain ⟨a, vs, rfl, s, g⟩ := lstOf_rd r hy hl
          refine .inr (.inl ⟨a, vs, rfl, .inl (.inl s), flat_of hx hf.1, flats_of g hf.2, ?_⟩)
          rw [inL_of hx hf.1 g hf.2]
          exact PostW.here r p _ rep_bl
        · exact .inr (.inr (deep_ok r hx hy hb (PostW.here r p _ rep_bl)))
      · cases hb
  · exact False.elim p
theorem op_notInA {X : Cx} (hu : X.A.units + 64 < cLine) : OpR X (compareOp .NotIn) (fun x y H Q => (∃ (c : Nat) (z : Str), x = .str ⟨#[c]⟩ ∧ y = .str z ∧ Q (.bl (!decide (c ∈ z.cps.toList))) H) ∨ rIn X.K true x y H Q ∨ rInQ X.K true x y H Q) := op_notIn_sign.or (op_notIn_seq.or (op_notInQ hu))

def ixD : F2
  | .tup l, .int i, S => match atI l i with
    | some d => .ok d S
    | none => .no
  | .str z, .int i, S => if z.length ≤ sizeLine then (match atI z.cps.toList i with
    | some k => .ok (.str ⟨#[k]⟩) S
    | none => .no) else .no
  | .ref n, .int i, S => match S[n]? with
    | some (.lst _ l) => (match atI l i with
      | some d => .ok d S
      | none => .no)
    | _ => .no
  | .scr ns, .int i, S => match atI ns i with
    | some d => .ok (.int d) S
    | none => .no
  | .pl l, .int i, S => match atI l i with
    | some d => .ok d S
    | none => .no
  | _, _, _ => .no
theorem atI_map {α β : Type} (f : α → β) (l : List α) (i : Int) : atI (l.map f) i = (atI l i).map f := by
  unfold atI
  rw [List.length_map]
  cases ixN l.length i with
  | none => rfl
  | some j => simp
theorem RepL.at {K : PySem.W.Frag} {φ : List Addr} {H : Hp} {l : List D} {vs : List V} {i : Int} {d : D} (h : RepL K φ H l vs) (e : atI l i = some d) : ∃ v, atI vs i = some v ∧ Rep K φ H d v := by
  unfold atI at e ⊢
  rw [← h.length]
  cases q : ixN l.length i with
  | none => rw [q] at e; cases e
  | some j =>
    rw [q] at e
    exact h.get e
theorem fits_ix {K : PySem.W.Frag} {c : Cl} : Fits2 K c (rIx K) ixD := by
  intro W σ φ H S x y dx dy Q r hx hy p
  unfold ixD at p
  split at p
  · split at p
    · rename_i e
      obtain ⟨a, vs, rfl, s, g⟩ := hx.tup_
      obtain ⟨v, e', g'⟩ := g.at e
      exact .inr (.inl ⟨a, vs, _, v, rfl, hy.int_, s, e', PostW.here r p _ g'⟩)
    · exact False.elim p
  · split at p
    · split at p
      · rename_i hz _ k e
        exact .inr (.inr ⟨_, _, k, hx.str_, hy.int_, hz, e, PostW.here r p _ rep_str⟩)
      · exact False.elim p
    · exact False.elim p
  · split at p
    · split at p
      · rename_i hl _ d e
        obtain ⟨a, i1, rfl⟩ := hx.ref_
        obtain ⟨vs, g, s, _⟩ := r.lst i1 hl
        obtain ⟨v, e', g'⟩ := g.at e
        exact .inl ⟨a, vs, _, v, rfl, hy.int_, s, e', PostW.here r p _ g'⟩
      · exact False.elim p
    · exact False.elim p
  · split at p
    · rename_i d e
      obtain ⟨a, rfl, s⟩ := hx.scr_
      exact .inl ⟨a, _, _, .int d, rfl, hy.int_, s.sq, by rw [atI_map, e]; rfl, PostW.here r p _ rep_int⟩
    · exact False.elim p
  · split at p
    · rename_i e
      obtain ⟨a, vs, rfl, s, g⟩ := hx.pl_
      obtain ⟨v, e', g'⟩ := g.at e
      exact .inl ⟨a, vs, _, v, rfl, hy.int_, s.sq, e', PostW.here r p _ g'⟩
    · exact False.elim p
  · exact False.elim p
def cutD (l : List D) (lo hi : Option Int) : List D := (l.drop (HT.sIx l.length 0 lo)).take (HT.sIx l.length l.length hi - HT.sIx l.length 0 lo)
theorem RepL.cut {K : PySem.W.Frag} {φ : List Addr} {H : Hp} {l : List D} {vs : List V} (h : RepL K φ H l vs) (lo hi : Option Int) : RepL K φ H (cutD l lo hi) (cutV vs lo hi) := by
  unfold cutD cutV
  rw [h.length]
  exact (h.drop _).take _
/-- a slice that is never written -/
def slD (x : D) (lo hi : Option Int) (S : Sto) : R D := match x with
  | .tup l => .ok (.tup (cutD l lo hi)) S
  | .str z => if z.length ≤ sizeLine then .ok (.str (cutS z lo hi)) S else .no
  | x => match lstOf S x with
    | some l => .ok (.pl (cutD l lo hi)) S
    | _ => .no
/-- t[lo:hi], where a new tuple is known to have no dict -/
def rSlF (K : PySem.W.Frag) : V → Option Int → Option Int → Hp → VK → Prop := fun x lo hi H Q => ∃ a xs, x = .ref a ∧ SqT K H a xs ∧
  (HT.sIx xs.length 0 lo = 0 ∧ HT.sIx xs.length xs.length hi = xs.length → Q (.ref a) H) ∧ (¬ (HT.sIx xs.length 0 lo = 0 ∧ HT.sIx xs.length xs.length hi = xs.length) → ∀ p ob, H p = none → ob.dict = none → Q (.ref p) (upd H p (.frz ob (.tup (cutV xs lo hi)))))
theorem sl_tupF {X : Cx} : SlR X (rSlF X.K) := by
  rintro pins s σ H x v vl vu lo hi sl Q I rx hs pl pu ⟨a, xs, rfl, hx, q1, q2⟩
  cases rx
  obtain ⟨its, r, ht, hz⟩ := I.tuple hx
  have hl := r.length
  have hn : its.toArray.size = xs.length := by rw [List.size_toArray]; omega
  by_cases hw : HT.sIx xs.length 0 lo = 0 ∧ HT.sIx xs.length xs.length hi = xs.length
  · exact ⟨"tuple", _, PyProof.Rows.slot_tuple_getitem.lookup, ht.typeIs, getItem_tuple_whole ht hs pl pu (by rw [hn]; exact hw) ⟨.ref a, H, I, rfl, q1 hw⟩⟩
  · refine ⟨"tuple", _, PyProof.Rows.slot_tuple_getitem.lookup, ht.typeIs, HT.getItem_tuple_cut ht hs pl pu (by rw [hn]; exact hw) ?_ (by rw [hn]; exact hz)⟩
    rw [hn]
    refine ⟨.ref s.heap.objs.size, _, I.laid (t' := s.toks) (o := .frz { cls := .type "tuple", data := .seq ((its.drop (HT.sIx xs.length 0 lo)).take (HT.sIx xs.length xs.length hi - HT.sIx xs.length 0 lo)).toArray } (.tup (cutV xs lo hi))) (fun b ob => Heap.get?_push_of_some _) (Nat.le_refl _) ⟨?_, ?_⟩, rfl, q2 hw _ _ (I.hok.fresh (Nat.le_refl _)) rfl⟩
    · exact Heap.get?_push_size _ rfl
    · exact ⟨Nat.le_trans (cutV_length xs lo hi) hz, _, (r.drop (HT.sIx xs.length 0 lo)).take _, IsTup.new _ _⟩
def rSlAll (K : PySem.W.Frag) : V → Option Int → Option Int → Hp → VK → Prop := fun x lo hi H Q => rSlF K x lo hi H Q ∨ rSlS x lo hi H Q ∨ rSlL K x lo hi H Q
theorem sl_all {X : Cx} : SlR X (rSlAll X.K) := sl_tupF.or (sl_str.or sl_list)
theorem cut_whole {l : List D} {lo hi : Option Int} (h1 : HT.sIx l.length 0 lo = 0) (h2 : HT.sIx l.length l.length hi = l.length) : cutD l lo hi = l := by
  unfold cutD
  rw [h1, h2]
  simp
theorem fits_sl_tup {K : PySem.W.Frag} {c : Cl} {W : WX} {σ : L2.St} {φ : List Addr} {H : Hp} {S : Sto} {x : V} {l : List D} {lo hi : Option Int} {Q : VK} (r : Rel K c φ S H) (hx : Rep K φ H (.tup l) x) (p : PostW K c W σ φ H (gE K Q) (.ok (.tup (cutD l lo hi)) S)) : rSlAll K x lo hi H Q := by
  obtain ⟨a, vs, rfl, s, g⟩ := hx.tup_
  refine .inl ⟨a, vs, rfl, s, fun ⟨h1, h2⟩ => ?_, fun _ q ob hq hob => ?_⟩
  · rw [← g.length] at h1 h2
    rw [cut_whole h1 h2] at p
    exact PostW.here r p _ hx
  · exact post_tup r (g.cut lo hi) hq ob hob p
theorem fits_sl {K : PySem.W.Frag} {c : Cl} {W : WX} {σ : L2.St} {φ : List Addr} {H : Hp} {S : Sto} {x : V} {d : D} {lo hi : Option Int} {Q : VK} (r : Rel K c φ S H) (hx : Rep K φ H d x) (p : PostW K c W σ φ H (gE K Q) (slD d lo hi S)) : rSlAll K x lo hi H (fun v H' => FrzTo H' (Q v)) := by
  unfold slD at p
  split at p
  · exact fits_sl_tup r hx p.frz
  · split at p
    · rename_i hz
      exact .inr (.inl ⟨_, hx.str_, hz, PostW.here r p.frz _ rep_str⟩)
    · exact False.elim p
  · split at p
    · rename_i hl
      obtain ⟨a, vs, rfl, s, g⟩ := lstOf_rd r hx hl
      exact .inr (.inr ⟨a, vs, rfl, .inl s, fun q hq => post_pl r (g.cut lo hi) hq p⟩)
    · exact False.elim p
end MM

namespace MM
open PySem PySem.Spec PyProof.Rows L2

section
variable {X : Cx} {c : Cl} {W : WX} {a b e : Expr} {es : List Expr} {ma mb me : ME} {mt mu : MT} {ml : ML} {pos : Pos}

theorem de_neg (ha : DE X c W a ma) : DE X c W (.UnaryOp .USub a pos) (eUn negD ma) := by
  obtain ⟨ta, pa, ha⟩ := ha
  refine ⟨_, pe_un un_neg pa, fun φ σ H ρ S Q r f p => ?_⟩
  refine ha φ σ H ρ S _ r f (PostW.elim p fun d S1 φ1 H1 e1 r1 p1 => fun x hx => ?_)
  unfold negD at p1
  split at p1
  · exact ⟨_, hx.int_, PostW.here r1 p1 _ rep_int⟩
  · exact False.elim p1

theorem de_ix (ha : DE X c W a ma) (hb : DE X c W b mb) (hs : PlainIx b := by intro _ _; rfl) : DE X c W (.Subscript a b pos) (eBin ixD ma mb) := by
  obtain ⟨ta, pa, ha⟩ := ha
  obtain ⟨tb, pb, hb⟩ := hb
  refine ⟨_, pe_ix ix_seq pa pb hs, fun φ σ H ρ S Q r f p => ?_⟩
  refine ha φ σ H ρ S _ r f (PostW.elim p fun d S1 φ1 H1 e1 r1 p1 => fun x hx => ?_)
  refine hb φ1 σ H1 ρ S1 _ r1 (f.stay (e1.stays r)) (PostW.elim p1 fun d2 S2 φ2 H2 e2 r2 p2 => fun y hy => ?_)
  exact fits_ix W σ φ2 H2 S2 x y _ _ Q r2 (hx.stay (e2.stays r1)) hy p2
/-- the ends of a slice -/
abbrev MO := Fr → Sto → R (Option Int)
def DO (X : Cx) (c : Cl) (W : WX) (e : Option Expr) (m : MO) : Prop :=
  ∃ t, PO X e t ∧ ∀ φ σ H ρ S Q, Rel X.K c φ S H → FrRel X.K φ H σ ρ → PostW X.K c W σ φ H (fun o _ _ H' => Q o H') (m ρ S) → t σ H Q
def oN : MO := fun _ S => .ok none S
def oS (m : ME) : MO := fun ρ S => (m ρ S).bind fun d S1 => match d with
  | .int i => .ok (some i) S1
  | _ => .no
theorem do_none : DO X c W none oN := ⟨_, po_none, fun φ σ H ρ S Q r f p => PostW.here r p⟩
theorem do_some (ha : DE X c W a ma) : DO X c W (some a) (oS ma) := by
  obtain ⟨ta, pa, ha⟩ := ha
  refine ⟨_, po_some pa, fun φ σ H ρ S Q r f p => ?_⟩
  refine ha φ σ H ρ S _ r f (PostW.elim p fun d S1 φ1 H1 e1 r1 p1 => fun x hx => ?_)
  split at p1
  · exact ⟨_, hx.int_, PostW.here r1 p1⟩
  · exact False.elim p1
def eSl (a : ME) (lo hi : MO) : ME := fun ρ S => (a ρ S).bind fun x S1 => (lo ρ S1).bind fun l S2 => (hi ρ S2).bind fun h S3 => slD x l h S3
theorem de_sl {lo hi : Option Expr} {ml mh : MO} {p2 : Pos} (ha : DE X c W a ma) (hl : DO X c W lo ml) (hh : DO X c W hi mh) : DE X c W (.Subscript a (.Slice lo hi none p2) pos) (eSl ma ml mh) := by
  obtain ⟨ta, pa, ha⟩ := ha
  obtain ⟨tl, pl, hl⟩ := hl
  obtain ⟨th, ph, hh⟩ := hh
  refine ⟨_, pe_frz (pe_slice sl_all pa pl ph), fun φ σ H ρ S Q r f p => ?_⟩
  refine ha φ σ H ρ S _ r f (PostW.elim p fun d S1 φ1 H1 e1 r1 p1 => fun x hx => ?_)
  refine hl φ1 σ H1 ρ S1 _ r1 (f.stay (e1.stays r)) (PostW.elim p1 fun l S2 φ2 H2 e2 r2 p2 => ?_)
  refine hh φ2 σ H2 ρ S2 _ r2 ((f.stay (e1.stays r)).stay (e2.stays r1)) (PostW.elim p2 fun h S3 φ3 H3 e3 r3 p3 => ?_)
  exact fits_sl r3 ((hx.stay (e2.stays r1)).stay (e3.stays r2)) p3

def aNil : ML := fun _ S => .ok [] S
def aCons (a : ME) (r : ML) : ML := fun ρ S => (a ρ S).bind fun x S1 => (r ρ S1).bind fun xs S2 => .ok (x :: xs) S2
theorem da_nil : DA X c W [] aNil := ⟨_, pa_nil, fun φ σ H ρ S Q r f p => PostW.here r p _ RepL.nil⟩
theorem da_cons (ha : DE X c W e me) (hr : DA X c W es ml) (hs : starEach (e :: es) X.env = (false, eval e X.env) :: starEach es X.env := by rfl) : DA X c W (e :: es) (aCons me ml) := by
  obtain ⟨ta, pa, ha⟩ := ha
  obtain ⟨tr, pr, hr⟩ := hr
  refine ⟨_, pa_cons pa pr hs, fun φ σ H ρ S Q r f p => ?_⟩
  refine ha φ σ H ρ S _ r f (PostW.elim p fun d S1 φ1 H1 e1 r1 p1 => fun x hx => ?_)
  refine hr φ1 σ H1 ρ S1 _ r1 (f.stay (e1.stays r)) (PostW.elim p1 fun ds S2 φ2 H2 e2 r2 p2 => fun ys hy => ?_)
  exact PostW.here r2 p2 _ (RepL.cons (hx.stay (e2.stays r1)) hy)
/-- a written tuple, known to have no dict -/
def tTupF (t : TA) : TE := fun σ H Q => t σ H fun xs H1 => xs.length ≤ sizeLine ∧ ∀ p ob, H1 p = none → ob.dict = none → Q (.ref p) (upd H1 p (.frz ob (.tup xs)))
theorem pe_tupF {X : Cx} {es : List Expr} {t : TA} {pos : Pos} {x1} (h : PA X es t) : PE X (.Tuple es x1 pos) (tTupF t) := ⟨fun pins s σ H Q I hq =>
  wpAny_Tuple_spliced (thn (h.run pos pins s σ H _ I hq) fun us s1 ⟨xs, H1, I1, r, z, q⟩ => ⟨by have := r.length; omega, by
    refine ⟨.ref s1.heap.objs.size, _, I1.laid (t' := s1.toks) (o := .frz { cls := .type "tuple", data := .seq us.toArray } (.tup xs)) (fun b u => Heap.get?_push_of_some _) (Nat.le_refl _) ⟨?_, ?_⟩, rfl, q _ _ (I1.hok.fresh (Nat.le_refl _)) rfl⟩
    · exact Heap.get?_push_size _ rfl
    · exact ⟨z, us, r, ⟨_, Heap.get?_push_size _ rfl, rfl, _, rfl⟩⟩⟩)⟩
def eTup (r : ML) : ME := fun ρ S => (r ρ S).bind fun xs S1 => if xs.length ≤ sizeLine then .ok (.tup xs) S1 else .no
theorem de_tup {x1 : Nat} (ha : DA X c W es ml) : DE X c W (.Tuple es x1 pos) (eTup ml) := by
  obtain ⟨ta, pa, ha⟩ := ha
  refine ⟨_, pe_tupF pa, fun φ σ H ρ S Q r f p => ?_⟩
  refine ha φ σ H ρ S _ r f (PostW.elim p fun ds S1 φ1 H1 e1 r1 p1 => fun vs hv => ?_)
  split at p1
  · rename_i hz
    exact ⟨by rw [← hv.length]; exact hz, fun q ob hq hob => post_tup r1 hv hq ob hob p1⟩
  · exact False.elim p1

def lNew (r : ML) : ML := fun ρ S => (r ρ S).bind fun xs S1 => if xs.length ≤ sizeLine then .ok xs S1 else .no
theorem dn_lst (ha : DA X c W es ml) : DN X c W (.List es pos) (lNew ml) := by
  obtain ⟨ta, pa, ha⟩ := ha
  refine ⟨_, pe_lst pa, fun φ σ H ρ S Q r f p => ?_⟩
  refine ha φ σ H ρ S _ r f (PostW.elim p fun ds S1 φ1 H1 e1 r1 p1 => fun vs hv => ?_)
  split at p1
  · rename_i hz
    refine ⟨by rw [← hv.length]; exact hz, fun q hq => ?_⟩
    obtain ⟨e2, r2⟩ := r1.fresh (u := .lst vs) hq
    exact p1 φ1 _ e2 r2 q vs (e1.back r1 hq) upd_same (r1.free hq) (hv.stay (stays_free hq))
  · exact False.elim p1
end
theorem rel_new {K : PySem.W.Frag} {c : Cl} {φ : List Addr} {H : Hp} {S : Sto} {l : List D} {vs : List V} {p : Addr} (r : Rel K c φ S H) (g : RepL K φ H l vs) (hp : H p = some (.lst vs)) (hn : p ∉ φ) :
    Rel K c (φ ++ [p]) (S ++ [.lst false l]) H := by
  have nd : (φ ++ [p]).Nodup := by
    rw [List.nodup_append]
    refine ⟨r.nd, by simp, fun x hx y hy e => ?_⟩
    simp at hy
    subst hy e
    exact hn hx
  have st : Stays K φ H (φ ++ [p]) H := ⟨fun n x q => by rw [List.getElem?_append_left (List.getElem?_eq_some_iff.mp q).1]; exact q, fun _ _ q => q, fun a xs q => by
    obtain ⟨n, o, q⟩ := q
    exact ⟨fun m => (List.mem_append.mp m).elim n (fun m => by
        have z : a = p := by simpa using m
        rw [z, hp] at q
        cases q), o, q⟩, fun _ q => q⟩
  refine ⟨by simp [r.len], nd, fun n a o' h1 h2 => ?_⟩
  by_cases hn' : n < φ.length
  · rw [List.getElem?_append_left hn'] at h1
    rw [List.getElem?_append_left (by rw [← r.len]; exact hn')] at h2
    exact (r.obj n a o' h1 h2).stay st rfl
  · have e : n = φ.length := by
      have := (List.getElem?_eq_some_iff.mp h1).1
      simp at this
      omega
    subst e
    have e1 : p = a := by simpa using h1
    have e2 : O.lst false l = o' := by
      rw [r.len] at h2
      simpa using h2
    subst e1 e2
    exact ⟨vs, g.stay st, by simpa using hp⟩
section
variable {X : Cx} {c : Cl} {W : WX} {a b e : Expr} {es : List Expr} {ma mb me : ME} {mt mu : MT} {ml : ML} {pos : Pos}
/-- the new list goes to the store -/
def eNew (r : ML) : ME := fun ρ S => (r ρ S).bind fun xs S1 => .ok (.ref S1.length) (S1 ++ [.lst false xs])
theorem de_new (ha : DN X c W e ml) : DE X c W e (eNew ml) := by
  obtain ⟨ta, pa, ha⟩ := ha
  refine ⟨_, pa, fun φ σ H ρ S Q r f p => ?_⟩
  refine ha φ σ H ρ S _ r f ?_
  unfold eNew at p
  cases hm : ml ρ S with
  | ok ds S1 =>
    rw [hm] at p
    intro φ1 H1 e1 r1 q vs h0 hq hn g
    have r2 := rel_new r1 g hq hn
    refine p (φ1 ++ [q]) H1 ⟨?_, r2.nd, e1.keep, e1.frz⟩ r2 _ (rep_ref (by rw [← r1.len]; simp))
    obtain ⟨ψ, e2, h2⟩ := e1.more
    exact ⟨ψ ++ [q], by rw [e2, List.append_assoc], fun x hx => by
      rcases List.mem_append.mp hx with z | z
      · exact h2 x z
      · simp at z
        rw [z]; exact h0⟩
  | ex k S1 => rw [hm] at p; exact p
  | no => rw [hm] at p; exact p
/-- the new list is never written -/
def ePl (r : ML) : ME := fun ρ S => (r ρ S).bind fun xs S1 => .ok (.pl xs) S1
theorem lock_new {K : PySem.W.Frag} {φ : List Addr} {H0 H : Hp} {S : Sto} {xs : List D} {a : Addr} {vs : List V} {R : Hp → Prop} (r : Rel K c φ S H) (hq : H a = some (.lst vs)) (hn : a ∉ φ) (g : RepL K φ H xs vs)
    (h : ∀ ob, Rel K c φ S (upd H a (.frz ob (.lst vs))) → Stays K φ H φ (upd H a (.frz ob (.lst vs))) → Rep K φ (upd H a (.frz ob (.lst vs))) (.pl xs) (.ref a) → R (upd H a (.frz ob (.lst vs)))) : FrzTo H R := by
  refine ⟨[a], fun b hb => by rw [List.mem_singleton.mp hb]; exact ⟨vs, hq⟩, fun H' f => ?_⟩
  obtain ⟨ob, vs', h1, rfl⟩ := frzBy_one f
  rw [hq] at h1
  cases h1
  obtain ⟨r', st⟩ := r.lock (ob := ob) hq hn
  exact h ob r' st (rep_pl ⟨hn, ob, upd_same⟩ (g.stay st))
theorem ext_lock {φ φ1 : List Addr} {H H1 : Hp} {a : Addr} {u : HO} (e : Ext φ H φ1 H1) (h0 : H a = none) : Ext φ H φ1 (upd H1 a u) :=
  ⟨e.more, e.nd, fun b o hb nb => by rw [upd_ne (ne_of_none hb h0)]; exact e.keep b o hb nb, fun b ob u hb => by rw [upd_ne (ne_of_none hb h0)]; exact e.frz b ob u hb⟩
theorem de_pl (ha : DN X c W e ml) : DE X c W e (ePl ml) := by
  obtain ⟨ta, pa, ha⟩ := ha
  refine ⟨_, pe_frz pa, fun φ σ H ρ S Q r f p => ?_⟩
  refine ha φ σ H ρ S _ r f ?_
  unfold ePl at p
  cases hm : ml ρ S with
  | ok ds S1 =>
    rw [hm] at p
    intro φ1 H1 e1 r1 q vs h0 hq hn g
    exact lock_new (H0 := H) r1 hq hn g fun ob r2 st rp => p φ1 _ (ext_lock e1 h0) r2 _ rp
  | ex k S1 => rw [hm] at p; exact p
  | no => rw [hm] at p; exact p
/-- a list that is read -/
theorem dl_new (ha : DN X c W e ml) : DL X c W e ml := by
  obtain ⟨ta, pa, ha⟩ := ha
  refine ⟨_, pa, fun φ σ H ρ S Q r f p => ?_⟩
  exact ha φ σ H ρ S _ r f (p.imp fun ds S' φ' H' g a vs h0 h1 h2 h3 => g a vs (SqL.of h1) h3)
def lOf (a : ME) : ML := fun ρ S => (a ρ S).bind fun d S1 => match lstOf S1 d with
  | some l => .ok l S1
  | _ => .no
def tV (a : ME) : MT := fun ρ S => (a ρ S).bind fun d S1 => match d with
  | .bl b => .ok b S1
  | _ => .no
theorem dt_of {m : ME} {t : TE} (pt : PT X e (tTest t)) (h : ∀ φ σ H ρ S Q, Rel X.K c φ S H → FrRel X.K φ H σ ρ → PostW X.K c W σ φ H (gE X.K Q) (m ρ S) → t σ H Q) : DT X c W e (tV m) := by
  refine ⟨_, pt, fun φ σ H ρ S Q r f p => ?_⟩
  refine h φ σ H ρ S _ r f (PostW.elim p fun d S1 φ1 H1 e1 r1 p1 => fun x hx => ?_)
  split at p1
  · exact ⟨_, hx.bl_, PostW.here r1 p1⟩
  · exact False.elim p1
theorem dt_cmp {op : CmpOp} {r : R2} {f : F2} (ho : OpR X (compareOp op) r) (hf : Fits2 X.K c r f) (ha : DE X c W a ma) (hb : DE X c W b mb) (hm : behindInMarks op b = false) : DT X c W (.Compare a [op] [b] pos) (tV (eBin f ma mb)) := by
  obtain ⟨ta, pa, ha⟩ := ha
  obtain ⟨tb, pb, hb⟩ := hb
  refine dt_of (pt_cmpR ho pa pb hm) fun φ σ H ρ S Q r f p => ?_
  refine ha φ σ H ρ S _ r f (PostW.elim p fun d S1 φ1 H1 e1 r1 p1 => fun x hx => ?_)
  refine hb φ1 σ H1 ρ S1 _ r1 (f.stay (e1.stays r)) (PostW.elim p1 fun d2 S2 φ2 H2 e2 r2 p2 => fun y hy => ?_)
  exact hf W σ φ2 H2 S2 x y _ _ Q r2 (hx.stay (e2.stays r1)) hy p2
/-- a bool's expression as a test -/
theorem dt_val (ha : DE X c W e me) (he : ∀ whole, isTrue e X.env whole = (do let v ← whole; standAt e.pos; holding [v] (truthy v)) := by intro _; rfl) : DT X c W e (tV me) := by
  obtain ⟨ta, pa, ha⟩ := ha
  exact dt_of (pt_val pa he) ha
/-- a op b op' c -/
def eChain (f g : F2) (a b d : ME) : ME := fun ρ S => (a ρ S).bind fun x S1 => (b ρ S1).bind fun y S2 => (f x y S2).bind fun z S3 => match z with
  | .bl true => (d ρ S3).bind fun w S4 => g y w S4
  | .bl false => .ok (.bl false) S3
  | _ => .no
/-- what a rule of the order leaves -/
theorem chain_reads {op op' : CmpOp} {r r' : R2} {f f' : F2} {d : Expr} {md : ME} {ta tb td : TE} (hf : Fits2 X.K c r f) (hf' : Fits2 X.K c r' f')
    (ha : ∀ φ σ H ρ S Q, Rel X.K c φ S H → FrRel X.K φ H σ ρ → PostW X.K c W σ φ H (gE X.K Q) (ma ρ S) → ta σ H Q)
    (hb : ∀ φ σ H ρ S Q, Rel X.K c φ S H → FrRel X.K φ H σ ρ → PostW X.K c W σ φ H (gE X.K Q) (mb ρ S) → tb σ H Q)
    (hd : ∀ φ σ H ρ S Q, Rel X.K c φ S H → FrRel X.K φ H σ ρ → PostW X.K c W σ φ H (gE X.K Q) (md ρ S) → td σ H Q) :
    ∀ φ σ H ρ S Q, Rel X.K c φ S H → FrRel X.K φ H σ ρ → PostW X.K c W σ φ H (gE X.K Q) (eChain f f' ma mb md ρ S) → tChain r r' ta tb td σ H Q := by
  intro φ σ H ρ S Q r f p
  refine ha φ σ H ρ S _ r f (PostW.elim p fun dx S1 φ1 H1 e1 r1 p1 => fun x hx => ?_)
  have f1 := f.stay (e1.stays r)
  refine hb φ1 σ H1 ρ S1 _ r1 f1 (PostW.elim p1 fun dy S2 φ2 H2 e2 r2 p2 => fun y hy => ?_)
  have f2 := f1.stay (e2.stays r1)
  refine hf W σ φ2 H2 S2 x y _ _ _ r2 (hx.stay (e2.stays r1)) hy (PostW.elim p2 fun dz S3 φ3 H3 e3 r3 p3 => fun z hz => ?_)
  have f3 := f2.stay (e3.stays r2)
  split at p3
  · refine ⟨true, hz.bl_, ?_⟩
    rw [if_pos rfl]
    refine hd φ3 σ H3 ρ S3 _ r3 f3 (PostW.elim p3 fun dw S4 φ4 H4 e4 r4 p4 => fun w hw => ?_)
    exact hf' W σ φ4 H4 S4 y w _ _ Q r4 ((hy.stay (e3.stays r2)).stay (e4.stays r3)) hw p4
  · refine ⟨false, hz.bl_, ?_⟩
    rw [if_neg Bool.false_ne_true]
    exact PostW.here r3 p3 _ rep_bl
  · exact False.elim p3
theorem dt_chain {op op' : CmpOp} {r r' : R2} {f f' : F2} {d : Expr} {md : ME} (ho : OpR X (compareOp op) r) (ho' : OpR X (compareOp op') r') (hf : Fits2 X.K c r f) (hf' : Fits2 X.K c r' f') (ha : DE X c W a ma) (hb : DE X c W b mb) (hd : DE X c W d md)
    (hm : lastMarks [op, op'] [b, d] = false := by with_unfolding_all rfl) : DT X c W (.Compare a [op, op'] [b, d] pos) (tV (eChain f f' ma mb md)) := by
  obtain ⟨ta, pa, ha⟩ := ha
  obtain ⟨tb, pb, hb⟩ := hb
  obtain ⟨td, pd, hd⟩ := hd
  exact dt_of (pt_chain ho ho' pa pb pd hm) (chain_reads (op := op) (op' := op') (d := d) hf hf' ha hb hd)
def tNt (a : MT) : MT := fun ρ S => (a ρ S).bind fun b S1 => .ok (!b) S1
theorem dt_not (ha : DT X c W a mt) : DT X c W (.UnaryOp .Not a pos) (tNt mt) := by
  obtain ⟨ta, pa, ha⟩ := ha
  refine ⟨_, pt_not pa, fun φ σ H ρ S Q r f p => ?_⟩
  refine ha φ σ H ρ S _ r f (PostW.elim p fun d S1 φ1 H1 e1 r1 p1 => ?_)
  have q := PostW.here r1 p1
  exact q
def tAn (a b : MT) : MT := fun ρ S => (a ρ S).bind fun x S1 => if x = true then b ρ S1 else .ok false S1
def tOo (a b : MT) : MT := fun ρ S => (a ρ S).bind fun x S1 => if x = true then .ok true S1 else b ρ S1
theorem dw_and1 (ha : DT X c W a mt) : DW X c W (.BoolOp .And [a] pos) mt := by
  obtain ⟨ta, pa, ha⟩ := ha
  exact ⟨_, pw_and1 pa, ha⟩
theorem dw_or1 (ha : DT X c W a mt) : DW X c W (.BoolOp .Or [a] pos) mt := by
  obtain ⟨ta, pa, ha⟩ := ha
  exact ⟨_, pw_or1 pa, ha⟩
theorem dw_and {rest : List Expr} (ha : DT X c W a mt) (hb : DW X c W (.BoolOp .And (b :: rest) pos) mu) : DW X c W (.BoolOp .And (a :: b :: rest) pos) (tAn mt mu) := by
  obtain ⟨ta, pa, ha⟩ := ha
  obtain ⟨tb, pb, hb⟩ := hb
  refine ⟨_, pw_and pa pb, fun φ σ H ρ S Q r f p => ?_⟩
  refine ha φ σ H ρ S _ r f (PostW.elim p fun d S1 φ1 H1 e1 r1 p1 => ?_)
  dsimp only [gT]
  split
  · rename_i hd
    rw [if_pos hd] at p1
    exact hb φ1 σ H1 ρ S1 _ r1 (f.stay (e1.stays r)) p1
  · rename_i hd
    rw [if_neg hd] at p1
    exact PostW.here r1 p1
theorem dw_or {rest : List Expr} (ha : DT X c W a mt) (hb : DW X c W (.BoolOp .Or (b :: rest) pos) mu) : DW X c W (.BoolOp .Or (a :: b :: rest) pos) (tOo mt mu) := by
  obtain ⟨ta, pa, ha⟩ := ha
  obtain ⟨tb, pb, hb⟩ := hb
  refine ⟨_, pw_or pa pb, fun φ σ H ρ S Q r f p => ?_⟩
  refine ha φ σ H ρ S _ r f (PostW.elim p fun d S1 φ1 H1 e1 r1 p1 => ?_)
  dsimp only [gT]
  split
  · rename_i hd
    rw [if_pos hd] at p1
    exact PostW.here r1 p1
  · rename_i hd
    rw [if_neg hd] at p1
    exact hb φ1 σ H1 ρ S1 _ r1 (f.stay (e1.stays r)) p1
theorem dt_w (h : DW X c W e mt) : DT X c W e mt := by
  obtain ⟨t, p, h⟩ := h
  exact ⟨t, p.pt, h⟩
/-- and, or, not as values (bools) -/
def eAn (a b : ME) : ME := fun ρ S => (a ρ S).bind fun x S1 => match x with
  | .bl true => b ρ S1
  | .bl false => .ok (.bl false) S1
  | _ => .no
def eOo (a b : ME) : ME := fun ρ S => (a ρ S).bind fun x S1 => match x with
  | .bl true => .ok (.bl true) S1
  | .bl false => b ρ S1
  | _ => .no
def notD : F1
  | .bl b, S => .ok (.bl (!b)) S
  | _, _ => .no
def eIf (t : MT) (a b : ME) : ME := fun ρ S => (t ρ S).bind fun x S1 => if x = true then a ρ S1 else b ρ S1
theorem de_if {d : Expr} (hc : DT X c W d mt) (ha : DE X c W a ma) (hb : DE X c W b mb) : DE X c W (.IfExp d a b pos) (eIf mt ma mb) := by
  obtain ⟨tc, pc, hc⟩ := hc
  obtain ⟨ta, pa, ha⟩ := ha
  obtain ⟨tb, pb, hb⟩ := hb
  refine ⟨_, pe_ifExp pc pa pb, fun φ σ H ρ S Q r f p => ?_⟩
  refine hc φ σ H ρ S _ r f (PostW.elim p fun d S1 φ1 H1 e1 r1 p1 => ?_)
  dsimp only [gT]
  split
  · rename_i hd
    rw [if_pos hd] at p1
    exact ha φ1 σ H1 ρ S1 _ r1 (f.stay (e1.stays r)) p1
  · rename_i hd
    rw [if_neg hd] at p1
    exact hb φ1 σ H1 ρ S1 _ r1 (f.stay (e1.stays r)) p1
end
end MM

namespace MM
open PySem PySem.Spec PyProof.Rows L2

abbrev FL := List D → Sto → R D
def eCall (f : FL) (a : ML) : ME := fun ρ S => (a ρ S).bind f
def FitsL (K : PySem.W.Frag) (c : Cl) (r : List V → Hp → VK → Prop) (f : FL) : Prop := ∀ W σ φ H S vs ds Q, Rel K c φ S H → RepL K φ H ds vs → PostW K c W σ φ H (gE K Q) (f ds S) → r vs H Q
section
variable {X : Cx} {c : Cl} {W : WX} {e : Expr} {es : List Expr} {ml : ML} {me : ME} {p pos : Pos} {x : Str}
theorem de_callB {id : String} {r : List V → Hp → VK → Prop} {f : FL} (hc : CallR X (.builtin id) r) (hf : FitsL X.K c r f) (hg : Gl X x) (hm : X.mg x = none) (hv : bootBuiltins x = some (.builtin id)) (ha : DA X c W (e :: es) ml)
    (hn : x ≠ "__name__" := by decide) (hdb : (x == ("__debug__" : Str)) = false := by decide) (hs : starEach (e :: es) X.env = (false, eval e X.env) :: starEach es X.env := by rfl) (hpl : (backTo pos (starEach es X.env)).any (·.1) = false := by rfl) :
    DE X c W (.Call (.Name x p) (e :: es) [] pos) (eCall f ml) := by
  obtain ⟨ta, pa, ha⟩ := ha
  refine ⟨_, pe_callB hc hg hm hv pa hn hdb hs hpl, fun φ σ H ρ S Q r f p => ?_⟩
  refine ha φ σ H ρ S _ r f (PostW.elim p fun ds S1 φ1 H1 e1 r1 p1 => fun vs hv => ?_)
  exact hf W σ φ1 H1 S1 vs ds Q r1 hv p1
theorem de_callTy {id : String} {r : List V → Hp → VK → Prop} {f : FL} (hc : CallR X (.type id) r) (hf : FitsL X.K c r f) (hg : Gl X x) (hm : X.mg x = none) (hv : bootBuiltins x = some (.type id)) (ha : DA X c W (e :: es) ml)
    (hn : x ≠ "__name__" := by decide) (hdb : (x == ("__debug__" : Str)) = false := by decide) (hs : starEach (e :: es) X.env = (false, eval e X.env) :: starEach es X.env := by rfl) (hpl : (backTo pos (starEach es X.env)).any (·.1) = false := by rfl) :
    DE X c W (.Call (.Name x p) (e :: es) [] pos) (eCall f ml) := by
  obtain ⟨ta, pa, ha⟩ := ha
  refine ⟨_, pe_callTy hc hg hm hv pa hn hdb hs hpl, fun φ σ H ρ S Q r f p => ?_⟩
  refine ha φ σ H ρ S _ r f (PostW.elim p fun ds S1 φ1 H1 e1 r1 p1 => fun vs hv => ?_)
  exact hf W σ φ1 H1 S1 vs ds Q r1 hv p1
/-- f(list): the list may be new -/
abbrev FS := List D → Sto → R D
def eLs (f : FS) (a : ML) : ME := fun ρ S => (a ρ S).bind f
def FitsS (K : PySem.W.Frag) (c : Cl) (r : List V → Hp → VK → Prop) (f : FS) : Prop := ∀ W σ φ H S a vs ds Q, Rel K c φ S H → SqL K H a vs → RepL K φ H ds vs → PostW K c W σ φ H (gE K Q) (f ds S) → r [.ref a] H Q
theorem de_lsB {id : String} {r : List V → Hp → VK → Prop} {f : FS} (hc : CallR X (.builtin id) r) (hf : FitsS X.K c r f) (hg : Gl X x) (hm : X.mg x = none) (hv : bootBuiltins x = some (.builtin id)) (ha : DL X c W e ml)
    (hn : x ≠ "__name__" := by decide) (hdb : (x == ("__debug__" : Str)) = false := by decide) (hs : starEach [e] X.env = (false, eval e X.env) :: starEach [] X.env := by rfl) (hpl : (backTo pos (starEach [] X.env)).any (·.1) = false := by rfl) :
    DE X c W (.Call (.Name x p) [e] [] pos) (eLs f ml) := by
  obtain ⟨ta, pa, ha⟩ := ha
  refine ⟨_, pe_callB hc hg hm hv (pa_cons pa pa_nil hs) hn hdb hs hpl, fun φ σ H ρ S Q r f p => ?_⟩
  refine ha φ σ H ρ S _ r f (PostW.elim p fun ds S1 φ1 H1 e1 r1 p1 => fun a vs s hv => ?_)
  exact hf W σ φ1 H1 S1 a vs ds Q r1 s hv p1
end

def absD : FL
  | [.int i], S => .ok (.int (if i < 0 then -i else i)) S
  | _, _ => .no
def maxD : FL
  | [.int i, .int j], S => .ok (.int (if j > i then j else i)) S
  | _, _ => .no
def minD : FL
  | [.int i, .int j], S => .ok (.int (if j < i then j else i)) S
  | _, _ => .no
def lenD : FL
  | [.str z], S => if z.length ≤ sizeLine then .ok (.int z.length) S else .no
  | [.tup l], S => .ok (.int l.length) S
  | [.ref n], S => match S[n]? with
    | some (.lst _ l) => .ok (.int l.length) S
    | _ => .no
  | [.scr l], S => .ok (.int l.length) S
  | [.pl l], S => .ok (.int l.length) S
  | _, _ => .no
def strD : FL
  | [.int i], S => if i.natAbs.log2 < 1920 then .ok (.str (toString i)) S else .no
  | [.str z], S => .no
  | _, _ => .no
def toIntD : FL
  | [.int i], S => .ok (.int i) S
  | [.bl k], S => .ok (.int (if k then 1 else 0)) S
  | [.str z], S => match PySem.intText? z with
    | some n => if z.length ≤ 640 then .ok (.int n) S else .no
    | none => .no
  | _, _ => .no
section
variable {K : PySem.W.Frag} {c : Cl}
theorem one_of {φ : List Addr} {H : Hp} {d : D} {vs : List V} (h : RepL K φ H [d] vs) : ∃ v, vs = [v] ∧ Rep K φ H d v := by
  obtain ⟨v, r, rfl, h1, h2⟩ := h.uncons
  rw [h2.isNil]
  exact ⟨v, rfl, h1⟩
theorem two_of {φ : List Addr} {H : Hp} {d e : D} {vs : List V} (h : RepL K φ H [d, e] vs) : ∃ v w, vs = [v, w] ∧ Rep K φ H d v ∧ Rep K φ H e w := by
  obtain ⟨v, r, rfl, h1, h2⟩ := h.uncons
  obtain ⟨w, rfl, h3⟩ := one_of h2
  exact ⟨v, w, rfl, h1, h3⟩
theorem fits_abs : FitsL K c (fun xs H Q => ∃ i, xs = [.int i] ∧ Q (.int (if i < 0 then -i else i)) H) absD := by
  intro W σ φ H S vs ds Q r h p
  unfold absD at p
  split at p
  · obtain ⟨v, rfl, hv⟩ := one_of h
    rw [hv.int_]
    exact ⟨_, rfl, PostW.here r p _ rep_int⟩
  · exact False.elim p
theorem fits_max : FitsL K c (fun xs H Q => ∃ i j, xs = [.int i, .int j] ∧ Q (.int (if j > i then j else i)) H) maxD := by
  intro W σ φ H S vs ds Q r h p
  unfold maxD at p
  split at p
  · obtain ⟨v, w, rfl, hv, hw⟩ := two_of h
    rw [hv.int_, hw.int_]
    exact ⟨_, _, rfl, PostW.here r p _ rep_int⟩
  · exact False.elim p
theorem fits_min : FitsL K c (fun xs H Q => ∃ i j, xs = [.int i, .int j] ∧ Q (.int (if j < i then j else i)) H) minD := by
  intro W σ φ H S vs ds Q r h p
  unfold minD at p
  split at p
  · obtain ⟨v, w, rfl, hv, hw⟩ := two_of h
    rw [hv.int_, hw.int_]
    exact ⟨_, _, rfl, PostW.here r p _ rep_int⟩
  · exact False.elim p
theorem fits_len : FitsL K c (fun xs H Q => ∃ x n, xs = [x] ∧ LenV K x H n ∧ Q (.int n) H) lenD := by
  intro W σ φ H S vs ds Q r h p
  unfold lenD at p
  split at p
  · obtain ⟨v, rfl, hv⟩ := one_of h
    split at p
    · rename_i hz
      rw [hv.str_]
      exact ⟨_, _, rfl, ⟨hz, rfl⟩, PostW.here r p _ rep_int⟩
    · exact False.elim p
  · obtain ⟨v, rfl, hv⟩ := one_of h
    obtain ⟨a, vs, rfl, s, g⟩ := hv.tup_
    refine ⟨_, _, rfl, .inr ⟨vs, s, rfl⟩, ?_⟩
    rw [← g.length]
    exact PostW.here r p _ rep_int
  · obtain ⟨v, rfl, hv⟩ := one_of h
    split at p
    · rename_i hl
      obtain ⟨a, i1, rfl⟩ := hv.ref_
      obtain ⟨vs, g, s, _⟩ := r.lst i1 hl
      refine ⟨_, _, rfl, .inl ⟨vs, s, rfl⟩, ?_⟩
      rw [← g.length]
      exact PostW.here r p _ rep_int
    · exact False.elim p
  · obtain ⟨v, rfl, hv⟩ := one_of h
    obtain ⟨a, rfl, s⟩ := hv.scr_
    refine ⟨_, _, rfl, .inl ⟨_, s.sq, rfl⟩, ?_⟩
    rw [List.length_map]
    exact PostW.here r p _ rep_int
  · obtain ⟨v, rfl, hv⟩ := one_of h
    obtain ⟨a, vs, rfl, s, g⟩ := hv.pl_
    refine ⟨_, _, rfl, .inl ⟨vs, s.sq, rfl⟩, ?_⟩
    rw [← g.length]
    exact PostW.here r p _ rep_int
  · exact False.elim p
theorem fits_str : FitsL K c (fun xs H Q => ∃ i, xs = [.int i] ∧ i.natAbs.log2 < 1920 ∧ Q (.str (toString i)) H) strD := by
  intro W σ φ H S vs ds Q r h p
  unfold strD at p
  split at p
  · obtain ⟨v, rfl, hv⟩ := one_of h
    split at p
    · rename_i hz
      rw [hv.int_]
      exact ⟨_, rfl, hz, PostW.here r p _ rep_str⟩
    · exact False.elim p
  · exact False.elim p
  · exact False.elim p
theorem fits_int : FitsL K c (fun xs H Q => ((∃ i, xs = [.int i] ∧ Q (.int i) H) ∨ ∃ k, xs = [.bl k] ∧ Q (.int (if k then 1 else 0)) H) ∨ ∃ a n, xs = [.str a] ∧ PySem.intText? a = some n ∧ a.length ≤ 640 ∧ Q (.int n) H) toIntD := by
  intro W σ φ H S vs ds Q r h p
  unfold toIntD at p
  split at p
  · obtain ⟨v, rfl, hv⟩ := one_of h
    rw [hv.int_]
    exact .inl (.inl ⟨_, rfl, PostW.here r p _ rep_int⟩)
  · obtain ⟨v, rfl, hv⟩ := one_of h
    rw [hv.bl_]
    exact .inl (.inr ⟨_, rfl, PostW.here r p _ rep_int⟩)
  · obtain ⟨v, rfl, hv⟩ := one_of h
    split at p
    · split at p
      · rename_i hi hz
        rw [hv.str_]
        exact .inr ⟨_, _, rfl, hi, hz, PostW.here r p _ rep_int⟩
      · exact False.elim p
    · exact False.elim p
  · exact False.elim p
theorem cr_intA {X : Cx} : CallR X (.type "int") (fun xs H Q => ((∃ i, xs = [.int i] ∧ Q (.int i) H) ∨ ∃ k, xs = [.bl k] ∧ Q (.int (if k then 1 else 0)) H) ∨ ∃ a n, xs = [.str a] ∧ PySem.intText? a = some n ∧ a.length ≤ 640 ∧ Q (.int n) H) := call_int1.or call_int_str
end

def bools : List D → Option (List Bool)
  | [] => some []
  | .bl b :: r => (bools r).map (b :: ·)
  | _ => none
def intsD : List D → Option (List Int)
  | [] => some []
  | .int b :: r => (intsD r).map (b :: ·)
  | _ => none
def txts : List D → Option (List Str)
  | [] => some []
  | .str b :: r => (txts r).map (b :: ·)
  | _ => none
section
variable {K : PySem.W.Frag} {c : Cl} {φ : List Addr} {H : Hp}
theorem ints_of : ∀ {ds : List D} {vs : List V} {bs : List Int}, RepL K φ H ds vs → intsD ds = some bs → vs = bs.map V.int
  | [], vs, bs, h, e => by cases e; rw [h.isNil]; rfl
  | .int b :: r, vs, bs, h, e => by
    obtain ⟨v, r', rfl, h1, h2⟩ := h.uncons
    obtain ⟨q, e1, rfl⟩ := Option.map_eq_some_iff.mp e
    rw [h1.int_, ints_of h2 e1] <;> rfl
  | .non :: r, vs, bs, h, e => by cases e
  | .bl _ :: r, vs, bs, h, e => by cases e
  | .str _ :: r, vs, bs, h, e => by cases e
  | .tup _ :: r, vs, bs, h, e => by cases e
  | .ref _ :: r, vs, bs, h, e => by cases e
  | .scr _ :: r, vs, bs, h, e => by cases e
  | .pl _ :: r, vs, bs, h, e => by cases e
theorem txts_of : ∀ {ds : List D} {vs : List V} {bs : List Str}, RepL K φ H ds vs → txts ds = some bs → vs = bs.map V.str
  | [], vs, bs, h, e => by cases e; rw [h.isNil]; rfl
  | .str b :: r, vs, bs, h, e => by
    obtain ⟨v, r', rfl, h1, h2⟩ := h.uncons
    obtain ⟨q, e1, rfl⟩ := Option.map_eq_some_iff.mp e
    rw [h1.str_, txts_of h2 e1] <;> rfl
  | .non :: r, vs, bs, h, e => by cases e
  | .bl _ :: r, vs, bs, h, e => by cases e
  | .int _ :: r, vs, bs, h, e => by cases e
  | .tup _ :: r, vs, bs, h, e => by cases e
  | .ref _ :: r, vs, bs, h, e => by cases e
  | .scr _ :: r, vs, bs, h, e => by cases e
  | .pl _ :: r, vs, bs, h, e => by cases e
end
def anyD : FS := fun l S => match bools l with
  | some bs => .ok (.bl (bs.any id)) S
  | none => .no
def sumD : FS := fun l S => match intsD l with
  | some bs => .ok (.int bs.sum) S
  | none => .no
def tupleD : FS := fun l S => .ok (.tup l) S
section
variable {K : PySem.W.Frag} {c : Cl}
theorem fits_sum : FitsS K c (rSum K) sumD := by
  intro W σ φ H S a vs ds Q r s h p
  unfold sumD at p
  split at p
  · rename_i bs e
    exact ⟨a, bs, rfl, by rw [← ints_of h e]; exact s, PostW.here r p _ rep_int⟩
  · exact False.elim p
end
section
variable {X : Cx} {c : Cl} {W : WX} {e : Expr} {es : List Expr} {ml : ML} {me : ME} {p pos : Pos} {x : Str}
end

inductive Ty where
  | int | bool | str | tuple | list | dict
def Ty.name : Ty → String
  | .int => "int" | .bool => "bool" | .str => "str" | .tuple => "tuple" | .list => "list" | .dict => "dict"
def isOf (S : Sto) (t : Ty) : D → Option Bool
  | .non => some false
  | .bl _ => some (match t with | .int => true | .bool => true | _ => false)
  | .int _ => some (match t with | .int => true | _ => false)
  | .str _ => some (match t with | .str => true | _ => false)
  | .tup _ => some (match t with | .tuple => true | _ => false)
  | .ref n => match S[n]? with
    | some (.lst _ _) => some (match t with | .list => true | _ => false)
    | some (.dct _ _) => some (match t with | .dict => true | _ => false)
    | _ => none
  | .scr _ => none
  | .pl _ => some (match t with | .list => true | _ => false)
def isiD (t : Ty) : F1 := fun d S => match isOf S t d with
  | some b => .ok (.bl b) S
  | none => .no
theorem tyX_tup {K : PySem.W.Frag} {H : Hp} {a : Addr} {vs : List V} (s : SqT K H a vs) : TyX K H (.ref a) (.type "tuple") := by
  rcases s with (s | ⟨o, s⟩) | ⟨o, its, n, h1, h2, _⟩
  · exact .base (.tup s)
  · exact .fTuple s
  · exact .kTuple h1 h2
theorem isi_ok {K : PySem.W.Frag} {c : Cl} {W : WX} {σ : L2.St} {φ : List Addr} {H : Hp} {S : Sto} {Q : VK} {d : D} {x : V} {t : Ty} (r : Rel K c φ S H) (hx : Rep K φ H d x) (p : PostW K c W σ φ H (gE K Q) (isiD t d S)) : rIsi K [x, .ty t.name] H Q := by
  unfold isiD at p
  split at p
  · rename_i b e
    have q := PostW.here r p _ rep_bl
    cases d with
    | non =>
      rw [hx.non_]
      cases e
      refine ⟨_, _, .type "NoneType", .type t.name, _, rfl, .ty _, .base .non, ?_, q⟩
      cases t <;> exact kit_ty (by decide +kernel)
    | bl k =>
      rw [hx.bl_]
      cases e
      refine ⟨_, _, .type "bool", .type t.name, _, rfl, .ty _, .base (.bl _), ?_, q⟩
      cases t <;> exact kit_ty (by decide +kernel)
    | int k =>
      rw [hx.int_]
      cases e
      refine ⟨_, _, .type "int", .type t.name, _, rfl, .ty _, .base (.int _), ?_, q⟩
      cases t <;> exact kit_ty (by decide +kernel)
    | str k =>
      rw [hx.str_]
      cases e
      refine ⟨_, _, .type "str", .type t.name, _, rfl, .ty _, .base (.str _), ?_, q⟩
      cases t <;> exact kit_ty (by decide +kernel)
    | tup l =>
      obtain ⟨a, vs, rfl, s, g⟩ := hx.tup_
      cases e
      refine ⟨_, _, .type "tuple", .type t.name, _, rfl, .ty _, tyX_tup s, ?_, q⟩
      cases t <;> exact kit_ty (by decide +kernel)
    | ref n =>
      obtain ⟨a, i1, rfl⟩ := hx.ref_
      simp only [isOf] at e
      split at e
      · rename_i fz l hl
        cases e
        obtain ⟨vs, g, h⟩ := r.obj n a _ i1 hl
        refine ⟨_, _, .type "list", .type t.name, _, rfl, .ty _, ?_, ?_, q⟩
        · split at h
          · obtain ⟨ob, h⟩ := h
            exact .base (.frz h)
          · exact .base (.lst h)
        · cases t <;> exact kit_ty (by decide +kernel)
      · rename_i fz l hl
        cases e
        obtain ⟨vs, g, h⟩ := r.obj n a _ i1 hl
        refine ⟨_, _, .type "dict", .type t.name, _, rfl, .ty _, ?_, ?_, q⟩
        · split at h
          · obtain ⟨ob, h⟩ := h
            exact .fDict h
          · exact .base (.dK h)
        · cases t <;> exact kit_ty (by decide +kernel)
      · cases e
    | scr n => cases e
    | pl l =>
      obtain ⟨a, vs, rfl, ⟨_, ob, h⟩, g⟩ := hx.pl_
      cases e
      refine ⟨_, _, .type "list", .type t.name, _, rfl, .ty _, .base (.frz h), ?_, q⟩
      cases t <;> exact kit_ty (by decide +kernel)
  · exact False.elim p
theorem de_isi {X : Cx} {c : Cl} {W : WX} {e : Expr} {me : ME} {p p2 pos : Pos} {y : Str} (t : Ty) (hg : Gl X "isinstance") (hm : X.mg "isinstance" = none) (hg2 : Gl X y) (hm2 : X.mg y = none) (hv2 : bootBuiltins y = some (.type t.name)) (ha : DE X c W e me)
    (hn : y ≠ "__name__" := by decide) (hdb : (y == ("__debug__" : Str)) = false := by decide)
    (hs : starEach [e, .Name y p2] X.env = (false, eval e X.env) :: starEach [.Name y p2] X.env := by rfl) (hs2 : starEach [.Name y p2] X.env = (false, eval (.Name y p2) X.env) :: starEach [] X.env := by rfl) (hpl : (backTo pos (starEach [.Name y p2] X.env)).any (·.1) = false := by rfl) :
    DE X c W (.Call (.Name "isinstance" p) [e, .Name y p2] [] pos) (eUn (isiD t) me) := by
  obtain ⟨ta, pa, ha⟩ := ha
  refine ⟨_, pe_callB call_isi hg hm PyProof.Rows.boot_isinstance (pa_cons pa (pa_cons (pe_bltn (v := .ty t.name) hg2 hm2 hv2 rfl hn hdb) pa_nil hs2) hs) (by decide) (by decide) hs hpl, fun φ σ H ρ S Q r f p => ?_⟩
  refine ha φ σ H ρ S _ r f (PostW.elim p fun d S1 φ1 H1 e1 r1 p1 => fun x hx => ?_)
  exact isi_ok r1 hx p1

def isStrD : D → Sto → Bool
  | .str _, _ => true
  | _, _ => false
def isLstD : D → Sto → Bool
  | .ref n, S => match S[n]? with
    | some (.lst _ _) => true
    | _ => false
  | _, _ => false
abbrev FM := D → List D → Sto → R D
def eMeth (ok : D → Sto → Bool) (f : FM) (a : ME) (l : ML) : ME := fun ρ S => (a ρ S).bind fun x S1 => if ok x S1 = true then (l ρ S1).bind fun ys S2 => f x ys S2 else .no
def FitsM (K : PySem.W.Frag) (c : Cl) (r : V → List V → Hp → VK → Prop) (f : FM) : Prop := ∀ W σ φ H S x d vs ds Q, Rel K c φ S H → Rep K φ H d x → RepL K φ H ds vs → PostW K c W σ φ H (gE K Q) (f d ds S) → r x vs H Q
def FitsMS (K : PySem.W.Frag) (c : Cl) (r : V → List V → Hp → VK → Prop) (f : FM) : Prop := ∀ W σ φ H S x d a vs ds Q, Rel K c φ S H → Rep K φ H d x → SqL K H a vs → RepL K φ H ds vs → PostW K c W σ φ H (gE K Q) (f d ds S) → r x [.ref a] H Q
def Typed (K : PySem.W.Frag) (c : Cl) (T : String) (ok : D → Sto → Bool) : Prop := ∀ φ S H d x, Rel K c φ S H → Rep K φ H d x → ok d S = true → tyV K T x H
theorem typed_str {K : PySem.W.Frag} {c : Cl} : Typed K c "str" isStrD := by
  intro φ S H d x r h e
  cases d <;> first | (rw [h.str_]; rfl) | cases e
section
variable {X : Cx} {c : Cl} {W : WX} {o e : Expr} {es : List Expr} {ml : ML} {mo me : ME} {apos cpos : Pos} {name : Str} {T id : String} {ok : D → Sto → Bool} {f : FM} {r : V → List V → Hp → VK → Prop}
theorem de_bm (pa : PlainAttrs T) (slot : Slot T name id) (hty : typeOf (.builtin id) = pure (.type "method_descriptor")) (hm : MtR X id r) (hf : FitsM X.K c r f) (ht : Typed X.K c T ok) (ho : DE X c W o mo) (ha : DA X c W (e :: es) ml)
    (hbase : attributeBase o name X.env (eval o X.env) = eval o X.env := by rfl)
    (hfew : ((backTo cpos (starEach (e :: es) X.env)).all (fun x => !x.1) && (backToKw cpos (keywordEach [] X.env)).all (fun x => x.1.isSome)
      && decide ((e :: es).length + ([] : List Keyword).length + (if ([] : List Keyword).isEmpty then 0 else 1) < 30)) = true := by rfl)
    (hline : (apos.endLine == cpos.line) = true := by rfl) (hs : starEach (e :: es) X.env = (false, eval e X.env) :: starEach es X.env := by rfl) (hplain : (backTo cpos (starEach es X.env)).any (·.1) = false := by rfl) :
    DE X c W (.Call (.Attribute o name apos) (e :: es) [] cpos) (eMeth ok f mo ml) := by
  obtain ⟨to, po, ho⟩ := ho
  obtain ⟨ta, pa', ha⟩ := ha
  refine ⟨_, pe_bm pa slot hty hm po pa' hbase hfew hline hs hplain, fun φ σ H ρ S Q r f p => ?_⟩
  refine ho φ σ H ρ S _ r f (PostW.elim p fun d S1 φ1 H1 e1 r1 p1 => fun x hx => ?_)
  split at p1
  · rename_i hk
    refine ⟨ht φ1 S1 H1 d x r1 hx hk, ?_⟩
    refine ha φ1 σ H1 ρ S1 _ r1 (f.stay (e1.stays r)) (PostW.elim p1 fun ds S2 φ2 H2 e2 r2 p2 => fun vs hv => ?_)
    exact hf W σ φ2 H2 S2 x d vs ds Q r2 (hx.stay (e2.stays r1)) hv p2
  · exact False.elim p1
theorem de_bmL (pa : PlainAttrs T) (slot : Slot T name id) (hty : typeOf (.builtin id) = pure (.type "method_descriptor")) (hm : MtR X id r) (hf : FitsMS X.K c r f) (ht : Typed X.K c T ok) (ho : DE X c W o mo) (ha : DL X c W e ml)
    (hbase : attributeBase o name X.env (eval o X.env) = eval o X.env := by rfl)
    (hfew : ((backTo cpos (starEach [e] X.env)).all (fun x => !x.1) && (backToKw cpos (keywordEach [] X.env)).all (fun x => x.1.isSome)
      && decide (([e] : List Expr).length + ([] : List Keyword).length + (if ([] : List Keyword).isEmpty then 0 else 1) < 30)) = true := by rfl)
    (hline : (apos.endLine == cpos.line) = true := by rfl) (hs : starEach [e] X.env = (false, eval e X.env) :: starEach [] X.env := by rfl) (hplain : (backTo cpos (starEach [] X.env)).any (·.1) = false := by rfl) :
    DE X c W (.Call (.Attribute o name apos) [e] [] cpos) (eMeth ok f mo ml) := by
  obtain ⟨to, po, ho⟩ := ho
  obtain ⟨ta, pa', ha⟩ := ha
  refine ⟨_, pe_bm pa slot hty hm po (pa_cons pa' pa_nil hs) hbase hfew hline hs hplain, fun φ σ H ρ S Q r f p => ?_⟩
  refine ho φ σ H ρ S _ r f (PostW.elim p fun d S1 φ1 H1 e1 r1 p1 => fun x hx => ?_)
  split at p1
  · rename_i hk
    refine ⟨ht φ1 S1 H1 d x r1 hx hk, ?_⟩
    refine ha φ1 σ H1 ρ S1 _ r1 (f.stay (e1.stays r)) (PostW.elim p1 fun ds S2 φ2 H2 e2 r2 p2 => fun a vs s hv => ?_)
    exact hf W σ φ2 H2 S2 x d a vs ds Q r2 (hx.stay (e2.stays r1)) s hv p2
  · exact False.elim p1
end
/-- sep.join(list) -/
def joinD : FM := fun x l S => match x with
  | .str a => match txts l with
    | some ys => if (ys.map (·.length)).sum + ys.length * a.length ≤ 16777216 then .ok (.str (Txt.join a ys)) S else .no
    | none => .no
  | _ => .no
/-- xs.append(y), xs.extend(ys), xs.pop(), xs.pop(i) -/
def appendD : FM := fun x l S => match x, l with
  | .ref n, [d] => match S[n]? with
    | some (.lst false xs) => if xs.length < sizeLine then .ok .non (S.set n (.lst false (xs ++ [d]))) else .no
    | _ => .no
  | _, _ => .no
section
variable {K : PySem.W.Frag} {c : Cl}
theorem fits_join : FitsMS K c (fun x xs H Q => ∃ a p, ∃ ys : List Str, x = .str a ∧ xs = [.ref p] ∧ (SqL K H p (ys.map V.str) ∨ SqT K H p (ys.map V.str)) ∧
    (ys.map (·.length)).sum + ys.length * a.length ≤ 16777216 ∧ Q (.str (Txt.join a ys)) H) joinD := by
  intro W σ φ H S x d a vs ds Q r hx s hv p
  unfold joinD at p
  split at p
  · split at p
    · split at p
      · rename_i ys e hz
        exact ⟨_, a, ys, hx.str_, rfl, .inl (by rw [← txts_of hv e]; exact s), hz, PostW.here r p _ rep_str⟩
      · exact False.elim p
    · exact False.elim p
  · exact False.elim p
theorem RepL.erase {φ : List Addr} {H : Hp} {l : List D} {vs : List V} (g : RepL K φ H l vs) (k : Nat) : RepL K φ H (l.eraseIdx k) (vs.eraseIdx k) := by
  rw [List.eraseIdx_eq_take_drop_succ, List.eraseIdx_eq_take_drop_succ]
  exact (g.take _).append (g.drop _)
end
section
variable {X : Cx} {c : Cl} {W : WX} {o e : Expr} {ml : ML} {mo me : ME} {apos cpos : Pos}
end
end MM

namespace MM
open PySem PySem.Spec PyProof.Rows L2

def PostS (K : PySem.W.Frag) (c : Cl) (W : WX) (φ : List Addr) (H : Hp) (E : Ends) : RS → Prop
  | .nx ρ' S' => ∀ φ' H' σ', Ext φ H φ' H' → Rel K c φ' S' H' → FrRel K φ' H' σ' ρ' → E.nx σ' H'
  | .bk ρ' S' => ∀ φ' H' σ', Ext φ H φ' H' → Rel K c φ' S' H' → FrRel K φ' H' σ' ρ' → E.bk σ' H'
  | .ct ρ' S' => ∀ φ' H' σ', Ext φ H φ' H' → Rel K c φ' S' H' → FrRel K φ' H' σ' ρ' → E.ct σ' H'
  | .rt d S' => ∀ φ' H' v, Ext φ H φ' H' → Rel K c φ' S' H' → Rep K φ' H' d v → E.rt v H'
  | .ex k ρ' S' => ∀ φ' H' σ', Ext φ H φ' H' → Rel K c φ' S' H' → FrRel K φ' H' σ' ρ' → W (.ref (c.cl k)) none σ' H'
  | .no => False
theorem PostS.from {K : PySem.W.Frag} {c : Cl} {W : WX} {φ φ1 : List Addr} {H H1 : Hp} {E : Ends} {r : RS} (e : Ext φ H φ1 H1) (h : PostS K c W φ H E r) : PostS K c W φ1 H1 E r := by
  cases r with
  | nx ρ S => exact fun φ' H' σ' e' => h φ' H' σ' (e.trans e')
  | bk ρ S => exact fun φ' H' σ' e' => h φ' H' σ' (e.trans e')
  | ct ρ S => exact fun φ' H' σ' e' => h φ' H' σ' (e.trans e')
  | rt ρ S => exact fun φ' H' σ' e' => h φ' H' σ' (e.trans e')
  | ex k ρ S => exact fun φ' H' σ' e' => h φ' H' σ' (e.trans e')
  | no => exact h
def DS (X : Cx) (c : Cl) (W : WX) (st : Stmt) (m : MS) : Prop :=
  ∃ t, PS X st t ∧ ∀ φ σ H ρ S E, Rel X.K c φ S H → FrRel X.K φ H σ ρ → PostS X.K c W φ H E (m ρ S) → t E σ H
def DSs (X : Cx) (c : Cl) (W : WX) (st : List Stmt) (m : MS) : Prop :=
  ∃ t, PSs X st t ∧ ∀ φ σ H ρ S E, Rel X.K c φ S H → FrRel X.K φ H σ ρ → PostS X.K c W φ H E (m ρ S) → t E σ H
/-- an expression, then on -/
def RS.of {α : Type} (ρ : Fr) : R α → (α → Sto → RS) → RS
  | .ok a S, k => k a S
  | .ex c S, _ => .ex c ρ S
  | .no, _ => .no
def RS.then : RS → (Fr → Sto → RS) → RS
  | .nx ρ S, k => k ρ S
  | r, _ => r
def sPass : MS := fun ρ S => .nx ρ S
def sSeq (a b : MS) : MS := fun ρ S => (a ρ S).then b
section
variable {X : Cx} {c : Cl} {W : WX} {st : Stmt} {rest : List Stmt} {m n : MS} {e : Expr} {me : ME} {mt : MT} {pos : Pos}
theorem PostS.expr {α : Type} {φ : List Addr} {H : Hp} {S : Sto} {σ : L2.St} {ρ : Fr} {E : Ends} {r : R α} {k : α → Sto → RS} {good : α → Sto → List Addr → Hp → Prop} (rel : Rel X.K c φ S H) (f : FrRel X.K φ H σ ρ) (h : PostS X.K c W φ H E (RS.of ρ r k))
    (g : ∀ a S1 φ1 H1, Ext φ H φ1 H1 → Rel X.K c φ1 S1 H1 → FrRel X.K φ1 H1 σ ρ → PostS X.K c W φ1 H1 E (k a S1) → good a S1 φ1 H1) : PostW X.K c W σ φ H good r := by
  cases r with
  | ok a S1 => exact fun φ1 H1 e1 r1 => g a S1 φ1 H1 e1 r1 (f.stay (e1.stays rel)) (PostS.from e1 h)
  | ex k S1 => exact fun φ1 H1 e1 r1 => h φ1 H1 σ e1 r1 (f.stay (e1.stays rel))
  | no => exact h
theorem dss_nil : DSs X c W [] sPass := ⟨_, pss_nil, fun φ σ H ρ S E r f p => p φ H σ (Ext.refl r.nd) r f⟩
theorem dss_cons (h1 : DS X c W st m) (h2 : DSs X c W rest n) : DSs X c W (st :: rest) (sSeq m n) := by
  obtain ⟨t1, p1, h1⟩ := h1
  obtain ⟨t2, p2, h2⟩ := h2
  refine ⟨_, pss_cons p1 p2, fun φ σ H ρ S E r f p => ?_⟩
  refine h1 φ σ H ρ S _ r f ?_
  unfold sSeq at p
  cases hm : m ρ S with
  | nx ρ1 S1 =>
    rw [hm] at p
    exact fun φ1 H1 σ1 e1 r1 f1 => h2 φ1 σ1 H1 ρ1 S1 E r1 f1 (PostS.from e1 p)
  | bk ρ1 S1 => rw [hm] at p; exact p
  | ct ρ1 S1 => rw [hm] at p; exact p
  | rt ρ1 S1 => rw [hm] at p; exact p
  | ex k ρ1 S1 => rw [hm] at p; exact p
  | no => rw [hm] at p; exact p
theorem dss_one (h1 : DS X c W st m) : DSs X c W [st] m := by
  obtain ⟨t1, p1, h1⟩ := h1
  exact ⟨_, pss_one p1, h1⟩
def sExpr (a : ME) : MS := fun ρ S => RS.of ρ (a ρ S) fun _ S1 => .nx ρ S1
def sRet (a : ME) : MS := fun ρ S => RS.of ρ (a ρ S) fun d S1 => .rt d S1
theorem ds_ret (he : DE X c W e me) : DS X c W (.Return (some e) pos) (sRet me) := by
  obtain ⟨t, p, h⟩ := he
  refine ⟨_, ps_ret p, fun φ σ H ρ S E r f p => ?_⟩
  exact h φ σ H ρ S _ r f (PostS.expr r f p fun d S1 φ1 H1 e1 r1 f1 p1 => fun v hv => p1 φ1 H1 v (Ext.refl r1.nd) r1 hv)
def sIf (t : MT) (a b : MS) : MS := fun ρ S => RS.of ρ (t ρ S) fun x S1 => if x = true then a ρ S1 else b ρ S1
theorem ds_if {d : Expr} {a b : List Stmt} (hc : DT X c W d mt) (ha : DSs X c W a m) (hb : DSs X c W b n) : DS X c W (.If d a b pos) (sIf mt m n) := by
  obtain ⟨tc, pc, hc⟩ := hc
  obtain ⟨ta, pa, ha⟩ := ha
  obtain ⟨tb, pb, hb⟩ := hb
  refine ⟨_, ps_if pc pa pb, fun φ σ H ρ S E r f p => ?_⟩
  refine hc φ σ H ρ S _ r f (PostS.expr r f p fun d S1 φ1 H1 e1 r1 f1 p1 => ?_)
  dsimp only [gT]
  split
  · rename_i hd
    rw [if_pos hd] at p1
    exact ha φ1 σ H1 ρ S1 _ r1 f1 p1
  · rename_i hd
    rw [if_neg hd] at p1
    exact hb φ1 σ H1 ρ S1 _ r1 f1 p1
end

abbrev MG := D → Fr → Option Fr
def PostG (K : PySem.W.Frag) (φ : List Addr) (H : Hp) (Q : L2.St → Hp → Prop) : Option Fr → Prop
  | some ρ' => ∀ σ', FrRel K φ H σ' ρ' → Q σ' H
  | none => False
def DG (X : Cx) (tg : Expr) (m : MG) : Prop := ∃ g, PG X tg g ∧ ∀ φ σ H ρ v d Q, FrRel X.K φ H σ ρ → Rep X.K φ H d v → PostG X.K φ H Q (m d ρ) → g v σ H Q
def tN (i : Nat) : MG := fun d ρ => some (ρ.set i (some d))
def tsNil : List D → Fr → Option Fr
  | [], ρ => some ρ
  | _, _ => none
def tsCons (a : MG) (r : List D → Fr → Option Fr) : List D → Fr → Option Fr
  | d :: ds, ρ => (a d ρ).bind fun ρ' => r ds ρ'
  | _, _ => none
def tTp (n : Nat) (r : List D → Fr → Option Fr) : MG
  | .tup l, ρ => if l.length = n then r l ρ else none
  | _, _ => none
theorem FrRel.set {K : PySem.W.Frag} {φ : List Addr} {H : Hp} {σ : L2.St} {ρ : Fr} {d : D} {v : V} (f : FrRel K φ H σ ρ) (i : Nat) (h : Rep K φ H d v) : FrRel K φ H (σ.set i (some v)) (ρ.set i (some d)) := by
  refine ⟨by simp [f.1], fun j d' hj => ?_⟩
  by_cases e : i = j
  · subst e
    have hl : i < ρ.length := by
      have := (List.getElem?_eq_some_iff.mp hj).1
      simpa using this
    rw [List.getElem?_set_self hl] at hj
    cases hj
    exact ⟨v, List.getElem?_set_self (by rw [← f.1]; exact hl), h⟩
  · rw [List.getElem?_set_ne e] at hj ⊢
    exact f.2 j d' hj
section
variable {X : Cx} {c : Cl} {W : WX} {e : Expr} {es : List Expr} {me : ME} {pos : Pos} {mg : MG}
theorem dg_name {i : Nat} {x : Str} (h : PG X (.Name x pos) (gName i)) : DG X (.Name x pos) (tN i) :=
  ⟨_, h, fun φ σ H ρ v d Q f r p => p _ (f.set i r)⟩
/-- target = value -/
def sAsg (a : ME) (g : MG) : MS := fun ρ S => RS.of ρ (a ρ S) fun d S1 => match g d ρ with
  | some ρ' => .nx ρ' S1
  | none => .no
def sSet (i : Nat) (a : ME) : MS := fun ρ S => RS.of ρ (a ρ S) fun d S1 => .nx (ρ.set i (some d)) S1
theorem ds_set {i : Nat} {x : Str} {pos' : Pos} (hN : X.N.Nodup) (hi : X.N[i]? = some x) (hx : Loc X.env.scope x) (he : DE X c W e me) (hs : swapsWith e (some (.Name x pos')) pos.line X.env = pure false := by rfl) (hf : X.fn x = true ∨ X.env.scope.names.lookup x = some .local := by first | exact .inl rfl | exact .inr rfl | assumption) :
    DS X c W (.Assign [.Name x pos'] e pos) (sSet i me) := by
  obtain ⟨t, p, h⟩ := he
  refine ⟨_, ps_set hN hi hx p hs hf, fun φ σ H ρ S E r f p => ?_⟩
  exact h φ σ H ρ S _ r f (PostS.expr r f p fun d S1 φ1 H1 e1 r1 f1 p1 => fun v hv => p1 φ1 H1 _ (Ext.refl r1.nd) r1 (f1.set i hv))
/-- x op= e, ints -/
def addI : F2
  | .int i, .int j, S => .ok (.int (i + j)) S
  | _, _, _ => .no
/-- o[i] = e (a list) -/
def setIx (x i v : D) (S : Sto) : Option Sto := match x, i with
  | .ref n, .int k => match S[n]? with
    | some (.lst false l) => (ixN l.length k).map fun j => S.set n (.lst false (l.set j v))
    | _ => none
  | _, _ => none
def sSetIx (o i a : ME) : MS := fun ρ S => RS.of ρ (a ρ S) fun d S1 => RS.of ρ (o ρ S1) fun x S2 => RS.of ρ (i ρ S2) fun k S3 => match setIx x k d S3 with
  | some S4 => .nx ρ S4
  | none => .no
theorem ds_setIx {o i : Expr} {mo mi : ME} {tpos : Pos} (he : DE X c W e me) (ho : DE X c W o mo) (hi : DE X c W i mi)
    (ha : ∀ v, assign (.Subscript o i tpos) X.env v = (do
      let ov ← holding [v] (eval o X.env)
      let iv ← holding [v, ov] (eval i X.env)
      standAt tpos
      holding [v, ov, iv] (setItem ov iv v)
      release [v, ov, iv] []) := by intro _; rfl)
    (hs : swapsWithSole [.Subscript o i tpos] e pos.line X.env = pure false := by rfl) (hw : swappedStores [.Subscript o i tpos] e X.env = pure none := by rfl)
    (h1 : (assignEach [.Subscript o i tpos] X.env).map (·.2) = [assign (.Subscript o i tpos) X.env] := by rfl) : DS X c W (.Assign [.Subscript o i tpos] e pos) (sSetIx mo mi me) := by
  obtain ⟨t, p, h⟩ := he
  obtain ⟨to, po, ho⟩ := ho
  obtain ⟨ti, pi, hi⟩ := hi
  refine ⟨_, ps_asg p (pg_sub po pi set_list ha) hs hw h1, fun φ σ H ρ S E r f p => ?_⟩
  refine h φ σ H ρ S _ r f (PostS.expr r f p fun d S1 φ1 H1 e1 r1 f1 p1 => fun v hv => ?_)
  refine ho φ1 σ H1 ρ S1 _ r1 f1 (PostS.expr r1 f1 p1 fun x S2 φ2 H2 e2 r2 f2 p2 => fun xv hx => ?_)
  refine hi φ2 σ H2 ρ S2 _ r2 f2 (PostS.expr r2 f2 p2 fun k S3 φ3 H3 e3 r3 f3 p3 => fun kv hk => ?_)
  have hv3 := (hv.stay (e2.stays r1)).stay (e3.stays r2)
  have hx3 := hx.stay (e3.stays r2)
  unfold setIx at p3
  split at p3
  · rename_i S4 h4
    split at h4
    · split at h4
      · rename_i hl
        obtain ⟨j, hj, rfl⟩ := Option.map_eq_some_iff.mp h4
        obtain ⟨a, i1, rfl⟩ := hx3.ref_
        obtain ⟨us, g, _, s⟩ := r3.lst i1 hl
        refine ⟨a, us, _, j, rfl, hk.int_, s rfl, by rw [← g.length]; exact hj, ?_⟩
        have st := stays_write (u := .lst (us.set j v)) r3 i1
        obtain ⟨e4, r4⟩ := r3.write (u := .lst (us.set j v)) i1 (o := .lst false _) ⟨_, (g.set j hv3).stay st, by simp [upd_same]⟩ (fun ob w q => by rw [s rfl] at q; cases q)
        exact p3 _ _ _ e4 r4 (f3.stay st)
      · cases h4
    · cases h4
  · exact False.elim p3
end

def whN (t : MT) (b : MS) : Nat → MS
  | 0, _, _ => .no
  | n + 1, ρ, S => RS.of ρ (t ρ S) fun x S1 => if x = true then (match b ρ S1 with
    | .nx ρ' S' => whN t b n ρ' S'
    | .ct ρ' S' => whN t b n ρ' S'
    | .bk ρ' S' => .nx ρ' S'
    | .rt d S' => .rt d S'
    | .ex k ρ' S' => .ex k ρ' S'
    | .no => .no) else .nx ρ S1
def fuel : Nat := 2 ^ 64
def sWhile (t : MT) (b : MS) : MS := whN t b fuel
theorem ds_while {X : Cx} {c : Cl} {W : WX} {d : Expr} {body : List Stmt} {mt : MT} {m : MS} {pos : Pos} (hp : PassesOwn (model X.prog X.w) X.A X.env X.xe) (hc : DT X c W d mt) (hb : DSs X c W body m) : DS X c W (.While d body [] pos) (sWhile mt m) := by
  obtain ⟨tc, pc, hc⟩ := hc
  obtain ⟨tb, pb, hb⟩ := hb
  refine ⟨_, ps_while hp pc pb, fun φ0 σ0 H0 ρ0 S0 E r0 f0 p0 => ?_⟩
  refine ⟨fun n σ H => ∃ φ ρ S, Ext φ0 H0 φ H ∧ Rel X.K c φ S H ∧ FrRel X.K φ H σ ρ ∧ PostS X.K c W φ H E (whN mt m n ρ S), ⟨fuel, φ0, ρ0, S0, Ext.refl r0.nd, r0, f0, p0⟩, ?_⟩
  rintro n σ H ⟨φ, ρ, S, e, r, f, p⟩
  cases n with
  | zero => exact False.elim p
  | succ n =>
    refine hc φ σ H ρ S _ r f (PostS.expr r f p fun d S1 φ1 H1 e1 r1 f1 p1 => ?_)
    dsimp only [gT]
    split
    · rename_i hd
      rw [if_pos hd] at p1
      refine ⟨fun σ' H' => ∃ φ ρ S, Ext φ0 H0 φ H' ∧ Rel X.K c φ S H' ∧ FrRel X.K φ H' σ' ρ ∧ PostS X.K c W φ H' E (whN mt m n ρ S), fun σ' H' h' => ⟨n, Nat.lt_succ_self n, h'⟩, ?_⟩
      refine hb φ1 σ H1 ρ S1 _ r1 f1 ?_
      cases hm : m ρ S1 with
      | nx ρ2 S2 =>
        rw [hm] at p1
        exact fun φ2 H2 σ2 e2 r2 f2 => ⟨φ2, ρ2, S2, (e.trans e1).trans e2, r2, f2, PostS.from e2 p1⟩
      | ct ρ2 S2 =>
        rw [hm] at p1
        exact fun φ2 H2 σ2 e2 r2 f2 => ⟨φ2, ρ2, S2, (e.trans e1).trans e2, r2, f2, PostS.from e2 p1⟩
      | bk ρ2 S2 => rw [hm] at p1; exact p1
      | rt d S2 => rw [hm] at p1; exact p1
      | ex k ρ2 S2 => rw [hm] at p1; exact p1
      | no => rw [hm] at p1; exact p1
    · rename_i hd
      rw [if_neg hd] at p1
      exact p1 φ1 H1 σ (Ext.refl r1.nd) r1 f1
end MM

namespace MM
open PySem PySem.Spec PyProof.Rows L2

structure IterOk (K : PySem.W.Frag) (c : Cl) (J : It) (items : List D) (g : Sto → Prop) (φ0 : List Addr) (H0 : Hp) : Prop where
  go : ∀ φ S H (i : Nat) d, Ext φ0 H0 φ H → Rel K c φ S H → g S → items[i]? = some d → J.go i H ∧ ∀ x H', J.yld i H x H' → Ext φ H φ H' ∧ Rel K c φ S H' ∧ Rep K φ H' d x
  stop : ∀ φ S H, Ext φ0 H0 φ H → Rel K c φ S H → g S → J.stop items.length H
abbrev MI := Fr → Sto → R (List D × (Sto → Prop))
abbrev gI (K : PySem.W.Frag) (c : Cl) (Q : It → Hp → Prop) : List D × (Sto → Prop) → Sto → List Addr → Hp → Prop := fun x _ φ H => ∀ J, IterOk K c J x.1 x.2 φ H → Q J H
def DI (X : Cx) (c : Cl) (W : WX) (tg iter : Expr) (m : MI) : Prop :=
  ∃ t, PI X tg iter t ∧ ∀ φ σ H ρ S Q, Rel X.K c φ S H → FrRel X.K φ H σ ρ → PostW X.K c W σ φ H (gI X.K c Q) (m ρ S) → t σ H Q
open Classical in
noncomputable def forD (g : Sto → Prop) (tg : MG) (b : MS) : List D → MS
  | [], ρ, S => if g S then .nx ρ S else .no
  | d :: ds, ρ, S => if g S then (match tg d ρ with
    | some ρ1 => match b ρ1 S with
      | .nx ρ' S' => forD g tg b ds ρ' S'
      | .ct ρ' S' => forD g tg b ds ρ' S'
      | .bk ρ' S' => .nx ρ' S'
      | .rt d S' => .rt d S'
      | .ex k ρ' S' => .ex k ρ' S'
      | .no => .no
    | none => .no) else .no
noncomputable def sFor (i : MI) (tg : MG) (b : MS) : MS := fun ρ S => RS.of ρ (i ρ S) fun x S1 => forD x.2 tg b x.1 ρ S1
theorem ds_for {X : Cx} {c : Cl} {W : WX} {tg iter : Expr} {body : List Stmt} {mi : MI} {mg : MG} {m : MS} {pos : Pos} (hp : PassesOwn (model X.prog X.w) X.A X.env X.xe) (hc : X.calm = true) (hi : DI X c W tg iter mi) (hg : DG X tg mg) (hb : DSs X c W body m)
    (hs : ∀ x, foldedSetIterable iter X.env x = pure x := by intro _; rfl) : DS X c W (.For tg iter body [] pos) (sFor mi mg m) := by
  obtain ⟨ti, pi, hi⟩ := hi
  obtain ⟨tg', pg, hg⟩ := hg
  obtain ⟨tb, pb, hb⟩ := hb
  refine ⟨_, ps_for hp hc pi pg pb hs, fun φ0 σ0 H0 ρ0 S0 E r0 f0 p0 => ?_⟩
  refine hi φ0 σ0 H0 ρ0 S0 _ r0 f0 (PostS.expr r0 f0 p0 fun x S1 φ1 H1 e1 r1 f1 p1 => fun J IO => ?_)
  obtain ⟨items, g⟩ := x
  dsimp only at p1 IO
  refine ⟨fun i m' σ H => m' = items.length - i ∧ i ≤ items.length ∧ ∃ φ ρ S, Ext φ1 H1 φ H ∧ Rel X.K c φ S H ∧ FrRel X.K φ H σ ρ ∧ PostS X.K c W φ H E (forD g mg m (items.drop i) ρ S),
    ⟨items.length, by simp, Nat.zero_le _, φ1, ρ0, S1, Ext.refl r1.nd, r1, f1, by simpa using p1⟩, ?_⟩
  rintro i m' σ H ⟨rfl, hle, φ, ρ, S, e, r, f, p⟩
  by_cases hlt : i < items.length
  · right
    rw [List.drop_eq_getElem_cons hlt] at p
    unfold forD at p
    split at p
    · rename_i hgS
      obtain ⟨hgo, hy⟩ := IO.go φ S H i _ e r hgS (List.getElem?_eq_getElem hlt)
      refine ⟨hgo, fun σ' H' => ∃ φ' ρ' S', Ext φ1 H1 φ' H' ∧ Rel X.K c φ' S' H' ∧ FrRel X.K φ' H' σ' ρ' ∧ PostS X.K c W φ' H' E (forD g mg m (items.drop (i + 1)) ρ' S'), fun σ' H' h' => ⟨items.length - (i + 1), by omega, rfl, hlt, h'⟩, fun x H' hx => ?_⟩
      obtain ⟨e2, r2, rx⟩ := hy x H' hx
      have f2 := f.stay (e2.stays r)
      refine hg φ σ H' ρ x _ _ f2 rx ?_
      cases hm : mg items[i] ρ with
      | none => rw [hm] at p; exact p
      | some ρ1 =>
        rw [hm] at p
        intro σ1 f3
        refine hb φ σ1 H' ρ1 S _ r2 f3 ?_
        dsimp only at p
        cases hm2 : m ρ1 S with
        | nx ρ2 S2 =>
          rw [hm2] at p
          exact fun φ2 H2 σ2 e3 r3 f3 => ⟨φ2, ρ2, S2, (e.trans e2).trans e3, r3, f3, PostS.from (e2.trans e3) p⟩
        | ct ρ2 S2 =>
          rw [hm2] at p
          exact fun φ2 H2 σ2 e3 r3 f3 => ⟨φ2, ρ2, S2, (e.trans e2).trans e3, r3, f3, PostS.from (e2.trans e3) p⟩
        | bk ρ2 S2 => rw [hm2] at p; exact PostS.from (r := .bk ρ2 S2) e2 (by exact p)
        | rt d S2 => rw [hm2] at p; exact PostS.from (r := .rt d S2) e2 p
        | ex k ρ2 S2 => rw [hm2] at p; exact PostS.from (r := .ex k ρ2 S2) e2 p
        | no => rw [hm2] at p; exact p
    · exact False.elim p
  · left
    have e' : i = items.length := by omega
    subst e'
    rw [List.drop_length] at p
    unfold forD at p
    split at p
    · rename_i hgS
      exact ⟨IO.stop φ S H e r hgS, p φ H σ (Ext.refl r.nd) r f⟩
    · exact False.elim p

abbrev noG : Sto → Prop := fun _ => True
def inStore (n : Nat) (l : List D) : Sto → Prop := fun S => ∃ fz, S[n]? = some (.lst fz l)
section
variable {K : PySem.W.Frag} {c : Cl} {φ0 : List Addr} {H0 : Hp} {S0 : Sto}
theorem iter_tup {a : Addr} {vs : List V} {l : List D} (r0 : Rel K c φ0 S0 H0) (s : SqT K H0 a vs) (g : RepL K φ0 H0 l vs) : IterOk K c (Itt K a) l noG φ0 H0 := by
  refine ⟨fun φ S H i d e r _ hd => ?_, fun φ S H e r _ => ?_⟩
  · obtain ⟨v, hv, rv⟩ := g.get hd
    have st := e.stays r0
    have s' := st.tup _ _ s
    refine ⟨⟨vs, v, s', hv⟩, fun x H' hy => ?_⟩
    obtain ⟨rfl, hy⟩ := hy
    have := hy vs s'
    rw [hv] at this
    cases this
    exact ⟨Ext.refl r.nd, r, rv.stay st⟩
  · exact ⟨vs, (e.stays r0).tup _ _ s, by rw [g.length]; exact Nat.le_refl _⟩
/-- a list to be walked: its things, and what must stay meanwhile -/
def srcOf (S : Sto) : D → Option (List D × (Sto → Prop))
  | .pl l => some (l, noG)
  | .ref n => match S[n]? with
    | some (.lst _ l) => some (l, inStore n l)
    | _ => none
  | _ => none
theorem src_at {d : D} {v : V} {l : List D} {g : Sto → Prop} (r0 : Rel K c φ0 S0 H0) (h : Rep K φ0 H0 d v) (e : srcOf S0 d = some (l, g)) : ∃ a, v = .ref a ∧ (∃ vs, SqL K H0 a vs) ∧ ∀ φ S H, Ext φ0 H0 φ H → Rel K c φ S H → g S → ∃ vs, SqL K H a vs ∧ RepL K φ H l vs := by
  cases d with
  | pl l' =>
    cases e
    obtain ⟨a, vs, rfl, h1, h2⟩ := h.pl_
    exact ⟨a, rfl, ⟨vs, h1.sq⟩, fun φ S H e r _ => ⟨vs, ((e.stays r0).pul _ _ h1).sq, h2.stay (e.stays r0)⟩⟩
  | ref n =>
    simp only [srcOf] at e
    split at e
    · rename_i fz l' hl
      cases e
      obtain ⟨a, i1, rfl⟩ := h.ref_
      obtain ⟨us, _, s0, _⟩ := r0.lst i1 hl
      refine ⟨a, rfl, ⟨us, s0⟩, fun φ S H e r hS => ?_⟩
      obtain ⟨fz', hS⟩ := hS
      obtain ⟨vs, g, s, _⟩ := r.lst (e.ix i1) hS
      exact ⟨vs, s, g⟩
    · cases e
  | _ => cases e
theorem iter_src {a : Addr} {l : List D} {g : Sto → Prop} (h : ∀ φ S H, Ext φ0 H0 φ H → Rel K c φ S H → g S → ∃ vs, SqL K H a vs ∧ RepL K φ H l vs) : IterOk K c (Itl K a) l g φ0 H0 := by
  refine ⟨fun φ S H i d e r hS hd => ?_, fun φ S H e r hS => ?_⟩
  · obtain ⟨vs, s, gg⟩ := h φ S H e r hS
    obtain ⟨v, hv, rv⟩ := gg.get hd
    refine ⟨⟨vs, v, s, hv⟩, fun x H' hy => ?_⟩
    obtain ⟨rfl, hy⟩ := hy
    have := hy vs s
    rw [hv] at this
    cases this
    exact ⟨Ext.refl r.nd, r, rv⟩
  · obtain ⟨vs, s, gg⟩ := h φ S H e r hS
    exact ⟨vs, s, by rw [gg.length]; exact Nat.le_refl _⟩
def rangeD (lo : Int) (n : Nat) : List D := (List.range n).map fun (i : Nat) => D.int (lo + i)
theorem iter_range {lo : Int} {n : Nat} : IterOk K c (Itr lo n) (rangeD lo n) noG φ0 H0 := by
  refine ⟨fun φ S H i d e r _ hd => ?_, fun φ S H e r _ => ?_⟩
  · unfold rangeD at hd
    rw [List.getElem?_map] at hd
    obtain ⟨j, hj, rfl⟩ := Option.map_eq_some_iff.mp hd
    have hlt : i < n := by
      have := (List.getElem?_eq_some_iff.mp hj).1
      simpa using this
    have : j = i := by simpa [List.getElem?_range hlt] using hj.symm
    subst this
    refine ⟨hlt, fun x H' hy => ?_⟩
    obtain ⟨rfl, rfl⟩ := hy
    exact ⟨Ext.refl r.nd, r, rep_int⟩
  · show n ≤ (rangeD lo n).length
    simp [rangeD]
def signsD (x : Str) : List D := x.cps.toList.map fun k => D.str ⟨#[k]⟩
theorem iter_str {x : Str} : IterOk K c (Its x) (signsD x) noG φ0 H0 := by
  refine ⟨fun φ S H i d e r _ hd => ?_, fun φ S H e r _ => ?_⟩
  · unfold signsD at hd
    rw [List.getElem?_map] at hd
    obtain ⟨k, hk, rfl⟩ := Option.map_eq_some_iff.mp hd
    have hk' : x.cps[i]? = some k := by simpa using hk
    refine ⟨(Array.getElem?_eq_some_iff.mp hk').1, fun v H' hy => ?_⟩
    obtain ⟨rfl, k2, h2, rfl⟩ := hy
    rw [hk'] at h2
    cases h2
    exact ⟨Ext.refl r.nd, r, rep_str⟩
  · show x.cps.size ≤ (signsD x).length
    simp [signsD]
end
section
variable {X : Cx} {c : Cl} {W : WX} {tg e e2 : Expr} {me : ME} {ml : ML} {p pos : Pos}
/-- over a tuple, a text, a list of the store: by its kind -/
def iT (a : ME) : MI := fun ρ S => (a ρ S).bind fun d S1 => match d with
  | .tup l => .ok (l, noG) S1
  | _ => .no
def iS (a : ME) : MI := fun ρ S => (a ρ S).bind fun d S1 => match d with
  | .str x => .ok (signsD x, noG) S1
  | _ => .no
def iL (a : ME) : MI := fun ρ S => (a ρ S).bind fun d S1 => match srcOf S1 d with
  | some x => .ok x S1
  | none => .no
def iN (a : ML) : MI := fun ρ S => (a ρ S).bind fun l S1 => .ok (l, noG) S1
theorem di_tup (h : DE X c W e me) : DI X c W tg e (iT me) := by
  obtain ⟨t, pe, h⟩ := h
  refine ⟨_, pi_tup pe, fun φ σ H ρ S Q r f p => ?_⟩
  refine h φ σ H ρ S _ r f (PostW.elim p fun d S1 φ1 H1 e1 r1 p1 => fun x hx => ?_)
  split at p1
  · obtain ⟨a, vs, rfl, s, g⟩ := hx.tup_
    exact ⟨a, rfl, ⟨vs, s⟩, PostW.here r1 p1 _ (iter_tup r1 s g)⟩
  · exact False.elim p1
theorem di_str (h : DE X c W e me) : DI X c W tg e (iS me) := by
  obtain ⟨t, pe, h⟩ := h
  refine ⟨_, pi_str pe, fun φ σ H ρ S Q r f p => ?_⟩
  refine h φ σ H ρ S _ r f (PostW.elim p fun d S1 φ1 H1 e1 r1 p1 => fun x hx => ?_)
  split at p1
  · exact ⟨_, hx.str_, PostW.here r1 p1 _ iter_str⟩
  · exact False.elim p1
theorem di_lst (h : DE X c W e me) : DI X c W tg e (iL me) := by
  obtain ⟨t, pe, h⟩ := h
  refine ⟨_, pi_list pe, fun φ σ H ρ S Q r f p => ?_⟩
  refine h φ σ H ρ S _ r f (PostW.elim p fun d S1 φ1 H1 e1 r1 p1 => fun x hx => ?_)
  split at p1
  · rename_i y hl
    obtain ⟨a, rfl, hv, hh⟩ := src_at (l := y.1) (g := y.2) r1 hx hl
    exact ⟨a, rfl, hv, PostW.here r1 p1 _ (iter_src hh)⟩
  · exact False.elim p1
/-- range -/
def iR1 (a : ML) : MI := fun ρ S => (a ρ S).bind fun ds S1 => match ds with
  | [.int j] => if -(2 ^ 62) ≤ j ∧ j < 2 ^ 62 then .ok (rangeD 0 j.toNat, noG) S1 else .no
  | _ => .no
theorem di_range1 (hg : Gl X "range") (hm : X.mg "range" = none) (h : DA X c W [e] ml) (hs : starEach [e] X.env = [(false, eval e X.env)] := by rfl) : DI X c W tg (.Call (.Name "range" p) [e] [] pos) (iR1 ml) := by
  obtain ⟨t, pe, h⟩ := h
  refine ⟨_, pi_range1 hg hm pe hs, fun φ σ H ρ S Q r f p => ?_⟩
  refine h φ σ H ρ S _ r f (PostW.elim p fun d S1 φ1 H1 e1 r1 p1 => fun vs hv => ?_)
  split at p1
  · split at p1
    · rename_i hj
      obtain ⟨v, rfl, h1⟩ := one_of hv
      rw [h1.int_]
      exact ⟨_, rfl, hj.1, hj.2, PostW.here r1 p1 _ iter_range⟩
    · exact False.elim p1
  · exact False.elim p1
end

def enumD (l : List D) : List D := (List.range l.length).map fun (i : Nat) => D.tup [.int i, l.getD i .non]
def zipD (l m : List D) : List D := (List.range (min l.length m.length)).map fun (i : Nat) => D.tup [l.getD i .non, m.getD i .non]
theorem enumD_get {l : List D} {i : Nat} {d : D} (h : (enumD l)[i]? = some d) : ∃ x, l[i]? = some x ∧ d = .tup [.int i, x] := by
  unfold enumD at h
  rw [List.getElem?_map] at h
  obtain ⟨j, hj, rfl⟩ := Option.map_eq_some_iff.mp h
  have hlt : i < l.length := by
    have := (List.getElem?_eq_some_iff.mp hj).1
    simpa using this
  have : j = i := by simpa [List.getElem?_range hlt] using hj.symm
  subst this
  exact ⟨l[j], List.getElem?_eq_getElem hlt, by rw [List.getD_eq_getElem?_getD, List.getElem?_eq_getElem hlt]; rfl⟩
theorem zipD_get {l m : List D} {i : Nat} {d : D} (h : (zipD l m)[i]? = some d) : ∃ x y, l[i]? = some x ∧ m[i]? = some y ∧ d = .tup [x, y] := by
  unfold zipD at h
  rw [List.getElem?_map] at h
  obtain ⟨j, hj, rfl⟩ := Option.map_eq_some_iff.mp h
  have hlt : i < min l.length m.length := by
    have := (List.getElem?_eq_some_iff.mp hj).1
    simpa using this
  have : j = i := by simpa [List.getElem?_range hlt] using hj.symm
  subst this
  have h1 : j < l.length := by omega
  have h2 : j < m.length := by omega
  exact ⟨l[j], m[j], List.getElem?_eq_getElem h1, List.getElem?_eq_getElem h2, by rw [List.getD_eq_getElem?_getD, List.getElem?_eq_getElem h1, List.getD_eq_getElem?_getD, List.getElem?_eq_getElem h2]; rfl⟩
theorem enumD_len (l : List D) : (enumD l).length = l.length := by simp [enumD]
theorem zipD_len (l m : List D) : (zipD l m).length = min l.length m.length := by simp [zipD]
section
variable {K : PySem.W.Frag} {c : Cl} {φ0 : List Addr} {H0 : Hp} {S0 : Sto}
def noTx (l : List D) : Bool := l.all fun d => !txD d
theorem noTx_of {l : List D} (h : ∀ d ∈ l, txD d = false) : noTx l = true := List.all_eq_true.mpr fun d hd => by rw [h d hd]; rfl
def okZ (l : List D) (g : Sto → Prop) (S : Sto) : R (List D × (Sto → Prop)) := if noTx l = true then .ok (l, g) S else .no
theorem okZ_ev {l : List D} {g : Sto → Prop} {S : Sto} (h : noTx l = true) : okZ l g S = .ok (l, g) S := if_pos h
end
section
variable {X : Cx} {c : Cl} {W : WX} {e e2 : Expr} {me me2 : ME} {ml : ML} {p pos tpos : Pos} {elts : List Expr} {kk : Nat}
end
end MM

namespace MM
open PySem PySem.Spec PyProof.Rows L2

abbrev WF : WX := fun _ _ _ _ => False
def tM (K : PySem.W.Frag) (c : Cl) (W : WX) (m : ME) : TE := fun σ H Q => ∃ φ ρ S, Rel K c φ S H ∧ FrRel K φ H σ ρ ∧ PostW K c W σ φ H (gE K Q) (m ρ S)
def tMT (K : PySem.W.Frag) (c : Cl) (W : WX) (m : MT) : TT := fun σ H Q => ∃ φ ρ S, Rel K c φ S H ∧ FrRel K φ H σ ρ ∧ PostW K c W σ φ H (gT Q) (m ρ S)
theorem DE.pe {X : Cx} {c : Cl} {W : WX} {e : Expr} {m : ME} (h : DE X c W e m) : PE X e (tM X.K c W m) := by
  obtain ⟨t, p, h⟩ := h
  exact ⟨fun pins s σ H Q I ⟨φ, ρ, S, r, f, q⟩ => p.run pins s σ H Q I (h φ σ H ρ S Q r f q)⟩
theorem DT.pt {X : Cx} {c : Cl} {W : WX} {e : Expr} {m : MT} (h : DT X c W e m) : PT X e (tMT X.K c W m) := by
  obtain ⟨t, p, h⟩ := h
  exact ⟨fun pins s σ H Q I ⟨φ, ρ, S, r, f, q⟩ => p.run pins s σ H Q I (h φ σ H ρ S Q r f q)⟩
/-- targets of a comprehension: they touch its own slots alone -/
def gMo (K : PySem.W.Frag) (m : MG) (vs : List Nat) : TG := fun v σ H Q => ∃ φ ρ d, FrRel K φ H σ ρ ∧ Rep K φ H d v ∧ (match m d ρ with
  | some ρ' => ∀ σ', FrRel K φ H σ' ρ' → wipe σ' vs = wipe σ vs → Q σ' H
  | none => False)
def DGo (X : Cx) (tg : Expr) (m : MG) (vs : List Nat) : Prop := PG X tg (gMo X.K m vs)
theorem wipe_get {σ : L2.St} {j : Nat} : ∀ {vs : List Nat}, (wipe σ vs)[j]? = if j ∈ vs then σ[j]?.map (fun _ => none) else σ[j]?
  | [] => by simp [wipe]
  | v :: vs => by
    unfold wipe
    by_cases e : v = j
    · subst e
      simp only [List.mem_cons, true_or, if_true]
      by_cases hl : v < σ.length
      · rw [List.getElem?_set_self (by rw [wipe_length]; exact hl), List.getElem?_eq_getElem hl] <;> rfl
      · rw [List.getElem?_eq_none (by rw [List.length_set, wipe_length]; omega), List.getElem?_eq_none (by omega)] <;> rfl
    · rw [List.getElem?_set_ne e, wipe_get]
      have : (j ∈ v :: vs) ↔ j ∈ vs := by simp [Ne.symm e]
      by_cases h : j ∈ vs
      · rw [if_pos h, if_pos (this.mpr h)]
      · rw [if_neg h, if_neg (fun q => h (this.mp q))]
theorem wipe_set {σ : L2.St} {vs : List Nat} {i : Nat} {x : Option V} (h : i ∈ vs) : wipe (σ.set i x) vs = wipe σ vs := by
  apply List.ext_getElem?
  intro j
  rw [wipe_get, wipe_get]
  by_cases e : i = j
  · subst e
    rw [if_pos h, if_pos h]
    by_cases hl : i < σ.length
    · rw [List.getElem?_set_self hl, List.getElem?_eq_getElem hl] <;> rfl
    · rw [List.getElem?_eq_none (by rw [List.length_set]; omega), List.getElem?_eq_none (by omega)]
  · rw [List.getElem?_set_ne e]
theorem dgo_name {X : Cx} {i : Nat} {x : Str} {pos : Pos} {vs : List Nat} (h : PG X (.Name x pos) (gName i)) (hi : i ∈ vs) : DGo X (.Name x pos) (tN i) vs :=
  ⟨fun pins s σ H v u Q I r ⟨φ, ρ, d, f, rd, q⟩ => h.run pins s σ H v u Q I r (q _ (f.set i rd) (wipe_set hi))⟩
def R.cut {α : Type} : R α → R α
  | .ok a S => .ok a S
  | _ => .no
def wipeF (ρ : Fr) (vs : List Nat) : Fr := vs.foldr (fun v r => r.set v none) ρ
theorem wipeF_length (ρ : Fr) : ∀ vs : List Nat, (wipeF ρ vs).length = ρ.length
  | [] => rfl
  | v :: vs => by
    show ((wipeF ρ vs).set v none).length = _
    rw [List.length_set, wipeF_length ρ vs]
theorem FrRel.wipe {K : PySem.W.Frag} {φ : List Addr} {H : Hp} {σ : L2.St} {ρ : Fr} (f : FrRel K φ H σ ρ) : ∀ vs : List Nat, FrRel K φ H (wipe σ vs) (wipeF ρ vs)
  | [] => f
  | v :: vs => by
    have ih := FrRel.wipe f vs
    refine ⟨by rw [wipeF_length, wipe_length, f.1], fun j d hj => ?_⟩
    have hj' : ((wipeF ρ vs).set v none)[j]? = some (some d) := hj
    by_cases e : v = j
    · subst e
      have hl : v < (wipeF ρ vs).length := by
        have := (List.getElem?_eq_some_iff.mp hj').1
        simpa using this
      rw [List.getElem?_set_self hl] at hj'
      cases hj'
    · rw [List.getElem?_set_ne e] at hj'
      obtain ⟨v', h1, h2⟩ := ih.2 j d hj'
      refine ⟨v', ?_, h2⟩
      unfold L2.wipe
      rw [List.getElem?_set_ne e]
      exact h1
open Classical in
noncomputable def lcD (g : Sto → Prop) (tg : MG) (t : MT) (m : ME) (ρ : Fr) : List D → Sto → R (List D)
  | [], S => if g S then .ok [] S else .no
  | d :: ds, S => if g S then (match tg d ρ with
    | some ρ1 => (t ρ1 S).cut.bind fun b S1 => if b = true then (m ρ1 S1).cut.bind fun y S2 => (lcD g tg t m ρ ds S2).bind fun ys S3 => .ok (y :: ys) S3 else lcD g tg t m ρ ds S1
    | none => .no) else .no
noncomputable def lComp (i : MI) (vs : List Nat) (tg : MG) (t : MT) (m : ME) : ML := fun ρ S => (i ρ S).bind fun x S1 => if x.1.length ≤ sizeLine then lcD x.2 tg t m (wipeF ρ vs) x.1 S1 else .no
def tYs : MT := fun _ S => .ok true S
section
variable {K : PySem.W.Frag} {c : Cl} {φ φ1 : List Addr} {H H1 : Hp} {S : Sto}
/-- an object that the store does not know is changed (a list) -/
theorem Rel.other (r : Rel K c φ S H) {a : Addr} {xs ys : List V} (h : H a = some (.lst xs)) (n : a ∉ φ) : Rel K c φ S (upd H a (.lst ys)) ∧ Stays K φ H φ (upd H a (.lst ys)) := by
  have st : Stays K φ H φ (upd H a (.lst ys)) := ⟨fun _ _ q => q, fun b zs q => by
    rcases q with (q | ⟨ob, q⟩) | q
    · exact .inl (.inl (by rw [upd_ne (fun e => by rw [e, h] at q; cases q)]; exact q))
    · exact .inl (.inr ⟨ob, by rw [upd_ne (fun e => by rw [e, h] at q; cases q)]; exact q⟩)
    · exact .inr q, fun b zs q => by
    obtain ⟨n, o, q⟩ := q
    exact ⟨n, o, by rw [upd_ne (fun e => by rw [e, h] at q; cases q)]; exact q⟩, fun b q => by
    obtain ⟨o, xs, q, hd⟩ := q
    exact ⟨o, xs, by rw [upd_ne (fun e => by rw [e, h] at q; cases q)]; exact q, hd⟩⟩
  refine ⟨⟨r.len, r.nd, fun m b o h1 h2 => (r.obj m b o h1 h2).stay st (upd_ne fun e => n (by rw [← e]; exact List.mem_of_getElem? h1))⟩, st⟩
theorem Ext.other (e : Ext φ1 H1 φ H) {a : Addr} {u : HO} (h : H1 a = none) : Ext φ1 H1 φ (upd H a u) :=
  ⟨e.more, e.nd, fun b o hb nb => by rw [upd_ne (ne_of_none hb h)]; exact e.keep b o hb nb, fun b ob u hb => by rw [upd_ne (ne_of_none hb h)]; exact e.frz b ob u hb⟩
end
theorem lc_reads {X : Cx} {c : Cl} {W : WX} {mi : MI} {vs : List Nat} {tg : MG} {mt : MT} {m : ME} {ti : TI}
    (hi : ∀ φ σ H ρ S Q, Rel X.K c φ S H → FrRel X.K φ H σ ρ → PostW X.K c W σ φ H (gI X.K c Q) (mi ρ S) → ti σ H Q) :
    ∀ φ σ H ρ S Q, Rel X.K c φ S H → FrRel X.K φ H σ ρ → PostW X.K c W σ φ H (gN X.K H Q) (lComp mi vs tg mt m ρ S) → tLc ti (gMo X.K tg vs) (tMT X.K c WF mt) (tM X.K c WF m) vs σ H Q := by
  intro φ0 σ H0 ρ S0 Q r0 f0 p0
  refine hi φ0 σ H0 ρ S0 _ r0 f0 (PostW.elim p0 fun x S1 φ1 H1 e1 r1 p1 => fun J IO => ?_)
  obtain ⟨items, g⟩ := x
  dsimp only at p1 IO
  split at p1
  · rename_i hz
    intro D hD
    have fw := (f0.stay (e1.stays r0)).wipe vs
    have hD0 : H0 D = none := e1.back r1 hD
    have hDn : D ∉ φ1 := r1.free hD
    -- what is wanted of what is left of the comprehension
    let Fin : List MM.D → R (List MM.D) → Prop := fun acc r => match r with
      | .ok ys S' => ∀ φ' H' us, Ext φ1 H1 φ' H' → Rel X.K c φ' S' H' → D ∉ φ' → H' D = some (.lst us) → RepL X.K φ' H' (acc ++ ys) us → Q (.ref D) H'
      | _ => False
    have fin0 : Fin [] (lcD g tg mt m (wipeF ρ vs) items S1) := by
      cases hr : lcD g tg mt m (wipeF ρ vs) items S1 with
      | ok ys S' =>
        rw [hr] at p1
        exact fun φ' H' us e' r' n' hD' g' => p1 φ' H' e' r' D us hD0 hD' n' g'
      | ex k S' =>
        exfalso
        have : ∀ (l : List MM.D) (S : Sto) k S', lcD g tg mt m (wipeF ρ vs) l S ≠ .ex k S' := by
          intro l
          induction l with
          | nil =>
            intro S k S' q
            unfold lcD at q
            split at q <;> cases q
          | cons d ds ih =>
            intro S k S' q
            unfold lcD at q
            split at q
            · split at q
              · rename_i ρ1 _
                cases ht : (mt ρ1 S).cut with
                | no => rw [ht] at q; cases q
                | ex a b => cases h : mt ρ1 S <;> rw [h] at ht <;> cases ht
                | ok b S1 =>
                  rw [ht] at q
                  dsimp only [R.bind] at q
                  split at q
                  · cases hm : (m ρ1 S1).cut with
                    | no => rw [hm] at q; cases q
                    | ex a b => cases h : m ρ1 S1 <;> rw [h] at hm <;> cases hm
                    | ok y S2 =>
                      rw [hm] at q
                      dsimp only [R.bind] at q
                      cases hl : lcD g tg mt m (wipeF ρ vs) ds S2 with
                      | no => rw [hl] at q; cases q
                      | ok a b => rw [hl] at q; cases q
                      | ex a b => exact ih _ _ _ hl
                  · exact ih _ _ _ q
              · cases q
            · cases q
        exact this _ _ _ _ hr
      | no => rw [hr] at p1; exact p1
    obtain ⟨eD, rD⟩ := r1.fresh (u := .lst []) hD
    refine ⟨fun i m' H => m' = items.length - i ∧ i ≤ items.length ∧ ∃ φ S acc us, Ext φ1 H1 φ H ∧ Rel X.K c φ S H ∧ D ∉ φ ∧ H D = some (.lst us) ∧ RepL X.K φ H acc us ∧ us.length ≤ i ∧ Stays X.K φ1 H1 φ H ∧ Fin acc (lcD g tg mt m (wipeF ρ vs) (items.drop i) S),
      ⟨items.length, by simp, Nat.zero_le _, φ1, S1, [], [], eD, rD, hDn, upd_same, RepL.nil, Nat.le_refl _, eD.stays r1, by simpa using fin0⟩, ?_⟩
    rintro i m' H ⟨rfl, hle, φ, S, acc, us, e, r, nD, hDl, ga, hlen, st, fin⟩
    by_cases hlt : i < items.length
    · right
      rw [List.drop_eq_getElem_cons hlt] at fin
      unfold lcD at fin
      split at fin
      · rename_i hgS
        obtain ⟨hgo, hy⟩ := IO.go φ S H i _ e r hgS (List.getElem?_eq_getElem hlt)
        refine ⟨hgo, fun H' => ∃ φ' S' acc' us', Ext φ1 H1 φ' H' ∧ Rel X.K c φ' S' H' ∧ D ∉ φ' ∧ H' D = some (.lst us') ∧ RepL X.K φ' H' acc' us' ∧ us'.length ≤ i + 1 ∧ Stays X.K φ1 H1 φ' H' ∧ Fin acc' (lcD g tg mt m (wipeF ρ vs) (items.drop (i + 1)) S'), fun H' h' => ⟨items.length - (i + 1), by omega, rfl, hlt, h'⟩, fun x H' hx => ?_⟩
        obtain ⟨e2, r2, rx⟩ := hy x H' hx
        have st2 := e2.stays r
        have fw2 := (fw.stay st).stay st2
        refine ⟨φ, wipeF ρ vs, items[i], fw2, rx, ?_⟩
        cases hm : tg items[i] (wipeF ρ vs) with
        | none => rw [hm] at fin; exact fin
        | some ρ1 =>
          rw [hm] at fin
          dsimp only at fin
          intro σ1 f3 hw
          refine ⟨hw.trans (by
            apply List.ext_getElem?
            intro j
            rw [wipe_get, wipe_get]
            by_cases hj : j ∈ vs
            · simp only [hj, if_true, Option.map_map]
              rfl
            · simp [hj]), φ, ρ1, S, r2, f3, ?_⟩
          cases ht : mt ρ1 S with
          | no => rw [ht] at fin; exact fin
          | ex k S2 => rw [ht] at fin; exact fin.elim
          | ok b S2 =>
            rw [ht] at fin
            dsimp only [R.cut, R.bind] at fin
            intro φ3 H3 e3 r3
            have eA := (e.trans e2).trans e3
            have st3 := e3.stays r2
            have nD2 : D ∉ φ := nD
            have hD2 : H' D = some (.lst us) := e2.keep _ _ hDl nD
            have hD3 : H3 D = some (.lst us) := e3.keep _ _ hD2 nD
            have nD3 : D ∉ φ3 := e3.notin hD2 nD
            have ga3 := (ga.stay st2).stay st3
            have stAll : Stays X.K φ1 H1 φ3 H3 := ⟨fun n a h => st3.ix _ _ (st2.ix _ _ (st.ix _ _ h)), fun a xs h => st3.tup _ _ (st2.tup _ _ (st.tup _ _ h)), fun a xs h => st3.pul _ _ (st2.pul _ _ (st.pul _ _ h)), fun a h => st3.nod _ (st2.nod _ (st.nod _ h))⟩
            dsimp only [gT]
            split
            · rename_i hb
              rw [if_pos hb] at fin
              refine ⟨φ3, ρ1, S2, r3, f3.stay st3, ?_⟩
              cases hm2 : m ρ1 S2 with
              | no => rw [hm2] at fin; exact fin
              | ex k S4 => rw [hm2] at fin; exact fin.elim
              | ok y S4 =>
                rw [hm2] at fin
                dsimp only [R.cut, R.bind] at fin
                intro φ4 H4 e4 r4 v hv
                have st4 := e4.stays r3
                have hD4 : H4 D = some (.lst us) := e4.keep _ _ hD3 nD3
                have nD4 : D ∉ φ4 := e4.notin hD3 nD3
                refine ⟨us, hD4, by omega, ?_⟩
                obtain ⟨r5, st5⟩ := r4.other (ys := us ++ [v]) hD4 nD4
                refine ⟨φ4, S4, acc ++ [y], us ++ [v], (eA.trans e4).other hD, r5, nD4, upd_same, ((ga3.stay st4).append (RepL.cons hv RepL.nil)).stay st5, by simp; omega,
                  ⟨fun n a h => st5.ix _ _ (st4.ix _ _ (stAll.ix _ _ h)), fun a xs h => st5.tup _ _ (st4.tup _ _ (stAll.tup _ _ h)), fun a xs h => st5.pul _ _ (st4.pul _ _ (stAll.pul _ _ h)), fun a h => st5.nod _ (st4.nod _ (stAll.nod _ h))⟩, ?_⟩
                cases hl : lcD g tg mt m (wipeF ρ vs) (items.drop (i + 1)) S4 with
                | no => rw [hl] at fin; exact fin
                | ex k S5 => rw [hl] at fin; exact fin
                | ok ys S5 =>
                  rw [hl] at fin
                  intro φ' H' us' e' r' n' hD' g'
                  exact fin φ' H' us' e' r' n' hD' (by simpa using g')
            · rename_i hb
              rw [if_neg hb] at fin
              exact ⟨φ3, S2, acc, us, eA, r3, nD3, hD3, ga3, by omega, stAll, fin⟩
      · exact fin.elim
    · left
      have e' : i = items.length := by omega
      subst e'
      rw [List.drop_length] at fin
      unfold lcD at fin
      split at fin
      · rename_i hgS
        exact ⟨IO.stop φ S H e r hgS, fin φ H us e r nD hDl (by simpa using ga)⟩
      · exact fin.elim
  · exact False.elim p1
section
variable {X : Cx} {c : Cl} {W : WX} {elt tg iter : Expr} {ifs : List Expr} {scope : Scope} {own : List (Str × Nat)} {pos : Pos} {mi : MI} {mg : MG} {mt : MT} {m : ME}
theorem dn_lc (hc : X.calm = true) (hN : X.N.Nodup) (hi : DI X c W tg iter mi) (ok : BlkOk X.N X.env.scope scope own)
    (hg : ∀ (s : Shared) (H : Hp) (C : Addr) (cl : List (Str × Addr)) (fp : List Addr), DGo (X.blk s H scope (compEnvC scope cl C X.env) fp) tg mg (own.map (·.2)))
    (he : ∀ (s : Shared) (H : Hp) (C : Addr) (cl : List (Str × Addr)) (fp : List Addr), DE (X.blk s H scope (compEnvC scope cl C X.env) fp) c WF elt m) (hs : ∀ x, foldedSetIterable iter X.env x = pure x := by intro _; rfl) :
    DN X c W (.ListComp elt [⟨tg, iter, [], 0⟩] scope pos) (lComp mi (own.map (·.2)) mg tYs m) := by
  obtain ⟨ti, pi, hi⟩ := hi
  refine ⟨_, pe_lc (g := gMo X.K mg (own.map fun (p : Str × Nat) => p.2)) (tt := tMT X.K c WF tYs) (te := tM X.K c WF m) hc hN pi ok (fun s H C cl fp => hg s H C cl fp) (fun s H C cl fp => ?_) (fun s H C cl fp => (he s H C cl fp).pe) hs, lc_reads hi⟩
  exact ⟨fun pins s' σ H' Q I ⟨φ, ρ, S, r, f, q⟩ => (pts_nil).run pins s' σ H' Q I (q φ H' (Ext.refl r.nd) r)⟩
theorem dn_lcIf {d : Expr} (hc : X.calm = true) (hN : X.N.Nodup) (hi : DI X c W tg iter mi) (ok : BlkOk X.N X.env.scope scope own)
    (hg : ∀ (s : Shared) (H : Hp) (C : Addr) (cl : List (Str × Addr)) (fp : List Addr), DGo (X.blk s H scope (compEnvC scope cl C X.env) fp) tg mg (own.map (·.2)))
    (ht : ∀ (s : Shared) (H : Hp) (C : Addr) (cl : List (Str × Addr)) (fp : List Addr), DT (X.blk s H scope (compEnvC scope cl C X.env) fp) c WF d mt)
    (he : ∀ (s : Shared) (H : Hp) (C : Addr) (cl : List (Str × Addr)) (fp : List Addr), DE (X.blk s H scope (compEnvC scope cl C X.env) fp) c WF elt m) (hs : ∀ x, foldedSetIterable iter X.env x = pure x := by intro _; rfl) :
    DN X c W (.ListComp elt [⟨tg, iter, [d], 0⟩] scope pos) (lComp mi (own.map (·.2)) mg mt m) := by
  obtain ⟨ti, pi, hi⟩ := hi
  exact ⟨_, pe_lc (g := gMo X.K mg (own.map fun (p : Str × Nat) => p.2)) (tt := tMT X.K c WF mt) (te := tM X.K c WF m) hc hN pi ok (fun s H C cl fp => hg s H C cl fp) (fun s H C cl fp => pts_one (ht s H C cl fp).pt) (fun s H C cl fp => (he s H C cl fp).pe) hs, lc_reads hi⟩
end
end MM

namespace MM
open PySem PySem.Spec PyProof.Rows L2

/-- the promise: what sp tells of the arguments' data and the store -/
def spOf (K : PySem.W.Frag) (c : Cl) (n : Nat) (sp : FL) : Sp := fun vs H Q E => ∃ φ S ds, Rel K c φ S H ∧ RepL K φ H ds vs ∧ ds.length = n ∧ PostW K c (fun cls d _ H' => E cls d H') [] φ H (gE K Q) (sp ds S)
structure FnD (P : Program) (w : World) (K : PySem.W.Frag) (mg : Str → Option Value) (base : Heap) (c : Cl) (k : Nat) (f : Addr) (fd : FuncData) (ps : List Str) (sp : FL) : Prop where
  ok : FnOk P w K mg base (L2.CX P w) k f fd ps (spOf K c ps.length sp)
theorem FnD.mono {P : Program} {w : World} {K : PySem.W.Frag} {mg : Str → Option Value} {base : Heap} {c : Cl} {j k : Nat} {f : Addr} {fd : FuncData} {ps : List Str} {sp : FL} (F : FnD P w K mg base c j f fd ps sp) (h : j ≤ k) : FnD P w K mg base c k f fd ps sp := ⟨F.ok.mono h⟩
/-- W and σ do not matter but for what is raised -/
theorem PostW.wish {α : Type} {K : PySem.W.Frag} {c : Cl} {W W' : WX} {σ σ' : L2.St} {φ : List Addr} {H : Hp} {good : α → Sto → List Addr → Hp → Prop} {r : R α} (h : PostW K c W σ φ H good r) (hw : ∀ cls d H', W cls d σ H' → W' cls d σ' H') : PostW K c W' σ' φ H good r := by
  cases r with
  | ok a S => exact h
  | ex k S => exact fun φ' H' e r => hw _ _ _ (h φ' H' e r)
  | no => exact h
section
variable {X : Cx} {c : Cl} {W : WX} {k : Nat} {f : Addr} {fd : FuncData} {ps : List Str} {sp : FL} {x : Str} {p pos : Pos} {e : Expr} {es : List Expr} {ml : ML}
theorem de_call (F : FnD X.prog X.w X.K X.mg X.base c k f fd ps sp) (hr : Room k X.A) (hg : Gl X x) (hm : X.mg x = some (.ref f)) (hk : PySem.W.keepIn X.K (.ref f) = true) (hb : Binds X.K fd ps []) (tk : Takes X W)
    (ha : DA X c W (e :: es) ml) (hlen : ps.length = (e :: es).length) (hl : ∀ ρ S ds S', ml ρ S = .ok ds S' → ds.length = ps.length) (hdb : (x == ("__debug__" : Str)) = false := by decide) (he : starEach (e :: es) X.env = (false, eval e X.env) :: starEach es X.env := by rfl) (hpl : (backTo pos (starEach es X.env)).any (·.1) = false := by rfl) :
    DE X c W (.Call (.Name x p) (e :: es) [] pos) (eCall sp ml) := by
  obtain ⟨ta, pa, ha⟩ := ha
  refine ⟨_, pe_callS (E := WE W) F.ok hr hg hm hk hb (fun σ => passAt tk σ) pa hdb he hpl, fun φ σ H ρ S Q r f p => ?_⟩
  refine ha φ σ H ρ S _ r f ?_
  unfold eCall at p
  cases hq : ml ρ S with
  | no => rw [hq] at p; exact p
  | ex k S1 => rw [hq] at p; exact p
  | ok ds S1 =>
    rw [hq] at p
    intro φ1 H1 e1 r1 vs hv
    exact ⟨φ1, S1, ds, r1, hv, hl _ _ _ _ hq, (PostW.from e1 p).wish fun _ _ _ h => h⟩
end
/-- how many arguments come -/
theorem aCons_len {a : ME} {m : ML} {n : Nat} (h : ∀ ρ S ds S', m ρ S = .ok ds S' → ds.length = n) : ∀ ρ S ds S', aCons a m ρ S = .ok ds S' → ds.length = n + 1 := by
  intro ρ S ds S' e
  unfold aCons at e
  cases ha : a ρ S with
  | no => rw [ha] at e; cases e
  | ex k S1 => rw [ha] at e; cases e
  | ok d S1 =>
    rw [ha] at e
    dsimp only [R.bind] at e
    cases hm : m ρ S1 with
    | no => rw [hm] at e; cases e
    | ex k S1 => rw [hm] at e; cases e
    | ok ds' S2 =>
      rw [hm] at e
      cases e
      simp [h _ _ _ _ hm]
theorem aNil_len : ∀ ρ S ds S', aNil ρ S = .ok ds S' → ds.length = 0 := by
  intro ρ S ds S' e
  cases e
  rfl

/-- the frame at a def's entry -/
def startF (n : Nat) (ds : List D) : Fr := ds.map some ++ List.replicate (n - ds.length) none
def RS.end : RS → R D
  | .nx _ S => .ok .non S
  | .rt d S => .ok d S
  | .ex k _ S => .ex k S
  | _ => .no
def body (n : Nat) (m : MS) : FL := fun ds S => (m (startF n ds) S).end
theorem start_rel {K : PySem.W.Frag} {φ : List Addr} {H : Hp} {N : List Str} {ds : List D} {vs : List V} (h : RepL K φ H ds vs) : FrRel K φ H (L2.start N vs) (startF N.length ds) := by
  have e := h.length
  refine ⟨by simp [L2.start, startF, e], fun i d hi => ?_⟩
  unfold startF at hi
  by_cases hl : i < ds.length
  · rw [List.getElem?_append_left (by simpa using hl), List.getElem?_map] at hi
    obtain ⟨d', h1, h2⟩ := Option.map_eq_some_iff.mp hi
    cases h2
    obtain ⟨v, h3, h4⟩ := h.get h1
    refine ⟨v, ?_, h4⟩
    unfold L2.start
    rw [List.getElem?_append_left (by simp; omega), List.getElem?_map, h3] <;> rfl
  · rw [List.getElem?_append_right (by simp; omega)] at hi
    have := List.mem_of_getElem? hi
    rw [List.mem_replicate] at this
    cases this.2
theorem fnD_of {P : Program} {w : World} {K : PySem.W.Frag} {mg : Str → Option Value} {base : Heap} {c : Cl} {x qual : Str} {st : Stmt} {f : Addr} {fd : FuncData} {N ps : List Str} {k : Nat} {m : MS} (F : Fun K x qual st f fd) (S : FnScope N ps (defScope st))
    (hbody : ∀ (cdv : Value) (A : Around) (outer : List Env) (s : Shared) (H : Hp) (E : XK), Room k (A.deeper (envOfC qual (defScope st) s.heap.objs.size f cdv)) →
      Takes (cxOf (L2.CX P w) P w K mg base N qual (defScope st) f cdv A outer s H E) (fun cls d _ H' => E cls d H') → PassesOwn (model P w) (A.deeper (envOfC qual (defScope st) s.heap.objs.size f cdv)) (envOfC qual (defScope st) s.heap.objs.size f cdv) (cxOf (L2.CX P w) P w K mg base N qual (defScope st) f cdv A outer s H E).xe →
      DSs (cxOf (L2.CX P w) P w K mg base N qual (defScope st) f cdv A outer s H E) c (fun cls d _ H' => E cls d H') (defBody st) m) : FnD P w K mg base c (k + 1) f fd ps (body N.length m) := by
  refine ⟨F.okX S (fun vs H Q E h => ?_) (fun cdv A outer s H vs Q E hr h => ?_)⟩
  · obtain ⟨φ, S, ds, r, hv, hl, _⟩ := h
    rw [← hv.length, hl]
  · obtain ⟨φ, S', ds, r, hv, hl, p⟩ := h
    obtain ⟨t, pt, ht⟩ := hbody cdv A outer s H E hr (takes_of rfl rfl rfl rfl) (passes_of (X := cxOf (L2.CX P w) P w K mg base N qual (defScope st) f cdv A outer s H E) rfl)
    refine ⟨t, pt, ht φ _ H (startF N.length ds) S' _ r (start_rel hv) ?_⟩
    unfold body at p
    cases hm : m (startF N.length ds) S' with
    | nx ρ S1 => rw [hm] at p; exact fun φ' H' σ' e' r' f' => p φ' H' e' r' _ rep_non
    | rt d S1 => rw [hm] at p; exact fun φ' H' v e' r' rv => p φ' H' e' r' _ rv
    | ex k ρ S1 => rw [hm] at p; exact fun φ' H' σ' e' r' f' => p φ' H' e' r'
    | bk ρ S1 => rw [hm] at p; exact False.elim p
    | ct ρ S1 => rw [hm] at p; exact False.elim p
    | no => rw [hm] at p; exact False.elim p

mutual
/-- all addresses within lie below n -/
def bdD (n : Nat) : D → Prop
  | .ref m => m < n
  | .tup l => bdL n l
  | .non => True
  | .bl _ => True
  | .int _ => True
  | .str _ => True
  | .scr _ => True
  | .pl l => bdL n l
def bdL (n : Nat) : List D → Prop
  | [] => True
  | d :: ds => bdD n d ∧ bdL n ds
end
def bdKV {κ : Type} (n : Nat) : List (κ × D) → Prop
  | [] => True
  | d :: ds => bdD n d.2 ∧ bdKV n ds
def bdO (n : Nat) : O → Prop
  | .lst _ l => bdL n l
  | .dct _ l => bdKV n l
  | .ins _ l => bdKV n l
def Closed (S : Sto) : Prop := ∀ o ∈ S, bdO S.length o
mutual
theorem Rep.lt {K : PySem.W.Frag} {φ : List Addr} {H : Hp} : ∀ (d : D) (v : V), Rep K φ H d v → bdD φ.length d
  | .non, _, _ => by unfold bdD; trivial
  | .bl _, _, _ => by unfold bdD; trivial
  | .int _, _, _ => by unfold bdD; trivial
  | .str _, _, _ => by unfold bdD; trivial
  | .scr _, _, _ => by unfold bdD; trivial
  | .pl l, v, h => by
    unfold bdD
    obtain ⟨a, vs, rfl, s, g⟩ := h.pl_
    exact RepL.lt l vs g
  | .ref n, v, h => by
    unfold bdD
    obtain ⟨a, h, _⟩ := h.ref_
    exact (List.getElem?_eq_some_iff.mp h).1
  | .tup l, v, h => by
    unfold bdD
    obtain ⟨a, vs, rfl, s, g⟩ := h.tup_
    exact RepL.lt l vs g
theorem RepL.lt {K : PySem.W.Frag} {φ : List Addr} {H : Hp} : ∀ (d : List D) (v : List V), RepL K φ H d v → bdL φ.length d
  | [], _, _ => by unfold bdL; trivial
  | d :: ds, vs, h => by
    obtain ⟨v, r, rfl, h1, h2⟩ := h.uncons
    unfold bdL
    exact ⟨Rep.lt d v h1, RepL.lt ds r h2⟩
end
theorem RepKV.lt {κ : Type} {K : PySem.W.Frag} {φ : List Addr} {H : Hp} : ∀ (d : List (κ × D)) (v : List (κ × V)), RepKV K φ H d v → bdKV φ.length d
  | [], _, _ => by unfold bdKV; trivial
  | d :: ds, vs, h => by
    unfold RepKV at h
    obtain ⟨v, r, rfl, h1, h2⟩ := h
    unfold bdKV
    exact ⟨Rep.lt d.2 v h1, RepKV.lt ds r h2⟩
theorem RepO.lt {K : PySem.W.Frag} {c : Cl} {φ : List Addr} {H : Hp} {a : Addr} : ∀ (o : O), RepO K c φ H a o → bdO φ.length o
  | .lst _ l, ⟨vs, g, _⟩ => g.lt
  | .dct _ l, ⟨vs, g, _⟩ => RepKV.lt l vs g
  | .ins _ l, ⟨_, vs, g, _⟩ => RepKV.lt l vs g
theorem Rel.closed {K : PySem.W.Frag} {c : Cl} {φ : List Addr} {S : Sto} {H : Hp} (r : Rel K c φ S H) : Closed S := fun o ho => by
  obtain ⟨n, hn, e⟩ := List.getElem_of_mem ho
  have h1 : S[n]? = some o := by rw [List.getElem?_eq_getElem hn, e]
  have h2 : n < φ.length := by rw [r.len]; exact hn
  have := (r.obj n _ o (List.getElem?_eq_getElem h2) h1).lt
  rw [r.len] at this
  exact this
/-- fewer addresses -/
structure Fewer (K : PySem.W.Frag) (φ' φ : List Addr) (H : Hp) : Prop where
  ix : ∀ (n : Nat) a, n < φ.length → φ'[n]? = some a → φ[n]? = some a
  sub : ∀ a, a ∈ φ → a ∈ φ'
mutual
theorem Rep.fewer {K : PySem.W.Frag} {φ φ' : List Addr} {H : Hp} (w : Fewer K φ' φ H) : ∀ (d : D) (v : V), bdD φ.length d → Rep K φ' H d v → Rep K φ H d v
  | .non, _, _, h => by unfold Rep at h ⊢; exact h
  | .bl _, _, _, h => by unfold Rep at h ⊢; exact h
  | .int _, _, _, h => by unfold Rep at h ⊢; exact h
  | .str _, _, _, h => by unfold Rep at h ⊢; exact h
  | .scr _, _, _, h => by
    obtain ⟨a, rfl, z⟩ := h.scr_
    unfold Rep
    refine ⟨a, rfl, ?_⟩
    rcases z with ⟨n, z⟩ | z
    · exact .inl ⟨fun q => n (w.sub _ q), z⟩
    · exact .inr z
  | .ref n, _, e, h => by
    unfold bdD at e
    obtain ⟨a, z, rfl⟩ := h.ref_
    exact rep_ref (w.ix n a e z)
  | .tup l, v, e, h => by
    unfold bdD at e
    obtain ⟨a, vs, rfl, s, g⟩ := h.tup_
    exact rep_tup s (RepL.fewer w l vs e g) h.nod
  | .pl l, v, e, h => by
    unfold bdD at e
    obtain ⟨a, vs, rfl, s, g⟩ := h.pl_
    exact rep_pl ⟨fun q => s.1 (w.sub _ q), s.2⟩ (RepL.fewer w l vs e g)
theorem RepL.fewer {K : PySem.W.Frag} {φ φ' : List Addr} {H : Hp} (w : Fewer K φ' φ H) : ∀ (d : List D) (v : List V), bdL φ.length d → RepL K φ' H d v → RepL K φ H d v
  | [], _, _, h => by rw [h.isNil]; exact RepL.nil
  | d :: ds, vs, e, h => by
    unfold bdL at e
    obtain ⟨v, r, rfl, h1, h2⟩ := h.uncons
    exact RepL.cons (Rep.fewer w d v e.1 h1) (RepL.fewer w ds r e.2 h2)
end
theorem RepKV.fewer {κ : Type} {K : PySem.W.Frag} {φ φ' : List Addr} {H : Hp} (w : Fewer K φ' φ H) : ∀ (d : List (κ × D)) (v : List (κ × V)), bdKV φ.length d → RepKV K φ' H d v → RepKV K φ H d v
  | [], _, _, h => h
  | d :: ds, vs, e, h => by
    unfold RepKV at h ⊢
    unfold bdKV at e
    obtain ⟨v, r, rfl, h1, h2⟩ := h
    exact ⟨v, r, rfl, Rep.fewer w d.2 v e.1 h1, RepKV.fewer w ds r e.2 h2⟩
theorem RepO.fewer {K : PySem.W.Frag} {c : Cl} {φ φ' : List Addr} {H : Hp} {a : Addr} (w : Fewer K φ' φ H) : ∀ (o : O), bdO φ.length o → RepO K c φ' H a o → RepO K c φ H a o
  | .lst _ l, e, ⟨vs, g, h⟩ => ⟨vs, g.fewer w _ _ e, h⟩
  | .dct _ l, e, ⟨vs, g, h⟩ => ⟨vs, RepKV.fewer w _ _ e g, h⟩
  | .ins _ l, e, ⟨dx, vs, g, h⟩ => ⟨dx, vs, RepKV.fewer w _ _ e g, h⟩
/-- the tail of the store is forgotten -/
theorem Rel.forget {K : PySem.W.Frag} {c : Cl} {φ φ' : List Addr} {H H' : Hp} {S S' T : Sto} (r : Rel K c φ S H) (e : Ext φ H φ' H') (r' : Rel K c φ' (S' ++ T) H') (hl : S.length ≤ S'.length) (hc : Closed S') :
    Ext φ H (φ'.take S'.length) H' ∧ Rel K c (φ'.take S'.length) S' H' ∧ Fewer K φ' (φ'.take S'.length) H' := by
  have hlen : φ'.length = S'.length + T.length := by rw [r'.len, List.length_append]
  have hlen' : (φ'.take S'.length).length = S'.length := by rw [List.length_take]; omega
  have nd : (φ'.take S'.length).Nodup := r'.nd.sublist (List.take_sublist _ _)
  have w : Fewer K φ' (φ'.take S'.length) H' := ⟨fun n a h q => by rw [List.getElem?_take_of_lt (by omega)]; exact q, fun a h => List.mem_of_mem_take h⟩
  obtain ⟨ψ, hψ, hn⟩ := e.more
  refine ⟨⟨⟨ψ.take (S'.length - φ.length), ?_, fun a h => hn a (List.mem_of_mem_take h)⟩, nd, e.keep, e.frz⟩, ⟨hlen', nd, fun n a o h1 h2 => ?_⟩, w⟩
  · rw [hψ, List.take_append, List.take_of_length_le (by rw [r.len]; exact hl)]
  · have hlt : n < S'.length := (List.getElem?_eq_some_iff.mp h2).1
    have h1' : φ'[n]? = some a := by rw [List.getElem?_take_of_lt hlt] at h1; exact h1
    refine (r'.obj n a o h1' (by rw [List.getElem?_append_left hlt]; exact h2)).fewer w _ ?_
    rw [hlen']
    exact hc o (List.mem_of_getElem? h2)
/-- sp tells what sp' tells, up to what is thrown away -/
def Refines (sp sp' : FL) : Prop := ∀ ds S, Closed S → bdL S.length ds → match sp' ds S with
  | .ok d S' => ∃ T, sp ds S = .ok d (S' ++ T) ∧ bdD S'.length d ∧ S.length ≤ S'.length ∧ Closed S'
  | .ex k S' => ∃ T, sp ds S = .ex k (S' ++ T) ∧ S.length ≤ S'.length ∧ Closed S'
  | .no => True
theorem FnD.imp {P : Program} {w : World} {K : PySem.W.Frag} {mg : Str → Option Value} {base : Heap} {c : Cl} {k : Nat} {f : Addr} {fd : FuncData} {ps : List Str} {sp sp' : FL} (F : FnD P w K mg base c k f fd ps sp) (h : Refines sp sp') : FnD P w K mg base c k f fd ps sp' := by
  refine ⟨F.ok.imp fun vs H Q E q => ?_⟩
  obtain ⟨φ, S, ds, r, g, hl, p⟩ := q
  refine ⟨φ, S, ds, r, g, hl, ?_⟩
  have hh := h ds S r.closed (by rw [← r.len]; exact g.lt)
  cases hs : sp' ds S with
  | no => rw [hs] at p; exact False.elim p
  | ok d S' =>
    rw [hs] at p hh
    obtain ⟨T, e, hd, h1, h2⟩ := hh
    rw [e]
    intro φ' H' e' r' v hv
    obtain ⟨e2, r2, w2⟩ := r.forget e' r' h1 h2
    exact p _ _ e2 r2 v (hv.fewer w2 _ _ (by rw [r2.len]; exact hd))
  | ex k S' =>
    rw [hs] at p hh
    obtain ⟨T, e, h1, h2⟩ := hh
    rw [e]
    intro φ' H' e' r'
    obtain ⟨e2, r2, w2⟩ := r.forget e' r' h1 h2
    exact p _ _ e2 r2

mutual
def mapR (g : Nat → Option D) : D → Option D
  | .ref n => g n
  | .tup l => (mapRL g l).map .tup
  | .pl l => (mapRL g l).map .pl
  | .non => some .non
  | .bl b => some (.bl b)
  | .int i => some (.int i)
  | .str x => some (.str x)
  | .scr ns => some (.scr ns)
def mapRL (g : Nat → Option D) : List D → Option (List D)
  | [] => some []
  | d :: ds => match mapR g d, mapRL g ds with
    | some a, some b => some (a :: b)
    | _, _ => none
end
def Kept (S A : Sto) : Prop := ∀ (n : Nat) o, A[n]? = some o → S[n]? = some o ∨ bdO S.length o
theorem sts_of {K : PySem.W.Frag} {φ φ' : List Addr} {H H' : Hp} : ∀ {l l' : List D} {vs : List V}, l'.all isSt = true → RepL K φ' H' l' vs → RepL K φ H l vs → l.all isSt = true
  | [], _, _, _, _, _ => rfl
  | d :: l, l', vs, h, r', r => by
    obtain ⟨v, vr, rfl, h1, h2⟩ := r.uncons
    cases l' with
    | nil => have := r'.isNil; cases this
    | cons d' l' =>
      obtain ⟨w, wr, e, g1, g2⟩ := r'.uncons
      cases e
      rw [List.all_cons, Bool.and_eq_true] at h
      have e2 := sts_of h.2 g2 h2
      cases d' <;> first | (cases h.1; done) | skip
      have ev := g1.str_
      subst ev
      have ed : isSt d = true := by
        cases d <;> unfold Rep at h1
        · cases h1
        · cases h1
        · cases h1
        · rfl
        · obtain ⟨_, _, q, _⟩ := h1; cases q
        · obtain ⟨_, _, q⟩ := h1; cases q
        · obtain ⟨_, q, _⟩ := h1; cases q
        · obtain ⟨_, _, q, _⟩ := h1; cases q
      rw [List.all_cons, ed, e2]; rfl
theorem tx_of {K : PySem.W.Frag} {φ φ' : List Addr} {H H' : Hp} {l l' : List D} {vs : List V} (h : isTx l' = true) (r' : RepL K φ' H' l' vs) (r : RepL K φ H l vs) : isTx l = true := by
  unfold isTx at h ⊢
  rw [Bool.and_eq_true] at h ⊢
  refine ⟨?_, sts_of h.2 r' r⟩
  have e1 := r'.length
  have e2 := r.length
  cases l with
  | nil =>
    have : l' = [] := List.eq_nil_of_length_eq_zero (by rw [e1, ← e2]; rfl)
    rw [this] at h
    exact h.1
  | cons a l => rfl
section
variable {K : PySem.W.Frag} {c : Cl} {φ φ' : List Addr} {H H' H2 : Hp} {S A T : Sto} {as : List Addr}
/-- what is locked: the new lists -/
structure Locks (K : PySem.W.Frag) (c : Cl) (φ' : List Addr) (A T : Sto) (H' : Hp) (as : List Addr) (H2 : Hp) : Prop where
  rel : Rel K c φ' (A ++ T) H'
  by_ : FrzBy as H' H2
  mem : ∀ a, a ∈ as ↔ ∃ n l, A.length ≤ n ∧ φ'[n]? = some a ∧ (A ++ T)[n]? = some (.lst false l)
theorem Locks.other (L : Locks K c φ' A T H' as H2) {a : Addr} {u : HO} (h : H' a = some u) (hu : ∀ vs, u ≠ .lst vs) : H2 a = some u := by
  rw [L.by_.1 a fun q => ?_, h]
  obtain ⟨_, vs, e, _⟩ := L.by_.2 a q
  rw [h] at e
  exact hu vs (Option.some.inj e)
theorem Locks.stays (L : Locks K c φ' A T H' as H2) : Stays K φ' H' φ' H2 := ⟨fun _ _ h => h, fun a xs h => by
  rcases h with (h | ⟨o, h⟩) | h
  · exact .inl (.inl (L.other h (fun _ z => nomatch z)))
  · exact .inl (.inr ⟨o, L.other h (fun _ z => nomatch z)⟩)
  · exact .inr h, fun a xs h => ⟨h.1, h.2.choose, L.other h.2.choose_spec (fun _ z => nomatch z)⟩, fun a h => by
  obtain ⟨o, xs, h, hd⟩ := h
  exact ⟨o, xs, L.other h (fun _ z => nomatch z), hd⟩⟩
theorem Locks.take (L : Locks K c φ' A T H' as H2) : (φ'.take A.length).length = A.length := by
  have := L.rel.len
  rw [List.length_append] at this
  rw [List.length_take]; omega
theorem Locks.notin (L : Locks K c φ' A T H' as H2) {n : Nat} {a : Addr} (h : φ'[n]? = some a) (hn : A.length ≤ n) : a ∉ φ'.take A.length := fun q => by
  obtain ⟨m, hm, e⟩ := List.getElem_of_mem q
  have hm' : m < A.length := by rw [L.take] at hm; exact hm
  have e2 : φ'[m]? = some a := by rw [← List.getElem?_take_of_lt hm', List.getElem?_eq_getElem hm, e]
  exact nodup_ne L.rel.nd h e2 (by omega) rfl
mutual
theorem Locks.map (L : Locks K c φ' A T H' as H2) {g : Nat → Option D} (hg : ∀ n d a, g n = some d → φ'[n]? = some a → Rep K (φ'.take A.length) H2 d (.ref a)) : ∀ (d : D) (v : V) (d' : D), Rep K φ' H' d v → mapR g d = some d' → Rep K (φ'.take A.length) H2 d' v
  | .non, v, d', h, e => by unfold mapR at e; cases e; unfold Rep at h ⊢; exact h
  | .bl _, v, d', h, e => by unfold mapR at e; cases e; unfold Rep at h ⊢; exact h
  | .int _, v, d', h, e => by unfold mapR at e; cases e; unfold Rep at h ⊢; exact h
  | .str _, v, d', h, e => by unfold mapR at e; cases e; unfold Rep at h ⊢; exact h
  | .scr _, v, d', h, e => by
    unfold mapR at e
    cases e
    obtain ⟨a, rfl, z⟩ := h.scr_
    unfold Rep
    refine ⟨a, rfl, ?_⟩
    rcases z with ⟨n, o, z⟩ | z
    · exact .inl ⟨fun q => n (List.mem_of_mem_take q), o, L.other z (fun _ z => nomatch z)⟩
    · exact .inr z
  | .ref n, v, d', h, e => by
    unfold mapR at e
    obtain ⟨a, z, rfl⟩ := h.ref_
    exact hg n d' a e z
  | .tup l, v, d', h, e => by
    unfold mapR at e
    obtain ⟨l', e1, rfl⟩ := Option.map_eq_some_iff.mp e
    obtain ⟨a, vs, rfl, s, gg⟩ := h.tup_
    exact rep_tup (L.stays.tup _ _ s) (Locks.mapL L hg l vs l' gg e1) fun q => L.stays.nod _ (h.nod (tx_of q (Locks.mapL L hg l vs l' gg e1) gg))
  | .pl l, v, d', h, e => by
    unfold mapR at e
    obtain ⟨l', e1, rfl⟩ := Option.map_eq_some_iff.mp e
    obtain ⟨a, vs, rfl, s, gg⟩ := h.pl_
    exact rep_pl ⟨fun q => s.1 (List.mem_of_mem_take q), (L.stays.pul _ _ s).2⟩ (Locks.mapL L hg l vs l' gg e1)
theorem Locks.mapL (L : Locks K c φ' A T H' as H2) {g : Nat → Option D} (hg : ∀ n d a, g n = some d → φ'[n]? = some a → Rep K (φ'.take A.length) H2 d (.ref a)) : ∀ (d : List D) (v : List V) (d' : List D), RepL K φ' H' d v → mapRL g d = some d' → RepL K (φ'.take A.length) H2 d' v
  | [], v, d', h, e => by unfold mapRL at e; cases e; rw [h.isNil]; exact RepL.nil
  | d :: ds, v, d', h, e => by
    unfold mapRL at e
    obtain ⟨x, r, rfl, h1, h2⟩ := h.uncons
    split at e
    · rename_i a b e1 e2
      cases e
      exact RepL.cons (Locks.map L hg d x a h1 e1) (Locks.mapL L hg ds r b h2 e2)
    · cases e
end
theorem Locks.ext {φ : List Addr} (L : Locks K c φ' A T H' as H2) (e : Ext φ H φ' H') (hl : φ.length = A.length) : φ'.take A.length = φ ∧ Ext φ H φ H2 := by
  obtain ⟨ψ, e1, e2⟩ := e.more
  have ht : φ'.take A.length = φ := by rw [e1, ← hl, List.take_left]
  refine ⟨ht, ⟨⟨[], by simp, by simp⟩, by rw [← ht]; exact L.rel.nd.sublist (List.take_sublist _ _), fun a o h n => ?_, fun a ob u h => ?_⟩⟩
  · have q := e.keep a o h n
    rw [L.by_.1 a fun z => ?_, q]
    obtain ⟨m, l, hm, e3, _⟩ := (L.mem a).mp z
    rw [e1, List.getElem?_append_right (by omega)] at e3
    rw [e2 a (List.mem_of_getElem? e3)] at h
    cases h
  · have q := e.frz a ob u h
    rw [L.by_.1 a fun z => ?_, q]
    obtain ⟨m, l, hm, e3, _⟩ := (L.mem a).mp z
    rw [e1, List.getElem?_append_right (by omega)] at e3
    rw [e2 a (List.mem_of_getElem? e3)] at h
    cases h
end
section
variable {X : Cx} {c : Cl} {W : WX} {k : Nat} {f : Addr} {fd : FuncData} {ps : List Str} {sp : FL} {x : Str} {p pos : Pos} {e : Expr} {es : List Expr} {ml : ML}
end
def spLaw (K : PySem.W.Frag) : Sp := fun vs H Q _ => ∃ (a : Addr) (ns : List Int), vs = [.ref a] ∧ Only H ∧ SqL K H a (ns.map V.int) ∧ ns.length ≤ 63 ∧ ∀ H', Q (.bl true) H'
theorem law_end {P : Program} {w : World} {K : PySem.W.Frag} {mg : Str → Option Value} {base : Heap} {c : Cl} {k : Nat} {f : Addr} {fd : FuncData} {x : Str} {sp : FL} (F : FnD P w K mg base c k f fd [x] sp)
    (h : ∀ ns : List Int, ns.length ≤ 63 → ∃ S, sp [.scr ns] [] = .ok (.bl true) S) : FnOk P w K mg base (L2.CX P w) k f fd [x] (spLaw K) := by
  refine F.ok.imp fun vs H Q E q => ?_
  obtain ⟨a, ns, rfl, hO, s, hl, q⟩ := q
  obtain ⟨S, e⟩ := h ns hl
  refine ⟨[], [], [.scr ns], ⟨rfl, List.nodup_nil, fun n a o h => by simp at h⟩, ?_, rfl, ?_⟩
  · refine RepL.cons ?_ RepL.nil
    unfold Rep
    refine ⟨a, rfl, ?_⟩
    rcases s with (s | s) | s
    · rcases hO a with z | ⟨o, xs, z⟩
      · rw [z] at s; cases s
      · rw [z] at s; cases s
    · exact .inl ⟨by simp, s⟩
    · exact .inr s
  · rw [e]
    intro φ' H' e' r' v hv
    rw [hv.bl_]
    exact q H'
end MM

namespace MM
open PySem PySem.Spec PyProof.Rows L2

theorem pi_or {X : Cx} {tg iter : Expr} {t u : TI} (h : PI X tg iter t) (h' : PI X tg iter u) : PI X tg iter (fun σ H R => t σ H R ∨ u σ H R) :=
  ⟨fun pins s σ H R I q => q.elim (fun q => h.run pins s σ H R I q) fun q => h'.run pins s σ H R I q⟩
/-- by what the mirror tells: the one, else the other -/
theorem di_or {X : Cx} {c : Cl} {W : WX} {tg iter : Expr} {m m1 m2 : MI} (h1 : DI X c W tg iter m1) (h2 : DI X c W tg iter m2) (h : ∀ ρ S, m ρ S = m1 ρ S ∨ m ρ S = m2 ρ S) : DI X c W tg iter m := by
  obtain ⟨t1, p1, h1⟩ := h1
  obtain ⟨t2, p2, h2⟩ := h2
  refine ⟨_, pi_or p1 p2, fun φ σ H ρ S Q r f p => ?_⟩
  rcases h ρ S with e | e
  · rw [e] at p
    exact .inl (h1 φ σ H ρ S Q r f p)
  · rw [e] at p
    exact .inr (h2 φ σ H ρ S Q r f p)
/-- over a tuple, a text, or a list -/
def iA (a : ME) : MI := fun ρ S => (a ρ S).bind fun d S1 => match d with
  | .tup l => .ok (l, noG) S1
  | .str x => .ok (signsD x, noG) S1
  | d => match srcOf S1 d with
    | some x => .ok x S1
    | none => .no
theorem di_any {X : Cx} {c : Cl} {W : WX} {tg e : Expr} {me : ME} (h : DE X c W e me) : DI X c W tg e (iA me) := by
  refine di_or (m1 := iT me) (m2 := fun ρ S => match iS me ρ S with | .no => iL me ρ S | r => r) (di_tup h) (di_or (di_str h) (di_lst h) fun ρ S => ?_) fun ρ S => ?_
  · cases iS me ρ S <;> simp
  · unfold iA iT iS iL
    cases me ρ S with
    | no => exact .inl rfl
    | ex k S1 => exact .inl rfl
    | ok d S1 => cases d <;> first | exact .inl rfl | exact .inr rfl
/-- enumerate of a tuple or a list -/
def iEA (a : ME) : MI := fun ρ S => (a ρ S).bind fun d S1 => match d with
  | .tup l => .ok (enumD l, noG) S1
  | d => match srcOf S1 d with
    | some x => .ok (enumD x.1, x.2) S1
    | none => .no
/-- zip of two tuples or two lists -/
def iZA (a b : ME) : MI := fun ρ S => (a ρ S).bind fun d S1 => (b ρ S1).bind fun d2 S2 => match d, d2 with
  | .tup l, .tup m => okZ (zipD l m) noG S2
  | d, d2 => match srcOf S2 d, srcOf S2 d2 with
    | some x, some y => okZ (zipD x.1 y.1) (fun S => x.2 S ∧ y.2 S) S2
    | _, _ => .no
/-- tuple(x), x a tuple or a list -/
def tupleA : FL
  | [.tup l], S => .ok (.tup l) S
  | [d], S => match lstOf S d with
    | some l => .ok (.tup l) S
    | _ => .no
  | _, _ => .no
section
variable {X : Cx} {c : Cl} {W : WX} {e e2 : Expr} {me me2 : ME} {ml : ML} {p pos : Pos} {x : Str}
/-- list(range(n)), list(range(a, b)) -/
def lR1 (a : ME) : ML := fun ρ S => (a ρ S).bind fun d S1 => match d with
  | .int n => if n ≤ 16777216 ∧ -(2 ^ 62) ≤ n then .ok (rangeD 0 n.toNat) S1 else .no
  | _ => .no
theorem rep_range {K : PySem.W.Frag} {φ : List Addr} {H : Hp} {a b : Int} : RepL K φ H (rangeD a (b - a).toNat) (rgV a b) := by
  unfold rangeD rgV
  induction List.range (b - a).toNat with
  | nil => exact RepL.nil
  | cons i r ih => exact RepL.cons rep_int ih
theorem dn_range1 {p2 pos2 : Pos} (hc : X.calm = true) (hg : Gl X "list") (hm : X.mg "list" = none) (hg2 : Gl X "range") (hm2 : X.mg "range" = none) (ha : DE X c W e me)
    (hs : starEach [e] X.env = (false, eval e X.env) :: starEach [] X.env := by rfl) (hs2 : starEach [.Call (.Name "range" p2) [e] [] pos2] X.env = (false, eval (.Call (.Name "range" p2) [e] [] pos2) X.env) :: starEach [] X.env := by rfl) :
    DN X c W (.Call (.Name "list" p) [.Call (.Name "range" p2) [e] [] pos2] [] pos) (lR1 me) := by
  obtain ⟨ta, pa, ha⟩ := ha
  refine ⟨_, pe_listRg hc hg hm (prg_1 hg2 hm2 pa hs) hs2, fun φ σ H ρ S Q r f p => ?_⟩
  refine ha φ σ H ρ S _ r f (PostW.elim p fun d S1 φ1 H1 e1 r1 p1 => fun x hx => ?_)
  split at p1
  · split at p1
    · rename_i n hn
      refine ⟨n, hx.int_, ⟨by omega, by omega, by omega, by omega, by omega⟩, fun q hq => ?_⟩
      obtain ⟨e2, r2⟩ := r1.fresh (u := .lst (rgV 0 n)) hq
      have g : RepL X.K φ1 (upd H1 q (.lst (rgV 0 n))) (rangeD 0 n.toNat) (rgV 0 n) := by
        have := rep_range (K := X.K) (φ := φ1) (H := upd H1 q (.lst (rgV 0 n))) (a := 0) (b := n)
        rwa [Int.sub_zero] at this
      exact p1 φ1 _ e2 r2 q _ (e1.back r1 hq) upd_same (r1.free hq) g
    · exact False.elim p1
  · exact False.elim p1
/-- a constant of the module -/
theorem de_gint {i : Int} (hg : Gl X x) (h : ∃ t, X.mg x = some (.int i t)) (hd : (x == ("__debug__" : Str)) = false := by decide) : DE X c W (.Name x pos) (eC (.int i)) := by
  obtain ⟨t, h⟩ := h
  exact de_c (pe_glob (v := .int i) hg h ⟨t, rfl⟩ hd) fun _ _ => rep_int
end

def Def (K : PySem.W.Frag) (mg : Str → Option Value) (x : Str) (ps : List Str) (st : Stmt) : Prop := ∃ f fd, Fun K x x st f fd ∧ Binds K fd ps [] ∧ mg x = some (.ref f)
theorem def_mk {K : PySem.W.Frag} {h : Heap} {mg : Str → Option Value} {x : Str} {ps : List Str} {st : Stmt} {f : Addr} {oc : Value} {od an : Option Addr} {osl : Array (Option Value)} {kV doc pm cdv ct : Value} (X : K.In h) (G : h.Ns mainGlobals mg)
    (a : PySem.W.nsIn K mainGlobals x = some (some (.ref f))) (l : K.lookup f = some ⟨oc, od, .func (PySem.W.fnOf x x (defArgs st) (defBody st) (defScope st) .none kV doc pm an cdv ct), osl⟩)
    (c : PySem.W.codeIn K cdv x = true) (k : PySem.W.keepIn K (.ref f) = true)
    (b : ∀ (kV doc pm : Value) (an : Option Addr) (cdv ct : Value) (us : List Value), us.length = ps.length → bindArgs (PySem.W.fnOf x x (defArgs st) (defBody st) (defScope st) .none kV doc pm an cdv ct) ⟨us, []⟩ = Pure.pure (ps.zip us)) : Def K mg x ps st :=
  ⟨f, _, fun_mk l c k, (fun_mk l c k).binds b, PySem.W.mg_of X G a⟩
def FnG (P : Program) (w : World) (K : PySem.W.Frag) (mg : Str → Option Value) (base : Heap) (c : Cl) (k : Nat) (x : Str) (ps : List Str) (sp : FL) : Prop :=
  ∃ f fd, FnD P w K mg base c k f fd ps sp ∧ mg x = some (.ref f) ∧ PySem.W.keepIn K (.ref f) = true ∧ Binds K fd ps []
theorem FnG.imp {P : Program} {w : World} {K : PySem.W.Frag} {mg : Str → Option Value} {base : Heap} {c : Cl} {k : Nat} {x : Str} {ps : List Str} {sp sp' : FL} (F : FnG P w K mg base c k x ps sp) (h : Refines sp sp') : FnG P w K mg base c k x ps sp' := by
  obtain ⟨f, fd, F, r⟩ := F
  exact ⟨f, fd, F.imp h, r⟩
theorem fnG_of {P : Program} {w : World} {K : PySem.W.Frag} {mg : Str → Option Value} {base : Heap} {c : Cl} {x : Str} {st : Stmt} {N ps : List Str} {k : Nat} {m : MS} (T : Def K mg x ps st) (S : FnScope N ps (defScope st))
    (hbody : ∀ (f : Addr) (cdv : Value) (A : Around) (outer : List Env) (s : Shared) (H : Hp) (E : XK), Room k (A.deeper (envOfC x (defScope st) s.heap.objs.size f cdv)) →
      Takes (cxOf (L2.CX P w) P w K mg base N x (defScope st) f cdv A outer s H E) (fun cls d _ H' => E cls d H') → PassesOwn (model P w) (A.deeper (envOfC x (defScope st) s.heap.objs.size f cdv)) (envOfC x (defScope st) s.heap.objs.size f cdv) (cxOf (L2.CX P w) P w K mg base N x (defScope st) f cdv A outer s H E).xe →
      DSs (cxOf (L2.CX P w) P w K mg base N x (defScope st) f cdv A outer s H E) c (fun cls d _ H' => E cls d H') (defBody st) m) : FnG P w K mg base c (k + 1) x ps (body N.length m) := by
  obtain ⟨f, fd, F, b, g⟩ := T
  exact ⟨f, fd, fnD_of F S (hbody f), g, F.kp, b⟩
theorem de_callG {X : Cx} {c : Cl} {W : WX} {k j : Nat} {ps : List Str} {sp : FL} {x : Str} {p pos : Pos} {e : Expr} {es : List Expr} {ml : ML} (F : FnG X.prog X.w X.K X.mg X.base c j x ps sp) (hr : Room k X.A) (hj : j ≤ k) (hg : Gl X x) (tk : Takes X W)
    (ha : DA X c W (e :: es) ml) (hlen : ps.length = (e :: es).length) (hl : ∀ ρ S ds S', ml ρ S = .ok ds S' → ds.length = ps.length) (hdb : (x == ("__debug__" : Str)) = false := by decide) (he : starEach (e :: es) X.env = (false, eval e X.env) :: starEach es X.env := by rfl) (hpl : (backTo pos (starEach es X.env)).any (·.1) = false := by rfl) :
    DE X c W (.Call (.Name x p) (e :: es) [] pos) (eCall sp ml) := by
  obtain ⟨f, fd, F, g, kp, b⟩ := F
  exact de_call F (hr.mono hj) hg g kp b tk ha hlen hl hdb he hpl
end MM
namespace MM
open PySem PySem.Spec PyProof.Rows L2
theorem cx_never {P : Program} {w : World} {H : Hp} {s : Shared} {e : Value} {s' : Shared} (h : L2.CX P w [] H s (fun _ _ _ => False) e s') : False := by
  obtain ⟨_, _, _, _, _, _, _, _, _, _, _, _, z⟩ := h
  exact z
end MM

namespace MM
open PySem PySem.Spec PyProof.Rows L2
section
variable {X : Cx} {c : Cl} {W : WX} {ml : ML} {pos : Pos}
def sPar (i j : Nat) (ml : ML) : MS := fun ρ S => RS.of ρ (ml ρ S) fun ds S1 => match ds with
  | [d, e] => .nx ((ρ.set i (some d)).set j (some e)) S1
  | _ => .no
theorem ds_par {i j : Nat} {x y : Str} {a b : Expr} {px py pt : Pos} {kt k2 pt2} (hc : X.calm = true) (hN : X.N.Nodup) (hi : X.N[i]? = some x) (hj : X.N[j]? = some y) (hij : i ≠ j)
    (hx : X.env.scope.names.lookup x = some .local) (hy : X.env.scope.names.lookup y = some .local) (ha : DA X c W [a, b] ml)
    (hw : swappedStores [.Tuple [.Name x px, .Name y py] kt pt] (.Tuple [a, b] k2 pt2) X.env = pure (some [x, y]) := by rfl)
    (hs : swapsWithSole [.Tuple [.Name x px, .Name y py] kt pt] (.Tuple [a, b] k2 pt2) pos.line X.env = pure false := by rfl) :
    DS X c W (.Assign [.Tuple [.Name x px, .Name y py] kt pt] (.Tuple [a, b] k2 pt2) pos) (sPar i j ml) := by
  obtain ⟨ta, pa, ha⟩ := ha
  refine ⟨_, ps_par hc hN hi hj hij hx hy pa hw hs, fun φ σ H ρ S E r f p => ?_⟩
  refine ha φ σ H ρ S _ r f (PostS.expr r f p fun ds S1 φ1 H1 e1 r1 f1 p1 => fun vs hv => ?_)
  match ds with
  | [d, e] =>
    obtain ⟨v, r1', rfl, h1, h2⟩ := hv.uncons
    obtain ⟨w, r2', rfl, h3, h4⟩ := h2.uncons
    rw [h4.isNil]
    exact ⟨v, w, rfl, p1 φ1 H1 _ (Ext.refl r1.nd) r1 ((f1.set i h1).set j h3)⟩
  | [] => exact False.elim p1
  | [_] => exact False.elim p1
  | _ :: _ :: _ :: _ => exact False.elim p1
end
end MM

namespace MM
open PySem PySem.Spec PyProof.Rows L2

section
variable {α β : Type} {a b : ME} {ρ : Fr} {S S' : Sto} {d x y : D} {i j : Int} {t : MT} {m n : MS} {f : F2} {l : ML}
@[simp] theorem bind_ok {a : α} {f : α → Sto → R β} : (R.ok a S).bind f = f a S := rfl
@[simp] theorem bind_no {f : α → Sto → R β} : (R.no : R α).bind f = .no := rfl
@[simp] theorem bind_ex {k : Nat} {f : α → Sto → R β} : (R.ex k S : R α).bind f = .ex k S := rfl
@[simp] theorem cut_ok {a : α} : (R.ok a S).cut = .ok a S := rfl
@[simp] theorem of_ok {a : α} {k : α → Sto → RS} : RS.of ρ (.ok a S) k = k a S := rfl
@[simp] theorem of_ex {c : Nat} {k : α → Sto → RS} : RS.of ρ (.ex c S : R α) k = .ex c ρ S := rfl
@[simp] theorem then_nx {k : Fr → Sto → RS} : (RS.nx ρ S).then k = k ρ S := rfl
@[simp] theorem then_rt {k : Fr → Sto → RS} : (RS.rt d S).then k = .rt d S := rfl
@[simp] theorem then_bk {k : Fr → Sto → RS} : (RS.bk ρ S).then k = .bk ρ S := rfl
@[simp] theorem then_ct {k : Fr → Sto → RS} : (RS.ct ρ S).then k = .ct ρ S := rfl
@[simp] theorem end_nx : (RS.nx ρ S).end = .ok .non S := rfl
@[simp] theorem end_rt : (RS.rt d S).end = .ok d S := rfl
@[simp] theorem end_ex {k : Nat} : (RS.ex k ρ S).end = .ex k S := rfl
@[simp] theorem eC_ev : eC d ρ S = .ok d S := rfl
@[simp] theorem eVar_ev {k : Nat} : eVar k ρ S = (match ρ[k]? with | some (some d) => .ok d S | _ => .no) := rfl
@[simp] theorem eBin_ev : eBin f a b ρ S = (a ρ S).bind fun x S1 => (b ρ S1).bind fun y S2 => f x y S2 := rfl
@[simp] theorem eUn_ev {f : F1} : eUn f a ρ S = (a ρ S).bind f := rfl
@[simp] theorem eCall_ev {f : FL} : eCall f l ρ S = (l ρ S).bind f := rfl
@[simp] theorem eLs_ev {f : FS} : eLs f l ρ S = (l ρ S).bind f := rfl
@[simp] theorem aNil_ev : aNil ρ S = .ok [] S := rfl
@[simp] theorem aCons_ev : aCons a l ρ S = (a ρ S).bind fun x S1 => (l ρ S1).bind fun xs S2 => .ok (x :: xs) S2 := rfl
@[simp] theorem eNew_ev : eNew l ρ S = (l ρ S).bind fun xs S1 => .ok (.ref S1.length) (S1 ++ [.lst false xs]) := rfl
@[simp] theorem ePl_ev : ePl l ρ S = (l ρ S).bind fun xs S1 => .ok (.pl xs) S1 := rfl
@[simp] theorem tV_ev : tV a ρ S = (a ρ S).bind fun d S1 => match d with | .bl b => .ok b S1 | _ => .no := rfl
@[simp] theorem tNt_ev : tNt t ρ S = (t ρ S).bind fun b S1 => .ok (!b) S1 := rfl
@[simp] theorem tAn_ev {u : MT} : tAn t u ρ S = (t ρ S).bind fun x S1 => if x = true then u ρ S1 else .ok false S1 := rfl
@[simp] theorem tOo_ev {u : MT} : tOo t u ρ S = (t ρ S).bind fun x S1 => if x = true then .ok true S1 else u ρ S1 := rfl
@[simp] theorem tYs_ev : tYs ρ S = .ok true S := rfl
@[simp] theorem eAn_ev : eAn a b ρ S = (a ρ S).bind fun x S1 => match x with | .bl true => b ρ S1 | .bl false => .ok (.bl false) S1 | _ => .no := rfl
@[simp] theorem eOo_ev : eOo a b ρ S = (a ρ S).bind fun x S1 => match x with | .bl true => .ok (.bl true) S1 | .bl false => b ρ S1 | _ => .no := rfl
@[simp] theorem eIf_ev : eIf t a b ρ S = (t ρ S).bind fun x S1 => if x = true then a ρ S1 else b ρ S1 := rfl
@[simp] theorem eChain_ev {f g : F2} {c : ME} : eChain f g a b c ρ S = (a ρ S).bind fun x S1 => (b ρ S1).bind fun y S2 => (f x y S2).bind fun z S3 => match z with | .bl true => (c ρ S3).bind fun w S4 => g y w S4 | .bl false => .ok (.bl false) S3 | _ => .no := rfl
@[simp] theorem oN_ev : oN ρ S = .ok none S := rfl
@[simp] theorem oS_ev : oS a ρ S = (a ρ S).bind fun d S1 => match d with | .int i => .ok (some i) S1 | _ => .no := rfl
@[simp] theorem eSl_ev {lo hi : MO} : eSl a lo hi ρ S = (a ρ S).bind fun x S1 => (lo ρ S1).bind fun l S2 => (hi ρ S2).bind fun h S3 => slD x l h S3 := rfl
@[simp] theorem eMeth_ev {ok : D → Sto → Bool} {f : FM} : eMeth ok f a l ρ S = (a ρ S).bind fun x S1 => if ok x S1 = true then (l ρ S1).bind fun ys S2 => f x ys S2 else .no := rfl
@[simp] theorem sPass_ev : sPass ρ S = .nx ρ S := rfl
@[simp] theorem sSeq_ev : sSeq m n ρ S = (m ρ S).then n := rfl
@[simp] theorem sRet_ev : sRet a ρ S = RS.of ρ (a ρ S) fun d S1 => .rt d S1 := rfl
@[simp] theorem sExpr_ev : sExpr a ρ S = RS.of ρ (a ρ S) fun _ S1 => .nx ρ S1 := rfl
@[simp] theorem sIf_ev : sIf t m n ρ S = RS.of ρ (t ρ S) fun x S1 => if x = true then m ρ S1 else n ρ S1 := rfl
@[simp] theorem sSet_ev {k : Nat} : sSet k a ρ S = RS.of ρ (a ρ S) fun d S1 => .nx (ρ.set k (some d)) S1 := rfl
@[simp] theorem sAsg_ev {g : MG} : sAsg a g ρ S = RS.of ρ (a ρ S) fun d S1 => match g d ρ with | some ρ' => .nx ρ' S1 | none => .no := rfl
@[simp] theorem sSetIx_ev {o i : ME} : sSetIx o i a ρ S = RS.of ρ (a ρ S) fun d S1 => RS.of ρ (o ρ S1) fun x S2 => RS.of ρ (i ρ S2) fun k S3 => match setIx x k d S3 with | some S4 => .nx ρ S4 | none => .no := rfl
@[simp] theorem sFor_ev {i : MI} {g : MG} : sFor i g m ρ S = RS.of ρ (i ρ S) fun x S1 => forD x.2 g m x.1 ρ S1 := rfl
@[simp] theorem sPar_ev {i j : Nat} : sPar i j l ρ S = RS.of ρ (l ρ S) fun ds S1 => match ds with | [d, e] => .nx ((ρ.set i (some d)).set j (some e)) S1 | _ => .no := rfl
@[simp] theorem tN_ev {k : Nat} : tN k d ρ = some (ρ.set k (some d)) := rfl
@[simp] theorem tTp_ev {k : Nat} {r : List D → Fr → Option Fr} {l : List D} : tTp k r (.tup l) ρ = if l.length = k then r l ρ else none := rfl
@[simp] theorem tsNil_ev : tsNil [] ρ = some ρ := rfl
@[simp] theorem tsCons_ev {a : MG} {r : List D → Fr → Option Fr} {ds : List D} : tsCons a r (d :: ds) ρ = (a d ρ).bind fun ρ' => r ds ρ' := rfl
@[simp] theorem body_ev {k : Nat} {ds : List D} : body k m ds S = (m (startF k ds) S).end := rfl
@[simp] theorem startF_ev {k : Nat} {ds : List D} : startF k ds = ds.map some ++ List.replicate (k - ds.length) none := rfl
@[simp] theorem srcOf_pl {l : List D} : srcOf S (.pl l) = some (l, noG) := rfl
@[simp] theorem srcOf_ref {n : Nat} : srcOf S (.ref n) = (match S[n]? with | some (.lst _ l) => some (l, inStore n l) | _ => none) := rfl
@[simp] theorem srcOf_str {x : Str} : srcOf S (.str x) = none := rfl
@[simp] theorem srcOf_tup {x : List D} : srcOf S (.tup x) = none := rfl
@[simp] theorem lstOf_pl {l : List D} : lstOf S (.pl l) = some l := rfl
@[simp] theorem lstOf_ref {n : Nat} : lstOf S (.ref n) = (match S[n]? with | some (.lst _ l) => some l | _ => none) := rfl
@[simp] theorem iA_ev : iA a ρ S = (a ρ S).bind fun d S1 => match d with | .tup l => .ok (l, noG) S1 | .str x => .ok (signsD x, noG) S1 | d => (match srcOf S1 d with | some x => .ok x S1 | none => .no) := rfl
@[simp] theorem iEA_ev : iEA a ρ S = (a ρ S).bind fun d S1 => match d with | .tup l => .ok (enumD l, noG) S1 | d => (match srcOf S1 d with | some x => .ok (enumD x.1, x.2) S1 | none => .no) := rfl
@[simp] theorem iN_ev : iN l ρ S = (l ρ S).bind fun l S1 => .ok (l, noG) S1 := rfl
@[simp] theorem iZA_ev : iZA a b ρ S = (a ρ S).bind fun d S1 => (b ρ S1).bind fun d2 S2 => match d, d2 with | .tup l, .tup m => okZ (zipD l m) noG S2 | d, d2 => (match srcOf S2 d, srcOf S2 d2 with | some x, some y => okZ (zipD x.1 y.1) (fun S => x.2 S ∧ y.2 S) S2 | _, _ => .no) := rfl
theorem ite_any {α : Type _} {p q : Prop} (h : p = q) (i : Decidable p) (j : Decidable q) (a b : α) : @ite α p i a b = @ite α q j a b := by
  subst h
  cases Subsingleton.elim i j
  rfl
/-- a machine-word range bound -/
def Wd (j : Int) : Prop := -(2 ^ 62) ≤ j ∧ j < 2 ^ 62
def WdL (n : Int) : Prop := n ≤ 16777216 ∧ -(2 ^ 62) ≤ n
theorem wd_of {j : Int} (h : -1000000000 ≤ j) (h2 : j ≤ 1000000000) : Wd j := by unfold Wd; omega
theorem wdl_of {n : Int} (h : -1000000000 ≤ n) (h2 : n ≤ 16777216) : WdL n := by unfold WdL; omega
open Classical in
@[simp] theorem iR1_ev : iR1 l ρ S = (l ρ S).bind fun ds S1 => match ds with | [.int j] => if Wd j then .ok (rangeD 0 j.toNat, noG) S1 else .no | _ => .no := by
  show R.bind _ _ = R.bind _ _
  congr 1
  funext ds S1
  match ds with
  | [] => rfl
  | [.int j] => exact ite_any rfl _ _ _ _
  | [.non] => rfl
  | [.bl _] => rfl
  | [.str _] => rfl
  | [.tup _] => rfl
  | [.ref _] => rfl
  | [.scr _] => rfl
  | [.pl _] => rfl
  | a :: _ :: _ => cases a <;> rfl
@[simp] theorem lOf_ev : lOf a ρ S = (a ρ S).bind fun d S1 => match lstOf S1 d with | some l => .ok l S1 | _ => .no := rfl
@[simp] theorem tupleA_tup {l : List D} : tupleA [.tup l] S = .ok (.tup l) S := rfl
@[simp] theorem tupleA_pl {l : List D} : tupleA [.pl l] S = .ok (.tup l) S := rfl
@[simp] theorem tupleA_ref {n : Nat} : tupleA [.ref n] S = (match S[n]? with | some (.lst _ l) => .ok (.tup l) S | _ => .no) := by
  show (match lstOf S (.ref n) with | some l => R.ok (D.tup l) S | _ => R.no) = _
  rw [lstOf_ref]
  cases S[n]? with
  | none => rfl
  | some o => cases o <;> rfl
open Classical in
@[simp] theorem lR1_ev : lR1 a ρ S = (a ρ S).bind fun d S1 => match d with | .int n => if WdL n then .ok (rangeD 0 n.toNat) S1 else .no | _ => .no := by
  show R.bind _ _ = R.bind _ _
  congr 1
  funext d S1
  cases d with
  | int n => exact ite_any rfl _ _ _ _
  | _ => rfl
@[simp] theorem lComp_ev {i : MI} {vs : List Nat} {g : MG} {m : ME} : lComp i vs g t m ρ S = (i ρ S).bind fun x S1 => if x.1.length ≤ sizeLine then lcD x.2 g t m (wipeF ρ vs) x.1 S1 else .no := rfl
@[simp] theorem wipeF_nil : wipeF ρ [] = ρ := rfl
@[simp] theorem wipeF_cons {v : Nat} {vs : List Nat} : wipeF ρ (v :: vs) = (wipeF ρ vs).set v none := rfl
@[simp] theorem lNew_ev : lNew l ρ S = (l ρ S).bind fun xs S1 => if xs.length ≤ sizeLine then .ok xs S1 else .no := rfl
@[simp] theorem eTup_ev : eTup l ρ S = (l ρ S).bind fun xs S1 => if xs.length ≤ sizeLine then .ok (.tup xs) S1 else .no := rfl
@[simp] theorem addD_int : addD (.int i) (.int j) S = .ok (.int (i + j)) S := rfl
@[simp] theorem addI_int : addI (.int i) (.int j) S = .ok (.int (i + j)) S := rfl
@[simp] theorem subD_int : subD (.int i) (.int j) S = .ok (.int (i - j)) S := rfl
@[simp] theorem negD_int : negD (.int i) S = .ok (.int (-i)) S := rfl
@[simp] theorem notD_bl {k : Bool} : notD (.bl k) S = .ok (.bl (!k)) S := rfl
theorem addD_tup {u v : List D} (h : u.length + v.length ≤ sizeLine) : addD (.tup u) (.tup v) S = .ok (.tup (u ++ v)) S := by
  unfold addD
  exact if_pos h
theorem addD_str {u v : Str} (h : u.length + v.length ≤ sizeLine) : addD (.str u) (.str v) S = .ok (.str (u ++ v)) S := by
  unfold addD
  exact if_pos h
theorem mulOk_of {i : Int} {n : Nat} (h1 : -1000000 ≤ i) (h2 : i ≤ 1000000) (h : n * i.toNat ≤ 16777216) : MulOk i n := by
  unfold MulOk
  refine ⟨by omega, by omega, ?_⟩
  rw [sizeLine_eq]; exact h
theorem mulD_lst {x : D} {u : List D} (hx : lstOf S x = some u) (h : MulOk i u.length) : mulD x (.int i) S = .ok (.pl (List.replicate i.toNat u).flatten) S := by
  cases x <;> first | (cases hx; done) | (unfold mulD; simp only [hx]; exact if_pos h)
@[simp] theorem slD_tup {u : List D} {lo hi : Option Int} : slD (.tup u) lo hi S = .ok (.tup (MM.cutD u lo hi)) S := rfl
@[simp] theorem slD_pl {u : List D} {lo hi : Option Int} : slD (.pl u) lo hi S = .ok (.pl (MM.cutD u lo hi)) S := rfl
theorem mulD_l (h : -(2 ^ 64) < i ∧ i < 2 ^ 64) : mulD (.int i) (.int j) S = .ok (.int (i * j)) S := by
  unfold mulD
  exact if_pos (.inl h)
theorem mulD_r (h : -(2 ^ 64) < j ∧ j < 2 ^ 64) : mulD (.int i) (.int j) S = .ok (.int (i * j)) S := by
  unfold mulD
  exact if_pos (.inr h)
theorem modD_pos (h : 0 < j) : modD (.int i) (.int j) S = .ok (.int (i % j)) S := by
  unfold modD
  exact if_pos h
theorem fdivD_pos (h : 0 < j) (h2 : j < 2 ^ 200) : fdivD (.int i) (.int j) S = .ok (.int (i / j)) S := by
  unfold fdivD
  have hw : CDivW i j := wide_div (b := 200) h (by omega) (by decide) (by decide)
  exact if_pos hw
theorem powD_pos (h : 0 ≤ j) (h1 : j ≤ 1000000) (h2 : i.natAbs < 2 ^ 64) : powD (.int i) (.int j) S = .ok (.int (i ^ j.toNat)) S := by
  unfold powD
  exact if_pos ⟨h, h1, h2⟩
@[simp] theorem ltD_int : ltD (.int i) (.int j) S = .ok (.bl (decide (i < j))) S := rfl
@[simp] theorem leD_int : leD (.int i) (.int j) S = .ok (.bl (decide (i ≤ j))) S := rfl
@[simp] theorem gtD_int : gtD (.int i) (.int j) S = .ok (.bl (decide (j < i))) S := rfl
@[simp] theorem geD_int : geD (.int i) (.int j) S = .ok (.bl (decide (j ≤ i))) S := rfl
@[simp] theorem eqD_int : eqD (.int i) (.int j) S = .ok (.bl (decide (i = j))) S := rfl
@[simp] theorem neD_int : neD (.int i) (.int j) S = .ok (.bl (!decide (i = j))) S := rfl
@[simp] theorem toInt_bl {k : Bool} : toIntD [.bl k] S = .ok (.int (if k then 1 else 0)) S := rfl
@[simp] theorem toInt_int : toIntD [.int i] S = .ok (.int i) S := rfl
@[simp] theorem eqD_bl {u v : Bool} : eqD (.bl u) (.bl v) S = .ok (.bl (decide (u = v))) S := rfl
@[simp] theorem neD_bl {u v : Bool} : neD (.bl u) (.bl v) S = .ok (.bl (!decide (u = v))) S := rfl
@[simp] theorem eqD_str {u v : Str} : eqD (.str u) (.str v) S = .ok (.bl (decide (u = v))) S := rfl
@[simp] theorem neD_str {u v : Str} : neD (.str u) (.str v) S = .ok (.bl (!decide (u = v))) S := rfl
@[simp] theorem absD_int : absD [.int i] S = .ok (.int (if i < 0 then -i else i)) S := rfl
@[simp] theorem maxD_int : maxD [.int i, .int j] S = .ok (.int (if j > i then j else i)) S := rfl
@[simp] theorem minD_int : minD [.int i, .int j] S = .ok (.int (if j < i then j else i)) S := rfl
@[simp] theorem lenD_tup {u : List D} : lenD [.tup u] S = .ok (.int u.length) S := rfl
@[simp] theorem lenD_scr {u : List Int} : lenD [.scr u] S = .ok (.int u.length) S := rfl
theorem lenD_str {u : Str} (h : u.length ≤ sizeLine) : lenD [.str u] S = .ok (.int u.length) S := by
  unfold lenD
  exact if_pos h
theorem lenD_ref {k : Nat} {fz : Bool} {u : List D} (h : S[k]? = some (.lst fz u)) : lenD [.ref k] S = .ok (.int u.length) S := by
  unfold lenD
  simp [h]
@[simp] theorem ixD_tup {u : List D} : ixD (.tup u) (.int i) S = (match atI u i with | some d => .ok d S | none => .no) := rfl
@[simp] theorem ixD_pl {u : List D} : ixD (.pl u) (.int i) S = (match atI u i with | some d => .ok d S | none => .no) := rfl
@[simp] theorem lenD_pl {u : List D} : lenD [.pl u] S = .ok (.int u.length) S := rfl
@[simp] theorem isiD_pl {t : Ty} {u : List D} : isiD t (.pl u) S = .ok (.bl (match t with | .list => true | _ => false)) S := rfl
@[simp] theorem ixD_scr {u : List Int} : ixD (.scr u) (.int i) S = (match atI u i with | some d => .ok (.int d) S | none => .no) := rfl
theorem ixD_ref {k : Nat} {fz : Bool} {u : List D} (h : S[k]? = some (.lst fz u)) : ixD (.ref k) (.int i) S = (match atI u i with | some d => .ok d S | none => .no) := by
  unfold ixD
  simp only [h]
  all_goals (cases atI u i <;> rfl)
@[simp] theorem isiD_int {t : Ty} : isiD t (.int i) S = .ok (.bl (match t with | .int => true | _ => false)) S := rfl
@[simp] theorem isiD_bl {t : Ty} {k : Bool} : isiD t (.bl k) S = .ok (.bl (match t with | .int => true | .bool => true | _ => false)) S := rfl
@[simp] theorem isiD_str {t : Ty} {u : Str} : isiD t (.str u) S = .ok (.bl (match t with | .str => true | _ => false)) S := rfl
@[simp] theorem isiD_tup {t : Ty} {u : List D} : isiD t (.tup u) S = .ok (.bl (match t with | .tuple => true | _ => false)) S := rfl
@[simp] theorem isiD_non {t : Ty} : isiD t .non S = .ok (.bl false) S := rfl
@[simp] theorem tupleD_ev {u : List D} : tupleD u S = .ok (.tup u) S := rfl
end
/-- str(i) -/
def strI (i : Int) : Str := Str.ofString (toString i)
theorem strD_int {i : Int} {S : Sto} (h : i.natAbs.log2 < 1920) : strD [.int i] S = .ok (.str (strI i)) S := by
  unfold strD
  exact if_pos h
/-- ints, texts as data; simp leaves them as they are -/
def iD (l : List Int) : List D := l.map D.int
def sD (l : List Str) : List D := l.map D.str
@[simp] theorem iD_length (l : List Int) : (iD l).length = l.length := by simp [iD]
@[simp] theorem sD_length (l : List Str) : (sD l).length = l.length := by simp [sD]
theorem iD_append (a b : List Int) : iD (a ++ b) = iD a ++ iD b := by simp [iD]
@[simp] theorem iD_nil : iD [] = [] := rfl
@[simp] theorem sD_nil : sD [] = [] := rfl
theorem iD_get (l : List Int) (i : Nat) : (iD l)[i]? = l[i]?.map D.int := by simp [iD]
theorem iD_cons (a : Int) (l : List Int) : iD (a :: l) = D.int a :: iD l := rfl
theorem sizeL : sizeLine = 16777216 := sizeLine_eq

/-- a for: what holds between the turns; what is wanted behind it -/
theorem for_post {g : Sto → Prop} {tg : MG} {b : MS} {Post : RS → Prop} (Inv : Nat → Fr → Sto → Prop) : ∀ (items : List D) (k : Nat) (ρ : Fr) (S : Sto), Inv k ρ S → (∀ i ρ S, Inv i ρ S → g S) →
    (∀ ρ S, Inv (k + items.length) ρ S → Post (.nx ρ S)) →
    (∀ (i : Nat) d ρ S, items[i]? = some d → Inv (k + i) ρ S → ∃ ρ1, tg d ρ = some ρ1 ∧ match b ρ1 S with
      | .nx ρ' S' => Inv (k + i + 1) ρ' S'
      | .ct ρ' S' => Inv (k + i + 1) ρ' S'
      | .bk ρ' S' => Post (.nx ρ' S')
      | .rt d S' => Post (.rt d S')
      | .ex c ρ' S' => Post (.ex c ρ' S')
      | .no => False) → Post (forD g tg b items ρ S)
  | [], k, ρ, S, h0, hg, he, hs => by
    unfold forD
    rw [if_pos (hg k ρ S h0)]
    exact he ρ S (by simpa using h0)
  | d :: ds, k, ρ, S, h0, hg, he, hs => by
    unfold forD
    rw [if_pos (hg k ρ S h0)]
    obtain ⟨ρ1, e1, h1⟩ := hs 0 d ρ S rfl h0
    rw [e1]
    dsimp only
    have next : ∀ ρ' S', Inv (k + 1) ρ' S' → Post (forD g tg b ds ρ' S') := fun ρ' S' h' =>
      for_post Inv ds (k + 1) ρ' S' h' hg (fun ρ S h => he ρ S (by rw [List.length_cons, Nat.add_comm ds.length 1, ← Nat.add_assoc]; exact h)) fun i d ρ S hi hI => by
        have := hs (i + 1) d ρ S (by simpa using hi) (by rw [show k + (i + 1) = k + 1 + i by omega]; exact hI)
        rw [show k + (i + 1) + 1 = k + 1 + i + 1 by omega] at this
        exact this
    cases hb : b ρ1 S with
    | nx ρ' S' => rw [hb] at h1; exact next ρ' S' h1
    | ct ρ' S' => rw [hb] at h1; exact next ρ' S' h1
    | bk ρ' S' => rw [hb] at h1; exact h1
    | rt d S' => rw [hb] at h1; exact h1
    | ex c ρ' S' => rw [hb] at h1; exact h1
    | no => rw [hb] at h1; exact h1.elim
/-- a for that runs through -/
theorem for_run {g : Sto → Prop} {tg : MG} {b : MS} (Inv : Nat → Fr → Sto → Prop) {items : List D} {ρ : Fr} {S : Sto} (h0 : Inv 0 ρ S) (hg : ∀ i ρ S, Inv i ρ S → g S)
    (hs : ∀ (i : Nat) d ρ S, items[i]? = some d → Inv i ρ S → ∃ ρ1, tg d ρ = some ρ1 ∧ ∃ ρ' S', b ρ1 S = .nx ρ' S' ∧ Inv (i + 1) ρ' S') : ∃ ρ' S', forD g tg b items ρ S = .nx ρ' S' ∧ Inv items.length ρ' S' := by
  refine for_post (Post := fun r => ∃ ρ' S', r = .nx ρ' S' ∧ Inv items.length ρ' S') Inv items 0 ρ S h0 hg (fun ρ S h => ⟨ρ, S, rfl, by simpa using h⟩) fun i d ρ S hd hI => ?_
  rw [Nat.zero_add] at hI ⊢
  obtain ⟨ρ1, e1, ρ', S', e2, h2⟩ := hs i d ρ S hd hI
  exact ⟨ρ1, e1, by rw [e2]; exact h2⟩
/-- a while -/
theorem wh_post {t : MT} {b : MS} {Post : RS → Prop} (Inv : Fr → Sto → Prop) (μ : Fr → Sto → Nat)
    (hs : ∀ ρ S, Inv ρ S → ∃ x S1, t ρ S = .ok x S1 ∧ if x = true then (match b ρ S1 with
      | .nx ρ' S' => Inv ρ' S' ∧ μ ρ' S' < μ ρ S
      | .ct ρ' S' => Inv ρ' S' ∧ μ ρ' S' < μ ρ S
      | .bk ρ' S' => Post (.nx ρ' S')
      | .rt d S' => Post (.rt d S')
      | .ex c ρ' S' => Post (.ex c ρ' S')
      | .no => False) else Post (.nx ρ S1)) : ∀ (n : Nat) (ρ : Fr) (S : Sto), Inv ρ S → μ ρ S < n → Post (whN t b n ρ S)
  | 0, ρ, S, _, hm => absurd hm (Nat.not_lt_zero _)
  | n + 1, ρ, S, hI, hm => by
    obtain ⟨x, S1, e, h⟩ := hs ρ S hI
    unfold whN
    rw [e, of_ok]
    cases x with
    | false => simpa using h
    | true =>
      simp only [if_true] at h ⊢
      cases hb : b ρ S1 with
      | nx ρ' S' => rw [hb] at h; exact wh_post Inv μ hs n ρ' S' h.1 (by omega)
      | ct ρ' S' => rw [hb] at h; exact wh_post Inv μ hs n ρ' S' h.1 (by omega)
      | bk ρ' S' => rw [hb] at h; exact h
      | rt d S' => rw [hb] at h; exact h
      | ex c ρ' S' => rw [hb] at h; exact h
      | no => rw [hb] at h; exact h.elim
theorem while_post {t : MT} {b : MS} {Post : RS → Prop} (Inv : Fr → Sto → Prop) (μ : Fr → Sto → Nat)
    (hs : ∀ ρ S, Inv ρ S → ∃ x S1, t ρ S = .ok x S1 ∧ if x = true then (match b ρ S1 with
      | .nx ρ' S' => Inv ρ' S' ∧ μ ρ' S' < μ ρ S
      | .ct ρ' S' => Inv ρ' S' ∧ μ ρ' S' < μ ρ S
      | .bk ρ' S' => Post (.nx ρ' S')
      | .rt d S' => Post (.rt d S')
      | .ex c ρ' S' => Post (.ex c ρ' S')
      | .no => False) else Post (.nx ρ S1)) {ρ : Fr} {S : Sto} (h0 : Inv ρ S) (hm : μ ρ S < 2 ^ 64) : Post (sWhile t b ρ S) := by
  unfold sWhile
  exact wh_post Inv μ hs fuel ρ S h0 hm
/-- a comprehension whose elements leave the store as it is -/
theorem lc_map {g : Sto → Prop} {tg : MG} {m : ME} {ρ : Fr} {S : Sto} (f : D → D) (hg : g S) : ∀ {items : List D}, (∀ d ∈ items, ∃ ρ1, tg d ρ = some ρ1 ∧ m ρ1 S = .ok (f d) S) → lcD g tg tYs m ρ items S = .ok (items.map f) S
  | [], _ => by unfold lcD; rw [if_pos hg]; rfl
  | d :: ds, h => by
    unfold lcD
    rw [if_pos hg]
    obtain ⟨ρ1, e1, e2⟩ := h d List.mem_cons_self
    rw [e1]
    simp [e2, lc_map f hg (items := ds) fun d hd => h d (List.mem_cons_of_mem _ hd)]
theorem lc_filter {g : Sto → Prop} {tg : MG} {t : MT} {m : ME} {ρ : Fr} {S : Sto} (q : D → Bool) (f : D → D) (hg : g S) : ∀ {items : List D}, (∀ d ∈ items, ∃ ρ1, tg d ρ = some ρ1 ∧ t ρ1 S = .ok (q d) S ∧ (q d = true → m ρ1 S = .ok (f d) S)) → lcD g tg t m ρ items S = .ok ((items.filter q).map f) S
  | [], _ => by unfold lcD; rw [if_pos hg]; rfl
  | d :: ds, h => by
    unfold lcD
    rw [if_pos hg]
    obtain ⟨ρ1, e1, e2, e3⟩ := h d List.mem_cons_self
    have ih := lc_filter q f hg (items := ds) fun d hd => h d (List.mem_cons_of_mem _ hd)
    rw [e1]
    cases hq : q d with
    | true => simp [e2, hq, e3 hq, ih]
    | false => simp [e2, hq, ih]
theorem bools_map {α : Type} (f : α → Bool) : ∀ l : List α, bools (l.map fun x => D.bl (f x)) = some (l.map f)
  | [] => rfl
  | x :: r => by simp [bools, bools_map f r]
theorem intsD_map {α : Type} (f : α → Int) : ∀ l : List α, intsD (l.map fun x => D.int (f x)) = some (l.map f)
  | [] => rfl
  | x :: r => by simp [intsD, intsD_map f r]
theorem txts_map {α : Type} (f : α → Str) : ∀ l : List α, txts (l.map fun x => D.str (f x)) = some (l.map f)
  | [] => rfl
  | x :: r => by simp [txts, txts_map f r]
theorem anyD_map {α : Type} (f : α → Bool) (l : List α) (S : Sto) : anyD (l.map fun x => D.bl (f x)) S = .ok (.bl (l.any f)) S := by
  unfold anyD
  rw [bools_map]
  simp [List.any_map]
theorem sumD_map {α : Type} (f : α → Int) (l : List α) (S : Sto) : sumD (l.map fun x => D.int (f x)) S = .ok (.int (l.map f).sum) S := by
  unfold sumD
  rw [intsD_map]
theorem sum_cast : ∀ l : List Nat, ((l.map fun (d : Nat) => (d : Int)).sum) = (l.sum : Int)
  | [] => rfl
  | d :: r => by
    rw [List.map_cons, List.sum_cons, List.sum_cons, sum_cast r]
    simp
@[simp] theorem get_last (S : Sto) (o : O) : (S ++ [o])[S.length]? = some o := by simp
@[simp] theorem set_last (S : Sto) (o o' : O) : (S ++ [o]).set S.length o' = S ++ [o'] := by simp
theorem append_ev {S : Sto} {n : Nat} {xs : List D} {d : D} (h : S[n]? = some (.lst false xs)) (hl : xs.length < sizeLine) : appendD (.ref n) [d] S = .ok .non (S.set n (.lst false (xs ++ [d]))) := by
  unfold appendD
  simp [h, hl]
theorem isLst_ev {S : Sto} {n : Nat} {fz : Bool} {xs : List D} (h : S[n]? = some (.lst fz xs)) : isLstD (.ref n) S = true := by
  unfold isLstD
  simp [h]
@[simp] theorem isStr_ev {S : Sto} {z : Str} : isStrD (.str z) S = true := rfl
theorem setIx_ev {S : Sto} {n : Nat} {xs : List D} {d : D} {i : Int} {j : Nat} (h : S[n]? = some (.lst false xs)) (hj : ixN xs.length i = some j) : setIx (.ref n) (.int i) d S = some (S.set n (.lst false (xs.set j d))) := by
  unfold setIx
  simp [h, hj]
theorem atI_of {α : Type} {xs : List α} {i : Int} {j : Nat} {v : α} (e : i = (j : Int)) (h : xs[j]? = some v) : atI xs i = some v := by
  subst e
  exact atI_nat h
theorem bdL_iff {n : Nat} : ∀ {l : List D}, bdL n l ↔ ∀ d ∈ l, bdD n d
  | [] => by unfold bdL; simp
  | d :: r => by
    unfold bdL
    rw [bdL_iff]
    simp
@[simp] theorem bdD_int {n : Nat} {i : Int} : bdD n (.int i) := by unfold bdD; trivial
@[simp] theorem bdD_bl {n : Nat} {i : Bool} : bdD n (.bl i) := by unfold bdD; trivial
@[simp] theorem bdD_str {n : Nat} {i : Str} : bdD n (.str i) := by unfold bdD; trivial
@[simp] theorem bdD_non {n : Nat} : bdD n .non := by unfold bdD; trivial
@[simp] theorem bdD_scr {n : Nat} {i : List Int} : bdD n (.scr i) := by unfold bdD; trivial
@[simp] theorem bdD_tup {n : Nat} {l : List D} : bdD n (.tup l) ↔ bdL n l := by
  constructor
  · intro h; unfold bdD at h; exact h
  · intro h; unfold bdD; exact h
@[simp] theorem bdD_pl {n : Nat} {l : List D} : bdD n (.pl l) ↔ bdL n l := by
  constructor
  · intro h; unfold bdD at h; exact h
  · intro h; unfold bdD; exact h
@[simp] theorem bdD_ref {n m : Nat} : bdD n (.ref m) ↔ m < n := by
  constructor
  · intro h; unfold bdD at h; exact h
  · intro h; unfold bdD; exact h
@[simp] theorem bdL_nil {n : Nat} : bdL n [] := by unfold bdL; trivial
@[simp] theorem bdL_cons {n : Nat} {d : D} {l : List D} : bdL n (d :: l) ↔ bdD n d ∧ bdL n l := by
  constructor
  · intro h; unfold bdL at h; exact h
  · intro h; unfold bdL; exact h
@[simp] theorem bdL_iD {n : Nat} {l : List Int} : bdL n (iD l) := by
  rw [bdL_iff]
  intro d hd
  obtain ⟨i, _, rfl⟩ := List.mem_map.mp hd
  simp
@[simp] theorem bdL_sD {n : Nat} {l : List Str} : bdL n (sD l) := by
  rw [bdL_iff]
  intro d hd
  obtain ⟨i, _, rfl⟩ := List.mem_map.mp hd
  simp
theorem Kept.refl {S : Sto} : Kept S S := fun _ _ h => .inl h
theorem Kept.trans {S S1 S2 : Sto} (h : Kept S S1) (g : Kept S1 S2) (hl : S1.length = S.length) : Kept S S2 := fun n o e => by
  rcases g n o e with q | q
  · exact h n o q
  · rw [hl] at q; exact .inr q
theorem Kept.set {S : Sto} {b : Nat} {fz : Bool} {l : List D} (h : bdL S.length l) : Kept S (S.set b (.lst fz l)) := fun n o e => by
  by_cases hb : b = n
  · subst hb
    have hl : b < S.length := by
      have := (List.getElem?_eq_some_iff.mp e).1
      simpa using this
    rw [List.getElem?_set_self hl] at e
    cases e
    exact .inr (show bdL S.length l from h)
  · rw [List.getElem?_set_ne hb] at e
    exact .inl e
def Nx (r : RS) (P : Fr → Sto → Prop) : Prop := ∃ ρ' S', r = .nx ρ' S' ∧ P ρ' S'
@[simp] theorem nx_nx {ρ : Fr} {S : Sto} {P : Fr → Sto → Prop} : Nx (.nx ρ S) P ↔ P ρ S := ⟨fun ⟨_, _, e, h⟩ => by cases e; exact h, fun h => ⟨_, _, rfl, h⟩⟩
/-- a for that runs through -/
theorem for_nx {g : Sto → Prop} {tg : MG} {b : MS} (Inv : Nat → Fr → Sto → Prop) {items : List D} {ρ : Fr} {S : Sto} (h0 : Inv 0 ρ S) (hg : ∀ i ρ S, Inv i ρ S → g S)
    (hs : ∀ (i : Nat) d ρ S, items[i]? = some d → Inv i ρ S → ∃ ρ1, tg d ρ = some ρ1 ∧ Nx (b ρ1 S) (Inv (i + 1))) : ∃ ρ' S', forD g tg b items ρ S = .nx ρ' S' ∧ Inv items.length ρ' S' :=
  for_run Inv h0 hg fun i d ρ S hd hI => hs i d ρ S hd hI
theorem nx_of {r : RS} {P : Fr → Sto → Prop} (h : ∀ Q : Fr → Sto → Prop, (∀ ρ S, P ρ S → Q ρ S) → Nx r Q) : Nx r P := h P fun _ _ x => x
@[simp] theorem ite_okB {p : Prop} [Decidable p] {a b : Bool} {S : Sto} : (if p then (R.ok a S : R Bool) else R.ok b S) = R.ok (if p then a else b) S := by split <;> rfl
section
variable {α : Type} {x0 x1 x2 x3 x4 x5 : α} {l : List α}
@[simp] theorem atI_0 : atI (x0 :: l) 0 = some x0 := atI_nat (j := 0) rfl
@[simp] theorem atI_1 : atI (x0 :: x1 :: l) 1 = some x1 := atI_nat (j := 1) rfl
@[simp] theorem atI_2 : atI (x0 :: x1 :: x2 :: l) 2 = some x2 := atI_nat (j := 2) rfl
@[simp] theorem atI_3 : atI (x0 :: x1 :: x2 :: x3 :: l) 3 = some x3 := atI_nat (j := 3) rfl
@[simp] theorem atI_4 : atI (x0 :: x1 :: x2 :: x3 :: x4 :: l) 4 = some x4 := atI_nat (j := 4) rfl
@[simp] theorem atI_5 : atI (x0 :: x1 :: x2 :: x3 :: x4 :: x5 :: l) 5 = some x5 := atI_nat (j := 5) rfl
end
end MM

namespace MM
open PySem PySem.Spec PyProof.Rows L2
section
variable {X : Cx} {c : Cl} {W : WX} {o e : Expr} {mo me : ME} {pos apos : Pos}
end
end MM

namespace MM
open PySem PySem.Spec PyProof.Rows L2

theorem PE.or {X : Cx} {e : Expr} {t u : TE} (h : PE X e t) (g : PE X e u) : PE X e (fun σ H Q => t σ H Q ∨ u σ H Q) :=
  ⟨fun pins s σ H Q I q => q.elim (h.run pins s σ H Q I) (g.run pins s σ H Q I)⟩
theorem PS.or {X : Cx} {st : Stmt} {t u : TS} (h : PS X st t) (g : PS X st u) : PS X st (fun E σ H => t E σ H ∨ u E σ H) :=
  ⟨fun pins s σ H D I q => q.elim (h.run pins s σ H D I) (g.run pins s σ H D I)⟩
section
variable {X : Cx} {c : Cl} {W : WX} {e : Expr} {st : Stmt}
end

def keyD : D → Option Key
  | .int i => some (.inl i)
  | .str x => some (.inr x)
  | _ => none
def valD (l : List (Key × D)) (k : Key) : Option D := (l.find? fun kv => decide (kv.1 = k)).map (·.2)
def putD (l : List (Key × D)) (k : Key) (v : D) : List (Key × D) :=
  if (l.any fun kv => decide (kv.1 = k)) = true then l.map (fun kv => if kv.1 = k then (kv.1, v) else kv) else l ++ [(k, v)]
def dropD (l : List (Key × D)) (k : Key) : List (Key × D) := l.filter fun kv => decide (kv.1 ≠ k)
section
variable {K : PySem.W.Frag} {c : Cl} {φ : List Addr} {H : Hp} {S : Sto}
theorem RepKV.nil {κ : Type} : RepKV (κ := κ) K φ H [] [] := rfl
theorem RepKV.cons {κ : Type} {k : κ} {d : D} {v : V} {l : List (κ × D)} {vs : List (κ × V)} (h : Rep K φ H d v) (g : RepKV K φ H l vs) : RepKV K φ H ((k, d) :: l) ((k, v) :: vs) := ⟨v, vs, rfl, h, g⟩
theorem RepKV.length {κ : Type} : ∀ {l : List (κ × D)} {vs : List (κ × V)}, RepKV K φ H l vs → l.length = vs.length
  | [], _, h => by rw [show _ = [] from h]; rfl
  | d :: l, vs, h => by
    obtain ⟨v, r, rfl, _, g⟩ := h
    simp [RepKV.length g]
theorem RepKV.any {l : List (Key × D)} {vs : List (Key × V)} (g : RepKV K φ H l vs) (k : Key) : (l.any fun kv => decide (kv.1 = k)) = vs.any fun kv => decide (kv.1 = k) := by
  induction l generalizing vs with
  | nil => rw [show vs = [] from g]; rfl
  | cons d l ih =>
    obtain ⟨v, r, rfl, h1, h2⟩ := g
    simp only [List.any_cons, ih h2]
theorem RepKV.drop {l : List (Key × D)} {vs : List (Key × V)} (g : RepKV K φ H l vs) (k : Key) : RepKV K φ H (dropD l k) (dropK vs k) := by
  unfold dropD dropK
  induction l generalizing vs with
  | nil => rw [show vs = [] from g]; exact RepKV.nil
  | cons x l ih =>
    obtain ⟨w, r, rfl, h1, h2⟩ := g
    obtain ⟨k', d'⟩ := x
    by_cases hk : k' = k
    · simp only [List.filter_cons, hk, ne_eq, not_true_eq_false, decide_false, Bool.false_eq_true, if_false]; exact ih h2
    · simp only [List.filter_cons, hk, ne_eq, not_false_eq_true, decide_true, if_true]; exact RepKV.cons h1 (ih h2)
/-- a dict of the store -/
theorem Rel.dct (r : Rel K c φ S H) {n : Nat} {a : Addr} {fz : Bool} {l : List (Key × D)} (h1 : φ[n]? = some a) (h2 : S[n]? = some (.dct fz l)) : ∃ vs, RepKV K φ H l vs ∧ Rd H a (.dK vs) ∧ (fz = false → H a = some (.dK vs)) ∧ (fz = true → ∃ ob, H a = some (.frz ob (.dK vs))) := by
  obtain ⟨vs, g, h⟩ := r.obj n a _ h1 h2
  refine ⟨vs, g, ?_, fun e => ?_, fun e => ?_⟩
  · split at h
    · exact .inr h
    · exact .inl h
  · subst e
    simpa using h
  · subst e
    simpa using h
end

section
variable {X : Cx} {c : Cl} {W : WX} {e o i : Expr} {st : Stmt} {me mo mi : ME} {pos apos cpos tpos : Pos}
def eDNew : ME := fun _ S => .ok (.ref S.length) (S ++ [.dct false []])
def dgetD : F2 := fun x y S => match x, keyD y with
  | .ref n, some k => match S[n]? with
    | some (.dct _ l) => match valD l k with
      | some d => .ok d S
      | none => .no
    | _ => .no
  | _, _ => .no
def isDR (x : D) (S : Sto) : Bool := match x with
  | .ref n => match S[n]? with
    | some (.dct _ _) => true
    | _ => false
  | _ => false
/-- a list, a tuple, a text, a dict -/
def ixA : F2 := fun x y S => if isDR x S = true then dgetD x y S else ixD x y S
def setKey (x i v : D) (S : Sto) : Option Sto := match x, keyD i with
  | .ref n, some k => match S[n]? with
    | some (.dct false l) => if l.length < sizeLine then some (S.set n (.dct false (putD l k v))) else none
    | _ => none
  | _, _ => none
def setAny (x i v : D) (S : Sto) : Option Sto := if isDR x S = true then setKey x i v S else setIx x i v S
def sSetA (o i a : ME) : MS := fun ρ S => RS.of ρ (a ρ S) fun d S1 => RS.of ρ (o ρ S1) fun x S2 => RS.of ρ (i ρ S2) fun k S3 => match setAny x k d S3 with
  | some S4 => .nx ρ S4
  | none => .no
def RS.thaw (n : Nat) (l : List (Key × D)) : RS → RS
  | .nx ρ S => .nx ρ (S.set n (.dct false l))
  | .rt d S => .rt d (S.set n (.dct false l))
  | .bk ρ S => .bk ρ (S.set n (.dct false l))
  | .ct ρ S => .ct ρ (S.set n (.dct false l))
  | _ => .no
def lockAt (e : ME) (ρ : Fr) (S : Sto) : Option (Nat × List (Key × D)) := match e ρ S with
  | .ok (.ref n) _ => match S[n]? with
    | some (.dct false l) => some (n, l)
    | _ => none
  | _ => none
/-- e tells which dict -/
def sLock (e : ME) (m : MS) : MS := fun ρ S => match lockAt e ρ S with
  | some (n, l) => (m ρ (S.set n (.dct true l))).thaw n l
  | none => .no
def R.thaw {α : Type} (n : Nat) (l : List (Key × D)) : R α → R α
  | .ok a S => .ok a (S.set n (.dct false l))
  | _ => .no
/-- a new dict is locked for good -/
def eLockD (a : ME) : ME := fun ρ S => (a ρ S).bind fun d S1 => match d with
  | .ref n => match S1[n]? with
    | some (.dct false l) => .ok (.ref n) (S1.set n (.dct true l))
    | _ => .no
  | _ => .no
def kD : Key → D
  | .inl i => .int i
  | .inr x => .str x
def keysOf (l : List (Key × D)) : List D := l.map fun kv => kD kv.1
def itemsOf (l : List (Key × D)) : List D := l.map fun kv => .tup [kD kv.1, kv.2]
theorem RepKV.get {κ : Type} {K : PySem.W.Frag} {φ : List Addr} {H : Hp} : ∀ {l : List (κ × D)} {vs : List (κ × V)}, RepKV K φ H l vs → ∀ {i : Nat} {k : κ} {d : D}, l[i]? = some (k, d) → ∃ v, vs[i]? = some (k, v) ∧ Rep K φ H d v
  | [], _, _, i, k, d, h => by simp at h
  | x :: l, vs, g, i, k, d, h => by
    obtain ⟨v, r, rfl, h1, h2⟩ := g
    cases i with
    | zero =>
      simp at h
      subst h
      exact ⟨v, rfl, h1⟩
    | succ i =>
      have h' : l[i]? = some (k, d) := by simpa using h
      obtain ⟨w, hw, rw'⟩ := RepKV.get h2 h'
      exact ⟨w, by simpa using hw, rw'⟩
section
variable {K : PySem.W.Frag} {φ0 : List Addr} {H0 : Hp} {S0 : Sto} {a : Addr} {od : Obj} {vs : List (Key × V)} {l : List (Key × D)}
end
def dLk (S : Sto) : D → Option (List (Key × D))
  | .ref n => match S[n]? with
    | some (.dct true l) => some l
    | _ => none
  | _ => none
def iDK (a : ME) : MI := fun ρ S => (a ρ S).bind fun d S1 => match dLk S1 d with
  | some l => .ok (keysOf l, noG) S1
  | none => .no
def iDI (a : ME) : MI := fun ρ S => (a ρ S).bind fun d S1 => match dLk S1 d with
  | some l => okZ (itemsOf l) noG S1
  | none => .no
end
end MM

namespace MM
open PySem PySem.Spec PyProof.Rows L2

def lookF (f : Str) : List (Str × D) → Option D
  | [] => none
  | (g, x) :: r => if g = f then some x else lookF f r
def putFD (f : Str) (v : D) : List (Str × D) → List (Str × D)
  | [] => [(f, v)]
  | (g, x) :: r => if g = f then (g, v) :: r else (g, x) :: putFD f v r
section
variable {K : PySem.W.Frag} {c : Cl} {φ : List Addr} {H : Hp} {S : Sto}
theorem Rel.ins (r : Rel K c φ S H) {n : Nat} {a : Addr} {k : Nat} {fs : List (Str × D)} (h1 : φ[n]? = some a) (h2 : S[n]? = some (.ins k fs)) : ∃ dx vs, RepKV K φ H fs vs ∧ H a = some (.ins (c.cl k) dx vs) := r.obj n a _ h1 h2
end
def insOf (S : Sto) : D → Option (Nat × List (Str × D))
  | .ref n => match S[n]? with
    | some (.ins k fs) => some (k, fs)
    | _ => none
  | _ => none
section
variable {X : Cx} {c : Cl} {W : WX} {e o : Expr} {es : List Expr} {me mo : ME} {ml : ML} {pos apos tpos : Pos} {f : Str} {k : Nat}
def eFld (k : Nat) (f : Str) (a : ME) : ME := fun ρ S => (a ρ S).bind fun d S1 => match insOf S1 d with
  | some (k', fs) => if k' = k then (match lookF f fs with
    | some v => .ok v S1
    | none => .no) else .no
  | none => .no
def setFld (k : Nat) (f : Str) (x v : D) (S : Sto) : Option Sto := match x with
  | .ref n => match S[n]? with
    | some (.ins k' fs) => if k' = k ∧ fs.length < 1000 then some (S.set n (.ins k (putFD f v fs))) else none
    | _ => none
  | _ => none
def sFldD (k : Nat) (f : Str) (o e : ME) : MS := fun ρ S => RS.of ρ (e ρ S) fun d S1 => RS.of ρ (o ρ S1) fun x S2 => match setFld k f x d S2 with
  | some S3 => .nx ρ S3
  | none => .no
def sFldAug (k : Nat) (f : Str) (o e : ME) : MS := fun ρ S => RS.of ρ (o ρ S) fun x S1 => match insOf S1 x with
  | some (k', fs) => if k' = k then (match lookF f fs with
    | some v => RS.of ρ (e ρ S1) fun d S2 => RS.of ρ (addI v d S2) fun z S3 => (match setFld k f x z S3 with
      | some S4 => .nx ρ S4
      | none => .no)
    | none => .no) else .no
  | none => .no
end
section
variable {X : Cx} {CX : CXT} {k : Nat} {f C : Addr} {fd : FuncData} {ps : List Str} {sp : Sp} {E : L2.St → XK} {x m : Str} {p pos apos : Pos} {e o : Expr} {es : List Expr} {ta : TE} {t : TA}
end
section
variable {X : Cx} {c : Cl} {W : WX} {e o : Expr} {es : List Expr} {me mo : ME} {ml : ML} {pos apos p : Pos} {m x : Str} {k : Nat}
/-- o.m(..), by the class of o -/
def eMts (m : Str) (tbl : List (Nat × FL)) (o : ME) (a : ML) : ME := fun ρ S => (o ρ S).bind fun d S1 => match insOf S1 d with
  | some (k, fs) => match lookF m fs, (tbl.lookup k) with
    | none, some sp => (a ρ S1).bind fun ds S2 => sp (d :: ds) S2
    | _, _ => .no
  | none => .no
def sRaise (k : Nat) : MS := fun ρ S => .ex k ρ S
theorem PSs.imp {b : List Stmt} {t t' : TS} (h : PSs X b t) (hi : ∀ E σ H, t' E σ H → t E σ H) : PSs X b t' := ⟨fun pins s σ H D I q => h.run pins s σ H D I (hi D σ H q)⟩
end
end MM

namespace MM
open PySem PySem.Spec PyProof.Rows L2
section
variable {prog : Program} {w : World} {A : Around} {R : Result → Shared → Prop} {I : Addr} {fp wr : List Addr} {G : Array GenState → Array GenState → Prop} {n : Nat} {P : Nat → Value → Prop} {St : Nat → Shared → Prop}
end
section
variable {prog : Program} {w : World} {A : Around} {E : Value → Shared → Prop} {s : Shared}
end
end MM

namespace MM
open PySem PySem.Spec PyProof.Rows L2
end MM

namespace MM
open PySem PySem.Spec PyProof.Rows L2
section
variable {X : Cx} {c : Cl} {W : WX} {e o i : Expr} {me mo mi : ME} {pos tpos : Pos}
end
section
variable {X : Cx} {c : Cl} {W : WX}
end
end MM

namespace MM
open PySem PySem.Spec PyProof.Rows L2
open PySem.Sem (wp)
def SubIt (t : Bool) (h : Heap) (a l : Addr) (i : Nat) : Prop := match t with
  | true => h.IsTupleIter a l i
  | false => h.IsListIter a l i
def SubSq (t : Bool) (h : Heap) (l : Addr) (xs : Array Value) : Prop := match t with
  | true => h.IsTuple l xs
  | false => h.IsList l xs
theorem SubIt.ob {t : Bool} {h : Heap} {a l : Addr} {i : Nat} (x : SubIt t h a l i) : ∃ o, h.get? a = some o ∧ ∀ v, o.data ≠ .cell v := by
  cases t
  · obtain ⟨o, ho, _, d⟩ := x; exact ⟨o, ho, fun v q => by rw [d] at q; cases q⟩
  · obtain ⟨o, ho, _, d⟩ := x; exact ⟨o, ho, fun v q => by rw [d] at q; cases q⟩
theorem SubSq.lt {t : Bool} {h : Heap} {l : Addr} {xs : Array Value} (x : SubSq t h l xs) : l < h.objs.size := by
  cases t
  · obtain ⟨o, ho, r⟩ := x; exact Heap.lt_size ho
  · obtain ⟨o, ho, r⟩ := x; exact Heap.lt_size ho
section
variable {prog : Program} {w : World} {A : Around} {E : Value → Shared → Prop} {s : Shared}
end
def SqX (K : PySem.W.Frag) (t : Bool) (H : Hp) (a : Addr) (xs : List V) : Prop := match t with
  | true => SqT K H a xs
  | false => SqL K H a xs
theorem SqX.sub {X : Cx} {pins : List (Addr × Obj)} {s : Shared} {σ : L2.St} {H : Hp} (I : Inv X pins σ H s) {t : Bool} {a : Addr} {xs : List V} (h : SqX X.K t H a xs) : ∃ its : List Value, Vals xs its ∧ SubSq t s.heap a its.toArray := by
  cases t
  · obtain ⟨its, r, p, _⟩ := I.list h; exact ⟨its, r, p.isList⟩
  · obtain ⟨its, r, p, _⟩ := I.tuple h; exact ⟨its, r, p⟩
theorem SqX.inj {X : Cx} {pins : List (Addr × Obj)} {s : Shared} {σ : L2.St} {H : Hp} (I : Inv X pins σ H s) {t : Bool} {a : Addr} {xs ys : List V} (h : SqX X.K t H a xs) (g : SqX X.K t H a ys) : xs = ys := by
  cases t
  · exact I.list_inj h g
  · exact I.tuple_inj h g
section
variable {prog : Program} {w : World} {A : Around} {E : Value → Shared → Prop} {s : Shared}
end
section
variable {prog : Program} {w : World} {A : Around} {E : Value → Shared → Prop} {s : Shared}
end
section
variable {K : PySem.W.Frag} {c : Cl} {φ0 : List Addr} {S0 : Sto} {H0 : Hp}
end

section
variable {K : PySem.W.Frag} {c : Cl} {φ0 : List Addr} {S0 : Sto} {H0 : Hp}
end
section
variable {K : PySem.W.Frag} {c : Cl} {φ0 : List Addr} {S0 : Sto} {H0 : Hp}
end
end MM

namespace MM
open PySem PySem.Spec PyProof.Rows L2
section
variable {prog : Program} {w : World} {A : Around} {E : Value → Shared → Prop} {s : Shared}
end
end MM

namespace MM
open PySem PySem.Spec PyProof.Rows L2
theorem PT.or {X : Cx} {e : Expr} {t u : TT} (h : PT X e t) (g : PT X e u) : PT X e (fun σ H Q => t σ H Q ∨ u σ H Q) :=
  ⟨fun pins s σ H Q I q => q.elim (h.run pins s σ H Q I) (g.run pins s σ H Q I)⟩
section
variable {X : Cx} {c : Cl} {W : WX} {e i o : Expr} {mi mo : ME}
end
end MM

namespace MM
open PySem PySem.Spec PyProof.Rows L2
section
variable {prog : Program} {w : World} {A : Around} {E : Value → Shared → Prop} {s : Shared}
end
end MM

namespace MM
open PySem PySem.Spec PyProof.Rows L2
def strLt (a b : Str) : Bool := decide (a.cps.toList < b.cps.toList)
end MM

namespace MM
open PySem PySem.Spec PyProof.Rows L2
def insB {α : Type} (lt : α → α → Bool) (k : α) : List α → List α
  | [] => [k]
  | a :: l => if lt a k then a :: insB lt k l else k :: a :: l
def sortB {α : Type} (lt : α → α → Bool) (l : List α) : List α := l.foldr (insB lt) []
theorem insB_perm {α : Type} (lt : α → α → Bool) (k : α) : ∀ l : List α, (insB lt k l).Perm (k :: l)
  | [] => List.Perm.refl _
  | a :: l => by
    unfold insB
    split
    · exact ((insB_perm lt k l).cons a).trans (List.Perm.swap k a l)
    · exact List.Perm.refl _
theorem sortB_perm {α : Type} (lt : α → α → Bool) : ∀ l : List α, (sortB lt l).Perm l
  | [] => List.Perm.refl _
  | a :: l => (insB_perm lt a _).trans ((sortB_perm lt l).cons a)
/-- a strict order by which all unlike things stand -/
structure LinB {α : Type} (lt : α → α → Bool) : Prop where
  asym : ∀ a b, lt a b = true → lt b a = false
  trans : ∀ a b c, lt a b = true → lt b c = true → lt a c = true
  eq : ∀ a b, lt a b = false → lt b a = false → a = b
theorem LinB.ntrans {α : Type} {lt : α → α → Bool} (h : LinB lt) {a b c : α} (h1 : lt b a = false) (h2 : lt c b = false) : lt c a = false := by
  cases hq : lt c a with
  | false => rfl
  | true =>
    cases hb : lt b c with
    | true => have := h.trans b c a hb hq; rw [h1] at this; cases this
    | false =>
      have e := h.eq b c hb h2
      subst e
      rw [h1] at hq; cases hq
theorem insB_srt {α : Type} {lt : α → α → Bool} (h : LinB lt) (k : α) : ∀ l : List α, l.Pairwise (fun a b => lt b a = false) → (insB lt k l).Pairwise (fun a b => lt b a = false)
  | [], _ => by simp [insB]
  | a :: l, hp => by
    obtain ⟨h1, h2⟩ := List.pairwise_cons.mp hp
    unfold insB
    split
    · rename_i hl
      refine List.pairwise_cons.mpr ⟨fun x hx => ?_, insB_srt h k l h2⟩
      rcases List.mem_cons.mp ((insB_perm lt k l).mem_iff.mp hx) with rfl | hx
      · exact h.asym _ _ hl
      · exact h1 x hx
    · rename_i hl
      have hl : lt a k = false := by simpa using hl
      refine List.pairwise_cons.mpr ⟨fun x hx => ?_, hp⟩
      rcases List.mem_cons.mp hx with rfl | hx
      · exact hl
      · exact h.ntrans hl (h1 x hx)
theorem sortB_srt {α : Type} {lt : α → α → Bool} (h : LinB lt) : ∀ l : List α, (sortB lt l).Pairwise (fun a b => lt b a = false)
  | [] => List.Pairwise.nil
  | a :: l => insB_srt h a _ (sortB_srt h l)
theorem sortB_uniq {α : Type} {lt : α → α → Bool} (h : LinB lt) {l m : List α} (hp : m.Perm l) (hs : m.Pairwise (fun a b => lt b a = false)) : m = sortB lt l :=
  List.Perm.eq_of_pairwise (le := fun a b => lt b a = false) (fun a b _ _ p q => h.eq a b q p) hs (sortB_srt h l) (hp.trans (sortB_perm lt l).symm)
def intLt (a b : Int) : Bool := decide (a < b)
theorem str_eq {a b : Str} (h : a.cps.toList = b.cps.toList) : a = b := by
  cases a; cases b
  simp at h
  exact congrArg _ h
theorem lin_str : LinB strLt := by
  refine ⟨fun a b h => ?_, fun a b c h g => ?_, fun a b h g => ?_⟩
  · unfold strLt at *
    simp only [decide_eq_true_eq, decide_eq_false_iff_not] at *
    exact fun q => List.lt_irrefl _ (List.lt_trans h q)
  · unfold strLt at *
    simp only [decide_eq_true_eq] at *
    exact List.lt_trans h g
  · unfold strLt at *
    simp only [decide_eq_false_iff_not] at *
    exact str_eq (List.le_antisymm (List.not_lt.mp g) (List.not_lt.mp h))
/-- sorted(xs) -/
def lSorted (a : ML) : ML := fun ρ S => (a ρ S).bind fun l S1 => match intsD l with
  | some ns => if ns.length < 64 then .ok ((sortB intLt ns).map D.int) S1 else .no
  | none => (match txts l with
    | some xs => if xs.length < 64 then .ok ((sortB strLt xs).map D.str) S1 else .no
    | none => .no)
end MM

namespace MM
open PySem PySem.Spec PyProof.Rows L2
section
variable {prog : Program} {w : World} {A : Around} {E : Value → Shared → Prop} {s : Shared}
end
section
variable {X : Cx}
end
end MM

namespace MM
open PySem PySem.Spec PyProof.Rows L2
section
variable {X : Cx} {c : Cl} {W : WX} {a : Expr} {ma : ME} {p2 pos : Pos}
end
end MM

namespace MM
open PySem PySem.Spec PyProof.Rows L2
section
variable {X : Cx} {o e : Expr} {es : List Expr} {to : TE} {t : TA} {name : Str} {apos cpos : Pos} {id : String} {r : V → List V → Hp → VK → Prop}
end
def indexTD : FM := fun x l S => match x, l with
  | .tup xs, [.str y] => match txts xs with
    | some ys => if y ∈ ys then .ok (.int ((ys.idxOf y : Nat) : Int)) S else .no
    | none => .no
  | _, _ => .no
def eIdxT (o : ME) (l : ML) : ME := eMeth (fun d _ => txD d) indexTD o l
theorem isTx_txts : ∀ {l : List D} {ys : List Str}, txts l = some ys → l ≠ [] → isTx l = true := by
  have key : ∀ {l : List D} {ys : List Str}, txts l = some ys → l.all isSt = true := by
    intro l
    induction l with
    | nil => intro ys _; rfl
    | cons d l ih =>
      intro ys h
      cases d <;> first | (cases h; done) | skip
      obtain ⟨q, e1, rfl⟩ := Option.map_eq_some_iff.mp h
      rw [List.all_cons, ih e1]; rfl
  intro l ys h hn
  unfold isTx
  rw [key h]
  cases l with
  | nil => exact absurd rfl hn
  | cons => rfl
def dctOf (S : Sto) : D → Option (List (Key × D))
  | .ref n => match S[n]? with
    | some (.dct _ l) => some l
    | _ => none
  | _ => none
def lDK (a : ME) : ML := fun ρ S => (a ρ S).bind fun d S1 => match dctOf S1 d with
  | some l => .ok (keysOf l) S1
  | none => .no
theorem zip_noL {l m : List D} (h : ∀ x ∈ l, isSt x = false) : noTx (zipD l m) = true := noTx_of fun d hd => by
  obtain ⟨i, hi, e⟩ := List.getElem_of_mem hd
  obtain ⟨x, y, h1, h2, rfl⟩ := zipD_get (by rw [List.getElem?_eq_getElem hi, e] : (zipD l m)[i]? = some d)
  simp [txD, isTx, h x (List.mem_of_getElem? h1)]
theorem noSt_map {α : Type} {l : List α} {f : α → D} (h : ∀ a, isSt (f a) = false) : ∀ x ∈ l.map f, isSt x = false := fun x hx => by
  obtain ⟨a, _, rfl⟩ := List.mem_map.mp hx
  exact h a
end MM

namespace MM
open PySem PySem.Spec PyProof.Rows L2
section
variable {prog : Program} {w : World} {A : Around} {E : Value → Shared → Prop} {s : Shared}
end
end MM

namespace MM
open PySem PySem.Spec PyProof.Rows L2
end MM

namespace MM
open PySem PySem.Spec PyProof.Rows L2
section
variable {K : PySem.W.Frag} {c : Cl} {φ0 : List Addr} {S0 : Sto} {H0 : Hp}
end
end MM

namespace MM
open PySem PySem.Spec PyProof.Rows L2
section
variable {X : Cx} {o : Expr} {p pos apos mpos : Pos} {td : TE} {x : Str}
end
end MM

namespace MM
open PySem PySem.Spec PyProof.Rows L2 L2H HotX
section
variable {X : Cx} {CX : CXT} {k : Nat} {f : Addr} {fd : FuncData} {ps : List Str} {sp : Value → Option Addr → Hp → VK → Prop} {E : L2.St → XK} {x : Str} {q pos : Pos} {e : Expr} {t : TA}
end
structure ExcW (K : PySem.W.Frag) (c : Cl) (k : Nat) : Prop where
  lo : 11 ≤ k
  hi : k < 20
  xc : ExcC K (c.cl k)
  kt : ∀ i, i < 9 → PySem.W.kitOne K (.ref (c.cl k)) (.ref (c.cl (11 + i))) = some (decide (11 + i = k))
  k9 : PySem.W.kitOne K (.ref (c.cl k)) (.type "ValueError") = some true
def bW (k i : Nat) : Bool := if i = 9 then true else decide (11 + i = k)
theorem ExcW.at_ {K : PySem.W.Frag} {c : Cl} {k : Nat} (W : ExcW K c k) (i : Nat) (h : i < 9) : PySem.W.kitOne K (.ref (c.cl k)) (.ref (c.cl (11 + i))) = some (bW k i) := by
  unfold bW
  rw [if_neg (by omega)]
  exact W.kt i h
end MM

namespace MM
open PySem PySem.Spec PyProof.Rows L2
def keyOfS (e : Int × Value) : Str := match e.2 with
  | .str k _ => k
  | _ => ⟨#[]⟩
def GoodES (w : World) (e : Int × Value) : Prop := ∃ k tk, e.2 = Value.str k tk ∧ e.1 = hashStr w k
/-- the set of texts at a: S its members, n their number; its table rises and can be walked -/
def SetRS (w : World) (h : Heap) (a : Addr) (S : Str → Bool) (n : Nat) : Prop :=
  ∃ o es ep t, h.get? a = some o ∧ o.ExactSet ∧ o.data = .set es ep t ∧ (∀ e ∈ es.toList, GoodES w e) ∧ (es.toList.map keyOfS).Nodup ∧ (∀ k, S k = true ↔ k ∈ es.toList.map keyOfS) ∧
    es.size < scanBound ∧ t.fits es.size = true ∧ es.size = n ∧ Ris t.place.toList ∧ (w.params.followText "set-order" = true ∨ t.led = true)
section
variable {P : Program} {w : World} {h h' : Heap} {a : Addr} {S : Str → Bool} {n : Nat}
theorem SetRS.at (R : SetRS w h a S n) (k : ∀ o, h.get? a = some o → h'.get? a = some o) : SetRS w h' a S n := by
  obtain ⟨o, es, ep, t, ho, r⟩ := R
  exact ⟨o, es, ep, t, k o ho, r⟩
theorem SetRS.lt (R : SetRS w h a S n) : a < h.objs.size := by
  obtain ⟨o, es, ep, t, ho, r⟩ := R
  exact Heap.lt_size ho
theorem SetRS.congr {S' : Str → Bool} (R : SetRS w h a S n) (e : ∀ k, S' k = S k) : SetRS w h a S' n := by
  have q : S' = S := funext e
  rw [q]; exact R
end
section
variable {P : Program} {w : World} {A : Around} {E : Value → Shared → Prop} {s : Shared} {a : Addr} {S : Str → Bool} {n : Nat}
end
section
variable {P : Program} {w : World} {A : Around} {E : Value → Shared → Prop} {s : Shared}
end
section
variable {prog : Program} {w : World} {A : Around} {E : Value → Shared → Prop} {s : Shared}
end
def dd : List Str → List Str
  | [] => []
  | a :: l => if a ∈ l then dd l else a :: dd l
section
variable {P : Program} {w : World} {A : Around} {E : Value → Shared → Prop} {s : Shared} {a : Addr}
end
end MM

namespace SrtO
open PySem PySem.Spec PyProof.Rows L2 MM
def lexS (p q : Int × PySem.Str) : Bool := if p.1 = q.1 then strLt p.2 q.2 else decide (p.1 < q.1)
theorem lin_lexS : LinB lexS := by
  refine ⟨fun a b h => ?_, fun a b c h g => ?_, fun a b h g => ?_⟩
  · unfold lexS at *
    by_cases e : a.1 = b.1
    · rw [if_pos e] at h
      rw [if_pos e.symm]
      exact lin_str.asym _ _ h
    · rw [if_neg e, decide_eq_true_eq] at h
      rw [if_neg fun q => e q.symm]
      exact decide_eq_false (by omega)
  · unfold lexS at *
    by_cases e : a.1 = b.1
    · rw [if_pos e] at h
      by_cases e2 : b.1 = c.1
      · rw [if_pos e2] at g
        rw [if_pos (e.trans e2)]
        exact lin_str.trans _ _ _ h g
      · rw [if_neg e2, decide_eq_true_eq] at g
        rw [if_neg (by omega)]
        exact decide_eq_true (by omega)
    · rw [if_neg e, decide_eq_true_eq] at h
      by_cases e2 : b.1 = c.1
      · rw [if_neg (by omega)]
        exact decide_eq_true (by omega)
      · rw [if_neg e2, decide_eq_true_eq] at g
        rw [if_neg (by omega)]
        exact decide_eq_true (by omega)
  · unfold lexS at *
    by_cases e : a.1 = b.1
    · rw [if_pos e] at h
      rw [if_pos e.symm] at g
      exact Prod.ext e (lin_str.eq _ _ h g)
    · rw [if_neg e] at h
      rw [if_neg fun q => e q.symm] at g
      have h := of_decide_eq_false h
      have g := of_decide_eq_false g
      omega
section
variable {prog : Program} {w : World} {A : Around} {E : Value → Shared → Prop} {s : Shared}
end
end SrtO
namespace MM
open PySem PySem.Spec PyProof.Rows L2 SrtO
section
variable {X : Cx}
end
end MM

namespace MM
open PySem PySem.Spec PyProof.Rows L2
section
variable {X : Cx}
end
end MM

namespace MM
open PySem PySem.Spec PyProof.Rows L2
section
variable {K : PySem.W.Frag} {c : Cl} {φ0 : List Addr} {H0 : Hp} {S0 : Sto}
end
section
variable {X : Cx} {c : Cl} {W : WX} {e tg : Expr} {ml : ML} {p pos : Pos}
end
end MM

namespace MM
open PySem PySem.Spec PyProof.Rows L2
section
variable {prog : Program} {w : World} {A : Around} {E : Value → Shared → Prop} {s : Shared}
end
end MM

namespace MM
open PySem PySem.Spec PyProof.Rows L2
def countD : FM := fun x l S => match x, l with
  | .str a, [.str b] => .ok (.int (Txt.count a b)) S
  | _, _ => .no
theorem fits_count {K : PySem.W.Frag} {c : Cl} : FitsM K c (fun x xs H Q => ∃ a b, x = .str a ∧ xs = [.str b] ∧ Q (.int (Txt.count a b)) H) countD := by
  intro W σ φ H S x d vs ds Q r hx hv p
  unfold countD at p
  split at p
  · obtain ⟨v, rfl, hd⟩ := one_of hv
    exact ⟨_, _, hx.str_, by rw [hd.str_], PostW.here r p _ rep_int⟩
  · exact False.elim p
end MM

namespace MM
open PySem PySem.Spec PyProof.Rows L2
end MM

namespace MM
open PySem PySem.Spec PyProof.Rows L2
end MM
namespace L2
open PySem PySem.Spec PyProof.Rows
section
variable {X : Cx}
end
end L2
namespace MM
open PySem PySem.Spec PyProof.Rows L2
end MM

namespace MM
open PySem PySem.Spec PyProof.Rows L2
end MM

namespace MM
open PySem PySem.Spec PyProof.Rows L2
end MM

namespace MM
open PySem PySem.Spec PyProof.Rows L2
def PTT (X : Cx) (e : Expr) (t : TT) : Prop := ∀ (pins : List (Addr × Obj)) (s : Shared) (σ : L2.St) (H : Hp) (Q : Bool → Hp → Prop), 1 ≤ s.toks → Inv X pins σ H s → t σ H Q → wpAny (model X.prog X.w) X.A (isTrue e X.env (eval e X.env)) (TP X pins σ Q) X.xe s
def PT1 (X : Cx) (e : Expr) (t : TT) : Prop := ∀ (pins : List (Addr × Obj)) (s : Shared) (σ : L2.St) (H : Hp) (Q : Bool → Hp → Prop), Inv X pins σ H s → t σ H Q → wpAny (model X.prog X.w) X.A (isTrue e X.env (eval e X.env)) (fun b s' => 1 ≤ s'.toks ∧ TP X pins σ Q b s') X.xe s
section
variable {X : Cx} {a b : Expr} {ta tb : TE} {tA tB' : TT} {rest : List Expr} {pos : Pos}
theorem ptt_cmpR {op : CmpOp} {r : R2} (ho : OpR X (compareOp op) r) (ha : PET X a ta) (hb : PE X b tb) (hm : behindInMarks op b = false) : PTT X (.Compare a [op] [b] pos) (tTest (tOp r ta tb)) := by
  intro pins s σ H Q h0 I h
  refine wpAny_isTrue_Compare1 (thn (ha pins s σ H _ h0 I h) fun v s1 ⟨x, H1, I1, r1, q1⟩ => thn (hb.run pins s1 σ H1 _ I1 q1) fun u s2 ⟨y, H2, I2, r2, q2⟩ =>
    thn (ho pins s2 σ H2 x y v u _ I2 r1 r2 q2) fun c s3 ⟨z, H3, I3, r3, k, e, q3⟩ => ?_) hm
  subst e; cases r3
  exact wpAny_truthy_bool ⟨H3, I3, q3⟩
theorem ptt_or (ha : PTT X a tA) (hb : PW X (.BoolOp .Or (b :: rest) pos) tB') : PTT X (.BoolOp .Or (a :: b :: rest) pos) (tOr tA tB') := by
  intro pins s σ H Q h0 I h
  refine isTrue_or (thn (ha pins s σ H _ h0 I h) fun c s1 ⟨H1, I1, q1⟩ => ?_)
  cases c with
  | true => exact ⟨H1, I1, q1⟩
  | false => exact hb.run _ pins s1 σ H1 Q I1 q1
/-- a comparison with a written text gives a token out -/
theorem pt1_cmpR {op : CmpOp} {r : R2} {x : Str} {j : Nat} {p : Pos} (ho : OpR X (compareOp op) r) (ha : PE X a ta) (hm : behindInMarks op (.Constant (.str x) j p) = false) : PT1 X (.Compare a [op] [.Constant (.str x) j p] pos) (tTest (tOp r ta (tC (.str x)))) := by
  intro pins s σ H Q I h
  refine wpAny_isTrue_Compare1 (thn (ha.run pins s σ H _ I h) fun v s1 ⟨y, H1, I1, r1, q1⟩ => Calls.Constant_str ?_) hm
  refine wpAny_mono (PySem.wpAny_toks (ho pins { s1 with toks := s1.toks + 1 } σ H1 y (.str x) v _ _ (I1.tok _) r1 ⟨_, rfl⟩ q1)) (fun c s3 q => ?_) fun _ _ z => z.2
  obtain ⟨hk, z, H3, I3, r3, k, e, q3⟩ := q
  subst e; cases r3
  exact wpAny_truthy_bool ⟨Nat.le_trans (Nat.le_add_left 1 s1.toks) hk, H3, I3, q3⟩
theorem pt1_or (ha : PT1 X a tA) (hb : PW X (.BoolOp .Or (b :: rest) pos) tB') : PT1 X (.BoolOp .Or (a :: b :: rest) pos) (tOr tA tB') := by
  intro pins s σ H Q I h
  refine isTrue_or (thn (ha pins s σ H _ I h) fun c s1 ⟨hk, H1, I1, q1⟩ => ?_)
  cases c with
  | true => exact ⟨hk, H1, I1, q1⟩
  | false => exact wpAny_mono (PySem.wpAny_toks (hb.run _ pins s1 σ H1 Q I1 q1)) (fun d s2 q => ⟨Nat.le_trans hk q.1, q.2⟩) fun _ _ z => z.2
/-- if, and an if behind it -/
theorem pss_two {c d : Expr} {a1 b1 a2 b2 : List Stmt} {tc td : TT} {u1 v1 u2 v2 : TS} {p1 p2 : Pos} (hc : PT1 X c tc) (ha1 : PSs X a1 u1) (hb1 : PSs X b1 v1) (hd : PTT X d td) (ha2 : PSs X a2 u2) (hb2 : PSs X b2 v2) :
    PSs X [.If c a1 b1 p1, .If d a2 b2 p2] (tSeq (tIfS tc u1 v1) (tIfS td u2 v2)) := by
  refine ⟨fun pins s σ H D I h => ?_⟩
  refine wpAny_execs_cons (wpAny_If (thn (hc pins s σ H _ I h) fun k s1 ⟨hk, H1, I1, q1⟩ => ?_))
  have go : ∀ {l : List Stmt} {t : TS}, PSs X l t → t { D with nx := tIfS td u2 v2 D } σ H1 → wpAny (model X.prog X.w) X.A (execs l X.env) (fun f s' => match f with | .next => wpAny (model X.prog X.w) X.A (execs [.If d a2 b2 p2] X.env) (SP X pins D) X.xe s' | r => SP X pins D r s') X.xe s1 := fun {l t} hl ht => by
    refine wpAny_mono (PySem.wpAny_toks (hl.run pins s1 σ H1 _ I1 ht)) (fun f s2 q => ?_) fun _ _ z => z.2
    obtain ⟨hk2, q⟩ := q
    cases f with
    | next =>
      obtain ⟨σ', H', I', q⟩ := q
      refine wpAny_execs_cons (wpAny_If (thn (hd pins s2 σ' H' _ (Nat.le_trans hk hk2) I' q) fun k2 s3 ⟨H3, I3, q3⟩ => ?_))
      have fin : ∀ {l : List Stmt} {t : TS}, PSs X l t → t D σ' H3 → wpAny (model X.prog X.w) X.A (execs l X.env) (fun f s' => match f with | .next => wpAny (model X.prog X.w) X.A (execs [] X.env) (SP X pins D) X.xe s' | r => SP X pins D r s') X.xe s3 := fun {l t} hl ht => by
        refine thn (hl.run pins s3 σ' H3 D I3 ht) fun f s4 q => ?_
        cases f with
        | next => exact wpAny_execs_nil q
        | ret v => exact q
        | brk => exact q
        | cont => exact q
      cases k2 with
      | true => exact fin ha2 q3
      | false => exact fin hb2 q3
    | ret v => exact q
    | brk => exact q
    | cont => exact q
  cases k with
  | true => exact go ha1 q1
  | false => exact go hb1 q1
end
def DET (X : Cx) (c : Cl) (W : WX) (e : Expr) (m : ME) : Prop :=
  ∃ t, PET X e t ∧ ∀ φ σ H ρ S Q, Rel X.K c φ S H → FrRel X.K φ H σ ρ → PostW X.K c W σ φ H (gE X.K Q) (m ρ S) → t σ H Q
def DTT (X : Cx) (c : Cl) (W : WX) (e : Expr) (m : MT) : Prop :=
  ∃ t, PTT X e t ∧ ∀ φ σ H ρ S Q, Rel X.K c φ S H → FrRel X.K φ H σ ρ → PostW X.K c W σ φ H (gT Q) (m ρ S) → t σ H Q
def DT1 (X : Cx) (c : Cl) (W : WX) (e : Expr) (m : MT) : Prop :=
  ∃ t, PT1 X e t ∧ ∀ φ σ H ρ S Q, Rel X.K c φ S H → FrRel X.K φ H σ ρ → PostW X.K c W σ φ H (gT Q) (m ρ S) → t σ H Q
def eRepl (m : ME) (y z : Str) : ME := fun ρ S => (m ρ S).bind fun d S1 => match d with
  | .str x => if x.length + (x.length + 1) * z.length ≤ 16777216 then .ok (.str (Txt.replace x y z)) S1 else .no
  | _ => .no
section
variable {X : Cx} {c : Cl} {W : WX} {a b o : Expr} {ma mb m : ME} {rest : List Expr} {pos : Pos} {mt mu : MT}
theorem det_of (h : DE X c W a ma) : DET X c W a ma := by
  obtain ⟨t, p, h⟩ := h
  exact ⟨t, CwR.PET.of p, h⟩
theorem det_repl {y z : Str} {j k : Nat} {c0 c1 apos : Pos} (ho : DET X c W o m) (hyz : (y == z) = false := by decide)
    (hst : starEach [.Constant (.str y) j c0, .Constant (.str z) k c1] X.env = [(false, eval (.Constant (.str y) j c0) X.env), (false, eval (.Constant (.str z) k c1) X.env)] := by rfl)
    (hbase : attributeBase o "replace" X.env (eval o X.env) = eval o X.env := by rfl) (hline : (apos.endLine == pos.line) = true := by rfl) :
    DET X c W (.Call (.Attribute o "replace" apos) [.Constant (.str y) j c0, .Constant (.str z) k c1] [] pos) (eRepl m y z) := by
  obtain ⟨t, p, h⟩ := ho
  refine ⟨_, CwR.pet_replT p hyz hst hbase hline, fun φ σ H ρ S Q r f p => ?_⟩
  refine h φ σ H ρ S _ r f (PostW.elim p fun d S1 φ1 H1 e1 r1 p1 => fun x hx => ?_)
  split at p1
  · rename_i u
    split at p1
    · rename_i hz
      exact ⟨u, hx.str_, hz, PostW.here r1 p1 _ rep_str⟩
    · exact False.elim p1
  · exact False.elim p1
theorem tV_reads {t : TE} {K : PySem.W.Frag} {c : Cl} {W : WX} (h : ∀ φ σ H ρ S Q, Rel K c φ S H → FrRel K φ H σ ρ → PostW K c W σ φ H (gE K Q) (m ρ S) → t σ H Q) : ∀ φ σ H ρ S Q, Rel K c φ S H → FrRel K φ H σ ρ → PostW K c W σ φ H (gT Q) (tV m ρ S) → tTest t σ H Q := by
  intro φ σ H ρ S Q r f p
  refine h φ σ H ρ S _ r f (PostW.elim p fun d S1 φ1 H1 e1 r1 p1 => fun x hx => ?_)
  split at p1
  · exact ⟨_, hx.bl_, PostW.here r1 p1⟩
  · exact False.elim p1
theorem cmp_reads {r : R2} {f : F2} {K : PySem.W.Frag} {ta tb : TE} (hf : Fits2 K c r f) (ha : ∀ φ σ H ρ S Q, Rel K c φ S H → FrRel K φ H σ ρ → PostW K c W σ φ H (gE K Q) (ma ρ S) → ta σ H Q) (hb : ∀ φ σ H ρ S Q, Rel K c φ S H → FrRel K φ H σ ρ → PostW K c W σ φ H (gE K Q) (mb ρ S) → tb σ H Q) :
    ∀ φ σ H ρ S Q, Rel K c φ S H → FrRel K φ H σ ρ → PostW K c W σ φ H (gE K Q) (eBin f ma mb ρ S) → tOp r ta tb σ H Q := by
  intro φ σ H ρ S Q r fr p
  refine ha φ σ H ρ S _ r fr (PostW.elim p fun d S1 φ1 H1 e1 r1 p1 => fun x hx => ?_)
  refine hb φ1 σ H1 ρ S1 _ r1 (fr.stay (e1.stays r)) (PostW.elim p1 fun d2 S2 φ2 H2 e2 r2 p2 => fun y hy => ?_)
  exact hf W σ φ2 H2 S2 x y _ _ Q r2 (hx.stay (e2.stays r1)) hy p2
theorem or_reads {K : PySem.W.Frag} {tA tB' : TT} (ha : ∀ φ σ H ρ S Q, Rel K c φ S H → FrRel K φ H σ ρ → PostW K c W σ φ H (gT Q) (mt ρ S) → tA σ H Q) (hb : ∀ φ σ H ρ S Q, Rel K c φ S H → FrRel K φ H σ ρ → PostW K c W σ φ H (gT Q) (mu ρ S) → tB' σ H Q) :
    ∀ φ σ H ρ S Q, Rel K c φ S H → FrRel K φ H σ ρ → PostW K c W σ φ H (gT Q) (tOo mt mu ρ S) → tOr tA tB' σ H Q := by
  intro φ σ H ρ S Q r f p
  refine ha φ σ H ρ S _ r f (PostW.elim p fun d S1 φ1 H1 e1 r1 p1 => ?_)
  dsimp only [gT]
  split
  · rename_i hd
    rw [if_pos hd] at p1
    exact PostW.here r1 p1
  · rename_i hd
    rw [if_neg hd] at p1
    exact hb φ1 σ H1 ρ S1 _ r1 (f.stay (e1.stays r)) p1
theorem dtt_cmp {op : CmpOp} {r : R2} {f : F2} (ho : OpR X (compareOp op) r) (hf : Fits2 X.K c r f) (ha : DET X c W a ma) (hb : DE X c W b mb) (hm : behindInMarks op b = false) : DTT X c W (.Compare a [op] [b] pos) (tV (eBin f ma mb)) := by
  obtain ⟨ta, pa, ha⟩ := ha
  obtain ⟨tb, pb, hb⟩ := hb
  exact ⟨_, ptt_cmpR ho pa pb hm, tV_reads (cmp_reads hf ha hb)⟩
theorem dt1_cmp {op : CmpOp} {r : R2} {f : F2} {x : Str} {j : Nat} {p : Pos} (ho : OpR X (compareOp op) r) (hf : Fits2 X.K c r f) (ha : DE X c W a ma) (hm : behindInMarks op (.Constant (.str x) j p) = false) : DT1 X c W (.Compare a [op] [.Constant (.str x) j p] pos) (tV (eBin f ma (eC (.str x)))) := by
  obtain ⟨ta, pa, ha⟩ := ha
  exact ⟨_, pt1_cmpR ho pa hm, tV_reads (cmp_reads hf ha fun φ σ H ρ S Q r f p => PostW.here r p _ rep_str)⟩
theorem dtt_or {rest : List Expr} (ha : DTT X c W a mt) (hb : DW X c W (.BoolOp .Or (b :: rest) pos) mu) : DTT X c W (.BoolOp .Or (a :: b :: rest) pos) (tOo mt mu) := by
  obtain ⟨ta, pa, ha⟩ := ha
  obtain ⟨tb, pb, hb⟩ := hb
  exact ⟨_, ptt_or pa pb, or_reads ha hb⟩
theorem dt1_or {rest : List Expr} (ha : DT1 X c W a mt) (hb : DW X c W (.BoolOp .Or (b :: rest) pos) mu) : DT1 X c W (.BoolOp .Or (a :: b :: rest) pos) (tOo mt mu) := by
  obtain ⟨ta, pa, ha⟩ := ha
  obtain ⟨tb, pb, hb⟩ := hb
  exact ⟨_, pt1_or pa pb, or_reads ha hb⟩
theorem dss_two {d1 d2 : Expr} {a1 b1 a2 b2 : List Stmt} {m1 n1 m2 n2 : MS} {q1 q2 : Pos} (hc : DT1 X c W d1 mt) (ha : DSs X c W a1 m1) (hb : DSs X c W b1 n1) (hd : DTT X c W d2 mu) (ha2 : DSs X c W a2 m2) (hb2 : DSs X c W b2 n2) :
    DSs X c W [.If d1 a1 b1 q1, .If d2 a2 b2 q2] (sSeq (sIf mt m1 n1) (sIf mu m2 n2)) := by
  obtain ⟨tc, pc, hc⟩ := hc
  obtain ⟨ta, pa, ha⟩ := ha
  obtain ⟨tb, pb, hb⟩ := hb
  obtain ⟨td, pd, hd⟩ := hd
  obtain ⟨ta2, pa2, ha2⟩ := ha2
  obtain ⟨tb2, pb2, hb2⟩ := hb2
  refine ⟨_, pss_two pc pa pb pd pa2 pb2, fun φ σ H ρ S E r f p => ?_⟩
  have ifr : ∀ {d : MT} {x y : MS} {t : TT} {u v : TS}, (∀ φ σ H ρ S Q, Rel X.K c φ S H → FrRel X.K φ H σ ρ → PostW X.K c W σ φ H (gT Q) (d ρ S) → t σ H Q) → (∀ φ σ H ρ S E, Rel X.K c φ S H → FrRel X.K φ H σ ρ → PostS X.K c W φ H E (x ρ S) → u E σ H) → (∀ φ σ H ρ S E, Rel X.K c φ S H → FrRel X.K φ H σ ρ → PostS X.K c W φ H E (y ρ S) → v E σ H) →
      ∀ φ σ H ρ S E, Rel X.K c φ S H → FrRel X.K φ H σ ρ → PostS X.K c W φ H E (sIf d x y ρ S) → tIfS t u v E σ H := fun hc ha hb φ σ H ρ S E r f p => by
    refine hc φ σ H ρ S _ r f (PostS.expr r f p fun d S1 φ1 H1 e1 r1 f1 p1 => ?_)
    dsimp only [gT]
    split
    · rename_i hd
      rw [if_pos hd] at p1
      exact ha φ1 σ H1 ρ S1 _ r1 f1 p1
    · rename_i hd
      rw [if_neg hd] at p1
      exact hb φ1 σ H1 ρ S1 _ r1 f1 p1
  refine ifr hc ha hb φ σ H ρ S _ r f ?_
  unfold sSeq at p
  cases hm : sIf mt m1 n1 ρ S with
  | nx ρ1 S1 =>
    rw [hm] at p
    exact fun φ1 H1 σ1 e1 r1 f1 => ifr hd ha2 hb2 φ1 σ1 H1 ρ1 S1 E r1 f1 (PostS.from e1 p)
  | bk ρ1 S1 => rw [hm] at p; exact p
  | ct ρ1 S1 => rw [hm] at p; exact p
  | rt ρ1 S1 => rw [hm] at p; exact p
  | ex k ρ1 S1 => rw [hm] at p; exact p
  | no => rw [hm] at p; exact p
end
end MM

namespace CW
open PySem PySem.Spec PyProof.Rows L2 MM
@[simp] theorem isSt_int {i : Int} : isSt (.int i) = false := rfl
@[simp] theorem isSt_bl {i : Bool} : isSt (.bl i) = false := rfl
@[simp] theorem isSt_non : isSt .non = false := rfl
@[simp] theorem isSt_str {i : Str} : isSt (.str i) = true := rfl
@[simp] theorem isSt_tup {l : List D} : isSt (.tup l) = false := rfl
@[simp] theorem isSt_ref {n : Nat} : isSt (.ref n) = false := rfl
@[simp] theorem isSt_pl {l : List D} : isSt (.pl l) = false := rfl
/-- figure_row(figure); slots 0 figure -/
noncomputable def m_figure_row : MS :=
  sRet (eBin addD (eBin mulD (eTup (aCons (eC (.int 1)) (aCons (eC (.int 0)) (aNil)))) (eCall toIntD (aCons (eVar 0) (aNil)))) (eBin mulD (eTup (aCons (eC (.int 0)) (aNil))) (eC (.int 2))))
noncomputable def sp_figure_row : FL := body 1 m_figure_row
/-- row_of(number); slots 0 number, 1 found, 2 figure -/
noncomputable def m_row_of : MS :=
  sSeq (sSet 1 (eTup (aNil)))
  (sSeq (sFor (iA (eVar 0)) (tN 2) (sSet 1 (eBin addD (eVar 1) (eCall sp_figure_row (aCons (eVar 2) (aNil))))))
  (sRet (eBin addD (eVar 1) (eBin mulD (eTup (aCons (eC (.int 0)) (aNil))) (eC (.int 2))))))
noncomputable def sp_row_of : FL := body 3 m_row_of
def numS (ds : List Nat) : Str := ⟨(ds.map (· + 48)).toArray⟩
structure GoodN (ds : List Nat) : Prop where
  pos : 1 ≤ ds.length
  len : ds.length ≤ 4
  fig : ∀ d ∈ ds, 1 ≤ d ∧ d ≤ 9
  sum : ds.sum ≤ 24
def strokes (d : Nat) : List Int := (List.replicate d [1, 0]).flatten
def figR (d : Nat) : List Int := strokes d ++ [0, 0]
def figsR (ds : List Nat) : List Int := (ds.map figR).flatten
def rowN (ds : List Nat) : List Int := figsR ds ++ [0, 0]
theorem strokes_len (d : Nat) : (strokes d).length = 2 * d := by
  unfold strokes
  rw [PyProof.Rows.lm_len_rep_flat]
  simp
  omega
theorem figR_len (d : Nat) : (figR d).length = 2 * d + 2 := by
  unfold figR
  rw [List.length_append, strokes_len] <;> rfl
theorem figsR_snoc (ds : List Nat) (d : Nat) : figsR (ds ++ [d]) = figsR ds ++ figR d := by
  unfold figsR
  simp
theorem figsR_len (ds : List Nat) : (figsR ds).length = 2 * ds.sum + 2 * ds.length := by
  unfold figsR
  induction ds with
  | nil => rfl
  | cons d ds ih =>
    simp only [List.map_cons, List.flatten_cons, List.length_append, figR_len, ih, List.sum_cons, List.length_cons]
    omega
theorem rowN_len (ds : List Nat) : (rowN ds).length = 2 * ds.sum + 2 * ds.length + 2 := by
  unfold rowN
  rw [List.length_append, figsR_len] <;> rfl
theorem GoodN.rowlen {ds : List Nat} (h : GoodN ds) : (rowN ds).length ≤ 58 := by
  rw [rowN_len]
  have := h.sum
  have := h.len
  omega
@[simp] theorem numS_cps (ds : List Nat) : (numS ds).cps.toList = ds.map (· + 48) := rfl
@[simp] theorem numS_length (ds : List Nat) : (numS ds).length = ds.length := by
  unfold numS Str.length
  simp
theorem numS_inj {a b : List Nat} (h : numS a = numS b) : a = b := by
  have e : (numS a).cps.toList = (numS b).cps.toList := by rw [h]
  simp only [numS_cps] at e
  have : (a.map (· + 48)).map (· - 48) = (b.map (· + 48)).map (· - 48) := by rw [e]
  simpa [List.map_map, Function.comp_def] using this
theorem signs_num (ds : List Nat) : signsD (numS ds) = ds.map fun d => D.str (numS [d]) := by
  unfold signsD
  rw [numS_cps, List.map_map] <;> rfl
theorem int_fig {d : Nat} (h1 : 1 ≤ d) (h9 : d ≤ 9) (S : Sto) : toIntD [.str (numS [d])] S = .ok (.int d) S := by
  have : d = 1 ∨ d = 2 ∨ d = 3 ∨ d = 4 ∨ d = 5 ∨ d = 6 ∨ d = 7 ∨ d = 8 ∨ d = 9 := by omega
  have key : ∀ k : Nat, PySem.intText? (numS [k]) = some (k : Int) → toIntD [.str (numS [k])] S = .ok (.int k) S := fun k hk => by
    unfold toIntD
    dsimp only
    rw [hk]
    simp
  rcases this with rfl | rfl | rfl | rfl | rfl | rfl | rfl | rfl | rfl <;> exact key _ (by decide +kernel)

theorem mul2_ev (S : Sto) : mulD (.tup [.int 0]) (.int 2) S = .ok (.tup [.int 0, .int 0]) S := rfl
theorem mulS_ev {d : Nat} (h1 : 1 ≤ d) (h9 : d ≤ 9) (S : Sto) : mulD (.tup [.int 1, .int 0]) (.int d) S = .ok (.tup (iD (strokes d))) S := by
  unfold mulD
  by_cases hd : d = 1
  · subst hd
    rfl
  · dsimp only
    rw [if_neg (by omega), if_pos ⟨by simp, by omega, by omega, by simp⟩]
    unfold strokes iD
    rw [List.map_flatten, List.map_replicate] <;> rfl
theorem figure_row_ev {d : Nat} (h1 : 1 ≤ d) (h9 : d ≤ 9) (S : Sto) : sp_figure_row [.str (numS [d])] S = .ok (.tup (iD (figR d))) S := by
  have hl : (iD (strokes d)).length + [D.int 0, D.int 0].length ≤ sizeLine := by
    simp [strokes_len, sizeL]
    omega
  unfold sp_figure_row m_figure_row
  simp [int_fig h1 h9, mulS_ev h1 h9, mul2_ev, sizeL, addD_tup hl]
  simp [figR, iD]
theorem sum_le_nine : ∀ (l : List Nat), (∀ d ∈ l, 1 ≤ d ∧ d ≤ 9) → l.sum ≤ 9 * l.length := by
  intro l
  induction l with
  | nil => intro _; simp
  | cons a l ih =>
    intro hh
    have := ih fun d hd => hh d (List.mem_cons_of_mem _ hd)
    have := (hh a List.mem_cons_self).2
    simp only [List.sum_cons, List.length_cons]
    omega
theorem row_of_ev {ds : List Nat} (h : ∀ d ∈ ds, 1 ≤ d ∧ d ≤ 9) (hl : ds.length ≤ 1000) (S : Sto) : sp_row_of [.str (numS ds)] S = .ok (.tup (iD (rowN ds))) S := by
  have loop := for_run (g := noG) (tg := tN 2) (b := sSet 1 (eBin addD (eVar 1) (eCall sp_figure_row (aCons (eVar 2) (aNil))))) (items := signsD (numS ds)) (ρ := [some (.str (numS ds)), some (.tup []), none]) (S := S)
    (fun i ρ S' => S' = S ∧ ∃ x, ρ = [some (.str (numS ds)), some (.tup (iD (figsR (ds.take i)))), x])
    ⟨rfl, none, by simp [figsR]⟩ (fun _ _ _ _ => trivial) (by
      rintro i d ρ S' hd ⟨rfl, x, rfl⟩
      rw [signs_num, List.getElem?_map] at hd
      obtain ⟨k, hk, rfl⟩ := Option.map_eq_some_iff.mp hd
      have hm : k ∈ ds := List.mem_of_getElem? hk
      have hlt : i < ds.length := (List.getElem?_eq_some_iff.mp hk).1
      have e := figure_row_ev (h k hm).1 (h k hm).2 S'
      have hz : (iD (figsR (ds.take i))).length + (iD (figR k)).length ≤ sizeLine := by
        have h1 := sum_le_nine (ds.take i) fun d hd => h d (List.mem_of_mem_take hd)
        have h2 := (h k hm).2
        have h3 : (ds.take i).length ≤ ds.length := by simp; omega
        simp only [iD_length, figsR_len, figR_len, sizeL]
        omega
      refine ⟨_, rfl, [some (.str (numS ds)), some (.tup (iD (figsR (ds.take (i + 1))))), some (.str (numS [k]))], S', ?_, rfl, _, rfl⟩
      simp [e, addD_tup hz]
      rw [List.take_add_one, hk, Option.toList_some, figsR_snoc, iD_append])
  obtain ⟨ρ', S', e, rfl, x, rfl⟩ := loop
  have hl2 : (signsD (numS ds)).length = ds.length := by rw [signs_num]; simp
  rw [hl2, List.take_length] at e
  have hz : (iD (figsR ds)).length + [D.int 0, D.int 0].length ≤ sizeLine := by
    have h1 := sum_le_nine ds h
    simp only [iD_length, figsR_len, sizeL, List.length_cons, List.length_nil]
    omega
  unfold sp_row_of m_row_of
  simp [e, mul2_ev, sizeL, addD_tup hz]
  simp [rowN, iD]
end CW

namespace CW
open PySem PySem.Spec PyProof.Rows L2 MM
/-- things that may be asked of: no script, no odd object, texts of some length -/
def okT (S : Sto) : D → Prop
  | .scr _ => False
  | .ref n => (∃ fz l, S[n]? = some (.lst fz l)) ∨ ∃ fz l, S[n]? = some (.dct fz l)
  | .str z => z.length ≤ sizeLine
  | _ => True
def isNumD : D → Bool
  | .str z => decide (1 ≤ z.length ∧ z.length ≤ 4) && z.cps.toList.all (fun c => decide (49 ≤ c ∧ c ≤ 57)) && decide ((z.cps.toList.map (· - 48)).sum ≤ 24)
  | _ => false
theorem str_ext {x y : Str} (h : x.cps.toList = y.cps.toList) : x = y := Str.ext' (Array.toList_inj.mp h)
theorem isNum_iff {z : Str} : isNumD (.str z) = true ↔ ∃ ds, GoodN ds ∧ z = numS ds := by
  unfold isNumD
  simp only [Bool.and_eq_true, decide_eq_true_eq, List.all_eq_true]
  constructor
  · rintro ⟨⟨⟨h1, h2⟩, h3⟩, h4⟩
    have hlen : z.cps.toList.length = z.length := by simp [Str.length]
    refine ⟨z.cps.toList.map (· - 48), ⟨by simpa [hlen] using h1, by simpa [hlen] using h2, fun d hd => ?_, h4⟩, ?_⟩
    · obtain ⟨c, hc, rfl⟩ := List.mem_map.mp hd
      have := h3 c hc
      omega
    · apply str_ext
      rw [numS_cps, List.map_map]
      symm
      calc z.cps.toList.map ((· + 48) ∘ (· - 48)) = z.cps.toList.map id := by
            apply List.map_congr_left
            intro c hc
            have := h3 c hc
            simp only [Function.comp, id]
            omega
        _ = z.cps.toList := by simp
  · rintro ⟨ds, h, rfl⟩
    refine ⟨⟨by simpa using ⟨h.pos, h.len⟩, fun c hc => ?_⟩, ?_⟩
    · rw [numS_cps] at hc
      obtain ⟨d, hd, rfl⟩ := List.mem_map.mp hc
      have := h.fig d hd
      omega
    · rw [numS_cps, List.map_map]
      have : ds.map ((· - 48) ∘ (· + 48)) = ds := by
        calc ds.map ((· - 48) ∘ (· + 48)) = ds.map id := List.map_congr_left fun c _ => by simp [Function.comp]
          _ = ds := by simp
      rw [this]
      exact h.sum
theorem isi_of (S : Sto) (x : D) (h : okT S x) (hs : ∀ z, x ≠ .str z) : isiD .str x S = .ok (.bl false) S := by
  cases x with
  | str z => exact absurd rfl (hs z)
  | scr n => exact h.elim
  | ref n =>
    unfold isiD isOf
    rcases h with ⟨fz, l, h⟩ | ⟨fz, l, h⟩ <;> simp [h]
  | _ => rfl
end CW

namespace CW
open PySem PySem.Spec PyProof.Rows L2 MM
def fig : Int → Int → List Int → List Int → List Int × Int
  | _, k, cs, [] => (cs, k)
  | p, k, cs, b :: r => if b = 1 then fig b (k + 1) cs r else if 0 < k ∧ p = 0 then fig b 0 (cs ++ [k]) r else fig b k cs r
theorem fig_cons (p k : Int) (cs : List Int) (b : Int) (r : List Int) : fig p k cs (b :: r) = if b = 1 then fig b (k + 1) cs r else if 0 < k ∧ p = 0 then fig b 0 (cs ++ [k]) r else fig b k cs r := rfl
def figsOf (bits : List Int) : List Int := (fig 0 0 [] bits).1
theorem fig_strokes : ∀ (d : Nat) (p k : Int) (cs r : List Int), fig p k cs (strokes d ++ r) = fig (if d = 0 then p else 0) (k + d) cs r
  | 0, p, k, cs, r => by simp [strokes]
  | d + 1, p, k, cs, r => by
    have e : strokes (d + 1) ++ r = 1 :: 0 :: (strokes d ++ r) := by simp [strokes, List.replicate_succ]
    rw [e, fig_cons, if_pos rfl, fig_cons, if_neg (by decide), if_neg (by omega), fig_strokes d, if_neg (Nat.succ_ne_zero d)]
    have e1 : (if d = 0 then (0 : Int) else 0) = 0 := by split <;> rfl
    have e2 : k + 1 + (d : Int) = k + ((d + 1 : Nat) : Int) := by omega
    rw [e1, e2]
theorem fig_figR (d : Nat) (hd : 1 ≤ d) (p : Int) (cs r : List Int) : fig p 0 cs (figR d ++ r) = fig 0 0 (cs ++ [(d : Int)]) r := by
  unfold figR
  rw [List.append_assoc, fig_strokes, if_neg (by omega)]
  show fig 0 (0 + (d : Int)) cs (0 :: 0 :: r) = _
  rw [fig_cons, if_neg (by decide), if_pos ⟨by omega, rfl⟩, fig_cons, if_neg (by decide), if_neg (by omega), Int.zero_add]
theorem fig_figs : ∀ (ds : List Nat) (cs r : List Int), (∀ d ∈ ds, 1 ≤ d) → fig 0 0 cs (figsR ds ++ r) = fig 0 0 (cs ++ ds.map fun (d : Nat) => (d : Int)) r
  | [], cs, r, _ => by simp [figsR]
  | d :: ds, cs, r, h => by
    have e : figsR (d :: ds) ++ r = figR d ++ (figsR ds ++ r) := by simp [figsR]
    rw [e, fig_figR d (h d List.mem_cons_self), fig_figs ds _ r fun d hd => h d (List.mem_cons_of_mem _ hd)]
    simp
theorem figsOf_row {ds : List Nat} (h : ∀ d ∈ ds, 1 ≤ d) : figsOf (rowN ds) = ds.map fun (d : Nat) => (d : Int) := by
  unfold figsOf rowN
  rw [fig_figs ds _ _ h]
  simp [fig]
theorem rowN_inj {a b : List Nat} (ha : ∀ d ∈ a, 1 ≤ d) (hb : ∀ d ∈ b, 1 ≤ d) (h : rowN a = rowN b) : a = b := by
  have e : figsOf (rowN a) = figsOf (rowN b) := by rw [h]
  rw [figsOf_row ha, figsOf_row hb] at e
  exact (List.map_inj_right (f := fun (d : Nat) => (d : Int)) fun x y q => Int.ofNat.inj q).mp e
theorem rowN_bits (ds : List Nat) : ∀ b ∈ rowN ds, b = 0 ∨ b = 1 := by
  have hs : ∀ d : Nat, ∀ b ∈ figR d, b = 0 ∨ b = 1 := by
    intro d b hb
    unfold figR strokes at hb
    rcases List.mem_append.mp hb with h | h
    · obtain ⟨l, hl, hb⟩ := List.mem_flatten.mp h
      rw [List.mem_replicate] at hl
      rw [hl.2] at hb
      simp at hb
      omega
    · simp at h
      omega
  intro b hb
  unfold rowN figsR at hb
  rcases List.mem_append.mp hb with h | h
  · obtain ⟨l, hl, hb⟩ := List.mem_flatten.mp h
    obtain ⟨d, _, rfl⟩ := List.mem_map.mp hl
    exact hs d b hb
  · simp at h
    omega
theorem joinL_nil : ∀ l : List (List Nat), TL.joinL [] l = l.flatten
  | [] => rfl
  | [p] => by simp [TL.joinL]
  | p :: q :: r => by
    show p ++ ([] ++ TL.joinL [] (q :: r)) = _
    rw [joinL_nil (q :: r)]
    simp
theorem join_empty (l : List Str) : (Txt.join (Str.ofString "") l).cps.toList = (l.map fun x => x.cps.toList).flatten := by
  rw [TL.join_eq]
  have e := TL.tl_join (Str.ofString "") l
  have e2 : TL.tl (Str.ofString "") = [] := by decide +kernel
  rw [e2, joinL_nil] at e
  exact e
theorem toString_fig {d : Nat} (h1 : 1 ≤ d) (h9 : d ≤ 9) : strI (d : Int) = numS [d] := by
  have : d = 1 ∨ d = 2 ∨ d = 3 ∨ d = 4 ∨ d = 5 ∨ d = 6 ∨ d = 7 ∨ d = 8 ∨ d = 9 := by omega
  rcases this with rfl | rfl | rfl | rfl | rfl | rfl | rfl | rfl | rfl <;> decide +kernel
theorem toPl_iD : ∀ l : List Int, toPl (iD l) = some (l.map PyData.int)
  | [] => by simp [iD, toPl]
  | i :: r => by
    rw [iD_cons]
    unfold toPl
    rw [toPl_iD r]
    simp [toP]
theorem eqvAll_int : ∀ a b : List Int, PyData.eqvAll (a.map PyData.int) (b.map PyData.int) = decide (a = b)
  | [], [] => by simp [PyData.eqvAll]
  | [], _ :: _ => by simp [PyData.eqvAll]
  | _ :: _, [] => by simp [PyData.eqvAll]
  | x :: a, y :: b => by
    simp only [List.map_cons, PyData.eqvAll, PyData.eqv, eqvAll_int a b]
    by_cases h : x = y <;> simp [h]
theorem depth_int : ∀ l : List Int, PyData.depthAll (l.map PyData.int) = 0
  | [] => by simp [PyData.depthAll]
  | i :: r => by simp [PyData.depthAll, PyData.depth, depth_int r]
theorem eqB_ints (S : Sto) (a b : List Int) : eqB S (.tup (iD a)) (.tup (iD b)) = some (decide (a = b)) := by
  unfold eqB
  simp only [scalD, Bool.false_eq_true, if_false, view, toP, toPl_iD, Option.map_some]
  simp [PyData.depth, depth_int, PyData.eqv, eqvAll_int]
theorem eqD_ints (S : Sto) (a b : List Int) : eqD (.tup (iD a)) (.tup (iD b)) S = .ok (.bl (decide (a = b))) S := by
  unfold eqD
  rw [eqB_ints]
theorem log_small {c : Int} (h : 1 ≤ c ∧ c ≤ 58) : c.natAbs.log2 < 1920 := by
  have h1 : c.natAbs < 2 ^ 6 := by omega
  have := Nat.log2_lt (n := c.natAbs) (k := 6) (by omega)
  have h2 := this.mpr h1
  omega
end CW

namespace CW
open PySem PySem.Spec PyProof.Rows L2 MM
/-- _law_bag(_law_script, _law_at); slots 0 _law_script, 1 _law_at, 2 _law_cell, 3 _law_mix, 4 _law_k -/
noncomputable def m_law_bag : MS :=
  sSeq (sSet 2 (eC (.int 0)))
  (sSeq (sIf (tV (eBin ltD (eVar 1) (eCall lenD (aCons (eVar 0) (aNil))))) (sSet 2 (eCall absD (aCons (eBin ixD (eVar 0) (eVar 1)) (aNil)))) (sPass))
  (sSeq (sSet 3 (eBin addD (eC (.int 7919)) (eBin mulD (eC (.int 31)) (eVar 1))))
  (sSeq (sFor (iR1 (aCons (eCall minD (aCons (eCall lenD (aCons (eVar 0) (aNil))) (aCons (eC (.int 40)) (aNil)))) (aNil))) (tN 4) (sSet 3 (eBin modD (eBin addD (eBin addD (eBin powD (eVar 3) (eC (.int 3))) (eBin modD (eBin ixD (eVar 0) (eVar 4)) (eC (.int 1000000007)))) (eVar 4)) (eC (.int 2147483629)))))
  (sSeq (sIf (tV (eBin ltD (eVar 2) (eBin powD (eC (.int 10)) (eC (.int 18))))) (sSet 2 (eBin powD (eC (.int 10)) (eC (.int 18)))) (sPass))
  (sRet (eNew (lNew (aCons (eBin subD (eVar 2) (eBin powD (eC (.int 10)) (eC (.int 18)))) (aCons (eVar 3) (aCons (eBin modD (eVar 1) (eC (.int 11))) (aNil)))))))))))
noncomputable def sp_law_bag : FL := body 5 m_law_bag
/-- _law_draw(_law_bag_here, _law_many_here); slots 0 _law_bag_here, 1 _law_many_here, 2 _law_digit, 3 _law_primes, 4 _law_found, 5 _law_room -/
noncomputable def m_law_draw : MS :=
  sSeq (sIf (tV (eBin gtD (eBin ixD (eVar 0) (eC (.int 0))) (eC (.int 0)))) (sSeq (sSet 2 (eBin modD (eBin ixD (eVar 0) (eC (.int 0))) (eVar 1)))
  (sSeq (sSetIx (eVar 0) (eC (.int 0)) (eBin fdivD (eBin ixD (eVar 0) (eC (.int 0))) (eVar 1)))
  (sRet (eVar 2)))) (sPass))
  (sSeq (sSet 3 (eTup (aCons (eC (.int 99991)) (aCons (eC (.int 99989)) (aCons (eC (.int 99971)) (aCons (eC (.int 99961)) (aCons (eC (.int 99929)) (aCons (eC (.int 99923)) (aCons (eC (.int 99907)) (aCons (eC (.int 99901)) (aCons (eC (.int 99881)) (aCons (eC (.int 99877)) (aCons (eC (.int 99871)) (aNil))))))))))))))
  (sSeq (sSet 4 (eC (.int 0)))
  (sSeq (sSet 5 (eC (.int 1)))
  (sSeq (sWhile (tV (eBin ltD (eVar 5) (eBin mulD (eVar 1) (eC (.int 100))))) (sSeq (sSetIx (eVar 0) (eC (.int 1)) (eBin modD (eBin addD (eBin mulD (eBin ixD (eVar 0) (eC (.int 1))) (eC (.int 48271))) (eC (.int 12345))) (eC (.int 2147483629))))
  (sSeq (sSetIx (eVar 0) (eC (.int 2)) (eBin modD (eBin addD (eBin ixD (eVar 0) (eC (.int 2))) (eC (.int 1))) (eC (.int 11))))
  (sSeq (sSet 4 (eBin addD (eBin mulD (eVar 4) (eC (.int 99000))) (eBin modD (eBin powD (eBin ixD (eVar 0) (eC (.int 1))) (eC (.int 5))) (eBin ixD (eVar 3) (eBin ixD (eVar 0) (eC (.int 2)))))))
  (sSet 5 (eBin mulD (eVar 5) (eC (.int 99000))))))))
  (sRet (eBin modD (eVar 4) (eVar 1)))))))
noncomputable def sp_law_draw : FL := body 6 m_law_draw
/-- _law_many(_law_script, _law_least, _law_most); slots 0 _law_script, 1 _law_least, 2 _law_most -/
noncomputable def m_law_many : MS :=
  sRet (ePl (lR1 (eCall maxD (aCons (eVar 1) (aCons (eCall minD (aCons (eVar 2) (aCons (eCall lenD (aCons (eVar 0) (aNil))) (aNil)))) (aNil))))))
noncomputable def sp_law_many : FL := body 3 m_law_many
/-- _law_figures(_law_bag_here); slots 0 _law_bag_here, 1 _law_many_here, 2 _law_great, 3 _law_left, 4 _law_found, 5 _law_place, 6 _law_more -/
noncomputable def m_law_figures : MS :=
  sSeq (sSet 1 (eBin addD (eC (.int 1)) (eCall sp_law_draw (aCons (eVar 0) (aCons (eC (.int 4)) (aNil))))))
  (sSeq (sSet 2 (eCall sp_law_draw (aCons (eVar 0) (aCons (eC (.int 4)) (aNil)))))
  (sSeq (sSet 3 (eBin subD (eC (.int 24)) (eVar 1)))
  (sSeq (sSet 4 (eC (.str "")))
  (sSeq (sFor (iR1 (aCons (eVar 1) (aNil))) (tN 5) (sSeq (sSet 6 (eCall sp_law_draw (aCons (eVar 0) (aCons (eBin addD (eCall minD (aCons (eVar 3) (aCons (eBin ixD (eTup (aCons (eC (.int 2)) (aCons (eC (.int 2)) (aCons (eC (.int 3)) (aCons (eC (.int 8)) (aNil)))))) (eVar 2)) (aNil)))) (eC (.int 1))) (aNil)))))
  (sSeq (sSet 3 (eBin subD (eVar 3) (eVar 6)))
  (sSet 4 (eBin addD (eVar 4) (eCall strD (aCons (eBin addD (eC (.int 1)) (eVar 6)) (aNil))))))))
  (sRet (eVar 4))))))
noncomputable def sp_law_figures : FL := body 7 m_law_figures
/-- a bag stands at b -/
def BagAt (S : Sto) (b : Nat) : Prop := ∃ a m k : Int, S[b]? = some (.lst false [.int a, .int m, .int k]) ∧ 0 ≤ a ∧ 0 ≤ m ∧ m < 2147483629 ∧ 0 ≤ k ∧ k < 11
/-- nothing but the bag at b was changed -/
def Drew (b : Nat) (S S' : Sto) : Prop := BagAt S' b ∧ ∃ l, S' = S.set b (.lst false l)
theorem BagAt.lt {S : Sto} {b : Nat} (h : BagAt S b) : b < S.length := by
  obtain ⟨a, m, k, h, _⟩ := h
  exact (List.getElem?_eq_some_iff.mp h).1
theorem Drew.trans {b : Nat} {S S1 S2 : Sto} (h : Drew b S S1) (g : Drew b S1 S2) : Drew b S S2 := by
  obtain ⟨_, l, rfl⟩ := h
  obtain ⟨g, m, rfl⟩ := g
  exact ⟨g, m, by rw [List.set_set]⟩
theorem Drew.refl {b : Nat} {S : Sto} (h : BagAt S b) : Drew b S S := by
  refine ⟨h, ?_⟩
  obtain ⟨a, m, k, e, _⟩ := h
  refine ⟨[.int a, .int m, .int k], ?_⟩
  apply List.ext_getElem?
  intro i
  by_cases hi : b = i
  · subst hi
    rw [List.getElem?_set_self (List.getElem?_eq_some_iff.mp e).1, e]
  · rw [List.getElem?_set_ne hi]
theorem Drew.get {b n : Nat} {S S' : Sto} (h : Drew b S S') (hn : n ≠ b) : S'[n]? = S[n]? := by
  obtain ⟨_, l, rfl⟩ := h
  rw [List.getElem?_set_ne (Ne.symm hn)]
theorem Drew.len {b : Nat} {S S' : Sto} (h : Drew b S S') : S'.length = S.length := by
  obtain ⟨_, l, rfl⟩ := h
  simp
def primesD : List D := [.int 99991, .int 99989, .int 99971, .int 99961, .int 99929, .int 99923, .int 99907, .int 99901, .int 99881, .int 99877, .int 99871]
theorem prime_at {k : Int} (h0 : 0 ≤ k) (h1 : k < 11) : ∃ p : Int, atI primesD k = some (.int p) ∧ 0 < p := by
  have : k = 0 ∨ k = 1 ∨ k = 2 ∨ k = 3 ∨ k = 4 ∨ k = 5 ∨ k = 6 ∨ k = 7 ∨ k = 8 ∨ k = 9 ∨ k = 10 := by omega
  rcases this with rfl | rfl | rfl | rfl | rfl | rfl | rfl | rfl | rfl | rfl | rfl <;> exact ⟨_, rfl, by decide⟩
theorem draw_ev {b : Nat} {S : Sto} {n : Int} (hb : BagAt S b) (h1 : 1 ≤ n) (h2 : n < 2 ^ 120) : ∃ d S', sp_law_draw [.ref b, .int n] S = .ok (.int d) S' ∧ 0 ≤ d ∧ d < n ∧ Drew b S S' := by
  have hlt := hb.lt
  obtain ⟨a, m, k, hs, ha, hm0, hm1, hk0, hk1⟩ := hb
  have g0 : ∀ (S : Sto) (x y z : D), S[b]? = some (.lst false [x, y, z]) → ixD (.ref b) (.int 0) S = .ok x S := fun S x y z h => by rw [ixD_ref h]; rfl
  have g1 : ∀ (S : Sto) (x y z : D), S[b]? = some (.lst false [x, y, z]) → ixD (.ref b) (.int 1) S = .ok y S := fun S x y z h => by rw [ixD_ref h]; rfl
  have g2 : ∀ (S : Sto) (x y z : D), S[b]? = some (.lst false [x, y, z]) → ixD (.ref b) (.int 2) S = .ok z S := fun S x y z h => by rw [ixD_ref h]; rfl
  have p0 : ∀ (S : Sto) (x y z v : D), S[b]? = some (.lst false [x, y, z]) → setIx (.ref b) (.int 0) v S = some (S.set b (.lst false [v, y, z])) := fun S x y z v h => setIx_ev (j := 0) h rfl
  have p1 : ∀ (S : Sto) (x y z v : D), S[b]? = some (.lst false [x, y, z]) → setIx (.ref b) (.int 1) v S = some (S.set b (.lst false [x, v, z])) := fun S x y z v h => setIx_ev (j := 1) h rfl
  have p2 : ∀ (S : Sto) (x y z v : D), S[b]? = some (.lst false [x, y, z]) → setIx (.ref b) (.int 2) v S = some (S.set b (.lst false [x, y, v])) := fun S x y z v h => setIx_ev (j := 2) h rfl
  unfold sp_law_draw m_law_draw
  by_cases hp : 0 < a
  · refine ⟨a % n, S.set b (.lst false [.int (a / n), .int m, .int k]), ?_, Int.emod_nonneg _ (by omega), Int.emod_lt_of_pos _ (by omega), ⟨a / n, m, k, List.getElem?_set_self hlt, Int.ediv_nonneg ha (by omega), hm0, hm1, hk0, hk1⟩, _, rfl⟩
    simp [g0 S _ _ _ hs, hp, modD_pos (show 0 < n by omega), fdivD_pos (show 0 < n by omega) (by omega), p0 S _ _ _ _ hs]
  · simp [g0 S _ _ _ hs, hp, sizeL]
    rw [show [D.int 99991, D.int 99989, D.int 99971, D.int 99961, D.int 99929, D.int 99923, D.int 99907, D.int 99901, D.int 99881, D.int 99877, D.int 99871] = primesD from rfl]
    generalize hB : sSeq (sSetIx (eVar 0) (eC (.int 1)) _) _ = B
    refine while_post (Post := fun r => ∃ d S', ((r.then (sRet (eBin modD (eVar 4) (eVar 1)))).end) = .ok (.int d) S' ∧ 0 ≤ d ∧ d < n ∧ Drew b S S')
      (fun ρ S' => ∃ f r, ρ = [some (.ref b), some (.int n), none, some (.tup primesD), some (.int f), some (.int r)] ∧ 1 ≤ r ∧ Drew b S S')
      (fun ρ S' => match ρ with | [_, _, _, _, _, some (.int r)] => 200 - r.toNat.log2 | _ => 0) ?_ ⟨0, 1, rfl, by omega, Drew.refl ⟨a, m, k, hs, ha, hm0, hm1, hk0, hk1⟩⟩ (by dsimp only; omega)
    rintro ρ S' ⟨f, r, rfl, hr, hd⟩
    refine ⟨decide (r < n * 100), S', by simp [mulD_r (i := n) (j := 100) (S := S') (by decide)], ?_⟩
    by_cases hrn : r < n * 100
    · simp only [hrn, decide_true, if_true]
      obtain ⟨⟨a', m', k', hs', ha', hm0', hm1', hk0', hk1'⟩, l, hl⟩ := hd
      have hlt' : b < S'.length := (List.getElem?_eq_some_iff.mp hs').1
      obtain ⟨p, hp, hp0⟩ := prime_at (k := (k' + 1) % 11) (Int.emod_nonneg _ (by decide)) (Int.emod_lt_of_pos _ (by decide))
      have hm2 : 0 ≤ (m' * 48271 + 12345) % 2147483629 := Int.emod_nonneg _ (by decide)
      have hm3 : (m' * 48271 + 12345) % 2147483629 < 2147483629 := Int.emod_lt_of_pos _ (by decide)
      have hk2 : 0 ≤ (k' + 1) % 11 := Int.emod_nonneg _ (by decide)
      have hk3 : (k' + 1) % 11 < 11 := Int.emod_lt_of_pos _ (by decide)
      generalize hm1 : (m' * 48271 + 12345) % 2147483629 = m1 at *
      generalize hk1 : (k' + 1) % 11 = k1 at *
      have s1 : (S'.set b (.lst false [.int a', .int m1, .int k']))[b]? = some (.lst false [.int a', .int m1, .int k']) := List.getElem?_set_self hlt'
      have s2 : (S'.set b (.lst false [.int a', .int m1, .int k1]))[b]? = some (.lst false [.int a', .int m1, .int k1]) := List.getElem?_set_self hlt'
      have e : B [some (.ref b), some (.int n), none, some (.tup primesD), some (.int f), some (.int r)] S' = .nx [some (.ref b), some (.int n), none, some (.tup primesD), some (.int (f * 99000 + m1 ^ 5 % p)), some (.int (r * 99000))] (S'.set b (.lst false [.int a', .int m1, .int k1])) := by
        subst hB
        have c1 : mulD (.int m') (.int 48271) S' = .ok (.int (m' * 48271)) S' := mulD_r (by decide)
        have c2 : modD (.int (m' * 48271 + 12345)) (.int 2147483629) S' = .ok (.int m1) S' := by rw [modD_pos (by decide), hm1]
        have c3 : modD (.int (k' + 1)) (.int 11) (S'.set b (.lst false [.int a', .int m1, .int k'])) = .ok (.int k1) (S'.set b (.lst false [.int a', .int m1, .int k'])) := by rw [modD_pos (by decide), hk1]
        have c4 : mulD (.int f) (.int 99000) (S'.set b (.lst false [.int a', .int m1, .int k1])) = .ok (.int (f * 99000)) (S'.set b (.lst false [.int a', .int m1, .int k1])) := mulD_r (by decide)
        have c5 : mulD (.int r) (.int 99000) (S'.set b (.lst false [.int a', .int m1, .int k1])) = .ok (.int (r * 99000)) (S'.set b (.lst false [.int a', .int m1, .int k1])) := mulD_r (by decide)
        have c6 : powD (.int m1) (.int 5) (S'.set b (.lst false [.int a', .int m1, .int k1])) = .ok (.int (m1 ^ 5)) (S'.set b (.lst false [.int a', .int m1, .int k1])) := powD_pos (by decide) (by decide) (by omega)
        simp [g1 _ _ _ _ hs', c1, c2, p1 _ _ _ _ _ hs', g2 _ _ _ _ s1, c3, p2 _ _ _ _ _ s1, c4, g1 _ _ _ _ s2, c6, g2 _ _ _ _ s2, hp, modD_pos hp0, c5]
      rw [e]
      refine ⟨⟨_, _, rfl, by omega, ⟨a', m1, k1, s2, ha', hm2, hm3, hk2, hk3⟩, [.int a', .int m1, .int k1], by rw [hl, List.set_set]⟩, ?_⟩
      dsimp only
      have h0 : r.toNat ≠ 0 := by omega
      have h0' : (r * 99000).toNat ≠ 0 := by omega
      have q1 : r.toNat.log2 < 130 := (Nat.log2_lt h0).mpr (by omega)
      have q2 : r.toNat.log2 + 1 ≤ (r * 99000).toNat.log2 := (Nat.le_log2 h0').mpr (by
        have := Nat.log2_self_le h0
        rw [Nat.pow_succ]
        omega)
      omega
    · simp only [hrn, decide_false, Bool.false_eq_true, if_false]
      refine ⟨f % n, S', by simp [modD_pos (show 0 < n by omega)], Int.emod_nonneg _ (by omega), Int.emod_lt_of_pos _ (by omega), hd⟩

theorem emod_bounds (x : Int) {n : Int} (h : 0 < n) : 0 ≤ x % n ∧ x % n < n := ⟨Int.emod_nonneg _ (by omega), Int.emod_lt_of_pos _ h⟩
theorem bag_ev {ns : List Int} {at_ : Int} {S : Sto} (h0 : 0 ≤ at_) (h1 : at_ ≤ 1000) (hl : ns.length ≤ 63) : ∃ l, sp_law_bag [.scr ns, .int at_] S = .ok (.ref S.length) (S ++ [.lst false l]) ∧ BagAt (S ++ [.lst false l]) S.length := by
  have hc : ∃ cell : Int, 0 ≤ cell ∧ ∀ (k : Fr → Sto → RS), (sIf (tV (eBin ltD (eVar 1) (eCall lenD (aCons (eVar 0) (aNil))))) (sSet 2 (eCall absD (aCons (eBin ixD (eVar 0) (eVar 1)) (aNil)))) (sPass) [some (.scr ns), some (.int at_), some (.int 0), none, none] S).then k = k [some (.scr ns), some (.int at_), some (.int cell), none, none] S := by
    by_cases hlt : at_ < (ns.length : Int)
    · have hx : atI ns at_ = some (ns[at_.toNat]'(by omega)) := atI_of (j := at_.toNat) (by omega) (List.getElem?_eq_getElem (by omega))
      refine ⟨if ns[at_.toNat]'(by omega) < 0 then -ns[at_.toNat]'(by omega) else ns[at_.toNat]'(by omega), by split <;> omega, fun k => ?_⟩
      simp [hlt, hx]
    · exact ⟨0, by omega, fun k => by simp [hlt]⟩
  obtain ⟨cell, hc0, hc⟩ := hc
  have c1 : mulD (.int 31) (.int at_) S = .ok (.int (31 * at_)) S := mulD_l (by decide)
  unfold sp_law_bag m_law_bag
  rw [body_ev, sSeq_ev]
  simp only [startF_ev, List.map_cons, List.map_nil, List.length_cons, List.length_nil, sSet_ev, eC_ev, of_ok, then_nx]
  rw [show ([some (D.scr ns), some (D.int at_)] ++ List.replicate (5 - (0 + 1 + 1)) (none : Option D)).set 2 (some (D.int 0)) = [some (.scr ns), some (.int at_), some (.int 0), none, none] from rfl]
  rw [sSeq_ev, hc]
  simp [c1]
  generalize hB : sSet 3 (eBin modD _ (eC (.int 2147483629))) = B
  have loop := for_run (g := noG) (tg := tN 4) (b := B) (items := rangeD 0 (if 40 < (ns.length : Int) then 40 else (ns.length : Int)).toNat) (ρ := [some (.scr ns), some (.int at_), some (.int cell), some (.int (7919 + 31 * at_)), none]) (S := S)
    (fun i ρ S' => S' = S ∧ ∃ m x, ρ = [some (.scr ns), some (.int at_), some (.int cell), some (.int m), x] ∧ 0 ≤ m ∧ m < 2147483629) ⟨rfl, _, _, rfl, by omega, by omega⟩ (fun _ _ _ _ => trivial) (by
      rintro i d ρ S' hd ⟨rfl, m, x, rfl, hm0, hm1⟩
      unfold rangeD at hd
      rw [List.getElem?_map] at hd
      obtain ⟨j, hj, rfl⟩ := Option.map_eq_some_iff.mp hd
      have hi : i < (if 40 < (ns.length : Int) then 40 else (ns.length : Int)).toNat := by
        have := (List.getElem?_eq_some_iff.mp hj).1
        simpa using this
      have hji : j = i := by simpa [List.getElem?_range hi] using hj.symm
      subst hji
      have hjn : j < ns.length := by
        split at hi <;> omega
      have hx : atI ns (j : Int) = some ns[j] := atI_nat (List.getElem?_eq_getElem hjn)
      subst hB
      have c2 : powD (.int m) (.int 3) S' = .ok (.int (m ^ 3)) S' := powD_pos (by decide) (by decide) (by omega)
      have b1 := emod_bounds (m ^ 3 + ns[j] % 1000000007 + (j : Int)) (n := 2147483629) (by decide)
      refine ⟨_, rfl, [some (.scr ns), some (.int at_), some (.int cell), some (.int ((m ^ 3 + ns[j] % 1000000007 + (j : Int)) % 2147483629)), some (.int j)], S', ?_, rfl, _, _, rfl, b1.1, b1.2⟩
      simp [c2, hx, modD_pos])
  obtain ⟨ρ', S', e, rfl, m, x, rfl, hm0, hm1⟩ := loop
  have hcond : Wd (if 40 < (ns.length : Int) then 40 else (ns.length : Int)) := by
    apply wd_of <;> split <;> omega
  have c3 : powD (.int 10) (.int 18) S' = .ok (.int (10 ^ 18)) S' := rfl
  have c4 : modD (.int at_) (.int 11) S' = .ok (.int (at_ % 11)) S' := modD_pos (by decide)
  have b2 := emod_bounds at_ (n := 11) (by decide)
  have hA : ∃ A : Int, 0 ≤ A ∧ A = (if cell < 1000000000000000000 then 1000000000000000000 else cell) - 1000000000000000000 := ⟨_, by split <;> omega, rfl⟩
  obtain ⟨A, hA0, hA⟩ := hA
  refine ⟨[.int A, .int m, .int (at_ % 11)], ?_, A, m, at_ % 11, by simp, hA0, hm0, hm1, b2.1, b2.2⟩
  simp only [hcond, if_true, of_ok, e, then_nx]
  by_cases hcell : cell < 1000000000000000000
  · rw [if_pos hcell] at hA
    simp [c3, c4, hcell, sizeL, hA]
  · rw [if_neg hcell] at hA
    simp [c3, c4, hcell, sizeL, hA]

def manyN (least most : Int) (n : Nat) : Int := if (if (n : Int) < most then (n : Int) else most) > least then (if (n : Int) < most then (n : Int) else most) else least
theorem many_ev {ns : List Int} {a b : Int} {S : Sto} (h1 : -1000 ≤ a) (h2 : a ≤ 1000) (h3 : b ≤ 1000) : sp_law_many [.scr ns, .int a, .int b] S = .ok (.pl (rangeD 0 (manyN a b ns.length).toNat)) S := by
  have hc : WdL (manyN a b ns.length) := by
    unfold manyN
    apply wdl_of <;> split <;> (try split) <;> omega
  unfold sp_law_many m_law_many
  have e : (if (if (ns.length : Int) < b then (ns.length : Int) else b) > a then (if (ns.length : Int) < b then (ns.length : Int) else b) else a) = manyN a b ns.length := rfl
  simp only [body_ev, startF_ev, sRet_ev, ePl_ev, lR1_ev, eCall_ev, aCons_ev, aNil_ev, eVar_ev, List.map_cons, List.map_nil, List.length_cons, List.length_nil, List.cons_append, List.getElem?_cons_zero, List.getElem?_cons_succ, bind_ok, lenD_scr, minD_int, maxD_int, e]
  simp [hc]

theorem cap_at {g : Int} (h0 : 0 ≤ g) (h1 : g < 4) : ∃ c : Int, atI [D.int 2, D.int 2, D.int 3, D.int 8] g = some (.int c) ∧ 2 ≤ c ∧ c ≤ 8 := by
  have : g = 0 ∨ g = 1 ∨ g = 2 ∨ g = 3 := by omega
  rcases this with rfl | rfl | rfl | rfl <;> exact ⟨_, rfl, by decide, by decide⟩
theorem strI_fig {d : Nat} (h1 : 1 ≤ d) (h9 : d ≤ 9) : strI (d : Int) = numS [d] := toString_fig h1 h9
theorem numS_app (a b : List Nat) : numS a ++ numS b = numS (a ++ b) := by
  apply str_ext
  show (numS a ++ numS b).cps.toList = _
  rw [show (numS a ++ numS b).cps.toList = (numS a).cps.toList ++ (numS b).cps.toList from TL.tl_append _ _, numS_cps, numS_cps, numS_cps, List.map_append]
theorem figures_ev {b : Nat} {S : Sto} (hb : BagAt S b) : ∃ ds S', sp_law_figures [.ref b] S = .ok (.str (numS ds)) S' ∧ GoodN ds ∧ Drew b S S' := by
  obtain ⟨d1, S1, e1, h10, h11, w1⟩ := draw_ev (n := 4) hb (by decide) (by decide)
  obtain ⟨d2, S2, e2, h20, h21, w2⟩ := draw_ev (n := 4) w1.1 (by decide) (by decide)
  have w12 := w1.trans w2
  obtain ⟨c, hc, hc1, hc2⟩ := cap_at h20 h21
  unfold sp_law_figures m_law_figures
  simp [e1, e2]
  have hcond : Wd (1 + d1) := wd_of (by omega) (by omega)
  simp [hcond]
  generalize hB : sSeq (sSet 6 (eCall sp_law_draw _)) _ = B
  have loop := for_run (g := noG) (tg := tN 5) (b := B) (items := rangeD 0 (1 + d1).toNat) (ρ := [some (.ref b), some (.int (1 + d1)), some (.int d2), some (.int (24 - (1 + d1))), some (.str (Str.ofString "")), none, none]) (S := S2)
    (fun i ρ S' => Drew b S S' ∧ ∃ (ds : List Nat) (left : Int) (x5 x6 : Option D), ρ = [some (.ref b), some (.int (1 + d1)), some (.int d2), some (.int left), some (.str (numS ds)), x5, x6] ∧ ds.length = i ∧ (∀ d ∈ ds, 1 ≤ d ∧ d ≤ 9) ∧ 0 ≤ left ∧ left = 24 - (1 + d1) - ((ds.sum : Int) - (i : Int)))
    ⟨w12, [], _, none, none, rfl, rfl, by simp, by omega, by simp⟩ (fun _ _ _ _ => trivial) (by
      rintro i d ρ S' hd ⟨w, ds, left, x5, x6, rfl, hlen, hfig, hl0, hl⟩
      have hi : i < (1 + d1).toNat := by
        have := (List.getElem?_eq_some_iff.mp hd).1
        simpa [rangeD] using this
      have hcap : 1 ≤ (if c < left then c else left) + 1 := by split <;> omega
      obtain ⟨more, S3, e3, h30, h31, w3⟩ := draw_ev (n := (if c < left then c else left) + 1) w.1 hcap (by split <;> omega)
      have hm9 : more ≤ 8 := by
        have : more < (if c < left then c else left) + 1 := h31
        split at this <;> omega
      have hml : more ≤ left := by
        have : more < (if c < left then c else left) + 1 := h31
        split at this <;> omega
      have hs : strD [.int (1 + more)] S3 = .ok (.str (numS [(1 + more).toNat])) S3 := by
        have hsI := strI_fig (d := (1 + more).toNat) (by omega) (by omega)
        rw [show (((1 + more).toNat : Nat) : Int) = 1 + more by omega] at hsI
        rw [strD_int (log_small (by omega)), hsI]
      have ha : addD (.str (numS ds)) (.str (numS [(1 + more).toNat])) S3 = .ok (.str (numS (ds ++ [(1 + more).toNat]))) S3 := by
        rw [addD_str (by simp [sizeL]; omega), numS_app]
      refine ⟨_, rfl, [some (.ref b), some (.int (1 + d1)), some (.int d2), some (.int (left - more)), some (.str (numS (ds ++ [(1 + more).toNat]))), some d, some (.int more)], S3, ?_, w.trans w3, ds ++ [(1 + more).toNat], left - more, _, _, rfl, by simp [hlen], ?_, by omega, ?_⟩
      · subst hB
        simp [hc, e3, hs, ha, sizeL]
      · intro x hx
        rcases List.mem_append.mp hx with hx | hx
        · exact hfig x hx
        · simp at hx
          omega
      · simp
        omega)
  obtain ⟨ρ', S', e, w, ds, left, x5, x6, rfl, hlen, hfig, hl0, hl⟩ := loop
  have e' : numS [] = Str.ofString "" := by decide +kernel
  have hlen' : ds.length = (1 + d1).toNat := by simpa [rangeD] using hlen
  refine ⟨ds, S', ?_, ⟨by omega, by omega, hfig, ?_⟩, w⟩
  · rw [e]
    simp
  · have : (rangeD 0 (1 + d1).toNat).length = (1 + d1).toNat := by simp [rangeD]
    rw [this] at hl
    omega
end CW

namespace CW
open PySem PySem.Spec PyProof.Rows L2 MM
theorem range_get {lo : Int} {n i : Nat} {d : D} (h : (rangeD lo n)[i]? = some d) : i < n ∧ d = .int (lo + (i : Int)) := by
  unfold rangeD at h
  rw [List.getElem?_map] at h
  obtain ⟨j, hj, rfl⟩ := Option.map_eq_some_iff.mp h
  have hi : i < n := by
    have := (List.getElem?_eq_some_iff.mp hj).1
    simpa using this
  have hji : j = i := by simpa [List.getElem?_range hi] using hj.symm
  subst hji
  exact ⟨hi, rfl⟩
end CW

namespace CW
open PySem PySem.Spec PyProof.Rows L2 MM
theorem manyN_bd {a b : Int} {n : Nat} (h : a ≤ b) (h0 : 0 ≤ a) : a ≤ manyN a b n ∧ manyN a b n ≤ b := by
  unfold manyN
  split <;> split at * <;> omega
def nD (l : List (List Nat)) : List D := l.map fun ds => .str (numS ds)
@[simp] theorem nD_length (l : List (List Nat)) : (nD l).length = l.length := by simp [nD]
theorem cut_to {l : List D} {n : Nat} : MM.cutD l none (some (n : Int)) = l.take n := by
  unfold MM.cutD
  rw [HT.sIx_none, HT.sIx_nat, List.drop_zero, Nat.sub_zero]
  exact (List.take_eq_take_min).symm
def Uni (z : Str) : Prop := ∀ c ∈ z.cps.toList, c < 1114112
theorem Uni.ok {z : Str} (h : Uni z) : PyData.strOk z = true := by
  unfold PyData.strOk
  rw [Array.all_eq_true']
  intro c hc
  have := h c (Array.mem_toList_iff.mpr hc)
  simpa using this
structure Fine (n : Nat) (z : Str) : Prop where
  len : z.length ≤ n
  uni : Uni z
theorem len_list (z : Str) : z.length = z.cps.toList.length := by simp [Str.length]
theorem app_list (x y : Str) : (x ++ y).cps.toList = x.cps.toList ++ y.cps.toList := TL.tl_append _ _
theorem app_len (x y : Str) : (x ++ y).length = x.length + y.length := by rw [len_list, len_list, len_list, app_list, List.length_append]
theorem Fine.app {a b : Nat} {x y : Str} (hx : Fine a x) (hy : Fine b y) : Fine (a + b) (x ++ y) := ⟨by rw [app_len]; have := hx.len; have := hy.len; omega, fun c hc => by
  rw [app_list] at hc
  rcases List.mem_append.mp hc with hc | hc
  · exact hx.uni c hc
  · exact hy.uni c hc⟩
theorem Fine.mono {a b : Nat} {x : Str} (h : Fine a x) (hab : a ≤ b) : Fine b x := ⟨Nat.le_trans h.len hab, h.uni⟩
theorem cut_list (z : Str) (lo hi : Option Int) : (cutS z lo hi).cps.toList = (z.cps.toList.drop (HT.sIx z.length 0 lo)).take (HT.sIx z.length z.length hi - HT.sIx z.length 0 lo) := by simp [cutS]
theorem Fine.cut {a : Nat} {x : Str} (h : Fine a x) (lo hi : Option Int) : Fine a (cutS x lo hi) := ⟨by
  rw [len_list, cut_list]
  have := h.len
  rw [len_list] at this
  exact Nat.le_trans (List.length_take_le' _ _) (Nat.le_trans (by rw [List.length_drop]; omega) this), fun c hc => by
  rw [cut_list] at hc
  exact h.uni c (List.mem_of_mem_drop (List.mem_of_mem_take hc))⟩
theorem fine_num {ds : List Nat} (h : ∀ d ∈ ds, 1 ≤ d ∧ d ≤ 9) : Fine ds.length (numS ds) := ⟨by rw [len_list, numS_cps, List.length_map]; exact Nat.le_refl _, fun c hc => by
  rw [numS_cps] at hc
  obtain ⟨d, hd, rfl⟩ := List.mem_map.mp hc
  have := h d hd
  omega⟩
theorem sl_str {z : Str} {lo hi : Option Int} {S : Sto} (h : z.length ≤ 1000) : slD (.str z) lo hi S = .ok (.str (cutS z lo hi)) S := by
  unfold slD
  exact if_pos (by rw [sizeL]; omega)
theorem add_str {x y : Str} {S : Sto} (h : x.length + y.length ≤ 1000000) : addD (.str x) (.str y) S = .ok (.str (x ++ y)) S := by
  unfold addD
  exact if_pos (by rw [sizeL]; omega)
theorem strD_fig {i : Int} {S : Sto} (h0 : 1 ≤ i) (h9 : i ≤ 9) : strD [.int i] S = .ok (.str (numS [i.toNat])) S := by
  have hl : i.natAbs.log2 < 1920 := by
    have : i.natAbs.log2 ≤ 3 := by
      rw [← Nat.lt_succ_iff]
      exact (Nat.log2_lt (by omega)).mpr (by omega)
    omega
  have := strI_fig (d := i.toNat) (by omega) (by omega)
  rw [strD_int hl, ← this]
  congr 3
  omega
def Ran (Shape : Fr → Prop) (r : RS) : Prop := ∃ ρ' S', r = .nx ρ' S' ∧ Shape ρ'
theorem cells_range {M : Nat} {b : MS} {v : Nat} {ρ : Fr} {S : Sto} (tail : MS) (Shape : Fr → Prop) (h0 : Shape ρ)
    (hs : ∀ (i : Nat) ρ S', i < M → Shape ρ → Ran Shape (b (ρ.set v (some (.int (i : Int)))) S'))
    (ht : ∀ ρ S, Shape ρ → ∃ S', (tail ρ S).end = .ok (.bl true) S') : ∃ S', ((forD noG (tN v) b (rangeD 0 M) ρ S).then tail).end = .ok (.bl true) S' := by
  have L := for_run (g := noG) (tg := tN v) (b := b) (items := rangeD 0 M) (ρ := ρ) (S := S)
    (fun _ ρ S' => Shape ρ) h0 (fun _ _ _ h => trivial) (by
      rintro i d ρ S' hd hsh
      obtain ⟨hi, rfl⟩ := range_get hd
      obtain ⟨ρ', S'', e, h1⟩ := hs i ρ S' hi hsh
      refine ⟨_, rfl, ρ', S'', ?_, h1⟩
      rw [Int.zero_add]
      exact e)
  obtain ⟨ρ', S', e, h1⟩ := L
  rw [e]
  exact ht ρ' S' h1
theorem Fine.okT {n : Nat} {z : Str} {S : Sto} (h : Fine n z) (hn : n ≤ 1000000) : okT S (.str z) := by
  show Str.length _ ≤ sizeLine
  rw [sizeL]
  have := h.len
  omega
end CW

namespace CW
open PySem PySem.Spec PyProof.Rows L2 MM
def Bag2 (S : Sto) (b : Nat) : Prop := ∃ a m : Int, S[b]? = some (.lst false [.int a, .int m]) ∧ 0 ≤ a ∧ 0 ≤ m ∧ m ≤ 2147483647
def Took (b : Nat) (S S' : Sto) : Prop := Bag2 S' b ∧ ∃ l, S' = S.set b (.lst false l)
def Grown (b : Nat) (S S' : Sto) : Prop := Bag2 S' b ∧ S.length ≤ S'.length ∧ ∀ n, n < S.length → n ≠ b → S'[n]? = S[n]?
theorem Bag2.lt {S : Sto} {b : Nat} (h : Bag2 S b) : b < S.length := by
  obtain ⟨a, m, h, _⟩ := h
  exact (List.getElem?_eq_some_iff.mp h).1
theorem Took.trans {b : Nat} {S S1 S2 : Sto} (h : Took b S S1) (g : Took b S1 S2) : Took b S S2 := by
  obtain ⟨_, l, rfl⟩ := h
  obtain ⟨g, m, rfl⟩ := g
  exact ⟨g, m, by rw [List.set_set]⟩
theorem Took.refl {b : Nat} {S : Sto} (h : Bag2 S b) : Took b S S := by
  refine ⟨h, ?_⟩
  obtain ⟨a, m, e, _⟩ := h
  obtain ⟨hl, e⟩ := List.getElem?_eq_some_iff.mp e
  exact ⟨[.int a, .int m], by rw [← e]; simp⟩
theorem Took.get {b n : Nat} {S S' : Sto} (h : Took b S S') (hn : n ≠ b) : S'[n]? = S[n]? := by
  obtain ⟨_, l, rfl⟩ := h
  rw [List.getElem?_set_ne (Ne.symm hn)]
theorem Took.len {b : Nat} {S S' : Sto} (h : Took b S S') : S'.length = S.length := by
  obtain ⟨_, l, rfl⟩ := h
  simp
theorem Grown.refl {b : Nat} {S : Sto} (h : Bag2 S b) : Grown b S S := ⟨h, Nat.le_refl _, fun _ _ _ => rfl⟩
theorem Grown.trans {b : Nat} {S S1 S2 : Sto} (h : Grown b S S1) (g : Grown b S1 S2) : Grown b S S2 := ⟨g.1, Nat.le_trans h.2.1 g.2.1, fun n hn hb => by rw [g.2.2 n (by have := h.2.1; omega) hb, h.2.2 n hn hb]⟩
theorem Bag2.app {b : Nat} {S : Sto} (h : Bag2 S b) (T : Sto) : Bag2 (S ++ T) b := by
  have := h.lt
  obtain ⟨a, m, e, r⟩ := h
  exact ⟨a, m, by rw [List.getElem?_append_left this, e], r⟩
theorem Grown.app {b : Nat} {S S' : Sto} (h : Grown b S S') (T : Sto) : Grown b S (S' ++ T) := ⟨h.1.app T, by have := h.2.1; simp; omega, fun n hn hb => by rw [List.getElem?_append_left (by have := h.2.1; omega), h.2.2 n hn hb]⟩
section
variable {b : Nat} {S : Sto} {n : Int}
end
end CW

namespace CW
open PySem PySem.Spec PyProof.Rows L2 MM
end CW

namespace CW
open PySem PySem.Spec PyProof.Rows L2 MM
theorem Took.lt {b : Nat} {S S' : Sto} (h : Took b S S') : b < S.length := by
  have := h.1.lt
  rw [h.len] at this
  exact this
theorem flat_nD {l : List (List Nat)} : (nD l).all flatD = true := by
  rw [List.all_eq_true]
  intro d hd
  obtain ⟨e, _, rfl⟩ := List.mem_map.mp hd
  rfl
end CW

namespace CW
open PySem PySem.Spec PyProof.Rows L2 MM
theorem join_signs {cs : List Nat} (h : cs.length ≤ 1000000) (S : Sto) : joinD (.str (Str.ofString "")) (cs.map fun c => D.str ⟨#[c]⟩) S = .ok (.str ⟨cs.toArray⟩) S := by
  unfold joinD
  have h0 : (Str.ofString "").length = 0 := by decide +kernel
  have ht := txts_map (fun c : Nat => (⟨#[c]⟩ : Str)) cs
  have hs : ((cs.map fun c : Nat => (⟨#[c]⟩ : Str)).map (·.length)).sum = cs.length := by
    rw [List.map_map]
    clear ht h
    induction cs with
    | nil => rfl
    | cons c r ih => rw [List.map_cons, List.sum_cons, ih, List.length_cons]; simp [Str.length]; omega
  simp only [ht, h0, hs, Nat.mul_zero, Nat.add_zero]
  rw [if_pos (by omega)]
  congr 2
  apply str_ext
  rw [join_empty, List.map_map]
  clear ht hs h
  induction cs with
  | nil => rfl
  | cons c r ih => rw [List.map_cons, List.flatten_cons, ih]; rfl
end CW

namespace CW
open PySem PySem.Spec PyProof.Rows L2 MM
inductive Pc where
  | rnd (ds : List Nat) | odd (n : Nat) | spoilt (n : Nat) | begun (n : Nat) | quiet (n : Nat) | key (n : Nat)
def Pc.ticks : Pc → Nat
  | .rnd ds => (rowN ds).length
  | .odd n => n
  | .spoilt n => n
  | .begun n => n
  | .quiet n => n
  | .key n => n
/-- like signs from here on -/
def runL (x : Int) : List Int → Nat
  | [] => 0
  | y :: r => if y = x then runL x r + 1 else 0
/-- a piece that begins with a break: how long, how many quiet ticks at its end -/
def brk : Nat → List Int → Nat × Nat
  | q, [] => (0, q)
  | q, x :: r => if x ≠ 2 ∧ q < 5 then ((brk (if x = 0 then q + 1 else 0) r).1 + 1, (brk (if x = 0 then q + 1 else 0) r).2) else (0, q)
open Classical in
noncomputable def numR (bits : List Int) : Option (List Nat) := if h : ∃ ds, GoodN ds ∧ bits = rowN ds then some (Classical.choose h) else none
theorem numR_row {ds : List Nat} (h : GoodN ds) : numR (rowN ds) = some ds := by
  have hx : ∃ es, GoodN es ∧ rowN ds = rowN es := ⟨ds, h, rfl⟩
  unfold numR
  rw [dif_pos hx]
  have q := Classical.choose_spec hx
  rw [← rowN_inj (fun d hd => (h.fig d hd).1) (fun d hd => (q.1.fig d hd).1) q.2]
/-- the first piece of a tape -/
noncomputable def piece1 (t : List Int) : Pc := match t with
  | [] => .quiet 0
  | x :: _ => if x = 1 then (if (brk 0 t).2 < 5 then (if (brk 0 t).1 < t.length then .spoilt (brk 0 t).1 else .begun (brk 0 t).1) else (match numR (t.take (brk 0 t).1) with | some ds => .rnd ds | none => .odd (brk 0 t).1))
    else if x = 2 then .key (runL x t) else .quiet (runL x t)
def len1 (t : List Int) : Nat := match t with
  | [] => 0
  | x :: _ => if x = 1 then (brk 0 t).1 else runL x t
theorem len1_pos {x : Int} {r : List Int} : 1 ≤ len1 (x :: r) := by
  unfold len1
  by_cases h : x = 1
  · subst h
    simp [brk]
  · simp [h, runL]
noncomputable def ptF : Nat → List Int → List Pc
  | 0, _ => []
  | n + 1, t => match t with
    | [] => []
    | x :: r => piece1 (x :: r) :: ptF n ((x :: r).drop (len1 (x :: r)))
noncomputable def pt (t : List Int) : List Pc := ptF t.length t
theorem ptF_eq : ∀ (n m : Nat) (t : List Int), t.length ≤ n → t.length ≤ m → ptF n t = ptF m t := by
  intro n
  induction n with
  | zero =>
    intro m t h1 h2
    have : t = [] := List.eq_nil_of_length_eq_zero (by omega)
    subst this
    cases m <;> rfl
  | succ n ih =>
    intro m t h1 h2
    cases t with
    | nil => cases m <;> rfl
    | cons x r =>
      cases m with
      | zero => simp at h2
      | succ m =>
        have hp := len1_pos (x := x) (r := r)
        simp only [ptF]
        rw [ih m _ (by simp at h1 ⊢; omega) (by simp at h2 ⊢; omega)]
@[simp] theorem pt_nil : pt [] = [] := rfl
theorem pt_cons (x : Int) (r : List Int) : pt (x :: r) = piece1 (x :: r) :: pt ((x :: r).drop (len1 (x :: r))) := by
  have hp := len1_pos (x := x) (r := r)
  show piece1 (x :: r) :: ptF r.length _ = _
  congr 1
  exact ptF_eq _ _ _ (by simp; omega) (Nat.le_refl _)
def Pc.Ok (p : Pc) : Prop := ∀ ds, p = .rnd ds → GoodN ds
def rnd1 (a : Nat) : Pc → List (Nat × List Nat)
  | .rnd ds => [(a + (rowN ds).length - 1, ds)]
  | _ => []
def rnds : Nat → List Pc → List (Nat × List Nat)
  | _, [] => []
  | a, p :: r => rnd1 a p ++ rnds (a + p.ticks) r
def ticksOf (l : List Pc) : Nat := (l.map Pc.ticks).sum
theorem rnds_app : ∀ (l m : List Pc) (a : Nat), rnds a (l ++ m) = rnds a l ++ rnds (a + ticksOf l) m
  | [], m, a => by simp [rnds, ticksOf]
  | p :: l, m, a => by
    simp only [List.cons_append, rnds, rnds_app l m, List.append_assoc, ticksOf, List.map_cons, List.sum_cons]
    rw [Nat.add_assoc]
end CW

namespace CW
open PySem PySem.Spec PyProof.Rows L2 MM
mutual
def plD : Nat → D → Prop
  | _, .non => True
  | _, .bl _ => True
  | _, .int _ => True
  | _, .str x => PyData.strOk x = true
  | _, .ref _ => False
  | _, .scr _ => False
  | 0, .tup _ => False
  | 0, .pl _ => False
  | n + 1, .tup l => plL n l
  | n + 1, .pl l => plL n l
def plL : Nat → List D → Prop
  | _, [] => True
  | n, d :: ds => plD n d ∧ plL n ds
end
theorem plL_iff {n : Nat} : ∀ {l : List D}, plL n l ↔ ∀ d ∈ l, plD n d
  | [] => by unfold plL; simp
  | d :: r => by
    unfold plL
    rw [plL_iff]
    simp
mutual
theorem plD_toP : ∀ (n : Nat) (d : D), plD n d → ∃ p, toP d = some p ∧ p.depth ≤ n ∧ p.canLay0 = true
  | n, .non, h => ⟨_, by unfold toP; rfl, by simp [PyData.depth], by simp [PyData.canLay0]⟩
  | n, .bl _, h => ⟨_, by unfold toP; rfl, by simp [PyData.depth], by simp [PyData.canLay0]⟩
  | n, .int _, h => ⟨_, by unfold toP; rfl, by simp [PyData.depth], by simp [PyData.canLay0]⟩
  | n, .str x, h => by
    unfold plD at h
    exact ⟨_, by unfold toP; rw [if_pos h], by simp [PyData.depth], by simpa [PyData.canLay0] using h⟩
  | n, .ref _, h => by unfold plD at h; exact h.elim
  | n, .scr _, h => by unfold plD at h; exact h.elim
  | 0, .tup _, h => by unfold plD at h; exact h.elim
  | 0, .pl _, h => by unfold plD at h; exact h.elim
  | n + 1, .tup l, h => by
    unfold plD at h
    obtain ⟨ps, e, hd, hc⟩ := plL_toP n l h
    exact ⟨.tuple ps, by unfold toP; rw [e]; rfl, by simp [PyData.depth]; omega, by simpa [PyData.canLay0] using hc⟩
  | n + 1, .pl l, h => by
    unfold plD at h
    obtain ⟨ps, e, hd, hc⟩ := plL_toP n l h
    exact ⟨.list ps, by unfold toP; rw [e]; rfl, by simp [PyData.depth]; omega, by simpa [PyData.canLay0] using hc⟩
theorem plL_toP : ∀ (n : Nat) (l : List D), plL n l → ∃ ps, toPl l = some ps ∧ PyData.depthAll ps ≤ n ∧ PyData.canLayAll0 ps = true
  | n, [], h => ⟨[], by unfold toPl; rfl, by simp [PyData.depthAll], by simp [PyData.canLayAll0]⟩
  | n, d :: ds, h => by
    unfold plL at h
    obtain ⟨p, e1, d1, c1⟩ := plD_toP n d h.1
    obtain ⟨ps, e2, d2, c2⟩ := plL_toP n ds h.2
    exact ⟨p :: ps, by unfold toPl; rw [e1, e2], by simp [PyData.depthAll]; omega, by simp [PyData.canLayAll0, c1, c2]⟩
end
theorem view_pl {S : Sto} {d : D} (h : ∀ n, d ≠ .ref n) : view S d = toP d := by
  cases d <;> first | rfl | exact absurd rfl (h _)
/-- a thing is like itself -/
theorem eqB_same {S : Sto} {d : D} {n : Nat} (h : plD n d) (hn : n ≤ 64) : eqB S d d = some true := by
  obtain ⟨p, e, hd, hc⟩ := plD_toP n d h
  have hr := PySem.SeqAt.eqv_refl p hc
  unfold eqB
  split
  · cases d <;> first | (simp [sameD]; done) | (simp [scalD] at *; done)
  · rw [view_pl (fun k q => by rw [q] at h; unfold plD at h; exact h), e]
    simp only
    rw [if_pos ⟨by omega, by omega⟩, hr]
theorem eq_same {S : Sto} {d : D} {n : Nat} (h : plD n d) (hn : n ≤ 64) : eqD d d S = .ok (.bl true) S := by
  unfold eqD
  rw [eqB_same h hn]
/-- xs == [] -/
theorem eqB_nil {S : Sto} {x : D} {l : List D} {n : Nat} (hx : lstOf S x = some l) (h : plL n l) (hn : n ≤ 60) : eqB S x (.pl []) = some l.isEmpty := by
  obtain ⟨ps, e, hd, hc⟩ := plL_toP n l h
  have hlen : l.isEmpty = ps.isEmpty := by
    cases l with
    | nil => unfold toPl at e; cases e; rfl
    | cons d r =>
      unfold toPl at e
      split at e
      · cases e; rfl
      · cases e
  have hv : view S x = some (.list ps) := by
    cases x with
    | pl l' => cases hx; show toP _ = _; unfold toP; rw [e]; rfl
    | ref k =>
      rw [lstOf_ref] at hx
      unfold view
      split at hx
      · rename_i hk
        cases hx
        simp only [hk, e]
        rfl
      · cases hx
    | _ => cases hx
  have hs : scalD x (.pl []) = false := by cases x <;> first | rfl | cases hx
  unfold eqB
  rw [hs, if_neg (by decide), hv]
  show (match some (PyData.list ps), toP (.pl []) with | some p, some q => if p.depth ≤ 64 ∧ q.depth ≤ 64 then some (PyData.eqv p q) else none | _, _ => none) = _
  have h0 : toP (.pl []) = some (.list []) := by unfold toP toPl; rfl
  rw [h0]
  simp only
  rw [if_pos ⟨by simp [PyData.depth]; omega, by simp [PyData.depth, PyData.depthAll]⟩, hlen]
  cases ps <;> simp [PyData.eqv, PyData.eqvAll]
theorem strOk_num (ds : List Nat) (h : ∀ d ∈ ds, d ≤ 9) : PyData.strOk (numS ds) = true := Uni.ok fun c hc => by
  rw [numS_cps] at hc
  obtain ⟨d, hd, rfl⟩ := List.mem_map.mp hc
  have := h d hd
  omega
theorem GoodN.strOk {ds : List Nat} (h : GoodN ds) : PyData.strOk (numS ds) = true := strOk_num ds fun d hd => (h.fig d hd).2
end CW

namespace CW
open PySem PySem.Spec PyProof.Rows L2 MM
def qaft : Nat → List Int → Nat
  | q, [] => q
  | q, x :: r => qaft (if x = 0 then q + 1 else 0) r
def calm : Nat → List Int → Prop
  | _, [] => True
  | q, x :: r => x ≠ 2 ∧ q < 5 ∧ calm (if x = 0 then q + 1 else 0) r
theorem qaft_app : ∀ (u v : List Int) (q : Nat), qaft q (u ++ v) = qaft (qaft q u) v
  | [], v, q => rfl
  | x :: u, v, q => by simp only [List.cons_append, qaft, qaft_app u v]
theorem calm_app : ∀ (u v : List Int) (q : Nat), calm q (u ++ v) ↔ calm q u ∧ calm (qaft q u) v
  | [], v, q => by simp [calm, qaft]
  | x :: u, v, q => by simp only [List.cons_append, calm, qaft, calm_app u v, and_assoc]
theorem brk_calm : ∀ (u T : List Int) (q : Nat), calm q u → brk q (u ++ T) = (u.length + (brk (qaft q u) T).1, (brk (qaft q u) T).2)
  | [], T, q, _ => by simp [qaft]
  | x :: u, T, q, h => by
    obtain ⟨h1, h2, h3⟩ := h
    have ih := brk_calm u T _ h3
    have e : brk q (x :: (u ++ T)) = ((brk (if x = 0 then q + 1 else 0) (u ++ T)).1 + 1, (brk (if x = 0 then q + 1 else 0) (u ++ T)).2) := by
      rw [brk, if_pos ⟨h1, h2⟩]
    rw [List.cons_append, e, ih]
    simp only [qaft, List.length_cons]
    rw [Nat.add_right_comm]
theorem brk_five (T : List Int) : brk 5 T = (0, 5) := by
  cases T with
  | nil => rfl
  | cons x r => unfold brk; rw [if_neg (by omega)]
theorem brk_key (q : Nat) (T : List Int) : brk q (2 :: T) = (0, q) := by
  unfold brk
  rw [if_neg (by simp)]
theorem strokes_calm : ∀ (d q : Nat), 1 ≤ d → q < 5 → calm q (strokes d) ∧ qaft q (strokes d) = 1
  | 0, q, h, _ => absurd h (by omega)
  | d + 1, q, _, hq => by
    have e : strokes (d + 1) = 1 :: 0 :: strokes d := by
      unfold strokes
      rw [List.replicate_succ, List.flatten_cons] <;> rfl
    rw [e]
    by_cases hd : d = 0
    · subst hd
      simp [calm, qaft, strokes, hq]
    · obtain ⟨h1, h2⟩ := strokes_calm d 1 (by omega) (by omega)
      simp [calm, qaft, hq, h1, h2]
theorem figR_calm {d q : Nat} (h : 1 ≤ d) (hq : q < 5) : calm q (figR d) ∧ qaft q (figR d) = 3 := by
  obtain ⟨h1, h2⟩ := strokes_calm d q h hq
  unfold figR
  rw [calm_app, qaft_app, h2]
  exact ⟨⟨h1, by simp [calm]⟩, by simp [qaft]⟩
theorem figsR_cons (d : Nat) (ds : List Nat) : figsR (d :: ds) = figR d ++ figsR ds := by simp [figsR]
theorem figsR_calm : ∀ (ds : List Nat) (q : Nat), (∀ d ∈ ds, 1 ≤ d) → q < 5 → calm q (figsR ds) ∧ (ds ≠ [] → qaft q (figsR ds) = 3)
  | [], q, _, _ => ⟨by simp [figsR, calm], fun h => absurd rfl h⟩
  | d :: ds, q, h, hq => by
    obtain ⟨h1, h2⟩ := figR_calm (h d (by simp)) hq
    obtain ⟨h3, h4⟩ := figsR_calm ds 3 (fun e he => h e (by simp [he])) (by omega)
    rw [figsR_cons, calm_app, qaft_app, h2]
    refine ⟨⟨h1, h3⟩, fun _ => ?_⟩
    by_cases hn : ds = []
    · subst hn; rfl
    · exact h4 hn
theorem row_calm {ds : List Nat} (h : GoodN ds) : calm 0 (rowN ds) ∧ qaft 0 (rowN ds) = 5 := by
  have hne : ds ≠ [] := fun e => by have := h.pos; rw [e] at this; simp at this
  obtain ⟨h1, h2⟩ := figsR_calm ds 0 (fun d hd => (h.fig d hd).1) (by omega)
  unfold rowN
  rw [calm_app, qaft_app, h2 hne]
  exact ⟨⟨h1, by simp [calm]⟩, by simp [qaft]⟩
theorem row_head {ds : List Nat} (h : GoodN ds) : ∃ r, rowN ds = 1 :: r := by
  match ds, h with
  | [], h => have := h.pos; simp at this
  | d :: ds, h =>
    have hd := (h.fig d (by simp)).1
    match d, hd with
    | d + 1, _ =>
      refine ⟨0 :: (strokes d ++ [0, 0] ++ figsR ds ++ [0, 0]), ?_⟩
      have e : strokes (d + 1) = 1 :: 0 :: strokes d := by
        unfold strokes
        rw [List.replicate_succ, List.flatten_cons] <;> rfl
      unfold rowN
      rw [figsR_cons]
      unfold figR
      rw [e]
      simp
/-- a part of a row, its beginning -/
theorem part_calm {ds : List Nat} (h : GoodN ds) {n : Nat} (h1 : 1 ≤ n) (hn : n < (rowN ds).length) : calm 0 ((rowN ds).take n) ∧ qaft 0 ((rowN ds).take n) < 5 ∧ ∃ r, (rowN ds).take n = 1 :: r := by
  obtain ⟨hc, _⟩ := row_calm h
  obtain ⟨r, hr⟩ := row_head h
  rw [← List.take_append_drop n (rowN ds), calm_app] at hc
  refine ⟨hc.1, ?_, ?_⟩
  · have hd : (rowN ds).drop n ≠ [] := by
      intro e
      have := congrArg List.length e
      simp at this
      omega
    obtain ⟨x, T, hx⟩ := List.exists_cons_of_ne_nil hd
    rw [hx] at hc
    exact hc.2.2.1
  · rw [hr]
    match n, h1 with
    | n + 1, _ => exact ⟨r.take n, rfl⟩
instance (ds : List Nat) : Decidable (GoodN ds) := if h : 1 ≤ ds.length ∧ ds.length ≤ 4 ∧ (∀ d ∈ ds, 1 ≤ d ∧ d ≤ 9) ∧ ds.sum ≤ 24 then .isTrue ⟨h.1, h.2.1, h.2.2.1, h.2.2.2⟩ else .isFalse fun g => h ⟨g.pos, g.len, g.fig, g.sum⟩
inductive Sg : Pc → List Int → Prop
  | rnd {ds : List Nat} (h : GoodN ds) : Sg (.rnd ds) (rowN ds)
  | quiet {n : Nat} (h : 1 ≤ n) : Sg (.quiet n) (List.replicate n 0)
  | key {n : Nat} (h : 1 ≤ n) : Sg (.key n) (List.replicate n 2)
  | spoilt {ds : List Nat} {n : Nat} (h : GoodN ds) (h1 : 1 ≤ n) (hn : n < (rowN ds).length) : Sg (.spoilt n) ((rowN ds).take n)
  | begun {ds : List Nat} {n : Nat} (h : GoodN ds) (h1 : 1 ≤ n) (hn : n < (rowN ds).length) : Sg (.begun n) ((rowN ds).take n)
  | odd {s : List Int} (h : calm 0 s) (hq : qaft 0 s = 5) (h1 : ∃ r, s = 1 :: r) (hn : numR s = none) : Sg (.odd s.length) s
def Pc.isQ : Pc → Bool
  | .quiet _ => true
  | _ => false
def Pc.isK : Pc → Bool
  | .key _ => true
  | _ => false
theorem Sg.head {p : Pc} {s : List Int} (h : Sg p s) : ∃ x r, s = x :: r ∧ (x = 0 → p.isQ = true) ∧ (x = 2 → p.isK = true) ∧ (p.isK = true → x = 2) := by
  cases h with
  | rnd hg => obtain ⟨r, e⟩ := row_head hg; exact ⟨1, r, e, by intro h; omega, by intro h; omega, fun h => nomatch h⟩
  | @quiet n h1 => match n, h1 with | n + 1, _ => exact ⟨0, _, rfl, fun _ => rfl, by intro h; omega, fun h => nomatch h⟩
  | @key n h1 => match n, h1 with | n + 1, _ => exact ⟨2, _, rfl, by intro h; omega, fun _ => rfl, fun _ => rfl⟩
  | spoilt hg h1 hn => obtain ⟨_, _, r, e⟩ := part_calm hg h1 hn; exact ⟨1, r, e, by intro h; omega, by intro h; omega, fun h => nomatch h⟩
  | begun hg h1 hn => obtain ⟨_, _, r, e⟩ := part_calm hg h1 hn; exact ⟨1, r, e, by intro h; omega, by intro h; omega, fun h => nomatch h⟩
  | odd _ _ h1 _ => obtain ⟨r, e⟩ := h1; exact ⟨1, r, e, by intro h; omega, by intro h; omega, fun h => nomatch h⟩
theorem Sg.ticks {p : Pc} {s : List Int} (h : Sg p s) : p.ticks = s.length := by
  cases h <;> simp [Pc.ticks] <;> omega
theorem Sg.ok {p : Pc} {s : List Int} (h : Sg p s) : p.Ok := by
  intro ds e
  cases h <;> cases e
  assumption
abbrev LP := Pc × List Int
def cat (l : List LP) : List Int := (l.map (·.2)).flatten
/-- one piece behind another -/
def Next (p : Pc) (l : List LP) : Prop := match p with
  | .quiet _ => ∀ q r, l = q :: r → q.1.isQ = false
  | .key _ => ∀ q r, l = q :: r → q.1.isK = false
  | .spoilt _ => ∃ q r, l = q :: r ∧ q.1.isK = true
  | .begun _ => l = []
  | _ => True
def Good : List LP → Prop
  | [] => True
  | p :: r => Sg p.1 p.2 ∧ Next p.1 r ∧ Good r
theorem runL_rep (x : Int) (T : List Int) (hT : ∀ y r, T = y :: r → y ≠ x) : ∀ n : Nat, runL x (List.replicate n x ++ T) = n
  | 0 => by
    cases T with
    | nil => rfl
    | cons y r => simp [runL, hT y r rfl]
  | n + 1 => by
    rw [List.replicate_succ, List.cons_append]
    unfold runL
    rw [if_pos rfl, runL_rep x T hT n]
theorem cat_cons (p : LP) (l : List LP) : cat (p :: l) = p.2 ++ cat l := by simp [cat]
theorem cat_head {l : List LP} (h : Good l) {y : Int} {r : List Int} (e : cat l = y :: r) : ∃ q l', l = q :: l' ∧ (y = 0 → q.1.isQ = true) ∧ (y = 2 → q.1.isK = true) := by
  cases l with
  | nil => cases e
  | cons q l' =>
    obtain ⟨x, u, hx, h0, h2, _⟩ := h.1.head
    rw [cat_cons, hx] at e
    cases e
    exact ⟨q, l', rfl, h0, h2⟩
theorem piece_first {p : LP} {l : List LP} (h : Good (p :: l)) : piece1 (cat (p :: l)) = p.1 ∧ len1 (cat (p :: l)) = p.2.length := by
  obtain ⟨hs, hn, hg⟩ := h
  obtain ⟨p, s⟩ := p
  simp only at hs hn
  rw [cat_cons]
  generalize hT : cat l = T
  have hh : ∀ y r, T = y :: r → ∃ q l', l = q :: l' ∧ (y = 0 → q.1.isQ = true) ∧ (y = 2 → q.1.isK = true) := fun y r e => cat_head hg (hT.trans e)
  -- a piece that begins with a break
  have brkd : ∀ (r : List Int), s = 1 :: r → len1 (s ++ T) = (brk 0 (s ++ T)).1 ∧ piece1 (s ++ T) = (if (brk 0 (s ++ T)).2 < 5 then (if (brk 0 (s ++ T)).1 < (s ++ T).length then .spoilt (brk 0 (s ++ T)).1 else .begun (brk 0 (s ++ T)).1) else (match numR ((s ++ T).take (brk 0 (s ++ T)).1) with | some ds => .rnd ds | none => .odd (brk 0 (s ++ T)).1)) := fun r e => by
    rw [e]
    exact ⟨rfl, rfl⟩
  cases hs with
  | @rnd ds hgd =>
    obtain ⟨r, e⟩ := row_head hgd
    obtain ⟨h1, h2⟩ := brkd r e
    obtain ⟨hc, hq⟩ := row_calm hgd
    have hb := brk_calm (rowN ds) T 0 hc
    rw [hq, brk_five] at hb
    rw [h1, h2, hb]
    simp [numR_row hgd]
  | @quiet n h1 =>
    match n, h1 with
    | n + 1, _ =>
      have hr := runL_rep 0 T (fun y r e hy => by
        obtain ⟨q, l', e2, h0, _⟩ := hh y r e
        have := hn q l' e2
        rw [h0 hy] at this
        cases this) (n + 1)
      have e1 : piece1 (List.replicate (n + 1) 0 ++ T) = .quiet (runL 0 (List.replicate (n + 1) 0 ++ T)) := rfl
      have e2 : len1 (List.replicate (n + 1) 0 ++ T) = runL 0 (List.replicate (n + 1) 0 ++ T) := rfl
      rw [e1, e2, hr]
      simp
  | @key n h1 =>
    match n, h1 with
    | n + 1, _ =>
      have hr := runL_rep 2 T (fun y r e hy => by
        obtain ⟨q, l', e2, _, h2⟩ := hh y r e
        have := hn q l' e2
        rw [h2 hy] at this
        cases this) (n + 1)
      have e1 : piece1 (List.replicate (n + 1) 2 ++ T) = .key (runL 2 (List.replicate (n + 1) 2 ++ T)) := rfl
      have e2 : len1 (List.replicate (n + 1) 2 ++ T) = runL 2 (List.replicate (n + 1) 2 ++ T) := rfl
      rw [e1, e2, hr]
      simp
  | @spoilt ds n hgd h1 hnl =>
    obtain ⟨hc, hq, r, e⟩ := part_calm hgd h1 hnl
    obtain ⟨g1, g2⟩ := brkd r e
    obtain ⟨q, l', el, hk⟩ := hn
    obtain ⟨x, u, hx, _, _, hx2⟩ := (show Sg q.1 q.2 by rw [el] at hg; exact hg.1).head
    have hT2 : ∃ T', T = 2 :: T' := ⟨u ++ cat l', by rw [← hT, el, cat_cons, hx, hx2 hk]; rfl⟩
    obtain ⟨T', hT2⟩ := hT2
    have hb := brk_calm ((rowN ds).take n) T 0 hc
    rw [hT2, brk_key] at hb
    have hlen : ((rowN ds).take n).length = n := by simp; omega
    rw [hT2] at g1 g2 ⊢
    rw [g1, g2, hb]
    simp [hq, hlen]
  | @begun ds n hgd h1 hnl =>
    obtain ⟨hc, hq, r, e⟩ := part_calm hgd h1 hnl
    obtain ⟨g1, g2⟩ := brkd r e
    have hn' : l = [] := hn
    rw [hn'] at hT
    have hT2 : T = [] := hT.symm
    have hb := brk_calm ((rowN ds).take n) [] 0 hc
    have hlen : ((rowN ds).take n).length = n := by simp; omega
    rw [hT2] at g1 g2 ⊢
    rw [g1, g2, hb]
    simp [hq, hlen, brk]
  | odd hc hq h1 hnr =>
    obtain ⟨r, e⟩ := h1
    obtain ⟨g1, g2⟩ := brkd r e
    have hb := brk_calm s T 0 hc
    rw [hq, brk_five] at hb
    rw [g1, g2, hb]
    simp [hnr]
theorem pt_cat : ∀ (l : List LP), Good l → pt (cat l) = l.map (·.1)
  | [], _ => rfl
  | p :: l, h => by
    obtain ⟨h1, h2⟩ := piece_first h
    obtain ⟨x, r, hx, _⟩ := h.1.head
    have e : cat (p :: l) = x :: (r ++ cat l) := by rw [cat_cons, hx]; rfl
    rw [e, pt_cons, ← e, h1, h2, cat_cons, List.drop_left, pt_cat l h.2.2] <;> rfl
end CW

namespace CW
open PySem PySem.Spec PyProof.Rows L2 MM
def Pc.w : Pc → Str
  | .rnd _ => Str.ofString "round"
  | .odd _ => Str.ofString "odd"
  | .spoilt _ => Str.ofString "spoilt"
  | .begun _ => Str.ofString "begun"
  | .quiet _ => Str.ofString "quiet"
  | .key _ => Str.ofString "key"
def Pc.h : Pc → D
  | .rnd ds => .str (numS ds)
  | .odd n => .int n
  | .spoilt n => .int n
  | .begun n => .int n
  | .quiet n => .int n
  | .key n => .int n
def lpD (x : LP) : D := .tup [.str x.1.w, x.1.h, .pl (iD x.2)]
def Pc.isB : Pc → Bool
  | .begun _ => true
  | _ => false
def Fit (y : Pc) (m : List LP) : Prop := ∀ q r, m = q :: r → (y.isQ = true → q.1.isQ = false) ∧ (y.isK = true → q.1.isK = false) ∧ y.isB = false
theorem good_app : ∀ (l m : List LP), Good l → Good m → (∀ y, l.getLast? = some y → Fit y.1 m) → Good (l ++ m)
  | [], m, _, hm, _ => hm
  | p :: l, m, hl, hm, hf => by
    obtain ⟨h1, h2, h3⟩ := hl
    refine ⟨h1, ?_, good_app l m h3 hm fun y hy => hf y (by
      cases l with
      | nil => cases hy
      | cons a b => rw [List.getLast?_cons_cons]; exact hy)⟩
    cases l with
    | cons a b =>
      obtain ⟨p, s⟩ := p
      cases p with
      | quiet n => exact fun q r e => by cases e; exact h2 _ _ rfl
      | key n => exact fun q r e => by cases e; exact h2 _ _ rfl
      | spoilt n => obtain ⟨q, r, e, hk⟩ := h2; cases e; exact ⟨_, _, rfl, hk⟩
      | begun n => cases h2
      | rnd ds => trivial
      | odd n => trivial
    | nil =>
      have hf' := hf p rfl
      obtain ⟨p, s⟩ := p
      cases p with
      | quiet n => exact fun q r e => (hf' q r e).1 rfl
      | key n => exact fun q r e => (hf' q r e).2.1 rfl
      | spoilt n => obtain ⟨q, r, e, hk⟩ := h2; cases e
      | begun n =>
        cases m with
        | nil => rfl
        | cons q r => exact absurd (hf' q r rfl).2.2 (by simp [Pc.isB])
      | rnd ds => trivial
      | odd n => trivial
theorem Good.sg : ∀ {l : List LP}, Good l → ∀ x ∈ l, Sg x.1 x.2
  | p :: l, h, x, hx => by
    rcases List.mem_cons.mp hx with rfl | hx
    · exact h.1
    · exact Good.sg h.2.2 x hx
  | [], _, x, hx => by cases hx
instance calmDec : ∀ (q : Nat) (l : List Int), Decidable (calm q l)
  | _, [] => .isTrue trivial
  | q, x :: r => match calmDec (if x = 0 then q + 1 else 0) r with
    | .isTrue h => if h2 : x ≠ 2 ∧ q < 5 then .isTrue ⟨h2.1, h2.2, h⟩ else .isFalse fun g => h2 ⟨g.1, g.2.1⟩
    | .isFalse h => .isFalse fun g => h g.2.2
end CW

namespace CW
open PySem PySem.Spec PyProof.Rows L2 MM
theorem set_right {S T : Sto} {n : Nat} {o : O} (h : S.length ≤ n) : (S ++ T).set n o = S ++ T.set (n - S.length) o := List.set_append_right _ _ h
theorem get_right {S T : Sto} {n : Nat} (h : S.length ≤ n) : (S ++ T)[n]? = T[n - S.length]? := List.getElem?_append_right h
theorem mul_one {v : Int} {k : Int} (h0 : 0 ≤ k) (h9 : k ≤ 1000) (S : Sto) : mulD (.pl [.int v]) (.int k) S = .ok (.pl (iD (List.replicate k.toNat v))) S := by
  rw [mulD_lst (u := [.int v]) rfl (mulOk_of (by omega) (by omega) (by simp; omega))]
  congr 2
  simp [iD]
/-- the list of pieces stands at n, behind the first k objects -/
structure At (b : Nat) (S : Sto) (l : List LP) (n : Nat) (S' : Sto) : Prop where
  ex : ∃ S1 T, S' = S1 ++ T ∧ Took b S S1 ∧ T[n - S.length]? = some (.lst false (l.map lpD))
  le : S.length ≤ n
  bd : ∀ x ∈ l, x.2.length ≤ 100
theorem At.get {b : Nat} {S : Sto} {l : List LP} {n : Nat} {S' : Sto} (h : At b S l n S') : S'[n]? = some (.lst false (l.map lpD)) := by
  obtain ⟨⟨S1, T, rfl, w, e⟩, hl, hbd⟩ := h
  rw [get_right (by rw [w.len]; exact hl), w.len, e]
theorem At.bag {b : Nat} {S : Sto} {l : List LP} {n : Nat} {S' : Sto} (h : At b S l n S') : Bag2 S' b := by
  obtain ⟨⟨S1, T, rfl, w, e⟩, hl, hbd⟩ := h
  exact w.1.app _
theorem bd_app {l m : List LP} (h : ∀ x ∈ l, x.2.length ≤ 100) (g : ∀ x ∈ m, x.2.length ≤ 100) : ∀ x ∈ l ++ m, x.2.length ≤ 100 := fun x hx => (List.mem_append.mp hx).elim (h x) (g x)
theorem At.app {b : Nat} {S : Sto} {l m : List LP} {n : Nat} {S' : Sto} (h : At b S l n S') (hm : ∀ x ∈ m, x.2.length ≤ 100) : At b S (l ++ m) n (S'.set n (.lst false (l.map lpD ++ m.map lpD))) := by
  obtain ⟨⟨S1, T, rfl, w1, e⟩, hl, hbd⟩ := h
  refine ⟨⟨S1, T.set (n - S.length) (.lst false (l.map lpD ++ m.map lpD)), by rw [set_right (by rw [w1.len]; exact hl), w1.len], w1, ?_⟩, hl, bd_app hbd hm⟩
  rw [List.getElem?_set_self (List.getElem?_eq_some_iff.mp e).1]
  simp
theorem At.new {b : Nat} {S : Sto} {l m : List LP} {n : Nat} {S' : Sto} (h : At b S l n S') (hm : ∀ x ∈ m, x.2.length ≤ 100) : At b S (l ++ m) S'.length (S' ++ [.lst false (l.map lpD ++ m.map lpD)]) := by
  obtain ⟨⟨S1, T, rfl, w1, e⟩, hl, hbd⟩ := h
  have := w1.len
  refine ⟨⟨S1, T ++ [.lst false (l.map lpD ++ m.map lpD)], by simp, w1, ?_⟩, by simp; omega, bd_app hbd hm⟩
  rw [List.length_append, w1.len, Nat.add_sub_cancel_left, List.getElem?_append_right (Nat.le_refl _)]
  simp
theorem row_six {ds : List Nat} (h : GoodN ds) : 6 ≤ (rowN ds).length := by
  rw [rowN_len]
  have := h.pos
  match ds, h.fig with
  | d :: r, hf =>
    have := (hf d List.mem_cons_self).1
    simp
    omega
theorem g_begun {ds : List Nat} {m : Nat} (hg : GoodN ds) (h1 : 1 ≤ m) (h2 : m < (rowN ds).length) : Good [(.begun m, (rowN ds).take m)] := ⟨.begun hg h1 h2, rfl, trivial⟩
end CW

namespace CW
open PySem PySem.Spec PyProof.Rows L2 MM
theorem cut_upto {t : List Int} {a : Int} (h0 : 0 ≤ a) : MM.cutD (iD t) none (some a) = iD (t.take a.toNat) := by
  have := cut_to (l := iD t) (n := a.toNat)
  rw [show ((a.toNat : Nat) : Int) = a by omega] at this
  rw [this]
  simp [iD, List.map_take]
theorem calm_no2 : ∀ (T : List Int) (q : Nat), calm q T → ∀ x ∈ T, x ≠ 2
  | y :: r, q, h, x, hx => by
    rcases List.mem_cons.mp hx with rfl | hx
    · exact h.1
    · exact calm_no2 r _ h.2.2 x hx
  | [], _, _, x, hx => by cases hx
end CW

namespace CW
open PySem PySem.Spec PyProof.Rows L2 MM
/-- only the bag at b was changed; things were made -/
def Grew (b : Nat) (S S' : Sto) : Prop := BagAt S' b ∧ S.length ≤ S'.length ∧ ∀ n, n < S.length → n ≠ b → S'[n]? = S[n]?
theorem Drew.grew {b : Nat} {S S' : Sto} (h : Drew b S S') : Grew b S S' := ⟨h.1, by rw [h.len]; exact Nat.le_refl _, fun n _ hb => h.get hb⟩
theorem Grew.refl {b : Nat} {S : Sto} (h : BagAt S b) : Grew b S S := ⟨h, Nat.le_refl _, fun _ _ _ => rfl⟩
theorem Grew.trans {b : Nat} {S S1 S2 : Sto} (h : Grew b S S1) (g : Grew b S1 S2) : Grew b S S2 := ⟨g.1, Nat.le_trans h.2.1 g.2.1, fun n hn hb => by rw [g.2.2 n (by have := h.2.1; omega) hb, h.2.2 n hn hb]⟩
theorem BagAt.app {b : Nat} {S : Sto} (h : BagAt S b) (T : Sto) : BagAt (S ++ T) b := by
  have := h.lt
  obtain ⟨a, m, k, e, r⟩ := h
  exact ⟨a, m, k, by rw [List.getElem?_append_left this, e], r⟩
theorem Grew.app {b : Nat} {S S' : Sto} (h : Grew b S S') (T : Sto) : Grew b S (S' ++ T) := ⟨h.1.app T, by have := h.2.1; simp; omega, fun n hn hb => by rw [List.getElem?_append_left (by have := h.2.1; omega), h.2.2 n hn hb]⟩
theorem draw_of {b : Nat} {S : Sto} {n : Int} {r : R D} (hr : sp_law_draw [.ref b, .int n] S = r) (hb : BagAt S b) (h1 : 1 ≤ n) (h2 : n < 2 ^ 120) : ∃ d S', r = .ok (.int d) S' ∧ 0 ≤ d ∧ d < n ∧ Drew b S S' ∧ BagAt S' b := by
  obtain ⟨d, S', e, h0, h1, w⟩ := draw_ev hb h1 h2
  exact ⟨d, S', hr ▸ e, h0, h1, w, w.1⟩
theorem figures_of {b : Nat} {S : Sto} {r : R D} (hr : sp_law_figures [.ref b] S = r) (hb : BagAt S b) : ∃ ds S', r = .ok (.str (numS ds)) S' ∧ GoodN ds ∧ Drew b S S' ∧ BagAt S' b := by
  obtain ⟨ds, S', e, hg, w⟩ := figures_ev hb
  exact ⟨ds, S', hr ▸ e, hg, w, w.1⟩
theorem bag_of {ns : List Int} {k : Int} {S : Sto} {r : R D} (hr : sp_law_bag [.scr ns, .int k] S = r) (h0 : 0 ≤ k) (h1 : k ≤ 1000) (hl : ns.length ≤ 63) : ∃ S', r = .ok (.ref S.length) S' ∧ Grew S.length S S' ∧ BagAt S' S.length := by
  obtain ⟨l, e, hb⟩ := bag_ev (S := S) h0 h1 hl
  exact ⟨_, hr ▸ e, ⟨hb, by simp, fun n hn _ => by rw [List.getElem?_append_left hn]⟩, hb⟩
def optD : Option Int → D
  | none => .non
  | some i => .int i
@[simp] theorem optD_none : optD none = .non := rfl
@[simp] theorem optD_some {i : Int} : optD (some i) = .int i := rfl
def boxD (l s sp : Int) (p : Option Int) (q : Int) : D := .tup [.int l, .int s, .int sp, optD p, .int q]
theorem isN_non {S : Sto} : isND .non .non S = .ok (.bl true) S := rfl
theorem isN_int {i : Int} {S : Sto} : isND (.int i) .non S = .ok (.bl false) S := rfl
theorem notN_non {S : Sto} : notND .non .non S = .ok (.bl false) S := rfl
theorem notN_int {i : Int} {S : Sto} : notND (.int i) .non S = .ok (.bl true) S := rfl
@[simp] theorem isN_opt {p : Option Int} {S : Sto} : isND (optD p) .non S = .ok (.bl p.isNone) S := by cases p <;> rfl
@[simp] theorem notN_opt {p : Option Int} {S : Sto} : notND (optD p) .non S = .ok (.bl p.isSome) S := by cases p <;> rfl
/-- new_box(spring); slots 0 spring -/
noncomputable def m_new_box : MS :=
  sRet (eTup (aCons (eC (.int 0)) (aCons (eC (.int 0)) (aCons (eVar 0) (aCons (eC .non) (aCons (eC (.int 0)) (aNil)))))))
noncomputable def sp_new_box : FL := body 1 m_new_box
/-- box_pulled(box, rounds); slots 0 box, 1 rounds, 2 left, 3 sent, 4 spring, 5 place, 6 quiet -/
noncomputable def m_box_pulled : MS :=
  sSeq (sAsg (eVar 0) (tTp 5 (tsCons (tN 2) (tsCons (tN 3) (tsCons (tN 4) (tsCons (tN 5) (tsCons (tN 6) (tsNil))))))))
  (sSeq (sIf (tV (eBin gtD (eVar 2) (eC (.int 0)))) (sRet (eVar 0)) (sPass))
  (sRet (eTup (aCons (eVar 1) (aCons (eC (.int 0)) (aCons (eVar 4) (aCons (eVar 5) (aCons (eVar 6) (aNil)))))))))
noncomputable def sp_box_pulled : FL := body 7 m_box_pulled
/-- box_started(box); slots 0 box, 1 left, 2 sent, 3 spring, 4 place, 5 quiet -/
noncomputable def m_box_started : MS :=
  sSeq (sAsg (eVar 0) (tTp 5 (tsCons (tN 1) (tsCons (tN 2) (tsCons (tN 3) (tsCons (tN 4) (tsCons (tN 5) (tsNil))))))))
  (sSeq (sIf (tAn (tV (eBin isND (eVar 4) (eC .non))) (tAn (tV (eBin gtD (eVar 1) (eC (.int 0)))) (tAn (tV (eBin gtD (eVar 3) (eC (.int 0)))) (tV (eBin geD (eVar 5) (eBin addD (eC (.int 8)) (eVar 2))))))) (sRet (eTup (aCons (eVar 1) (aCons (eVar 2) (aCons (eVar 3) (aCons (eC (.int 0)) (aCons (eVar 5) (aNil)))))))) (sPass))
  (sRet (eVar 0)))
noncomputable def sp_box_started : FL := body 6 m_box_started
/-- breaks_with(box, row); slots 0 box, 1 row -/
noncomputable def m_breaks_with : MS :=
  sRet (eAn (eBin notND (eBin ixD (eVar 0) (eC (.int 3))) (eC .non)) (eBin eqD (eBin ixD (eVar 1) (eBin ixD (eVar 0) (eC (.int 3)))) (eC (.int 1))))
noncomputable def sp_breaks_with : FL := body 2 m_breaks_with
/-- quiet_behind(quiet, broken); slots 0 quiet, 1 broken -/
noncomputable def m_quiet_behind : MS :=
  sSeq (sIf (tV (eVar 1)) (sRet (eC (.int 0))) (sPass))
  (sRet (eCall minD (aCons (eC (.int 12)) (aCons (eBin addD (eVar 0) (eC (.int 1))) (aNil)))))
noncomputable def sp_quiet_behind : FL := body 2 m_quiet_behind
/-- whole_round(left, sent, spring, quiet); slots 0 left, 1 sent, 2 spring, 3 quiet -/
noncomputable def m_whole_round : MS :=
  sSeq (sIf (tV (eBin eqD (eVar 0) (eC (.int 1)))) (sRet (eTup (aCons (eC (.int 0)) (aCons (eC (.int 0)) (aCons (eBin subD (eVar 2) (eC (.int 1))) (aCons (eC .non) (aCons (eVar 3) (aNil)))))))) (sPass))
  (sRet (eTup (aCons (eBin subD (eVar 0) (eC (.int 1))) (aCons (eBin addD (eVar 1) (eC (.int 1))) (aCons (eBin subD (eVar 2) (eC (.int 1))) (aCons (eC .non) (aCons (eVar 3) (aNil))))))))
noncomputable def sp_whole_round : FL := body 4 m_whole_round
/-- behind_with(box, row, broken); slots 0 box, 1 row, 2 broken, 3 left, 4 sent, 5 spring, 6 place, 7 before, 8 quiet -/
noncomputable def m_behind_with : MS :=
  sSeq (sAsg (eVar 0) (tTp 5 (tsCons (tN 3) (tsCons (tN 4) (tsCons (tN 5) (tsCons (tN 6) (tsCons (tN 7) (tsNil))))))))
  (sSeq (sSet 8 (eCall sp_quiet_behind (aCons (eVar 7) (aCons (eVar 2) (aNil)))))
  (sSeq (sIf (tV (eBin isND (eVar 6) (eC .non))) (sRet (eTup (aCons (eVar 3) (aCons (eVar 4) (aCons (eVar 5) (aCons (eC .non) (aCons (eVar 8) (aNil)))))))) (sPass))
  (sSeq (sIf (tAn (tV (eVar 2)) (tNt (tV (eCall sp_breaks_with (aCons (eVar 0) (aCons (eVar 1) (aNil))))))) (sRet (eTup (aCons (eVar 3) (aCons (eVar 4) (aCons (eVar 5) (aCons (eC .non) (aCons (eVar 8) (aNil)))))))) (sPass))
  (sSeq (sIf (tV (eBin eqD (eBin addD (eVar 6) (eC (.int 1))) (eCall lenD (aCons (eVar 1) (aNil))))) (sRet (eCall sp_whole_round (aCons (eVar 3) (aCons (eVar 4) (aCons (eVar 5) (aCons (eVar 8) (aNil))))))) (sPass))
  (sRet (eTup (aCons (eVar 3) (aCons (eVar 4) (aCons (eVar 5) (aCons (eBin addD (eVar 6) (eC (.int 1))) (aCons (eVar 8) (aNil))))))))))))
noncomputable def sp_behind_with : FL := body 9 m_behind_with
theorem pulled_ev {l s sp r : Int} {p : Option Int} {q : Int} {S : Sto} : sp_box_pulled [boxD l s sp p q, .int r] S = .ok (if 0 < l then boxD l s sp p q else boxD r 0 sp p q) S := by
  unfold sp_box_pulled m_box_pulled boxD
  by_cases h : 0 < l <;> simp [h, sizeL]
theorem started_ev {l s sp : Int} {p : Option Int} {q : Int} {S : Sto} : sp_box_started [boxD l s sp p q] S = .ok (if p = none ∧ 0 < l ∧ 0 < sp ∧ 8 + s ≤ q then boxD l s sp (some 0) q else boxD l s sp p q) S := by
  unfold sp_box_started m_box_started boxD
  cases p with
  | some i => simp [sizeL, isN_int]
  | none =>
    by_cases h1 : 0 < l <;> by_cases h2 : 0 < sp <;> by_cases h3 : 8 + s ≤ q <;> simp [h1, h2, h3, sizeL, isN_non]
/-- the box at p breaks -/
def brkB (p : Option Int) (r : List Int) : Bool := match p with
  | none => false
  | some i => decide (r[i.toNat]? = some 1)
theorem atI_iD {r : List Int} {i : Int} (h0 : 0 ≤ i) (h1 : i < r.length) : ∃ v, r[i.toNat]? = some v ∧ atI (iD r) i = some (.int v) := by
  have h : i.toNat < r.length := by omega
  refine ⟨r[i.toNat], List.getElem?_eq_getElem h, atI_of (j := i.toNat) (by omega) ?_⟩
  simp [iD, List.getElem?_map, List.getElem?_eq_getElem h]
theorem breaks_ev {l s sp : Int} {p : Option Int} {q : Int} {r : List Int} {S : Sto} (h : ∀ i, p = some i → 0 ≤ i ∧ i < r.length) : sp_breaks_with [boxD l s sp p q, .tup (iD r)] S = .ok (.bl (brkB p r)) S := by
  have c : atI [D.int l, D.int s, D.int sp, optD p, D.int q] 3 = some (optD p) := rfl
  unfold sp_breaks_with m_breaks_with boxD
  cases p with
  | none =>
    simp at c
    simp [c, notN_non, brkB]
  | some i =>
    obtain ⟨v, hv, hv2⟩ := atI_iD (h i rfl).1 (h i rfl).2
    simp at c
    simp [c, notN_int, brkB, hv, hv2]
/-- a tick later -/
def behB (l s sp : Int) (p : Option Int) (q : Int) (r : List Int) (k : Bool) : D := match p with
  | none => boxD l s sp none (if k then 0 else min 12 (q + 1))
  | some i => if k = true ∧ brkB p r = false then boxD l s sp none (if k then 0 else min 12 (q + 1)) else
    if i + 1 = r.length then (if l = 1 then boxD 0 0 (sp - 1) none (if k then 0 else min 12 (q + 1)) else boxD (l - 1) (s + 1) (sp - 1) none (if k then 0 else min 12 (q + 1))) else boxD l s sp (some (i + 1)) (if k then 0 else min 12 (q + 1))
theorem quiet_ev {q : Int} {k : Bool} {S : Sto} : sp_quiet_behind [.int q, .bl k] S = .ok (.int (if k then 0 else min 12 (q + 1))) S := by
  unfold sp_quiet_behind m_quiet_behind
  cases k
  · simp
    omega
  · simp
theorem whole_round_ev {l s sp q : Int} {S : Sto} : sp_whole_round [.int l, .int s, .int sp, .int q] S = .ok (if l = 1 then boxD 0 0 (sp - 1) none q else boxD (l - 1) (s + 1) (sp - 1) none q) S := by
  unfold sp_whole_round m_whole_round boxD
  by_cases h : l = 1 <;> simp [h, sizeL]
theorem behind_ev {l s sp : Int} {p : Option Int} {q : Int} {r : List Int} {k : Bool} {S : Sto} (h : ∀ i, p = some i → 0 ≤ i ∧ i < r.length) : sp_behind_with [boxD l s sp p q, .tup (iD r), .bl k] S = .ok (behB l s sp p q r k) S := by
  have hb := breaks_ev (l := l) (s := s) (sp := sp) (q := q) (S := S) h
  have hq := quiet_ev (q := q) (k := k) (S := S)
  generalize hqq : (if k = true then 0 else min 12 (q + 1) : Int) = qq at *
  unfold sp_behind_with m_behind_with behB
  rw [hqq]
  unfold boxD at *
  cases p with
  | none => simp [sizeL, hq, isN_non]
  | some i =>
    cases k with
    | false => by_cases h1 : i + 1 = r.length <;> simp [sizeL, hq, isN_int, h1, whole_round_ev, boxD]
    | true =>
      cases h2 : brkB (some i) r with
      | false => simp at hb h2; simp [sizeL, hq, isN_int, hb, h2]
      | true => simp at hb h2; by_cases h1 : i + 1 = r.length <;> simp [sizeL, hq, isN_int, hb, h2, h1, whole_round_ev, boxD]
end CW

namespace CW
open PySem PySem.Spec PyProof.Rows L2 MM
end CW

namespace CW
open PySem PySem.Spec PyProof.Rows L2 MM
end CW

namespace CW
open PySem PySem.Spec PyProof.Rows L2 MM
/-- _law_is_number(_law_thing); slots 0 _law_thing, 1 _law_sign -/
noncomputable def m_law_is_number : MS :=
  sSeq (sIf (tOo (tNt (tV (eUn (isiD .str) (eVar 0)))) (tV (eBin notInD (eCall lenD (aCons (eVar 0) (aNil))) (eTup (aCons (eC (.int 1)) (aCons (eC (.int 2)) (aCons (eC (.int 3)) (aCons (eC (.int 4)) (aNil))))))))) (sRet (eC (.bl false))) (sPass))
  (sSeq (sIf (tV (eBin neD (ePl (lComp (iA (eVar 0)) [1] (tN 1) (tNt (tV (eChain leD leD (eC (.str "1")) (eVar 1) (eC (.str "9"))))) (eVar 1))) (ePl (lNew (aNil))))) (sRet (eC (.bl false))) (sPass))
  (sRet (eBin leD (eLs sumD (lComp (iA (eVar 0)) [1] (tN 1) tYs (eCall toIntD (aCons (eVar 1) (aNil))))) (eC (.int 24)))))
noncomputable def sp_law_is_number : FL := body 2 m_law_is_number
theorem ne_nilP {S : Sto} {F : List D} (h : ∀ d ∈ F, ∃ z, d = .str z ∧ PyData.strOk z = true) : neD (.pl F) (.pl []) S = .ok (.bl (!F.isEmpty)) S := by
  unfold neD
  rw [eqB_nil (l := F) (n := 0) rfl (plL_iff.mpr fun d hd => by
    obtain ⟨z, rfl, hz⟩ := h d hd
    unfold plD
    exact hz) (by decide)]
theorem sign_le {k : Nat} {S : Sto} : leD (.str (Str.ofString "1")) (.str ⟨#[k]⟩) S = .ok (.bl (decide (49 ≤ k))) S := by
  show R.ok (D.bl (!decide ([k] < [49]))) S = _
  congr 2
  by_cases h : 49 ≤ k <;> simp [h, List.cons_lt_cons_iff] <;> omega
theorem sign_le9 {k : Nat} {S : Sto} : leD (.str ⟨#[k]⟩) (.str (Str.ofString "9")) S = .ok (.bl (decide (k ≤ 57))) S := by
  show R.ok (D.bl (!decide ([57] < [k]))) S = _
  congr 2
  by_cases h : k ≤ 57 <;> simp [h, List.cons_lt_cons_iff] <;> omega
theorem notIn4 {n : Nat} {S : Sto} : notInD (.int n) (.tup [.int 1, .int 2, .int 3, .int 4]) S = .ok (.bl (!decide (1 ≤ n ∧ n ≤ 4))) S := by
  have key : inL (.int n) [.int 1, .int 2, .int 3, .int 4] = decide (1 ≤ n ∧ n ≤ 4) := by
    show ((1 : Int) == n || ((2 : Int) == n || ((3 : Int) == n || ((4 : Int) == n || false)))) = _
    by_cases h : 1 ≤ n ∧ n ≤ 4
    · have : n = 1 ∨ n = 2 ∨ n = 3 ∨ n = 4 := by omega
      rcases this with rfl | rfl | rfl | rfl <;> rfl
    · have g1 : ¬ (1 : Int) = n := by omega
      have g2 : ¬ (2 : Int) = n := by omega
      have g3 : ¬ (3 : Int) = n := by omega
      have g4 : ¬ (4 : Int) = n := by omega
      rw [decide_eq_false h]
      simp only [beq_eq_false_iff_ne.mpr g1, beq_eq_false_iff_ne.mpr g2, beq_eq_false_iff_ne.mpr g3, beq_eq_false_iff_ne.mpr g4, Bool.or_false]
  unfold notInD inB
  have hf : flatD (.int n) = true ∧ [D.int 1, .int 2, .int 3, .int 4].all flatD = true := ⟨rfl, rfl⟩
  simp only [hf, and_self, if_true, key]
theorem filter_signs (q : D → Bool) (hq : ∀ k, q (.str ⟨#[k]⟩) = !decide (49 ≤ k ∧ k ≤ 57)) : ∀ cs : List Nat, ((cs.map fun k => D.str ⟨#[k]⟩).filter q).isEmpty = cs.all fun c => decide (49 ≤ c ∧ c ≤ 57)
  | [] => rfl
  | c :: r => by
    rw [List.map_cons, List.filter_cons, hq, List.all_cons]
    cases hc : decide (49 ≤ c ∧ c ≤ 57) with
    | true => simpa using filter_signs q hq r
    | false => rfl
theorem law_is_number_ev {x : D} {S : Sto} (h : okT S x) (hu : ∀ z, x = .str z → Uni z) : sp_law_is_number [x] S = .ok (.bl (isNumD x)) S := by
  unfold sp_law_is_number
  by_cases hs : ∀ z, x ≠ .str z
  · have e := isi_of S x h hs
    have e2 : isNumD x = false := by
      cases x <;> first | rfl | exact absurd rfl (hs _)
    unfold m_law_is_number
    simp [e, e2]
  · have ⟨z, hz⟩ : ∃ z, x = .str z := by
      apply Classical.byContradiction
      intro q
      exact hs fun z e => q ⟨z, e⟩
    subst hz
    have hz : z.length ≤ sizeLine := h
    have hun := hu z rfl
    have hlen : (signsD z).length ≤ sizeLine := by
      unfold signsD
      rw [List.length_map]
      have : z.cps.toList.length = z.length := by simp [Str.length]
      omega
    have hlen' := hlen
    rw [sizeL] at hlen'
    have e1 := lc_filter (g := noG) (tg := tN 1) (t := (tNt (tV (eChain leD leD (eC (.str "1")) (eVar 1) (eC (.str "9")))))) (m := eVar 1) (ρ := [some (.str z), none]) (S := S) (fun d => match d with | .str u => !decide (49 ≤ u.cps.getD 0 0 ∧ u.cps.getD 0 0 ≤ 57) | _ => false) (fun d => d) trivial (items := signsD z) (by
      intro d hd
      obtain ⟨k, hk, rfl⟩ := List.mem_map.mp hd
      refine ⟨_, rfl, ?_, fun _ => by simp⟩
      by_cases h1 : 49 ≤ k <;> by_cases h2 : k ≤ 57 <;> simp [sign_le, sign_le9, h1, h2])
    have hF : ∃ F, F = ((signsD z).filter (fun d => match d with | .str u => !decide (49 ≤ u.cps.getD 0 0 ∧ u.cps.getD 0 0 ≤ 57) | _ => false)).map (fun d => d) := ⟨_, rfl⟩
    obtain ⟨F, hF⟩ := hF
    rw [← hF] at e1
    have hFs : ∀ d ∈ F, ∃ z, d = .str z ∧ PyData.strOk z = true := by
      intro d hd
      rw [hF, List.map_id'] at hd
      obtain ⟨k, hk, rfl⟩ := List.mem_map.mp (List.mem_filter.mp hd).1
      exact ⟨_, rfl, Uni.ok (by intro c hc; simp at hc; rw [hc]; exact hun k hk)⟩
    have hFl : F.length ≤ sizeLine := by
      rw [hF, List.length_map]
      exact Nat.le_trans (List.length_filter_le _ _) hlen
    have hFA : F.isEmpty = z.cps.toList.all (fun c => decide (49 ≤ c ∧ c ≤ 57)) := by
      rw [hF, List.map_id']
      exact filter_signs _ (fun k => rfl) _
    have e2 : z.cps.toList.all (fun c => decide (49 ≤ c ∧ c ≤ 57)) = true → ∀ S, lcD noG (tN 1) tYs (eCall toIntD (aCons (eVar 1) (aNil))) [some (.str z), none] (signsD z) S = .ok ((z.cps.toList.map (· - 48)).map fun (d : Nat) => D.int d) S := fun ha S => by
      have ha' := List.all_eq_true.mp ha
      have := lc_map (g := noG) (tg := tN 1) (m := eCall toIntD (aCons (eVar 1) (aNil))) (ρ := [some (.str z), none]) (S := S) (fun d => match d with | .str u => .int ((u.cps.getD 0 0 - 48 : Nat)) | _ => .non) trivial (items := signsD z) (by
        intro d hd
        obtain ⟨k, hk, rfl⟩ := List.mem_map.mp hd
        have hk' := ha' k hk
        simp only [decide_eq_true_eq] at hk'
        refine ⟨_, rfl, ?_⟩
        have := int_fig (d := k - 48) (by omega) (by omega) S
        have e : numS [k - 48] = ⟨#[k]⟩ := by
          unfold numS
          simp
          omega
        rw [e] at this
        simpa using this)
      rw [this]
      unfold signsD
      rw [List.map_map, List.map_map] <;> rfl
    have eS : ∀ S, sumD ((z.cps.toList.map (· - 48)).map fun (d : Nat) => D.int d) S = .ok (.int ((z.cps.toList.map (· - 48)).sum : Nat)) S := fun S => by
      have := sumD_map (fun (d : Nat) => (d : Int)) (z.cps.toList.map (· - 48)) S
      rw [sum_cast] at this
      exact this
    have eN : isNumD (.str z) = (decide (1 ≤ z.length ∧ z.length ≤ 4) && z.cps.toList.all (fun c => decide (49 ≤ c ∧ c ≤ 57)) && decide ((z.cps.toList.map (· - 48)).sum ≤ 24)) := rfl
    rw [eN]
    have e3 := ne_nilP (S := S) hFs
    rw [hFA] at e3
    unfold m_law_is_number
    generalize toIntD = tI at *
    generalize z.cps.toList.all (fun c => decide (49 ≤ c ∧ c ≤ 57)) = A at *
    generalize (z.cps.toList.map (· - 48)).sum = T at *
    generalize ((z.cps.toList.map (· - 48)).map fun (d : Nat) => D.int d) = L2 at *
    have n4 := notIn4 (n := z.length) (S := S)
    by_cases h4 : 1 ≤ z.length ∧ z.length ≤ 4
    · have h4' : 1 ≤ z.length := h4.1
      have h4'' : z.length ≤ 4 := h4.2
      cases A with
      | true =>
        have c3 : decide ((T : Int) ≤ 24) = decide (T ≤ 24) := decide_eq_decide.mpr (by omega)
        simp [lenD_str hz, n4, h4', h4'', hlen', e1, hFl, sizeL, e3, e2 rfl, eS, c3]
      | false =>
        simp [lenD_str hz, n4, h4', h4'', hlen', e1, hFl, sizeL, e3]
    · simp [lenD_str hz, n4, h4, sizeL]
end CW

namespace CW
open PySem PySem.Spec PyProof.Rows L2 MM
end CW

namespace CW
open PySem PySem.Spec PyProof.Rows L2 MM
section
variable {ρ : Fr} {S : Sto} {a b o i e x : ME} {l : ML} {m n : MS} {k : Nat} {f : Str}
@[simp] theorem eDNew_ev : eDNew ρ S = .ok (.ref S.length) (S ++ [.dct false []]) := rfl
@[simp] theorem sSetA_ev : sSetA o i a ρ S = RS.of ρ (a ρ S) fun d S1 => RS.of ρ (o ρ S1) fun x S2 => RS.of ρ (i ρ S2) fun k S3 => match setAny x k d S3 with | some S4 => .nx ρ S4 | none => .no := rfl
@[simp] theorem eFld_ev : eFld k f a ρ S = (a ρ S).bind fun d S1 => match insOf S1 d with | some (k', fs) => if k' = k then (match lookF f fs with | some v => .ok v S1 | none => .no) else .no | none => .no := rfl
@[simp] theorem sFldD_ev : sFldD k f o e ρ S = RS.of ρ (e ρ S) fun d S1 => RS.of ρ (o ρ S1) fun x S2 => match setFld k f x d S2 with | some S3 => .nx ρ S3 | none => .no := rfl
@[simp] theorem eMts_ev {t : List (Nat × FL)} : eMts f t o l ρ S = (o ρ S).bind fun d S1 => match insOf S1 d with | some (k, fs) => (match lookF f fs, (t.lookup k) with | none, some sp => (l ρ S1).bind fun ds S2 => sp (d :: ds) S2 | _, _ => .no) | none => .no := rfl
@[simp] theorem sRaise_ev : sRaise k ρ S = .ex k ρ S := rfl
@[simp] theorem then_ex {c : Nat} {q : Fr → Sto → RS} : (RS.ex c ρ S).then q = .ex c ρ S := rfl
end
theorem isDR_ev {S : Sto} {n : Nat} {fz : Bool} {l : List (Key × D)} (h : S[n]? = some (.dct fz l)) : isDR (.ref n) S = true := by simp [isDR, h]
theorem ixA_ev {S : Sto} {n : Nat} {fz : Bool} {l : List (Key × D)} {z : Str} {d : D} (h : S[n]? = some (.dct fz l)) (hv : valD l (.inr z) = some d) : ixA (.ref n) (.str z) S = .ok d S := by simp [ixA, isDR_ev h, dgetD, keyD, h, hv]
theorem setA_ev {S : Sto} {n : Nat} {l : List (Key × D)} {z : Str} {v : D} (h : S[n]? = some (.dct false l)) (hl : l.length ≤ 100000) : setAny (.ref n) (.str z) v S = some (S.set n (.dct false (putD l (.inr z) v))) := by
  have : l.length < sizeLine := by rw [sizeL]; omega
  simp [setAny, isDR_ev h, setKey, keyD, h, this]
theorem valD_cons (k j : Key) (d : D) (l : List (Key × D)) : valD ((k, d) :: l) j = if k = j then some d else valD l j := by
  unfold valD
  rw [List.find?_cons]
  by_cases h : k = j <;> simp [h]
theorem valD_any (l : List (Key × D)) (k : Key) : (l.any fun kv => decide (kv.1 = k)) = (valD l k).isSome := by
  induction l with
  | nil => rfl
  | cons x l ih =>
    obtain ⟨j, d⟩ := x
    rw [List.any_cons, valD_cons, ih]
    by_cases h : j = k <;> simp [h]
theorem lcOf {α : Type} {g : Sto → Prop} {tg : MG} {m : ME} {ρ : Fr} {S : Sto} (r f : α → D) (hg : g S) : ∀ {l : List α}, (∀ x ∈ l, ∃ ρ1, tg (r x) ρ = some ρ1 ∧ m ρ1 S = .ok (f x) S) → lcD g tg tYs m ρ (l.map r) S = .ok (l.map f) S
  | [], _ => by rw [List.map_nil]; unfold lcD; rw [if_pos hg]; rfl
  | d :: ds, h => by
    rw [List.map_cons]
    unfold lcD
    rw [if_pos hg]
    obtain ⟨ρ1, e1, e2⟩ := h d List.mem_cons_self
    rw [e1]
    simp [e2, lcOf r f hg (l := ds) fun d hd => h d (List.mem_cons_of_mem _ hd)]
/-- a dict that counts texts -/
structure Cnt (l : List (Key × D)) (f : Str → Int) (b : Nat) : Prop where
  get : ∀ z, (valD l (.inr z)).getD (.int 0) = .int (f z)
  len : l.length ≤ b
def setN (f : Str → Int) (z : Str) (v : Int) : Str → Int := fun y => if y = z then v else f y
@[simp] theorem setN_same (f : Str → Int) (z : Str) (v : Int) : setN f z v z = v := if_pos rfl
theorem Cnt.nil {b : Nat} : Cnt [] (fun _ => 0) b := ⟨fun _ => rfl, Nat.zero_le _⟩
end CW

namespace CW
open PySem PySem.Spec PyProof.Rows L2 MM
theorem sz {n : Nat} (h : n ≤ 1000) : (n ≤ sizeLine) = True := eq_true (by rw [sizeL]; omega)
/-- more pigeons than holes -/
theorem pigeon {α : Type} [DecidableEq α] : ∀ {A l : List α}, A.Nodup → (∀ x ∈ A, x ∈ l) → A.length ≤ l.length
  | [], _, _, _ => Nat.zero_le _
  | a :: A, l, nd, h => by
    have ha := h a List.mem_cons_self
    have h2 := List.nodup_cons.mp nd
    have := pigeon (A := A) (l := l.erase a) h2.2 fun x hx => (List.mem_erase_of_ne (fun e : x = a => h2.1 (by rw [← e]; exact hx))).mpr (h x (List.mem_cons_of_mem _ hx))
    rw [List.length_erase_of_mem ha] at this
    have hp : 0 < l.length := List.length_pos_of_mem ha
    simp only [List.length_cons]
    omega
def two (n : Nat) : List Nat := [n / 10, n % 10]
def free (l : List (List Nat)) (n : Nat) : Bool := decide (0 < n % 10) && !decide (two n ∈ l)
theorem ints_of : ∀ {out : List D} {P : Int → Prop}, (∀ d ∈ out, ∃ v : Int, d = .int v ∧ P v) → ∃ l : List Int, out = iD l ∧ ∀ v ∈ l, P v
  | [], _, _ => ⟨[], rfl, by simp⟩
  | d :: r, P, h => by
    obtain ⟨v, rfl, hv⟩ := h d List.mem_cons_self
    obtain ⟨l, rfl, hl⟩ := ints_of fun d hd => h d (List.mem_cons_of_mem _ hd)
    exact ⟨v :: l, rfl, fun x hx => by
      rcases List.mem_cons.mp hx with rfl | hx
      · exact hv
      · exact hl x hx⟩
def ixsD (l : List Nat) : List D := l.map fun (k : Nat) => D.int (k : Int)
@[simp] theorem ixsD_length (l : List Nat) : (ixsD l).length = l.length := by simp [ixsD]
structure GoodR (n : Nat) (r : List Nat) : Prop where
  nd : r.Nodup
  lt : ∀ k ∈ r, k < n
theorem GoodR.len {n : Nat} {r : List Nat} (h : GoodR n r) : r.length ≤ n := by
  have := pigeon (A := r) (l := List.range n) h.nd fun x hx => List.mem_range.mpr (h.lt x hx)
  simpa using this
structure Crd where
  order : List Nat
  counts : List Int
  covers : List (Nat × Int)
def covD (p : Nat × Int) : D := .tup [.int (p.1 : Nat), .int p.2]
def crdL (c : Crd) : List D := [.tup (ixsD c.order), .tup (iD c.counts), .tup (c.covers.map covD)]
def crdD (c : Crd) : D := .tup (crdL c)
def cardD (ds : List Nat) (c : Crd) : D := .tup (.str (numS ds) :: crdL c)
/-- a card by the houses hs -/
structure GoodC (hs : List Int) (c : Crd) : Prop where
  order : GoodR hs.length c.order
  cnt : c.counts.length = 3
  cnt9 : ∀ v ∈ c.counts, 0 ≤ v ∧ v ≤ 9
  cov : ∀ p ∈ c.covers, p.1 < hs.length ∧ p.2 ∈ hs
  few : c.covers.length ≤ 9
end CW

namespace CW
open PySem PySem.Spec PyProof.Rows L2 MM
structure GoodCs (hs : List Int) (cs : List (List Nat × Crd)) : Prop where
  num : ∀ x ∈ cs, GoodN x.1
  card : ∀ x ∈ cs, GoodC hs x.2
  nd : (cs.map (·.1)).Nodup
  len : cs.length ≤ 20
def cardsD (cs : List (List Nat × Crd)) : List D := cs.map fun x => cardD x.1 x.2
end CW

namespace CW
open PySem PySem.Spec PyProof.Rows L2 MM
inductive Std where
  | at_ (h : Int) | out (z : Str)
deriving DecidableEq
def inS : Str := Str.ofString "in"
def outS : Str := Str.ofString "out"
def stdD : Std → D
  | .at_ h => .tup [.str inS, .int h]
  | .out z => .tup [.str outS, .str z]
structure WSt where
  often : Int
  own : List Int
  cards : Str → Option Crd
  st : List Std
  rn : Str → Int
  cl : Str → Int
def fW (o : Int) (own : List Int) (n : Nat) : List (Str × D) := [("often", .int o), ("own", .tup (iD own)), ("by_number", .ref (n + 1)), ("stands", .ref (n + 2)), ("rounds_of", .ref (n + 3)), ("calls_of", .ref (n + 4))]
section
variable {o : Int} {own : List Int} {n : Nat}
@[simp] theorem fW_often : lookF (Str.ofString "often") (fW o own n) = some (.int o) := rfl
@[simp] theorem fW_own : lookF (Str.ofString "own") (fW o own n) = some (.tup (iD own)) := rfl
@[simp] theorem fW_by : lookF (Str.ofString "by_number") (fW o own n) = some (.ref (n + 1)) := rfl
@[simp] theorem fW_stands : lookF (Str.ofString "stands") (fW o own n) = some (.ref (n + 2)) := rfl
@[simp] theorem fW_rounds : lookF (Str.ofString "rounds_of") (fW o own n) = some (.ref (n + 3)) := rfl
@[simp] theorem fW_calls : lookF (Str.ofString "calls_of") (fW o own n) = some (.ref (n + 4)) := rfl
@[simp] theorem fW_m1 : lookF (Str.ofString "is_manned") (fW o own n) = none := rfl
@[simp] theorem fW_m2 : lookF (Str.ofString "sent_out") (fW o own n) = none := rfl
@[simp] theorem fW_m3 : lookF (Str.ofString "covered") (fW o own n) = none := rfl
@[simp] theorem fW_m4 : lookF (Str.ofString "heard") (fW o own n) = none := rfl
@[simp] theorem fW_m5 : lookF (Str.ofString "calls") (fW o own n) = none := rfl
@[simp] theorem fW_m6 : lookF (Str.ofString "back") (fW o own n) = none := rfl
@[simp] theorem fW_m7 : lookF (Str.ofString "gone_home") (fW o own n) = none := rfl
@[simp] theorem fW_m8 : lookF (Str.ofString "has_own") (fW o own n) = none := rfl
@[simp] theorem fW_m9 : lookF (Str.ofString "crew") (fW o own n) = none := rfl
end
theorem insOf_ev {S : Sto} {n k : Nat} {fs : List (Str × D)} (h : S[n]? = some (.ins k fs)) : insOf S (.ref n) = some (k, fs) := by simp [insOf, h]
structure WatchAt (S : Sto) (n : Nat) (w : WSt) (b : Nat) : Prop where
  ob : S[n]? = some (.ins 1 (fW w.often w.own n))
  by_ : ∃ l, S[n + 1]? = some (.dct false l) ∧ ∀ z, valD l (.inr z) = (w.cards z).map crdD
  st : S[n + 2]? = some (.lst false (w.st.map stdD))
  rn : ∃ l, S[n + 3]? = some (.dct false l) ∧ Cnt l w.rn b
  cl : ∃ l, S[n + 4]? = some (.dct false l) ∧ Cnt l w.cl b
  pos : 1 ≤ w.often
  len : w.st.length = w.own.length
  few : w.own.length ≤ 9
  good : ∀ z c, w.cards z = some c → GoodC w.own c
  txt : ∀ z, Std.out z ∈ w.st → PyData.strOk z = true
  bd : b ≤ 50000
/-- nothing but the watch at n was changed; things were made -/
def Wch (n : Nat) (S S' : Sto) : Prop := S.length ≤ S'.length ∧ ∀ i, i < S.length → (i < n ∨ n + 4 < i) → S'[i]? = S[i]?
theorem Wch.refl {n : Nat} {S : Sto} : Wch n S S := ⟨Nat.le_refl _, fun _ _ _ => rfl⟩
theorem Wch.trans {n : Nat} {S S1 S2 : Sto} (h : Wch n S S1) (g : Wch n S1 S2) : Wch n S S2 := ⟨Nat.le_trans h.1 g.1, fun i hi hn => by rw [g.2 i (by have := h.1; omega) hn, h.2 i hi hn]⟩
theorem Wch.app {n : Nat} {S S' : Sto} (h : Wch n S S') (T : Sto) : Wch n S (S' ++ T) := ⟨by have := h.1; simp; omega, fun i hi hn => by rw [List.getElem?_append_left (by have := h.1; omega), h.2 i hi hn]⟩
theorem Wch.set {n j : Nat} {S S' : Sto} {o : O} (h : Wch n S S') (hj : n ≤ j ∧ j ≤ n + 4 ∨ S.length ≤ j) : Wch n S (S'.set j o) := ⟨by rw [List.length_set]; exact h.1, fun i hi hn => by rw [List.getElem?_set_ne (by omega), h.2 i hi hn]⟩
theorem get_of {α : Type} {S : List α} {i : Nat} {o : α} (h : S[i]? = some o) : i < S.length := (List.getElem?_eq_some_iff.mp h).1
theorem WatchAt.lt {S : Sto} {n b : Nat} {w : WSt} (h : WatchAt S n w b) : n + 4 < S.length := by
  obtain ⟨l, e, _⟩ := h.cl
  exact get_of e
/-- other places may change -/
theorem WatchAt.other {S S' : Sto} {n b : Nat} {w : WSt} (h : WatchAt S n w b) (g : ∀ i, n ≤ i → i ≤ n + 4 → S'[i]? = S[i]?) : WatchAt S' n w b := by
  obtain ⟨h1, ⟨l2, h2, h2'⟩, h3, ⟨l4, h4, h4'⟩, ⟨l5, h5, h5'⟩, r1, r2, r3, r4, r5, r6⟩ := h
  exact ⟨by rw [g n (by omega) (by omega)]; exact h1, ⟨l2, by rw [g (n + 1) (by omega) (by omega)]; exact h2, h2'⟩, by rw [g (n + 2) (by omega) (by omega)]; exact h3, ⟨l4, by rw [g (n + 3) (by omega) (by omega)]; exact h4, h4'⟩, ⟨l5, by rw [g (n + 4) (by omega) (by omega)]; exact h5, h5'⟩, r1, r2, r3, r4, r5, r6⟩
theorem WatchAt.app {S : Sto} {n b : Nat} {w : WSt} (h : WatchAt S n w b) (T : Sto) : WatchAt (S ++ T) n w b := h.other fun i _ h2 => List.getElem?_append_left (by have := h.lt; omega)
theorem Cnt.mono {l : List (Key × D)} {f : Str → Int} {a b : Nat} (h : Cnt l f a) (hab : a ≤ b) : Cnt l f b := ⟨h.get, Nat.le_trans h.len hab⟩
theorem WatchAt.mono {S : Sto} {n a b : Nat} {w : WSt} (h : WatchAt S n w a) (hab : a ≤ b) (hb : b ≤ 50000) : WatchAt S n w b := by
  obtain ⟨h1, h2, h3, ⟨l4, h4, h4'⟩, ⟨l5, h5, h5'⟩, r1, r2, r3, r4, r5, _⟩ := h
  exact ⟨h1, h2, h3, ⟨l4, h4, h4'.mono hab⟩, ⟨l5, h5, h5'.mono hab⟩, r1, r2, r3, r4, r5, hb⟩
def cardOf (cs : List (List Nat × Crd)) (z : Str) : Option Crd := (cs.find? fun x => decide (numS x.1 = z)).map (·.2)
def manned (st : List Std) (h b : Int) : Bool := (List.range st.length).any fun i => !decide ((i : Int) = b) && decide (st[i]? = some (Std.at_ h))
def isIn (st : List Std) (k : Nat) : Bool := match st[k]? with
  | some (.at_ _) => true
  | _ => false
def went (st : List Std) (order : List Nat) (many : Int) : List Nat := (order.filter (isIn st)).take many.toNat
def markOut (z : Str) (st : List Std) (l : List Nat) : List Std := l.foldl (fun s k => s.set k (.out z)) st
theorem mem_set {st : List Std} {k : Nat} {s x : Std} (h : x ∈ st.set k s) : x ∈ st ∨ x = s := List.mem_or_eq_of_mem_set h
def cover1 (a : List Std × List (Nat × Int)) (p : Nat × Int) : List Std × List (Nat × Int) := match a.1[p.1]? with
  | some (.at_ h) => if manned a.1 p.2 (-1) = false ∧ manned a.1 h (p.1 : Int) = true then (a.1.set p.1 (.at_ p.2), a.2 ++ [p]) else a
  | _ => a
def coverAll (st : List Std) (cv : List (Nat × Int)) : List Std × List (Nat × Int) := cv.foldl cover1 (st, [])
end CW

namespace CW
open PySem PySem.Spec PyProof.Rows L2 MM
def lvl (c : Int) : Int := if c < 3 then c else 3
def noCard : Crd := ⟨[], [0, 0, 0], []⟩
def cardZ (w : WSt) (z : Str) : Crd := (w.cards z).getD noCard
def cntAt (l : List Int) (i : Int) : Int := l.getD i.toNat 0
def goers (w : WSt) (z : Str) : List Nat := went w.st (cardZ w z).order (cntAt (cardZ w z).counts (lvl (w.cl z + 1) - 1))
def moves (w : WSt) (z : Str) : List Std × List (Nat × Int) := coverAll (markOut z w.st (goers w z)) (cardZ w z).covers
def hearSt (w : WSt) (z : Str) : WSt :=
  if w.rn z % w.often = 0 then { w with rn := setN w.rn z (w.rn z + 1), cl := setN w.cl z (w.cl z + 1), st := (moves w z).1 } else { w with rn := setN w.rn z (w.rn z + 1) }
end CW

namespace CW
open PySem PySem.Spec PyProof.Rows L2 MM
def emp : Str := Str.ofString ""
def goneS : Std → Str
  | .at_ _ => emp
  | .out z => z
def goneD (st : List Std) : List D := st.map fun s => D.str (goneS s)
def plF (o : Int) (own : List Int) (cs : List (List Nat × Crd)) (m : Nat) : List (Key × D) := [(.inr "often", .int o), (.inr "own", .tup (iD own)), (.inr "cards", .tup (cardsD cs)), (.inr "at", .ref (m + 1)), (.inr "gone", .ref (m + 2)), (.inr "many", .ref (m + 3)), (.inr "calls", .ref (m + 4))]
structure PlV (S : Sto) (m : Nat) (o : Int) (own : List Int) (cs : List (List Nat × Crd)) (st : List Std) (la : List Int) : Prop where
  ob : S[m]? = some (.dct false (plF o own cs m))
  at_ : S[m + 1]? = some (.lst false (iD la))
  gone : S[m + 2]? = some (.lst false (goneD st))
  ok : ∀ (k : Nat) h, st[k]? = some (.at_ h) → la[k]? = some h
  ll : la.length = st.length
  len : st.length = own.length
  few : own.length ≤ 9
  ne : ∀ z, Std.out z ∈ st → ¬ z = emp
section
variable {S S' : Sto} {m : Nat} {o : Int} {own : List Int} {cs : List (List Nat × Crd)} {st : List Std} {la : List Int}
theorem PlV.other (h : PlV S m o own cs st la) (g : ∀ i, m ≤ i → i ≤ m + 2 → S'[i]? = S[i]?) : PlV S' m o own cs st la :=
  ⟨by rw [g m (by omega) (by omega)]; exact h.ob, by rw [g (m + 1) (by omega) (by omega)]; exact h.at_, by rw [g (m + 2) (by omega) (by omega)]; exact h.gone, h.ok, h.ll, h.len, h.few, h.ne⟩
theorem PlV.lt (h : PlV S m o own cs st la) : m + 2 < S.length := get_of h.gone
/-- a crew goes out -/
theorem PlV.out (h : PlV S m o own cs st la) {z : Str} (hz : ¬ z = emp) (k : Nat) : PlV (S.set (m + 2) (.lst false (goneD (st.set k (.out z))))) m o own cs (st.set k (.out z)) la := by
  have hlt := h.lt
  refine ⟨by rw [List.getElem?_set_ne (by omega)]; exact h.ob, by rw [List.getElem?_set_ne (by omega)]; exact h.at_, List.getElem?_set_self hlt, fun j v hj => ?_, by rw [List.length_set]; exact h.ll, by rw [List.length_set]; exact h.len, h.few, fun y hy => ?_⟩
  · rw [List.getElem?_set] at hj
    split at hj
    · split at hj <;> cases hj
    · exact h.ok j v hj
  · rcases mem_set hy with h1 | h1
    · exact h.ne y h1
    · cases h1; exact hz
end
structure PlAt (S : Sto) (m : Nat) (w : WSt) (cs : List (List Nat × Crd)) (b : Nat) : Prop where
  v : ∃ la, PlV S m w.often w.own cs w.st la
  mn : ∃ l, S[m + 3]? = some (.dct false l) ∧ Cnt l w.rn b
  cl : ∃ l, S[m + 4]? = some (.dct false l) ∧ Cnt l w.cl b
  crd : w.cards = cardOf cs
  good : GoodCs w.own cs
  pos : 1 ≤ w.often
  bd : b ≤ 50000
/-- nothing but the plain watch at m was changed -/
def Plc (m : Nat) (S S' : Sto) : Prop := S'.length = S.length ∧ ∀ i, (i < m ∨ m + 4 < i) → S'[i]? = S[i]?
theorem Plc.refl {m : Nat} {S : Sto} : Plc m S S := ⟨rfl, fun _ _ => rfl⟩
theorem Plc.trans {m : Nat} {S S1 S2 : Sto} (h : Plc m S S1) (g : Plc m S1 S2) : Plc m S S2 := ⟨g.1.trans h.1, fun i hi => by rw [g.2 i hi, h.2 i hi]⟩
theorem Plc.set {m j : Nat} {S S' : Sto} {o : O} (h : Plc m S S') (h1 : m ≤ j) (h2 : j ≤ m + 4) : Plc m S (S'.set j o) := ⟨by rw [List.length_set]; exact h.1, fun i hi => by rw [List.getElem?_set_ne (by omega), h.2 i hi]⟩
section
variable {S S' : Sto} {m b : Nat} {w : WSt} {cs : List (List Nat × Crd)}
theorem PlAt.lt (h : PlAt S m w cs b) : m + 4 < S.length := by
  obtain ⟨l, e, _⟩ := h.cl
  exact get_of e
theorem PlAt.other (h : PlAt S m w cs b) (g : ∀ i, m ≤ i → i ≤ m + 4 → S'[i]? = S[i]?) : PlAt S' m w cs b := by
  obtain ⟨⟨la, h1⟩, ⟨l2, h2, h2'⟩, ⟨l3, h3, h3'⟩, r1, r2, r3, r4⟩ := h
  exact ⟨⟨la, h1.other fun i h1 h2 => g i h1 (by omega)⟩, ⟨l2, by rw [g _ (by omega) (by omega)]; exact h2, h2'⟩, ⟨l3, by rw [g _ (by omega) (by omega)]; exact h3, h3'⟩, r1, r2, r3, r4⟩
theorem PlAt.mono {a : Nat} (h : PlAt S m w cs a) (hab : a ≤ b) (hb : b ≤ 50000) : PlAt S m w cs b := by
  obtain ⟨h1, ⟨l2, h2, h2'⟩, ⟨l3, h3, h3'⟩, r1, r2, r3, _⟩ := h
  exact ⟨h1, ⟨l2, h2, h2'.mono hab⟩, ⟨l3, h3, h3'.mono hab⟩, r1, r2, r3, hb⟩
end
end CW

namespace CW
open PySem PySem.Spec PyProof.Rows L2 MM
section
variable {a b c : ME} {ρ : Fr} {S : Sto}
end
theorem PlV.back {S : Sto} {m : Nat} {o : Int} {own : List Int} {cs : List (List Nat × Crd)} {st : List Std} {la : List Int} (h : PlV S m o own cs st la) {k : Nat} (hk : k < st.length) (x : Int) : PlV ((S.set (m + 2) (.lst false (goneD (st.set k (.at_ x))))).set (m + 1) (.lst false (iD (la.set k x)))) m o own cs (st.set k (.at_ x)) (la.set k x) := by
  have hlt := h.lt
  refine ⟨by rw [List.getElem?_set_ne (by omega), List.getElem?_set_ne (by omega)]; exact h.ob, List.getElem?_set_self (by rw [List.length_set]; omega), by rw [List.getElem?_set_ne (by omega), List.getElem?_set_self (by omega)], fun j u hj => ?_, by simp [h.ll], by rw [List.length_set]; exact h.len, h.few, fun y hy => ?_⟩
  · rw [List.getElem?_set] at hj ⊢
    split at hj
    · rename_i e
      subst e
      rw [if_pos rfl, if_pos (by rw [h.ll]; exact hk)]
      cases hj
      rfl
    · rename_i e
      rw [if_neg e]
      exact h.ok j u hj
  · rcases mem_set hy with h1 | h1
    · exact h.ne y h1
    · cases h1
end CW

namespace CW
open PySem PySem.Spec PyProof.Rows L2 MM
/-- near_part(numbers, cuts); slots 0 numbers, 1 cuts -/
noncomputable def m_near_part : MS :=
  sSeq (sIf (tV (eBin eqD (eVar 1) (eTup (aNil)))) (sRet (eVar 0)) (sPass))
  (sRet (eSl (eVar 0) (oN) (oS (eBin ixD (eVar 1) (eC (.int 0))))))
noncomputable def sp_near_part : FL := body 2 m_near_part
/-- far_part(numbers, cuts); slots 0 numbers, 1 cuts -/
noncomputable def m_far_part : MS :=
  sSeq (sIf (tV (eBin eqD (eVar 1) (eTup (aNil)))) (sRet (eVar 0)) (sPass))
  (sRet (eSl (eVar 0) (oS (eBin ixD (eVar 1) (eUn negD (eC (.int 1))))) (oN)))
noncomputable def sp_far_part : FL := body 2 m_far_part
/-- loop_parts(numbers, cuts); slots 0 numbers, 1 cuts -/
noncomputable def m_loop_parts : MS :=
  sSeq (sIf (tV (eBin eqD (eVar 1) (eTup (aNil)))) (sRet (eTup (aCons (eVar 0) (aNil)))) (sPass))
  (sRet (eTup (aCons (eCall sp_near_part (aCons (eVar 0) (aCons (eVar 1) (aNil)))) (aCons (eCall sp_far_part (aCons (eVar 0) (aCons (eVar 1) (aNil)))) (aNil)))))
noncomputable def sp_loop_parts : FL := body 2 m_loop_parts
/-- wire_parts(town, cuts, joined); slots 0 town, 1 cuts, 2 joined, 3 found, 4 numbers, 5 here, 6 together, 7 part -/
noncomputable def m_wire_parts : MS :=
  sSeq (sSet 3 (eTup (aNil)))
  (sSeq (sFor (iZA (eBin ixD (eVar 0) (eC (.int 0))) (eVar 1)) (tTp 2 (tsCons (tN 4) (tsCons (tN 5) (tsNil)))) (sSet 3 (eBin addD (eVar 3) (eCall sp_loop_parts (aCons (eVar 4) (aCons (eVar 5) (aNil)))))))
  (sSeq (sIf (tNt (tV (eVar 2))) (sRet (eVar 3)) (sPass))
  (sSeq (sSet 6 (eTup (aNil)))
  (sSeq (sFor (iA (eVar 3)) (tN 7) (sSet 6 (eBin addD (eVar 6) (eVar 7))))
  (sRet (eTup (aCons (eVar 6) (aNil))))))))
noncomputable def sp_wire_parts : FL := body 8 m_wire_parts
theorem eq_empty {a : D} {l : List D} {n : Nat} (hp : plD n (.tup (a :: l))) (hn : n ≤ 64) (S : Sto) : eqB S (.tup (a :: l)) (.tup []) = some false := by
  obtain ⟨p, e, hd, _⟩ := plD_toP n _ hp
  have he : ∃ ps, p = .tuple ps ∧ ps ≠ [] := by
    unfold toP at e
    obtain ⟨ps, h1, h2⟩ := Option.map_eq_some_iff.mp e
    refine ⟨ps, h2.symm, fun h => ?_⟩
    rw [h] at h1
    unfold toPl at h1
    split at h1 <;> cases h1
  obtain ⟨ps, rfl, hps⟩ := he
  unfold eqB
  have hv : view S (.tup (a :: l)) = some (.tuple ps) := by rw [view_pl (fun n h => by cases h)]; exact e
  have hv2 : view S (.tup []) = some (.tuple []) := rfl
  have hs : scalD (.tup (a :: l)) (.tup []) = false := rfl
  rw [hs, hv, hv2]
  have hq : PyData.eqv (.tuple ps) (.tuple []) = false := by
    cases ps with
    | nil => exact absurd rfl hps
    | cons a r => simp [PyData.eqv, PyData.eqvAll]
  have hd2 : PyData.depth (.tuple []) ≤ 64 := by decide
  simp only [Bool.false_eq_true, if_false, hq]
  rw [if_pos ⟨by omega, hd2⟩]
theorem eqD_empty {a : D} {l : List D} {n : Nat} (hp : plD n (.tup (a :: l))) (hn : n ≤ 64) (S : Sto) : eqD (.tup (a :: l)) (.tup []) S = .ok (.bl false) S := by unfold eqD; rw [eq_empty hp hn S]
theorem neD_empty {a : D} {l : List D} {n : Nat} (hp : plD n (.tup (a :: l))) (hn : n ≤ 64) (S : Sto) : neD (.tup (a :: l)) (.tup []) S = .ok (.bl true) S := by unfold neD; rw [eq_empty hp hn S]; rfl
theorem plL_ixs {n : Nat} {l : List Nat} : plL n (ixsD l) := plL_iff.mpr fun d hd => by
  obtain ⟨x, _, rfl⟩ := List.mem_map.mp hd
  unfold plD
  trivial
/-- the boxes ahead of the first cut -/
def nearL (l : List (List Nat)) : List Nat → List (List Nat)
  | [] => l
  | a :: _ => l.take a
/-- the boxes behind the last cut -/
def farL (l : List (List Nat)) (c : List Nat) : List (List Nat) := match c.getLast? with
  | none => l
  | some a => l.drop a
def partsL (l : List (List Nat)) (c : List Nat) : List (List (List Nat)) := if c = [] then [l] else [nearL l c, farL l c]
theorem cut_toN (l : List D) (k : Nat) : MM.cutD l none (some (k : Int)) = l.take k := by
  rw [cut_to]
theorem near_part_ev {l : List (List Nat)} {c : List Nat} {S : Sto} : sp_near_part [.tup (nD l), .tup (ixsD c)] S = .ok (.tup (nD (nearL l c))) S := by
  unfold sp_near_part m_near_part
  cases c with
  | nil =>
    have e := eq_same (S := S) (n := 1) (d := .tup []) (by simp [plD, plL]) (by decide)
    rw [show ixsD [] = [] from rfl]
    simp -implicitDefEqProofs [e, sz]
    rfl
  | cons a r =>
    have e := eqD_empty (a := .int (a : Int)) (l := ixsD r) (n := 1) (by simp only [plD]; exact plL_ixs (l := a :: r)) (by decide) S
    have e2 : atI (D.int (a : Int) :: ixsD r) 0 = some (.int (a : Int)) := atI_nat (j := 0) rfl
    rw [show ixsD (a :: r) = .int (a : Int) :: ixsD r from rfl]
    simp -implicitDefEqProofs [e, e2, sz, cut_toN]
    unfold nearL nD
    rw [List.map_take]
theorem get_last {c : List Nat} {a : Nat} (h : c.getLast? = some a) : atI (ixsD c) (-1) = some (.int (a : Int)) := by
  obtain ⟨ys, rfl⟩ := List.getLast?_eq_some_iff.mp h
  unfold ixsD
  rw [List.map_append]
  exact atI_last _ _
theorem cut_fromN (l : List D) (k : Nat) : MM.cutD l (some (k : Int)) none = l.drop k := by
  unfold MM.cutD
  rw [HT.sIx_none, HT.sIx_nat, List.take_of_length_le (by rw [List.length_drop]; exact Nat.le_refl _)]
  by_cases h : k ≤ l.length
  · rw [Nat.min_eq_left h]
  · rw [Nat.min_eq_right (by omega), List.drop_eq_nil_of_le (Nat.le_refl _), List.drop_eq_nil_of_le (by omega)]
theorem far_part_ev {l : List (List Nat)} {c : List Nat} {S : Sto} : sp_far_part [.tup (nD l), .tup (ixsD c)] S = .ok (.tup (nD (farL l c))) S := by
  unfold sp_far_part m_far_part
  cases c with
  | nil =>
    have e := eq_same (S := S) (n := 1) (d := .tup []) (by simp [plD, plL]) (by decide)
    rw [show ixsD [] = [] from rfl]
    simp -implicitDefEqProofs [e, sz]
    rfl
  | cons a r =>
    obtain ⟨z, hz⟩ : ∃ z, (a :: r).getLast? = some z := by cases hq : (a :: r).getLast? with | none => simp at hq | some z => exact ⟨z, rfl⟩
    have e := eqD_empty (a := .int (a : Int)) (l := ixsD r) (n := 1) (by simp only [plD]; exact plL_ixs (l := a :: r)) (by decide) S
    have e2 := get_last hz
    unfold farL
    rw [hz]
    rw [show ixsD (a :: r) = .int (a : Int) :: ixsD r from rfl] at e2 ⊢
    simp -implicitDefEqProofs [e, e2, sz]
    rw [cut_fromN]
    unfold nD
    rw [List.map_drop]
theorem loop_parts_ev {l : List (List Nat)} {c : List Nat} {S : Sto} : sp_loop_parts [.tup (nD l), .tup (ixsD c)] S = .ok (.tup ((partsL l c).map fun p => .tup (nD p))) S := by
  unfold sp_loop_parts m_loop_parts partsL
  cases c with
  | nil =>
    have e := eq_same (S := S) (n := 1) (d := .tup []) (by simp [plD, plL]) (by decide)
    rw [show ixsD [] = [] from rfl]
    simp -implicitDefEqProofs [e, sz]
  | cons a r =>
    have e := eqD_empty (a := .int (a : Int)) (l := ixsD r) (n := 1) (by simp only [plD]; exact plL_ixs (l := a :: r)) (by decide) S
    have e1 := near_part_ev (l := l) (c := a :: r) (S := S)
    have e2 := far_part_ev (l := l) (c := a :: r) (S := S)
    rw [show ixsD (a :: r) = .int (a : Int) :: ixsD r from rfl] at e1 e2 ⊢
    simp -implicitDefEqProofs [e, e1, e2, sz]
/-- the parts of a town -/
def allParts (tw : List (List (List Nat) × List Nat)) : List (List (List Nat)) := tw.flatMap fun x => partsL x.1 x.2
def ptsD (l : List (List (List Nat))) : List D := l.map fun p => D.tup (nD p)
theorem partsL_len (l : List (List Nat)) (c : List Nat) : (partsL l c).length ≤ 2 := by unfold partsL; split <;> simp
theorem allParts_len : ∀ tw : List (List (List Nat) × List Nat), (allParts tw).length ≤ 2 * tw.length
  | [] => by simp [allParts]
  | x :: tw => by
    have h1 := allParts_len tw
    have h2 := partsL_len x.1 x.2
    unfold allParts at *
    rw [List.flatMap_cons, List.length_append, List.length_cons]
    omega
def loopsD (tw : List (List (List Nat) × List Nat)) : List D := tw.map fun x => D.tup (nD x.1)
def cutsD (tw : List (List (List Nat) × List Nat)) : List D := tw.map fun x => D.tup (ixsD x.2)
theorem zip_tw (tw : List (List (List Nat) × List Nat)) : zipD (loopsD tw) (cutsD tw) = tw.map fun x => D.tup [.tup (nD x.1), .tup (ixsD x.2)] := by
  have hl : (zipD (loopsD tw) (cutsD tw)).length = tw.length := by rw [zipD_len]; simp [loopsD, cutsD]
  apply List.ext_getElem?
  intro i
  by_cases hi : i < tw.length
  · have hg := List.getElem?_eq_getElem (l := zipD (loopsD tw) (cutsD tw)) (i := i) (by omega)
    obtain ⟨x, y, h1, h2, h3⟩ := zipD_get hg
    rw [hg, h3, List.getElem?_map, List.getElem?_eq_getElem hi]
    unfold loopsD at h1
    unfold cutsD at h2
    rw [List.getElem?_map, List.getElem?_eq_getElem hi] at h1 h2
    cases h1
    cases h2
    rfl
  · rw [List.getElem?_eq_none (by omega), List.getElem?_eq_none (by rw [List.length_map]; omega)]
theorem zip_twN (tw : List (List (List Nat) × List Nat)) : noTx (zipD (loopsD tw) (cutsD tw)) = true := zip_noL (noSt_map fun _ => rfl)
theorem allParts_take {tw : List (List (List Nat) × List Nat)} {i : Nat} {x : List (List Nat) × List Nat} (h : tw[i]? = some x) : allParts (tw.take (i + 1)) = allParts (tw.take i) ++ partsL x.1 x.2 := by
  unfold allParts
  rw [List.take_add_one, h, Option.toList_some, List.flatMap_append]
  simp
theorem wire_parts_ev {tw : List (List (List Nat) × List Nat)} {r s : D} {S : Sto} (h4 : tw.length ≤ 4) : sp_wire_parts [.tup [.tup (loopsD tw), r, s], .tup (cutsD tw), .bl false] S = .ok (.tup (ptsD (allParts tw))) S := by
  unfold sp_wire_parts m_wire_parts
  generalize hB : sSet 3 (eBin addD (eVar 3) _) = B
  have L := for_nx (g := noG) (tg := tTp 2 (tsCons (tN 4) (tsCons (tN 5) tsNil))) (b := B) (items := zipD (loopsD tw) (cutsD tw)) (ρ := [some (.tup [.tup (loopsD tw), r, s]), some (.tup (cutsD tw)), some (.bl false), some (.tup []), none, none, none, none]) (S := S)
    (fun i ρ S' => S' = S ∧ ∃ x4 x5, ρ = [some (.tup [.tup (loopsD tw), r, s]), some (.tup (cutsD tw)), some (.bl false), some (.tup (ptsD (allParts (tw.take i)))), x4, x5, none, none])
    ⟨rfl, none, none, rfl⟩ (fun _ _ _ _ => trivial) (by
      rintro i d ρ S' hd ⟨rfl, x4, x5, rfl⟩
      rw [zip_tw, List.getElem?_map] at hd
      obtain ⟨x, hx, rfl⟩ := Option.map_eq_some_iff.mp hd
      have e := loop_parts_ev (l := x.1) (c := x.2) (S := S')
      have hl1 := allParts_len (tw.take i)
      have hl2 := partsL_len x.1 x.2
      have hl3 : (tw.take i).length ≤ tw.length := by rw [List.length_take]; omega
      have ea := addD_tup (S := S') (u := ptsD (allParts (tw.take i))) (v := (partsL x.1 x.2).map fun p => .tup (nD p)) (by unfold ptsD; rw [List.length_map, List.length_map, sizeL]; omega)
      subst hB
      refine ⟨_, rfl, nx_of fun Q hQ => ?_⟩
      simp -implicitDefEqProofs [e, ea]
      exact hQ _ _ ⟨rfl, _, _, by rw [allParts_take hx]; unfold ptsD; rw [List.map_append]⟩)
  obtain ⟨ρ', S', e, rfl, x4, x5, rfl⟩ := L
  rw [show (zipD (loopsD tw) (cutsD tw)).length = tw.length by rw [zip_tw, List.length_map], List.take_length] at e
  simp -implicitDefEqProofs [e, sz, okZ_ev (zip_twN tw)]
theorem wire_joined_ev {tw : List (List (List Nat) × List Nat)} {r s : D} {S : Sto} (h4 : tw.length ≤ 4) (hz : (allParts tw).flatten.length ≤ 1000) : sp_wire_parts [.tup [.tup (loopsD tw), r, s], .tup (cutsD tw), .bl true] S = .ok (.tup [.tup (nD (allParts tw).flatten)]) S := by
  unfold sp_wire_parts m_wire_parts
  generalize hB : sSet 3 (eBin addD (eVar 3) _) = B
  have L := for_nx (g := noG) (tg := tTp 2 (tsCons (tN 4) (tsCons (tN 5) tsNil))) (b := B) (items := zipD (loopsD tw) (cutsD tw)) (ρ := [some (.tup [.tup (loopsD tw), r, s]), some (.tup (cutsD tw)), some (.bl true), some (.tup []), none, none, none, none]) (S := S)
    (fun i ρ S' => S' = S ∧ ∃ x4 x5, ρ = [some (.tup [.tup (loopsD tw), r, s]), some (.tup (cutsD tw)), some (.bl true), some (.tup (ptsD (allParts (tw.take i)))), x4, x5, none, none])
    ⟨rfl, none, none, rfl⟩ (fun _ _ _ _ => trivial) (by
      rintro i d ρ S' hd ⟨rfl, x4, x5, rfl⟩
      rw [zip_tw, List.getElem?_map] at hd
      obtain ⟨x, hx, rfl⟩ := Option.map_eq_some_iff.mp hd
      have e := loop_parts_ev (l := x.1) (c := x.2) (S := S')
      have hl1 := allParts_len (tw.take i)
      have hl2 := partsL_len x.1 x.2
      have hl3 : (tw.take i).length ≤ tw.length := by rw [List.length_take]; omega
      have ea := addD_tup (S := S') (u := ptsD (allParts (tw.take i))) (v := (partsL x.1 x.2).map fun p => .tup (nD p)) (by unfold ptsD; rw [List.length_map, List.length_map, sizeL]; omega)
      subst hB
      refine ⟨_, rfl, nx_of fun Q hQ => ?_⟩
      simp -implicitDefEqProofs [e, ea]
      exact hQ _ _ ⟨rfl, _, _, by rw [allParts_take hx]; unfold ptsD; rw [List.map_append]⟩)
  obtain ⟨ρ', S', e, rfl, x4, x5, rfl⟩ := L
  rw [show (zipD (loopsD tw) (cutsD tw)).length = tw.length by rw [zip_tw, List.length_map], List.take_length] at e
  generalize allParts tw = P at *
  generalize hC : sSet 6 (eBin addD (eVar 6) (eVar 7)) = C
  have L2 := for_nx (g := noG) (tg := tN 7) (b := C) (items := ptsD P) (ρ := [some (.tup [.tup (loopsD tw), r, s]), some (.tup (cutsD tw)), some (.bl true), some (.tup (ptsD P)), x4, x5, some (.tup []), none]) (S := S')
    (fun i ρ S2 => S2 = S' ∧ ∃ x7, ρ = [some (.tup [.tup (loopsD tw), r, s]), some (.tup (cutsD tw)), some (.bl true), some (.tup (ptsD P)), x4, x5, some (.tup (nD (P.take i).flatten)), x7])
    ⟨rfl, none, rfl⟩ (fun _ _ _ _ => trivial) (by
      rintro i d ρ S2 hd ⟨rfl, x7, rfl⟩
      unfold ptsD at hd
      rw [List.getElem?_map] at hd
      obtain ⟨p, hp, rfl⟩ := Option.map_eq_some_iff.mp hd
      have hs : (P.take (i + 1)).flatten = (P.take i).flatten ++ p := by rw [List.take_add_one, hp, Option.toList_some, List.flatten_append]; simp
      have hle : (P.take (i + 1)).flatten.length ≤ 1000 := by
        have h1 := congrArg (fun l => (List.flatten l).length) (List.take_append_drop (i + 1) P)
        simp only [List.flatten_append, List.length_append] at h1
        omega
      rw [hs, List.length_append] at hle
      have ea := addD_tup (S := S2) (u := nD (P.take i).flatten) (v := nD p) (by unfold nD; rw [List.length_map, List.length_map, sizeL]; omega)
      subst hC
      refine ⟨_, rfl, nx_of fun Q hQ => ?_⟩
      simp -implicitDefEqProofs [ea]
      exact hQ _ _ ⟨rfl, _, by rw [hs]; unfold nD; rw [List.map_append]⟩)
  obtain ⟨ρ2, S2, e2, rfl, x7, rfl⟩ := L2
  rw [show (ptsD P).length = P.length by unfold ptsD; rw [List.length_map], List.take_length] at e2
  simp -implicitDefEqProofs [e, e2, sz, okZ_ev (zip_twN tw)]

theorem numS_mem {ds : List Nat} {l : List (List Nat)} : numS ds ∈ l.map numS ↔ ds ∈ l := by
  constructor
  · intro h
    obtain ⟨e, he, q⟩ := List.mem_map.mp h
    rw [← numS_inj q]; exact he
  · exact fun h => List.mem_map.mpr ⟨ds, h, rfl⟩
def loopD (l : List (List Nat)) : D := .tup (nD l)
/-- how it stands while a town is drawn -/
structure Tw (b B : Nat) (S S' : Sto) (ls : List (List (List Nat))) (cur : List (List Nat)) : Prop where
  grew : Grew b S S'
  lt : b < S.length
  loops : S'[S.length]? = some (.lst false (ls.map loopD))
  met : ∃ M, S'[S.length + 1]? = some (.dct false M) ∧ (∀ z, (valD M (.inr z)).isSome = decide (z ∈ (ls.flatten ++ cur).map numS)) ∧ M.length ≤ (ls.flatten ++ cur).length
  nd : (ls.flatten ++ cur).Nodup
  good : ∀ ds ∈ ls.flatten ++ cur, GoodN ds
  sz : ∀ l ∈ ls, 1 ≤ l.length ∧ l.length ≤ B
theorem Tw.bag {b B : Nat} {S S' : Sto} {ls : List (List (List Nat))} {cur : List (List Nat)} (h : Tw b B S S' ls cur) : BagAt S' b := h.grew.1
theorem Tw.app {b B : Nat} {S S' : Sto} {ls : List (List (List Nat))} {cur : List (List Nat)} (h : Tw b B S S' ls cur) (T : Sto) : Tw b B S (S' ++ T) ls cur := by
  have e : ∀ {n : Nat} {o : O}, S'[n]? = some o → (S' ++ T)[n]? = some o := fun e => by rw [List.getElem?_append_left (List.getElem?_eq_some_iff.mp e).1, e]
  refine ⟨h.grew.app T, h.lt, e h.loops, ?_, h.nd, h.good, h.sz⟩
  obtain ⟨M, h1, h2⟩ := h.met
  exact ⟨M, e h1, h2⟩
theorem Grew.set {b q : Nat} {S S' : Sto} {o : O} (h : Grew b S S') (hq : S.length ≤ q) (hb : b < S.length) : Grew b S (S'.set q o) := by
  refine ⟨?_, by rw [List.length_set]; exact h.2.1, fun n hn hb' => by rw [List.getElem?_set_ne (by omega)]; exact h.2.2 n hn hb'⟩
  obtain ⟨a, m, k, e, r⟩ := h.1
  exact ⟨a, m, k, by rw [List.getElem?_set_ne (by omega)]; exact e, r⟩
theorem Tw.set {b B q : Nat} {S S' : Sto} {ls : List (List (List Nat))} {cur : List (List Nat)} {o : O} (h : Tw b B S S' ls cur) (hq : S.length + 2 ≤ q) : Tw b B S (S'.set q o) ls cur := by
  refine ⟨h.grew.set (by omega) h.lt, h.lt, by rw [List.getElem?_set_ne (by omega)]; exact h.loops, ?_, h.nd, h.good, h.sz⟩
  obtain ⟨M, h1, h2⟩ := h.met
  exact ⟨M, by rw [List.getElem?_set_ne (by omega)]; exact h1, h2⟩
theorem Tw.next {b B : Nat} {S S' : Sto} {ls : List (List (List Nat))} {cur : List (List Nat)} (h : Tw b B S S' ls cur) (h1 : 1 ≤ cur.length) (h2 : cur.length ≤ B) : Tw b B S (S'.set S.length (.lst false ((ls ++ [cur]).map loopD))) (ls ++ [cur]) [] := by
  have hlt := (List.getElem?_eq_some_iff.mp h.loops).1
  have e : (ls ++ [cur]).flatten ++ [] = ls.flatten ++ cur := by simp
  refine ⟨h.grew.set (Nat.le_refl _) h.lt, h.lt, List.getElem?_set_self hlt, ?_, by rw [e]; exact h.nd, by rw [e]; exact h.good, fun l hl => ?_⟩
  · obtain ⟨M, q1, q2⟩ := h.met
    exact ⟨M, by rw [List.getElem?_set_ne (by omega)]; exact q1, by rw [e]; exact q2⟩
  · rcases List.mem_append.mp hl with hl | hl
    · exact h.sz l hl
    · rw [List.mem_singleton.mp hl]; exact ⟨h1, h2⟩
structure GoodT (B : Nat) (ls : List (List (List Nat))) : Prop where
  pos : 1 ≤ ls.length
  len : ls.length ≤ 4
  nd : ls.flatten.Nodup
  good : ∀ ds ∈ ls.flatten, GoodN ds
  sz : ∀ l ∈ ls, 1 ≤ l.length ∧ l.length ≤ B
theorem flatB_len {B : Nat} : ∀ {ls : List (List (List Nat))}, (∀ l ∈ ls, l.length ≤ B) → ls.flatten.length ≤ B * ls.length
  | [], _ => by simp
  | l :: ls, h => by
    have h1 := h l List.mem_cons_self
    have h2 := flatB_len (ls := ls) fun x hx => h x (List.mem_cons_of_mem _ hx)
    rw [List.flatten_cons, List.length_append, List.length_cons, Nat.mul_add]
    omega
/-- what grew, cut back -/
theorem Grew.cut {b : Nat} {S S' : Sto} (h : Grew b S S') (hb : b < S.length) : Drew b S (S'.take S.length) := by
  obtain ⟨⟨a, m, k, e, r⟩, h2, h3⟩ := h
  have e' : (S'.take S.length)[b]? = some (.lst false [.int a, .int m, .int k]) := by rw [List.getElem?_take_of_lt hb]; exact e
  refine ⟨⟨a, m, k, e', r⟩, [.int a, .int m, .int k], ?_⟩
  apply List.ext_getElem?
  intro n
  by_cases hn : n < S.length
  · by_cases hnb : n = b
    · subst hnb
      rw [e', List.getElem?_set_self hb]
    · rw [List.getElem?_take_of_lt hn, h3 n hn hnb, List.getElem?_set_ne (Ne.symm hnb)]
  · rw [List.getElem?_eq_none (by rw [List.length_take]; omega), List.getElem?_eq_none (by rw [List.length_set]; omega)]
end CW

namespace CW
open PySem PySem.Spec PyProof.Rows L2 MM
theorem plL_nD {n : Nat} {l : List (List Nat)} (h : ∀ ds ∈ l, GoodN ds) : plL n (nD l) := plL_iff.mpr fun d hd => by
  obtain ⟨ds, hds, rfl⟩ := List.mem_map.mp hd
  have := (fine_num (h ds hds).fig).uni.ok
  cases n <;> simpa [plD] using this

end CW

namespace CW
open PySem PySem.Spec PyProof.Rows L2 MM
def ahead : List Int → List Int → Bool
  | a :: r, b :: t => if a = b then ahead r t else decide (a = 1)
  | _, _ => false
theorem ahead_app : ∀ P X Y : List Int, ahead (P ++ X) (P ++ Y) = ahead X Y
  | [], _, _ => rfl
  | p :: P, X, Y => by simp [ahead, ahead_app P X Y]
theorem rowN_cons (d : Nat) (ds : List Nat) : rowN (d :: ds) = strokes d ++ ([0, 0] ++ rowN ds) := by simp [rowN, figsR, figR]
theorem strokes_add (a b : Nat) : strokes (a + b) = strokes a ++ strokes b := by
  unfold strokes
  rw [← List.flatten_append, List.replicate_append_replicate]
theorem strokes_one (a : Nat) : strokes (a + 1) = 1 :: 0 :: strokes a := by
  unfold strokes
  rw [List.replicate_succ] <;> rfl
theorem ahead_lex : ∀ ds es : List Nat, (∀ d ∈ ds, 1 ≤ d) → (∀ d ∈ es, 1 ≤ d) → ahead (rowN ds) (rowN es) = decide (es < ds)
  | [], [], _, _ => by simp [rowN, figsR, ahead]
  | [], e :: es, _, he => by
    have h1 := he e List.mem_cons_self
    obtain ⟨k, rfl⟩ : ∃ k, e = k + 1 := ⟨e - 1, by omega⟩
    rw [rowN_cons, strokes_one]
    simp [rowN, figsR, ahead]
  | d :: ds, [], hd, _ => by
    have h1 := hd d List.mem_cons_self
    obtain ⟨k, rfl⟩ : ∃ k, d = k + 1 := ⟨d - 1, by omega⟩
    rw [rowN_cons, strokes_one]
    simp [rowN, figsR, ahead]
  | d :: ds, e :: es, hd, he => by
    rw [rowN_cons, rowN_cons]
    rcases Nat.lt_trichotomy d e with h | h | h
    · obtain ⟨k, rfl⟩ : ∃ k, e = d + (k + 1) := ⟨e - d - 1, by omega⟩
      rw [strokes_add, List.append_assoc, ahead_app, strokes_one]
      have : ¬ ((d + (k + 1)) :: es < d :: ds) := by
        rw [List.cons_lt_cons_iff]
        omega
      simp [ahead, this]
    · subst h
      rw [ahead_app, ahead_app, ahead_lex ds es (fun x hx => hd x (List.mem_cons_of_mem _ hx)) fun x hx => he x (List.mem_cons_of_mem _ hx)]
      simp [List.cons_lt_cons_iff]
    · obtain ⟨k, rfl⟩ : ∃ k, d = e + (k + 1) := ⟨d - e - 1, by omega⟩
      rw [strokes_add, List.append_assoc, ahead_app, strokes_one]
      have : e :: es < (e + (k + 1)) :: ds := by
        rw [List.cons_lt_cons_iff]
        omega
      simp [ahead, this]
/-- the first place at which two rows differ -/
def diffAt : List Int → List Int → Option Nat
  | a :: r, b :: t => if a = b then (diffAt r t).map (· + 1) else some 0
  | _, _ => none
theorem diffAt_self : ∀ A : List Int, diffAt A A = none
  | [] => rfl
  | a :: r => by simp [diffAt, diffAt_self r]
theorem diffAt_some : ∀ {A B : List Int} {k : Nat}, diffAt A B = some k → ∃ x y, A[k]? = some x ∧ B[k]? = some y ∧ x ≠ y ∧ ∀ i, i < k → A[i]? = B[i]?
  | [], B, k, h => by cases B <;> simp [diffAt] at h
  | a :: r, [], k, h => by simp [diffAt] at h
  | a :: r, b :: t, k, h => by
    unfold diffAt at h
    split at h
    · rename_i hab
      obtain ⟨j, hj, rfl⟩ := Option.map_eq_some_iff.mp h
      obtain ⟨x, y, h1, h2, h3, h4⟩ := diffAt_some hj
      refine ⟨x, y, by simpa using h1, by simpa using h2, h3, fun i hi => ?_⟩
      cases i with
      | zero => simp [hab]
      | succ i => simpa using h4 i (by omega)
    · rename_i hab
      cases h
      exact ⟨a, b, rfl, rfl, hab, fun i hi => absurd hi (Nat.not_lt_zero _)⟩
theorem ahead_diff : ∀ {A B : List Int}, ahead A B = true → ∃ k, diffAt A B = some k ∧ A[k]? = some 1
  | [], B, h => by cases B <;> simp [ahead] at h
  | a :: r, [], h => by simp [ahead] at h
  | a :: r, b :: t, h => by
    unfold ahead at h
    unfold diffAt
    split at h
    · rename_i hab
      obtain ⟨k, h1, h2⟩ := ahead_diff h
      exact ⟨k + 1, by simp [hab, h1], by simpa using h2⟩
    · rename_i hab
      have : a = 1 := by simpa using h
      exact ⟨0, by simp [hab], by simp [this]⟩
theorem lt_diff {ds es : List Nat} (hd : GoodN ds) (he : GoodN es) (h : es < ds) : ∃ k, diffAt (rowN ds) (rowN es) = some k ∧ (rowN ds)[k]? = some 1 :=
  ahead_diff (by rw [ahead_lex ds es (fun d h => (hd.fig d h).1) (fun d h => (he.fig d h).1)]; simpa using h)
/-- the greatest of some numbers -/
def mxN (f : List Nat) (l : List (List Nat)) : List Nat := l.foldl (fun a n => if a < n then n else a) f
theorem mxN_mem : ∀ (l : List (List Nat)) (f : List Nat), mxN f l = f ∨ mxN f l ∈ l
  | [], f => .inl rfl
  | n :: l, f => by
    unfold mxN
    rw [List.foldl_cons]
    have := mxN_mem l (if f < n then n else f)
    unfold mxN at this
    rcases this with h | h
    · split at h
      · rename_i hc; rw [if_pos hc] at *; exact .inr (by rw [h]; exact List.mem_cons_self)
      · rename_i hc; rw [if_neg hc] at *; exact .inl h
    · exact .inr (List.mem_cons_of_mem _ h)
theorem mxN_ge : ∀ (l : List (List Nat)) (f : List Nat), f ≤ mxN f l ∧ ∀ n ∈ l, n ≤ mxN f l
  | [], f => ⟨List.le_refl _, by simp⟩
  | n :: l, f => by
    have ih := mxN_ge l (if f < n then n else f)
    have e : mxN f (n :: l) = mxN (if f < n then n else f) l := rfl
    rw [e]
    have hf : f ≤ (if f < n then n else f) ∧ n ≤ (if f < n then n else f) := by
      split
      · rename_i h; exact ⟨List.le_of_lt h, List.le_refl _⟩
      · rename_i h; exact ⟨List.le_refl _, List.not_lt.mp h⟩
    refine ⟨List.le_trans hf.1 ih.1, fun x hx => ?_⟩
    rcases List.mem_cons.mp hx with rfl | hx
    · exact List.le_trans hf.2 ih.1
    · exact ih.2 x hx
end CW

namespace CW
open PySem PySem.Spec PyProof.Rows L2 MM
theorem row01 {ds : List Nat} : ∀ x ∈ rowN ds, x = 0 ∨ x = 1 := by
  intro x hx
  unfold rowN figsR figR at hx
  rcases List.mem_append.mp hx with hx | hx
  · obtain ⟨l, hl, hx⟩ := List.mem_flatten.mp hx
    obtain ⟨d, _, rfl⟩ := List.mem_map.mp hl
    rcases List.mem_append.mp hx with hx | hx
    · unfold strokes at hx
      obtain ⟨l, hl, hx⟩ := List.mem_flatten.mp hx
      rw [(List.mem_replicate.mp hl).2] at hx
      simp at hx
      omega
    · simp at hx
      omega
  · simp at hx
    omega
/-- the number at k, its row -/
def nK (l : List (List Nat)) (k : Nat) : List Nat := l.getD k []
def rowK (l : List (List Nat)) (k : Nat) : List Int := rowN (nK l k)
theorem nK_at {l : List (List Nat)} {k : Nat} {n : List Nat} (h : l[k]? = some n) : nK l k = n := by unfold nK; rw [List.getD_eq_getElem?_getD, h]; rfl
section
variable (l : List (List Nat)) (m : List Nat)
/-- where the number at k steps back -/
def dAt (k : Nat) : Option Nat := diffAt (rowN m) (rowK l k)
end
/-- the greatest of them stands at im -/
structure Mx (l : List (List Nat)) (m : List Nat) (im : Nat) : Prop where
  good : ∀ n ∈ l, GoodN n
  nd : l.Nodup
  at_ : l[im]? = some m
  ge : ∀ n ∈ l, n ≤ m
section
variable {l : List (List Nat)} {m : List Nat} {im : Nat}
theorem Mx.lt (h : Mx l m im) : im < l.length := (List.getElem?_eq_some_iff.mp h.at_).1
theorem Mx.gm (h : Mx l m im) : GoodN m := h.good m (List.mem_of_getElem? h.at_)
theorem Mx.row (h : Mx l m im) : rowK l im = rowN m := by unfold rowK; rw [nK_at h.at_]
theorem Mx.gk (h : Mx l m im) {k : Nat} (hk : k < l.length) : GoodN (nK l k) := by
  rw [nK_at (List.getElem?_eq_getElem hk)]
  exact h.good _ (List.getElem_mem hk)
theorem Mx.eq_iff (h : Mx l m im) {k : Nat} (hk : k < l.length) : nK l k = m ↔ k = im := by
  have h2 := List.getElem?_eq_some_iff.mp h.at_
  rw [nK_at (List.getElem?_eq_getElem hk)]
  constructor
  · intro q
    exact (List.getElem_inj h.nd).mp (q.trans h2.2.symm)
  · rintro rfl
    exact h2.2
theorem Mx.other (h : Mx l m im) {k : Nat} (hk : k < l.length) (hne : k ≠ im) : ∃ d, dAt l m k = some d ∧ (rowN m)[d]? = some 1 ∧ (rowK l k)[d]? = some 0 ∧ ∀ i, i < d → (rowN m)[i]? = (rowK l k)[i]? := by
  have hg := h.gk hk
  have hm : nK l k ∈ l := by rw [nK_at (List.getElem?_eq_getElem hk)]; exact List.getElem_mem hk
  have hlt : nK l k < m := by
    rcases List.le_iff_lt_or_eq.mp (h.ge _ hm) with q | q
    · exact q
    · exact absurd ((h.eq_iff hk).mp q) hne
  obtain ⟨d, h1, h2⟩ := lt_diff h.gm hg hlt
  obtain ⟨x, y, q1, q2, q3, q4⟩ := diffAt_some h1
  refine ⟨d, h1, h2, ?_, q4⟩
  show (rowN (nK l k))[d]? = some 0
  rw [q2]
  rw [h2] at q1
  cases q1
  rcases row01 y (List.mem_of_getElem? q2) with rfl | rfl
  · rfl
  · exact absurd rfl q3
end
end CW

namespace CW
open PySem PySem.Spec PyProof.Rows L2 MM
inductive Th : Nat → Nat → D → Prop
  | non {n m : Nat} : Th n m .non
  | bl {n m : Nat} (b : Bool) : Th n m (.bl b)
  | int {n m : Nat} (i : Int) : Th n m (.int i)
  | str {n m : Nat} {z : Str} (h : Fine 10 z) : Th n m (.str z)
  | tup {n m : Nat} {l : List D} (h : l.length ≤ m) (g : ∀ d ∈ l, Th n m d) : Th (n + 1) m (.tup l)
  | pl {n m : Nat} {l : List D} (h : l.length ≤ m) (g : ∀ d ∈ l, Th n m d) : Th (n + 1) m (.pl l)
theorem Th.mono {n m : Nat} {d : D} (h : Th n m d) : ∀ {n' m' : Nat}, n ≤ n' → m ≤ m' → Th n' m' d := by
  induction h with
  | non => intro _ _ _ _; exact .non
  | bl b => intro _ _ _ _; exact .bl b
  | int i => intro _ _ _ _; exact .int i
  | str h => intro _ _ _ _; exact .str h
  | tup h g ih =>
    intro n' m' h1 h2
    obtain ⟨k, rfl⟩ : ∃ k, n' = k + 1 := ⟨n' - 1, by omega⟩
    exact .tup (by omega) fun d hd => ih d hd (by omega) h2
  | pl h g ih =>
    intro n' m' h1 h2
    obtain ⟨k, rfl⟩ : ∃ k, n' = k + 1 := ⟨n' - 1, by omega⟩
    exact .pl (by omega) fun d hd => ih d hd (by omega) h2
theorem Th.ok {n m : Nat} {d : D} {S : Sto} (h : Th n m d) : okT S d := by
  cases h with
  | str h =>
    show Str.length _ ≤ sizeLine
    rw [sizeL]
    have := h.len
    omega
  | _ => trivial
theorem Th.uni {n m : Nat} {d : D} (h : Th n m d) : ∀ z, d = .str z → Uni z := by
  intro z e
  subst e
  cases h with
  | str h => exact h.uni
end CW

namespace CW
open PySem PySem.Spec PyProof.Rows L2 MM
noncomputable def m_spot_of : MS :=
  sSeq (sFor (iEA (eBin ixD (eVar 0) (eC (.int 0)))) (tTp 2 (tsCons (tN 2) (tsCons (tN 3) (tsNil)))) (sIf (tAn (tV (eUn (isiD .str) (eVar 1))) (tV (eBin inD (eVar 1) (eVar 3)))) (sRet (eTup (aCons (eVar 2) (aCons (eIdxT (eVar 3) (aCons (eVar 1) aNil)) (aNil))))) (sPass)))
  (sRet (eC .non))
noncomputable def sp_spot_of : FL := body 4 m_spot_of
def townD (ls : List (List (List Nat))) (r s : Int) : D := .tup [.tup (ls.map loopD), .int r, .int s]
structure Lps (x : D) (Ls : List (List (List Nat))) : Prop where
  eq : x = .tup (Ls.map loopD)
  pos : 1 ≤ Ls.length
  len : Ls.length ≤ 4
  sz : ∀ l ∈ Ls, 1 ≤ l.length ∧ l.length ≤ 12
  good : ∀ l ∈ Ls, ∀ ds ∈ l, GoodN ds
theorem Lps.inj {x : D} {A B : List (List (List Nat))} (h : Lps x A) (g : Lps x B) : A = B := by
  have e := h.eq.symm.trans g.eq
  injection e with e
  have li : ∀ {a b : List (List Nat)}, nD a = nD b → a = b := by
    intro a
    induction a with
    | nil => intro b h; cases b with | nil => rfl | cons x r => cases h
    | cons x r ih =>
      intro b h
      cases b with
      | nil => cases h
      | cons y t =>
        simp only [nD, List.map_cons, List.cons.injEq, D.str.injEq] at h
        rw [numS_inj h.1, ih (b := t) h.2]
  clear h g
  induction A generalizing B with
  | nil => cases B with | nil => rfl | cons x r => cases e
  | cons x r ih =>
    cases B with
    | nil => cases e
    | cons y t =>
      simp only [List.map_cons, List.cons.injEq, loopD, D.tup.injEq] at e
      rw [li e.1, ih (B := t) e.2]
def spotS (z : Str) : List (List (List Nat)) → Option (Nat × Nat)
  | [] => none
  | l :: r => if z ∈ l.map numS then some (0, (l.map numS).idxOf z) else (spotS z r).map fun p => (p.1 + 1, p.2)
theorem spotS_cons {z : Str} {l : List (List Nat)} {r : List (List (List Nat))} : spotS z (l :: r) = if z ∈ l.map numS then some (0, (l.map numS).idxOf z) else (spotS z r).map fun p => (p.1 + 1, p.2) := rfl
def spotD : Option (Nat × Nat) → D
  | none => .non
  | some p => .tup [.int (p.1 : Int), .int (p.2 : Int)]
theorem txts_nD : ∀ l : List (List Nat), txts (nD l) = some (l.map numS)
  | [] => rfl
  | a :: l => by
    show (txts (nD l)).map (numS a :: ·) = _
    rw [txts_nD l] <;> rfl
theorem inL_str {z : Str} : ∀ {l : List (List Nat)}, inL (.str z) (nD l) = decide (z ∈ l.map numS)
  | [] => by simp [nD, inL]
  | a :: l => by
    have ih := inL_str (z := z) (l := l)
    unfold inL nD at ih ⊢
    rw [List.map_cons, List.any_cons, ih]
    by_cases h : z = numS a
    · subst h
      simp [eqF]
    · have h2 : ¬ (numS a = z) := fun e => h e.symm
      simp [h, h2, eqF]
theorem in_tupS {z : Str} {l : List (List Nat)} {S : Sto} : inD (.str z) (.tup (nD l)) S = .ok (.bl (decide (z ∈ l.map numS))) S := by
  have : MM.inB S (.str z) (.tup (nD l)) = some (decide (z ∈ l.map numS)) := by
    unfold MM.inB
    simp only [flat_nD, flatD, and_self, if_true, inL_str]
  unfold inD
  rw [this]
theorem index_ev {z : Str} {l : List (List Nat)} {S : Sto} (h : z ∈ l.map numS) : indexTD (.tup (nD l)) [.str z] S = .ok (.int ((l.map numS).idxOf z : Nat)) S := by
  unfold indexTD
  simp only [txts_nD, if_pos h]
theorem isTx_nD {l : List (List Nat)} (h : l ≠ []) : isTx (nD l) = true := isTx_txts (txts_nD l) (by unfold nD; simpa using h)
theorem spot_ev {ls : List (List (List Nat))} {t : List D} {z : Str} {S : Sto} : sp_spot_of [.tup (.tup (ls.map loopD) :: t), .str z] S = .ok (spotD (spotS z ls)) S := by
  unfold sp_spot_of m_spot_of
  have t0 : atI (.tup (ls.map loopD) :: t) 0 = some (.tup (ls.map loopD)) := atI_nat (j := 0) rfl
  simp -implicitDefEqProofs [t0]
  generalize hB : sIf _ _ _ = B
  refine for_post (g := noG) (Post := fun r => (r.then (sRet (eC .non))).end = .ok (spotD (spotS z ls)) S)
    (fun k ρ S' => S' = S ∧ (∃ x y, ρ = [some (.tup (.tup (ls.map loopD) :: t)), some (.str z), x, y]) ∧ spotS z ls = (spotS z (ls.drop k)).map fun p => (p.1 + k, p.2)) _ 0 _ _ ⟨rfl, ⟨none, none, rfl⟩, by rw [List.drop_zero]; generalize spotS z ls = o; cases o <;> rfl⟩ (fun _ _ _ _ => trivial) ?_ ?_
  · rintro ρ S' ⟨rfl, ⟨x, y, rfl⟩, h⟩
    rw [enumD_len, List.length_map, Nat.zero_add, List.drop_length] at h
    simp [h, spotS, spotD]
  · rintro i d ρ S' hd ⟨rfl, ⟨x, y, rfl⟩, h⟩
    obtain ⟨l', hx, rfl⟩ := enumD_get hd
    rw [List.getElem?_map] at hx
    obtain ⟨l, hl, rfl⟩ := Option.map_eq_some_iff.mp hx
    rw [Nat.zero_add] at h
    have hdr : ls.drop i = l :: ls.drop (i + 1) := by
      obtain ⟨h1, h2⟩ := List.getElem?_eq_some_iff.mp hl
      rw [List.drop_eq_getElem_cons h1, h2]
    rw [hdr, spotS_cons] at h
    refine ⟨[some (.tup (.tup (ls.map loopD) :: t)), some (.str z), some (.int (i : Int)), some (loopD l)], by simp, ?_⟩
    have e1 := in_tupS (z := z) (l := l) (S := S')
    subst hB
    by_cases hz : z ∈ l.map numS
    · rw [if_pos hz] at h
      have e2 := index_ev (S := S') hz
      have hn : l ≠ [] := fun e => by rw [e] at hz; cases hz
      have e3 : txD (loopD l) = true := isTx_nD hn
      rw [decide_eq_true hz] at e1
      unfold loopD at e3 ⊢
      generalize nD l = L at *
      simp -implicitDefEqProofs [e1, eIdxT, eMeth, e2, e3, sizeL, h, spotD]
    · rw [if_neg hz] at h
      rw [decide_eq_false hz] at e1
      unfold loopD
      generalize nD l = L at *
      simp -implicitDefEqProofs [e1]
      rw [h]
      cases spotS z (ls.drop (i + 1)) with
      | none => rfl
      | some p => simp; omega
/-- where a number of the town stands -/
theorem spot_at : ∀ {ls : List (List (List Nat))} {i j : Nat} {l : List (List Nat)} {ds : List Nat}, ls.flatten.Nodup → ls[i]? = some l → l[j]? = some ds → spotS (numS ds) ls = some (i, j)
  | [], i, j, l, ds, _, h, _ => by simp at h
  | m :: r, i, j, l, ds, hn, h, hj => by
    rw [List.flatten_cons, List.nodup_append] at hn
    unfold spotS
    cases i with
    | zero =>
      simp at h
      subst h
      rw [if_pos (numS_mem.mpr (List.mem_of_getElem? hj))]
      congr 2
      obtain ⟨h1, h2⟩ := List.getElem?_eq_some_iff.mp hj
      have hnd : (m.map numS).Nodup := List.Pairwise.map _ (fun a b hab e => hab (numS_inj e)) hn.1
      have e1 : (m.map numS)[j]'(by simpa using h1) = numS ds := by simp [h2]
      rw [← e1]
      exact List.Nodup.idxOf_getElem hnd j _
    | succ i =>
      have h' : r[i]? = some l := by simpa using h
      have hne : ¬ (numS ds ∈ m.map numS) := fun q => by
        have q := numS_mem.mp q
        exact hn.2.2 ds q ds (List.mem_flatten.mpr ⟨l, List.mem_of_getElem? h', List.mem_of_getElem? hj⟩) rfl
      rw [if_neg hne, spot_at hn.2.1 h' hj] <;> rfl
end CW

namespace CW
open PySem PySem.Spec PyProof.Rows L2 MM
noncomputable def m_key_or : MS :=
  sSeq (sIf (tV (eBin gtD (eVar 0) (eC (.int 0)))) (sRet (eC (.int 2))) (sPass))
  (sRet (eIf (tV (eVar 1)) (eC (.int 1)) (eC (.int 0))))
noncomputable def sp_key_or : FL := body 2 m_key_or
noncomputable def m_is_whole_now : MS :=
  sSeq (sIf (tOo (tV (eBin isND (eBin ixD (eVar 0) (eC (.int 3))) (eC .non))) (tV (eBin ltD (eBin addD (eBin ixD (eVar 0) (eC (.int 3))) (eC (.int 1))) (eCall lenD (aCons (eVar 1) (aNil)))))) (sRet (eC (.bl false))) (sPass))
  (sRet (eOo (eUn notD (eVar 2)) (eCall sp_breaks_with (aCons (eVar 0) (aCons (eVar 1) (aNil))))))
noncomputable def sp_is_whole_now : FL := body 3 m_is_whole_now
noncomputable def m_Line_cuts : MS :=
  sRet (eCall tupleA (aCons (eFld 0 "cut_rows" (eVar 0)) (aNil)))
noncomputable def sp_Line_cuts : FL := body 1 m_Line_cuts
noncomputable def m_Line_look_box : MS :=
  sIf (tV (eBin isND (eCall sp_spot_of (aCons (eFld 0 "town" (eVar 0)) (aCons (eVar 1) (aNil)))) (eC .non))) (sRaise 12) (sPass)
noncomputable def sp_Line_look_box : FL := body 2 m_Line_look_box
noncomputable def m_Line_pull : MS :=
  sSeq (sExpr (eMts "look_box" [(0, sp_Line_look_box)] (eVar 0) (aCons (eVar 1) (aNil))))
  (sSeq (sSet 2 (eBin ixA (eFld 0 "states" (eVar 0)) (eVar 1)))
  (sSeq (sSetA (eFld 0 "states" (eVar 0)) (eVar 1) (eCall sp_box_pulled (aCons (eVar 2) (aCons (eBin ixD (eFld 0 "town" (eVar 0)) (eC (.int 1))) (aNil)))))
  (sRet (eBin eqD (eBin ixD (eVar 2) (eC (.int 0))) (eC (.int 0))))))
noncomputable def sp_Line_pull : FL := body 3 m_Line_pull
noncomputable def m_Line_hold : MS :=
  sFor (iA (eVar 1)) (tN 2) (sSetIx (eFld 0 "held" (eVar 0)) (eVar 2) (eC (.int 2)))
noncomputable def sp_Line_hold : FL := body 3 m_Line_hold
noncomputable def m_Line_hold_for : MS :=
  sIf (tV (eFld 0 "joined" (eVar 0))) (sExpr (eMts "hold" [(0, sp_Line_hold)] (eVar 0) (aCons (ePl (lR1 (eCall lenD (aCons (eFld 0 "held" (eVar 0)) (aNil))))) (aNil)))) (sExpr (eMts "hold" [(0, sp_Line_hold)] (eVar 0) (aCons (ePl (lNew (aCons (eVar 1) (aNil)))) (aNil))))
noncomputable def sp_Line_hold_for : FL := body 2 m_Line_hold_for
noncomputable def m_Line_is_part_broken : MS :=
  sRet (eLs anyD (lComp (iA (eVar 1)) [2] (tN 2) tYs (eCall sp_breaks_with (aCons (eBin ixA (eFld 0 "states" (eVar 0)) (eVar 2)) (aCons (eBin ixA (eFld 0 "rows" (eVar 0)) (eVar 2)) (aNil))))))
noncomputable def sp_Line_is_part_broken : FL := body 3 m_Line_is_part_broken
noncomputable def m_Line_loop_of_part : MS :=
  sRet (eBin ixD (eCall sp_spot_of (aCons (eFld 0 "town" (eVar 0)) (aCons (eBin ixD (eVar 1) (eC (.int 0))) (aNil)))) (eC (.int 0)))
noncomputable def sp_Line_loop_of_part : FL := body 2 m_Line_loop_of_part
noncomputable def m_Line_broken_ends : MS :=
  sSeq (sSet 1 (eLs anyD (lComp (iA (eCall sp_wire_parts (aCons (eFld 0 "town" (eVar 0)) (aCons (eMts "cuts" [(0, sp_Line_cuts)] (eVar 0) (aNil)) (aCons (eC (.bl true)) (aNil)))))) [7] (tN 7) tYs (eMts "is_part_broken" [(0, sp_Line_is_part_broken)] (eVar 0) (aCons (eVar 7) (aNil))))))
  (sSeq (sSet 2 (eNew (lNew (aNil))))
  (sSeq (sFor (iEA (eBin ixD (eFld 0 "town" (eVar 0)) (eC (.int 0)))) (tTp 2 (tsCons (tN 3) (tsCons (tN 4) (tsNil)))) (sSeq (sSet 5 (eBin ixD (eFld 0 "cut_rows" (eVar 0)) (eVar 3)))
  (sSeq (sSet 6 (eTup (aCons (eVar 1) (aCons (eVar 1) (aNil)))))
  (sSeq (sIf (tNt (tV (eFld 0 "joined" (eVar 0)))) (sSet 6 (eTup (aCons (eMts "is_part_broken" [(0, sp_Line_is_part_broken)] (eVar 0) (aCons (eCall sp_near_part (aCons (eVar 4) (aCons (eVar 5) (aNil)))) (aNil))) (aCons (eMts "is_part_broken" [(0, sp_Line_is_part_broken)] (eVar 0) (aCons (eCall sp_far_part (aCons (eVar 4) (aCons (eVar 5) (aNil)))) (aNil))) (aNil))))) (sPass))
  (sExpr (eMeth isLstD appendD (eVar 2) (aCons (eVar 6) (aNil))))))))
  (sRet (eVar 2))))
noncomputable def sp_Line_broken_ends : FL := body 8 m_Line_broken_ends
noncomputable def m_Line_write_tapes : MS :=
  sFor (iEA (eMts "broken_ends" [(0, sp_Line_broken_ends)] (eVar 0) (aNil))) (tTp 2 (tsCons (tN 1) (tsCons (tTp 2 (tsCons (tN 2) (tsCons (tN 3) (tsNil)))) (tsNil)))) (sSeq (sExpr (eMeth isLstD appendD (eBin ixD (eFld 0 "near_rows" (eVar 0)) (eVar 1)) (aCons (eCall sp_key_or (aCons (eBin ixD (eFld 0 "held" (eVar 0)) (eVar 1)) (aCons (eVar 2) (aNil)))) (aNil))))
  (sExpr (eMeth isLstD appendD (eBin ixD (eFld 0 "far_rows" (eVar 0)) (eVar 1)) (aCons (eCall sp_key_or (aCons (eBin ixD (eFld 0 "held" (eVar 0)) (eVar 1)) (aCons (eVar 3) (aNil)))) (aNil)))))
noncomputable def sp_Line_write_tapes : FL := body 4 m_Line_write_tapes
noncomputable def m_Line_broken_numbers : MS :=
  sSeq (sSet 1 (eDNew))
  (sSeq (sLock (eFld 0 "states" (eVar 0)) (sFor (iDK (eFld 0 "states" (eVar 0))) (tN 2) (sSetA (eVar 1) (eVar 2) (eC (.bl true)))))
  (sSeq (sFor (iA (eCall sp_wire_parts (aCons (eFld 0 "town" (eVar 0)) (aCons (eMts "cuts" [(0, sp_Line_cuts)] (eVar 0) (aNil)) (aCons (eFld 0 "joined" (eVar 0)) (aNil)))))) (tN 3) (sIf (tV (eBin neD (eVar 3) (eTup (aNil)))) (sSeq (sSet 4 (eOo (eMts "is_part_broken" [(0, sp_Line_is_part_broken)] (eVar 0) (aCons (eVar 3) (aNil))) (eBin gtD (eBin ixD (eFld 0 "held" (eVar 0)) (eMts "loop_of_part" [(0, sp_Line_loop_of_part)] (eVar 0) (aCons (eVar 3) (aNil)))) (eC (.int 0)))))
  (sFor (iA (eVar 3)) (tN 2) (sSetA (eVar 1) (eVar 2) (eVar 4)))) (sPass)))
  (sRet (eVar 1))))
noncomputable def sp_Line_broken_numbers : FL := body 5 m_Line_broken_numbers
noncomputable def m_Line_tick : MS :=
  sSeq (sFor (iN (lDK (eFld 0 "states" (eVar 0)))) (tN 1) (sSetA (eFld 0 "states" (eVar 0)) (eVar 1) (eCall sp_box_started (aCons (eBin ixA (eFld 0 "states" (eVar 0)) (eVar 1)) (aNil)))))
  (sSeq (sExpr (eMts "write_tapes" [(0, sp_Line_write_tapes)] (eVar 0) (aNil)))
  (sSeq (sSet 2 (eNew (lNew (aNil))))
  (sSeq (sFor (iDI (eLockD (eMts "broken_numbers" [(0, sp_Line_broken_numbers)] (eVar 0) (aNil)))) (tTp 2 (tsCons (tN 1) (tsCons (tN 3) (tsNil)))) (sSeq (sSet 4 (eBin ixA (eFld 0 "rows" (eVar 0)) (eVar 1)))
  (sSeq (sIf (tV (eCall sp_is_whole_now (aCons (eBin ixA (eFld 0 "states" (eVar 0)) (eVar 1)) (aCons (eVar 4) (aCons (eVar 3) (aNil)))))) (sExpr (eMeth isLstD appendD (eVar 2) (aCons (eVar 1) (aNil)))) (sPass))
  (sSetA (eFld 0 "states" (eVar 0)) (eVar 1) (eCall sp_behind_with (aCons (eBin ixA (eFld 0 "states" (eVar 0)) (eVar 1)) (aCons (eVar 4) (aCons (eVar 3) (aNil)))))))))
  (sSeq (sFldD 0 "held" (eVar 0) (eNew (lComp (iA (eFld 0 "held" (eVar 0))) [5] (tN 5) tYs (eCall maxD (aCons (eC (.int 0)) (aCons (eBin subD (eVar 5) (eC (.int 1))) (aNil)))))))
  (sSeq (sFldAug 0 "ticks" (eVar 0) (eC (.int 1)))
  (sRet (eLs tupleD (lSorted (lOf (eVar 2))))))))))
noncomputable def sp_Line_tick : FL := body 6 m_Line_tick
structure Bx where
  left : Int
  sent : Int
  spring : Int
  place : Option Int
  quiet : Int
deriving DecidableEq
def bxD (b : Bx) : D := boxD b.left b.sent b.spring b.place b.quiet
def Bx.pulled (b : Bx) (r : Int) : Bx := if 0 < b.left then b else ⟨r, 0, b.spring, b.place, b.quiet⟩
def Bx.wound (b : Bx) (s : Int) : Bx := ⟨b.left, b.sent, s, b.place, b.quiet⟩
def Bx.started (b : Bx) : Bx := if b.place = none ∧ 0 < b.left ∧ 0 < b.spring ∧ 8 + b.sent ≤ b.quiet then ⟨b.left, b.sent, b.spring, some 0, b.quiet⟩ else b
def Bx.brk (b : Bx) (r : List Int) : Bool := brkB b.place r
def qBehind (q : Int) (k : Bool) : Int := if k then 0 else min 12 (q + 1)
def Bx.behind (b : Bx) (r : List Int) (k : Bool) : Bx := match b.place with
  | none => ⟨b.left, b.sent, b.spring, none, qBehind b.quiet k⟩
  | some i => if k = true ∧ b.brk r = false then ⟨b.left, b.sent, b.spring, none, qBehind b.quiet k⟩ else
    if i + 1 = r.length then (if b.left = 1 then ⟨0, 0, b.spring - 1, none, qBehind b.quiet k⟩ else ⟨b.left - 1, b.sent + 1, b.spring - 1, none, qBehind b.quiet k⟩) else ⟨b.left, b.sent, b.spring, some (i + 1), qBehind b.quiet k⟩
def Bx.whole (b : Bx) (r : List Int) (k : Bool) : Bool := match b.place with
  | none => false
  | some i => if i + 1 < r.length then false else (!k || b.brk r)
/-- its place lies in its row -/
def Bx.In (b : Bx) (r : List Int) : Prop := ∀ i, b.place = some i → 0 ≤ i ∧ i < r.length
theorem bx_pulled {b : Bx} {r : Int} {S : Sto} : sp_box_pulled [bxD b, .int r] S = .ok (bxD (b.pulled r)) S := by
  unfold bxD
  rw [pulled_ev]
  unfold Bx.pulled
  split <;> rfl
theorem bx_started {b : Bx} {S : Sto} : sp_box_started [bxD b] S = .ok (bxD b.started) S := by
  unfold bxD
  rw [started_ev]
  unfold Bx.started
  split <;> rfl
theorem bx_breaks {b : Bx} {r : List Int} {S : Sto} (h : b.In r) : sp_breaks_with [bxD b, .tup (iD r)] S = .ok (.bl (b.brk r)) S := breaks_ev h
theorem bx_behind {b : Bx} {r : List Int} {k : Bool} {S : Sto} (h : b.In r) : sp_behind_with [bxD b, .tup (iD r), .bl k] S = .ok (bxD (b.behind r k)) S := by
  unfold bxD
  rw [behind_ev h]
  unfold behB Bx.behind Bx.brk qBehind
  obtain ⟨l, s, sp, p, q⟩ := b
  cases p with
  | none => rfl
  | some i =>
    dsimp only
    congr 1
    split
    · rfl
    · split
      · split <;> rfl
      · rfl
theorem bx_whole {b : Bx} {r : List Int} {k : Bool} {S : Sto} (h : b.In r) : sp_is_whole_now [bxD b, .tup (iD r), .bl k] S = .ok (.bl (b.whole r k)) S := by
  have hb := bx_breaks (S := S) h
  obtain ⟨l, s, sp, p, q⟩ := b
  have c : atI [D.int l, D.int s, D.int sp, optD p, D.int q] 3 = some (optD p) := rfl
  unfold sp_is_whole_now m_is_whole_now Bx.whole
  unfold bxD boxD at *
  cases p with
  | none =>
    simp at c
    simp -implicitDefEqProofs [c, isN_non]
  | some i =>
    simp at c
    have hl : (iD r).length = r.length := iD_length r
    by_cases h1 : i + 1 < r.length
    · simp -implicitDefEqProofs [c, isN_int, hl, h1]
    · cases k with
      | false => simp -implicitDefEqProofs [c, isN_int, hl, h1]
      | true => simp at hb; simp -implicitDefEqProofs [c, isN_int, hl, h1, hb]
theorem Bx.In.pulled {b : Bx} {r : List Int} (h : b.In r) (k : Int) : (b.pulled k).In r := by
  unfold Bx.pulled
  split
  · exact h
  · exact h
theorem Bx.In.wound {b : Bx} {r : List Int} (h : b.In r) (k : Int) : (b.wound k).In r := h
theorem Bx.In.started {b : Bx} {r : List Int} (h : b.In r) (hr : 0 < r.length) : b.started.In r := by
  unfold Bx.started
  split
  · intro i hi
    cases hi
    exact ⟨by decide, by omega⟩
  · exact h
theorem Bx.In.behind {b : Bx} {r : List Int} (h : b.In r) (k : Bool) : (b.behind r k).In r := by
  unfold Bx.behind
  split
  · intro i hi; cases hi
  · rename_i i hi
    have hi2 := h i hi
    split
    · intro j hj; cases hj
    · split
      · split <;> (intro j hj; cases hj)
      · intro j hj
        cases hj
        omega
def byD (F : List (List Nat)) (f : List Nat → D) : List (Key × D) := F.map fun ds => (.inr (numS ds), f ds)
theorem byD_val {F : List (List Nat)} {f : List Nat → D} {ds : List Nat} (h : ds ∈ F) : valD (byD F f) (.inr (numS ds)) = some (f ds) := by
  induction F with
  | nil => cases h
  | cons a F ih =>
    unfold byD at ih ⊢
    rw [List.map_cons, valD_cons]
    by_cases e : a = ds
    · subst e; rw [if_pos rfl]
    · have : ¬ ((.inr (numS a) : Key) = .inr (numS ds)) := fun q => e (numS_inj (by injection q))
      rw [if_neg this]
      exact ih ((List.mem_cons.mp h).resolve_left fun q => e q.symm)
theorem byD_none {F : List (List Nat)} {f : List Nat → D} {z : Str} (h : z ∉ F.map numS) : valD (byD F f) (.inr z) = none := by
  induction F with
  | nil => rfl
  | cons a F ih =>
    unfold byD at ih ⊢
    rw [List.map_cons, valD_cons]
    have h1 : ¬ (z = numS a) := fun q => h (by simp [q])
    have : ¬ ((.inr (numS a) : Key) = .inr z) := fun q => h1 (by injection q with q; exact q.symm)
    rw [if_neg this]
    exact ih fun q => h (by rw [List.map_cons]; exact List.mem_cons_of_mem _ q)
def setF {α : Type} (f : List Nat → α) (ds : List Nat) (v : α) : List Nat → α := fun d => if d = ds then v else f d
theorem byD_put {F : List (List Nat)} {f : List Nat → D} {ds : List Nat} {v : D} (h : ds ∈ F) : putD (byD F f) (.inr (numS ds)) v = byD F (setF f ds v) := by
  unfold putD
  rw [valD_any, byD_val h]
  unfold byD setF
  simp only [Option.isSome_some, if_true]
  rw [List.map_map]
  apply List.map_congr_left
  intro a _
  show (if (.inr (numS a) : Key) = .inr (numS ds) then _ else _) = _
  by_cases e : a = ds
  · subst e; simp
  · have : ¬ ((.inr (numS a) : Key) = .inr (numS ds)) := fun q => e (numS_inj (by injection q))
    rw [if_neg this, if_neg e]
theorem byD_snoc {F : List (List Nat)} {f : List Nat → D} {ds : List Nat} {v : D} (h : ds ∉ F) : putD (byD F f) (.inr (numS ds)) v = byD (F ++ [ds]) (setF f ds v) := by
  unfold putD
  rw [valD_any, byD_none (fun q => h (numS_mem.mp q))]
  unfold byD setF
  rw [List.map_append]
  simp only [Option.isSome_none, Bool.false_eq_true, if_false, List.map_cons, List.map_nil, if_true]
  congr 1
  apply List.map_congr_left
  intro a ha
  rw [if_neg fun e => h (by rw [← e]; exact ha)]
theorem byD_len (F : List (List Nat)) (f : List Nat → D) : (byD F f).length = F.length := by simp [byD]
theorem byD_keys (F : List (List Nat)) (f : List Nat → D) : keysOf (byD F f) = nD F := by simp [keysOf, byD, nD, kD]
theorem byD_items (F : List (List Nat)) (f : List Nat → D) : itemsOf (byD F f) = F.map fun ds => .tup [.str (numS ds), f ds] := by simp [itemsOf, byD, kD]
theorem byD_congr {F : List (List Nat)} {f g : List Nat → D} (h : ∀ ds ∈ F, f ds = g ds) : byD F f = byD F g := List.map_congr_left fun ds hd => by rw [h ds hd]
structure LSt where
  ls : List (List (List Nat))
  rounds : Int
  spring : Int
  bx : List Nat → Bx
  cuts : List (List Nat)
  held : List Int
  near : List (List Int)
  far : List (List Int)
  joined : Bool
  ticks : Nat
def LSt.F (L : LSt) : List (List Nat) := L.ls.flatten
def LSt.k (L : LSt) : Nat := L.ls.length
def nearF (n k : Nat) : List D := (List.range k).map fun i => .ref (n + 5 + i)
def farF (n k : Nat) : List D := (List.range k).map fun i => .ref (n + 5 + k + i)
def fL (town : D) (n h k : Nat) (j : Bool) (t : Int) : List (Str × D) := [("town", town), ("states", .ref (n + 1)), ("rows", .ref (n + 2)), ("cut_rows", .ref (n + 3)), ("held", .ref h), ("near_rows", .pl (nearF n k)), ("far_rows", .pl (farF n k)), ("joined", .bl j), ("ticks", .int t)]
section
variable {town : D} {n h k : Nat} {j : Bool} {t : Int}
@[simp] theorem fL_town : lookF (Str.ofString "town") (fL town n h k j t) = some town := rfl
@[simp] theorem fL_states : lookF (Str.ofString "states") (fL town n h k j t) = some (.ref (n + 1)) := rfl
@[simp] theorem fL_rows : lookF (Str.ofString "rows") (fL town n h k j t) = some (.ref (n + 2)) := rfl
@[simp] theorem fL_cut : lookF (Str.ofString "cut_rows") (fL town n h k j t) = some (.ref (n + 3)) := rfl
@[simp] theorem fL_held : lookF (Str.ofString "held") (fL town n h k j t) = some (.ref h) := rfl
@[simp] theorem fL_near : lookF (Str.ofString "near_rows") (fL town n h k j t) = some (.pl (nearF n k)) := rfl
@[simp] theorem fL_far : lookF (Str.ofString "far_rows") (fL town n h k j t) = some (.pl (farF n k)) := rfl
@[simp] theorem fL_joined : lookF (Str.ofString "joined") (fL town n h k j t) = some (.bl j) := rfl
@[simp] theorem fL_ticks : lookF (Str.ofString "ticks") (fL town n h k j t) = some (.int t) := rfl
@[simp] theorem fL_m1 : lookF (Str.ofString "look_box") (fL town n h k j t) = none := rfl
@[simp] theorem fL_m2 : lookF (Str.ofString "look_loop") (fL town n h k j t) = none := rfl
@[simp] theorem fL_m3 : lookF (Str.ofString "hold") (fL town n h k j t) = none := rfl
@[simp] theorem fL_m4 : lookF (Str.ofString "hold_for") (fL town n h k j t) = none := rfl
@[simp] theorem fL_m5 : lookF (Str.ofString "pull") (fL town n h k j t) = none := rfl
@[simp] theorem fL_m6 : lookF (Str.ofString "wind") (fL town n h k j t) = none := rfl
@[simp] theorem fL_m7 : lookF (Str.ofString "cut") (fL town n h k j t) = none := rfl
@[simp] theorem fL_m8 : lookF (Str.ofString "mend") (fL town n h k j t) = none := rfl
@[simp] theorem fL_m9 : lookF (Str.ofString "set_joined") (fL town n h k j t) = none := rfl
@[simp] theorem fL_m10 : lookF (Str.ofString "join") (fL town n h k j t) = none := rfl
@[simp] theorem fL_m11 : lookF (Str.ofString "part") (fL town n h k j t) = none := rfl
@[simp] theorem fL_m12 : lookF (Str.ofString "clear") (fL town n h k j t) = none := rfl
@[simp] theorem fL_m13 : lookF (Str.ofString "is_part_broken") (fL town n h k j t) = none := rfl
@[simp] theorem fL_m14 : lookF (Str.ofString "loop_of_part") (fL town n h k j t) = none := rfl
@[simp] theorem fL_m15 : lookF (Str.ofString "broken_numbers") (fL town n h k j t) = none := rfl
@[simp] theorem fL_m16 : lookF (Str.ofString "broken_ends") (fL town n h k j t) = none := rfl
@[simp] theorem fL_m17 : lookF (Str.ofString "write_tapes") (fL town n h k j t) = none := rfl
@[simp] theorem fL_m18 : lookF (Str.ofString "tick") (fL town n h k j t) = none := rfl
@[simp] theorem fL_m19 : lookF (Str.ofString "clock") (fL town n h k j t) = none := rfl
@[simp] theorem fL_m20 : lookF (Str.ofString "box") (fL town n h k j t) = none := rfl
@[simp] theorem fL_m21 : lookF (Str.ofString "near_tape") (fL town n h k j t) = none := rfl
@[simp] theorem fL_m22 : lookF (Str.ofString "far_tape") (fL town n h k j t) = none := rfl
@[simp] theorem fL_m23 : lookF (Str.ofString "cuts") (fL town n h k j t) = none := rfl
@[simp] theorem fL_m24 : lookF (Str.ofString "is_joined") (fL town n h k j t) = none := rfl
theorem fL_len : (fL town n h k j t).length = 9 := rfl
end
def LSt.town (L : LSt) : D := townD L.ls L.rounds L.spring
def cutsL (cs : List (List Nat)) : List D := cs.map fun c => .tup (ixsD c)
/-- cuts of a loop of a line -/
structure CutL (n : Nat) (c : List Nat) : Prop where
  srt : c.Pairwise (· < ·)
  le : ∀ k ∈ c, k ≤ n
structure LOk (L : LSt) : Prop where
  town : GoodT 12 L.ls
  r1 : 1 ≤ L.rounds
  r4 : L.rounds ≤ 4
  s1 : 1 ≤ L.spring
  s50 : L.spring ≤ 50
  box : ∀ ds ∈ L.F, (L.bx ds).In (rowN ds)
  lc : L.cuts.length = L.k
  lh : L.held.length = L.k
  ln : L.near.length = L.k
  lf : L.far.length = L.k
  cut : ∀ (i : Nat) l c, L.ls[i]? = some l → L.cuts[i]? = some c → CutL l.length c
/-- the tapes have as many signs as the clock has ticks -/
def LSt.Taped (L : LSt) : Prop := (∀ t ∈ L.near, t.length = L.ticks) ∧ ∀ t ∈ L.far, t.length = L.ticks
structure LineAt (S : Sto) (n h : Nat) (L : LSt) : Prop where
  ob : S[n]? = some (.ins 0 (fL L.town n h L.k L.joined (L.ticks : Int)))
  st : S[n + 1]? = some (.dct false (byD L.F fun ds => bxD (L.bx ds)))
  rw_ : S[n + 2]? = some (.dct false (byD L.F fun ds => .tup (iD (rowN ds))))
  ct : S[n + 3]? = some (.lst false (cutsL L.cuts))
  hd : S[h]? = some (.lst false (iD L.held))
  nr : ∀ (i : Nat) t, L.near[i]? = some t → S[n + 5 + i]? = some (.lst false (iD t))
  fr : ∀ (i : Nat) t, L.far[i]? = some t → S[n + 5 + L.k + i]? = some (.lst false (iD t))
  hh : h = n + 4 ∨ n + 5 + 2 * L.k ≤ h
  ok : LOk L
/-- nothing but the line at n (its keys at h) was changed; things were made -/
def Lch (n h k : Nat) (S S' : Sto) : Prop := S.length ≤ S'.length ∧ ∀ i, i < S.length → (i < n ∨ n + 5 + 2 * k ≤ i) → i ≠ h → S'[i]? = S[i]?
theorem Lch.refl {n h k : Nat} {S : Sto} : Lch n h k S S := ⟨Nat.le_refl _, fun _ _ _ _ => rfl⟩
theorem Lch.set {n h k j : Nat} {S S' : Sto} {o : O} (w : Lch n h k S S') (hj : (n ≤ j ∧ j < n + 5 + 2 * k) ∨ j = h ∨ S.length ≤ j) : Lch n h k S (S'.set j o) := ⟨by rw [List.length_set]; exact w.1, fun i hi hn hh => by rw [List.getElem?_set_ne (by omega), w.2 i hi hn hh]⟩
theorem Lch.app {n h k : Nat} {S S' : Sto} (w : Lch n h k S S') (T : Sto) : Lch n h k S (S' ++ T) := ⟨by have := w.1; simp; omega, fun i hi hn hh => by rw [List.getElem?_append_left (by have := w.1; omega), w.2 i hi hn hh]⟩
theorem Lch.trans {n h h' k : Nat} {S S1 S2 : Sto} (w : Lch n h k S S1) (v : Lch n h' k S1 S2) (hh : h' = h ∨ S.length ≤ h') : Lch n h k S S2 := ⟨Nat.le_trans w.1 v.1, fun i hi hn hne => by
  rw [v.2 i (by have := w.1; omega) hn (by omega), w.2 i hi hn hne]⟩
theorem LineAt.lt {S : Sto} {n h : Nat} {L : LSt} (H : LineAt S n h L) : n + 5 + 2 * L.k ≤ S.length ∧ h < S.length := by
  have h1 := get_of H.hd
  have hk := H.ok.town.pos
  have hf := H.ok.lf
  refine ⟨?_, h1⟩
  have hlt : L.k - 1 < L.far.length := by unfold LSt.k at *; omega
  have := get_of (H.fr (L.k - 1) _ (List.getElem?_eq_getElem hlt))
  have : 1 ≤ L.k := hk
  omega
theorem LineAt.keep {S S' : Sto} {n h : Nat} {L : LSt} (H : LineAt S n h L) (g : ∀ i, (n ≤ i ∧ i < n + 5 + 2 * L.k) ∨ i = h → S'[i]? = S[i]?) : LineAt S' n h L := by
  have hk := H.ok.town.pos
  have hk' : 1 ≤ L.k := hk
  refine ⟨by rw [g n (by omega)]; exact H.ob, by rw [g (n + 1) (by omega)]; exact H.st, by rw [g (n + 2) (by omega)]; exact H.rw_, by rw [g (n + 3) (by omega)]; exact H.ct, by rw [g h (by omega)]; exact H.hd, fun i t ht => ?_, fun i t ht => ?_, H.hh, H.ok⟩
  · have := get_of ht
    have hl := H.ok.ln
    rw [g (n + 5 + i) (by omega)]
    exact H.nr i t ht
  · have := get_of ht
    have hl := H.ok.lf
    rw [g (n + 5 + L.k + i) (by omega)]
    exact H.fr i t ht
theorem LineAt.app {S : Sto} {n h : Nat} {L : LSt} (H : LineAt S n h L) (T : Sto) : LineAt (S ++ T) n h L := H.keep fun i hi => by
  have := H.lt
  exact List.getElem?_append_left (by omega)
theorem LineAt.ins {S : Sto} {n h : Nat} {L : LSt} (H : LineAt S n h L) : insOf S (.ref n) = some (0, fL L.town n h L.k L.joined (L.ticks : Int)) := insOf_ev H.ob
section
variable {S : Sto} {n h : Nat} {L : LSt}
theorem lineCuts_ev (H : LineAt S n h L) : sp_Line_cuts [.ref n] S = .ok (.tup (cutsL L.cuts)) S := by
  have hi := H.ins
  have hc := H.ct
  unfold sp_Line_cuts m_Line_cuts
  generalize L.town = tw at *
  simp -implicitDefEqProofs [hi, tupleA, lstOf, hc]
theorem lookBox_ok (H : LineAt S n h L) {ds : List Nat} (hd : ds ∈ L.F) : sp_Line_look_box [.ref n, .str (numS ds)] S = .ok .non S := by
  have hi := H.ins
  have e1 := spot_ev (ls := L.ls) (t := [.int L.rounds, .int L.spring]) (z := numS ds) (S := S)
  obtain ⟨l, hl, hdl⟩ := List.mem_flatten.mp hd
  obtain ⟨i, hi2, e2⟩ := List.getElem_of_mem hl
  obtain ⟨j, hj2, e3⟩ := List.getElem_of_mem hdl
  rw [spot_at H.ok.town.nd (by rw [List.getElem?_eq_getElem hi2, e2]) (by rw [List.getElem?_eq_getElem hj2, e3])] at e1
  have e4 : ∀ a b, isND (.tup [.int a, .int b]) .non S = .ok (.bl false) S := fun _ _ => rfl
  unfold sp_Line_look_box m_Line_look_box
  have ht : L.town = .tup [.tup (L.ls.map loopD), .int L.rounds, .int L.spring] := rfl
  rw [← ht] at e1
  generalize L.town = tw at *
  simp -implicitDefEqProofs [hi, e1, spotD, e4]
theorem linePull_ev (H : LineAt S n h L) {ds : List Nat} (hd : ds ∈ L.F) : sp_Line_pull [.ref n, .str (numS ds)] S = .ok (.bl (decide ((L.bx ds).left = 0))) (S.set (n + 1) (.dct false (byD L.F fun d => bxD (setF L.bx ds ((L.bx ds).pulled L.rounds) d)))) := by
  have hi := H.ins
  have e1 := lookBox_ok H hd
  have e2 := ixA_ev H.st (byD_val (f := fun ds => bxD (L.bx ds)) hd)
  have e3 := bx_pulled (b := L.bx ds) (r := L.rounds) (S := S)
  have hl : L.F.length ≤ 1000 := by
    have h1 := flatB_len (B := 12) (ls := L.ls) (fun l hl => (H.ok.town.sz l hl).2)
    have := H.ok.town.len
    unfold LSt.F
    omega
  have e4 := setA_ev (z := numS ds) (v := bxD ((L.bx ds).pulled L.rounds)) H.st (by rw [byD_len]; omega)
  rw [byD_put hd] at e4
  have e5 : (setF (fun ds => bxD (L.bx ds)) ds (bxD ((L.bx ds).pulled L.rounds))) = fun d => bxD (setF L.bx ds ((L.bx ds).pulled L.rounds) d) := by
    funext d
    unfold setF
    split <;> rfl
  rw [e5] at e4
  have ht : L.town = .tup [.tup (L.ls.map loopD), .int L.rounds, .int L.spring] := rfl
  have t1 : atI [D.tup (L.ls.map loopD), .int L.rounds, .int L.spring] 1 = some (.int L.rounds) := atI_nat (j := 1) rfl
  have t2 : atI [D.int (L.bx ds).left, D.int (L.bx ds).sent, D.int (L.bx ds).spring, optD (L.bx ds).place, D.int (L.bx ds).quiet] 0 = some (.int (L.bx ds).left) := atI_nat (j := 0) rfl
  unfold sp_Line_pull m_Line_pull
  rw [ht] at hi
  generalize hb : bxD (L.bx ds) = B at *
  generalize bxD ((L.bx ds).pulled L.rounds) = B2 at *
  generalize L.ls.map loopD = LL at *
  simp -implicitDefEqProofs [hi, e1, e2, t1, e3, e4]
  subst hb
  unfold bxD boxD
  simp -implicitDefEqProofs [t2]
/-- the boxes of a line are changed -/
theorem LineAt.setBx (H : LineAt S n h L) {f : List Nat → Bx} (hf : ∀ ds ∈ L.F, (f ds).In (rowN ds)) : LineAt (S.set (n + 1) (.dct false (byD L.F fun d => bxD (f d)))) n h { L with bx := f } := by
  have hl := H.lt
  have hh := H.hh
  have hk : 1 ≤ L.k := H.ok.town.pos
  have o := H.ok
  have g : ∀ i, i ≠ n + 1 → (S.set (n + 1) (O.dct false (byD L.F fun d => bxD (f d))))[i]? = S[i]? := fun i hi => List.getElem?_set_ne (Ne.symm hi)
  refine ⟨by rw [g n (by omega)]; exact H.ob, List.getElem?_set_self (by omega), by rw [g _ (by omega)]; exact H.rw_, by rw [g _ (by omega)]; exact H.ct, by rw [g _ (by omega)]; exact H.hd, fun i t ht => by rw [g _ (by omega)]; exact H.nr i t ht, fun i t ht => by rw [g _ (by omega)]; exact H.fr i t ht, H.hh, ⟨o.town, o.r1, o.r4, o.s1, o.s50, hf, o.lc, o.lh, o.ln, o.lf, o.cut⟩⟩
theorem nearF_at {n k i : Nat} (h : i < k) : atI (nearF n k) (i : Int) = some (.ref (n + 5 + i)) := atI_nat (j := i) (by simp [nearF, h])
theorem farF_at {n k i : Nat} (h : i < k) : atI (farF n k) (i : Int) = some (.ref (n + 5 + k + i)) := atI_nat (j := i) (by simp [farF, h])
end
end CW

namespace CW
open PySem PySem.Spec PyProof.Rows L2 MM
theorem F_len {L : LSt} (H : LOk L) : L.F.length ≤ 48 := by
  have h1 := flatB_len (B := 12) (ls := L.ls) (fun l hl => (H.town.sz l hl).2)
  have := H.town.len
  unfold LSt.F
  omega
theorem row_pos {ds : List Nat} : 0 < (rowN ds).length := by
  rw [rowN_len]
  omega
section
variable {S : Sto} {n h : Nat} {L : LSt}
noncomputable def startB : MS := sSetA (eFld 0 "states" (eVar 0)) (eVar 1) (eCall sp_box_started (aCons (eBin ixA (eFld 0 "states" (eVar 0)) (eVar 1)) (aNil)))
def LSt.go (L : LSt) : LSt := { L with bx := fun d => (L.bx d).started }
theorem start_ev (H : LineAt S n h L) {x1 x2 x3 x4 x5 : Option D} : ∃ y1, sFor (iN (lDK (eFld 0 "states" (eVar 0)))) (tN 1) startB [some (.ref n), x1, x2, x3, x4, x5] S = .nx [some (.ref n), y1, x2, x3, x4, x5] (S.set (n + 1) (.dct false (byD L.F fun d => bxD (L.bx d).started))) := by
  have hnd := H.ok.town.nd
  have hlt := H.lt
  let f : Nat → List Nat → Bx := fun i d => if d ∈ L.F.take i then (L.bx d).started else L.bx d
  have hin : ∀ i, ∀ ds ∈ L.F, (f i ds).In (rowN ds) := fun i ds hd => by
    show (if ds ∈ L.F.take i then (L.bx ds).started else L.bx ds).In _
    split
    · exact (H.ok.box ds hd).started row_pos
    · exact H.ok.box ds hd
  have LL := for_nx (g := noG) (tg := tN 1) (b := startB) (items := nD L.F) (ρ := [some (.ref n), x1, x2, x3, x4, x5]) (S := S)
    (fun i ρ S' => S' = S.set (n + 1) (.dct false (byD L.F fun d => bxD (f i d))) ∧ ∃ y1, ρ = [some (.ref n), y1, x2, x3, x4, x5])
    ⟨by
      have : (fun d => bxD (f 0 d)) = fun d => bxD (L.bx d) := by funext d; simp [f]
      rw [this]
      obtain ⟨h1, h2⟩ := List.getElem?_eq_some_iff.mp H.st
      rw [← h2, List.set_getElem_self], _, rfl⟩ (fun _ _ _ _ => trivial) (by
      rintro i d ρ S' hd ⟨rfl, y1, rfl⟩
      unfold nD at hd
      rw [List.getElem?_map] at hd
      obtain ⟨ds, hds, rfl⟩ := Option.map_eq_some_iff.mp hd
      have hm := List.mem_of_getElem? hds
      have H' := H.setBx (hin i)
      have hi := H'.ins
      have hs := H'.st
      have htk : L.F.take (i + 1) = L.F.take i ++ [ds] := by rw [List.take_add_one, hds]; rfl
      have hno : ds ∉ L.F.take i := fun q => by
        have h1 : L.F = L.F.take i ++ ds :: L.F.drop (i + 1) := by
          obtain ⟨a, b⟩ := List.getElem?_eq_some_iff.mp hds
          conv => lhs; rw [← List.take_append_drop i L.F, List.drop_eq_getElem_cons a, b]
        have hnd2 : L.F.Nodup := hnd
        rw [h1, List.nodup_append] at hnd2
        exact hnd2.2.2 ds q ds (by simp) rfl
      have e2 := ixA_ev hs (byD_val (f := fun d => bxD (f i d)) hm)
      have ef : f i ds = L.bx ds := if_neg hno
      rw [ef] at e2
      generalize hT : S.set (n + 1) (O.dct false (byD L.F fun d => bxD (f i d))) = T at *
      have e3 := bx_started (b := L.bx ds) (S := T)
      have e4 := setA_ev (z := numS ds) (v := bxD (L.bx ds).started) hs (by rw [byD_len]; have := F_len H.ok; show L.F.length ≤ _; omega)
      have e5 := byD_put (f := fun d => bxD (f i d)) (v := bxD (L.bx ds).started) hm
      have e6 : setF (fun d => bxD (f i d)) ds (bxD (L.bx ds).started) = fun d => bxD (f (i + 1) d) := by
        funext d
        unfold setF
        show _ = bxD (if d ∈ L.F.take (i + 1) then (L.bx d).started else L.bx d)
        rw [htk]
        by_cases e : d = ds
        · subst e
          rw [if_pos rfl, if_pos (by simp)]
        · rw [if_neg e]
          show bxD (if d ∈ L.F.take i then (L.bx d).started else L.bx d) = _
          congr 1
          simp [e]
      rw [e6] at e5
      have e7 : T.set (n + 1) (O.dct false (putD (byD L.F fun d => bxD (f i d)) (.inr (numS ds)) (bxD (L.bx ds).started))) = S.set (n + 1) (.dct false (byD L.F fun d => bxD (f (i + 1) d))) := by
        rw [← hT, List.set_set, e5]
      have e4' : setAny (.ref (n + 1)) (.str (numS ds)) (bxD (L.bx ds).started) T = some (S.set (n + 1) (.dct false (byD L.F fun d => bxD (f (i + 1) d)))) := by rw [← e7]; exact e4
      refine ⟨_, rfl, nx_of fun Q hQ => ?_⟩
      unfold startB
      clear_value f
      generalize S.set (n + 1) (O.dct false (byD L.F fun d => bxD (f (i + 1) d))) = T2 at *
      generalize bxD (L.bx ds) = B at *
      generalize bxD (L.bx ds).started = B2 at *
      change insOf T (.ref n) = some (0, fL L.town n h L.k L.joined (L.ticks : Int)) at hi
      generalize L.town = tw at *
      simp -implicitDefEqProofs [hi, e2, e3, e4']
      exact hQ _ _ ⟨rfl, _, rfl⟩)
  obtain ⟨ρ', S', e, rfl, y1, rfl⟩ := LL
  rw [nD_length] at e
  have hi := H.ins
  have hs := H.st
  have hk : keysOf (byD L.F fun ds => bxD (L.bx ds)) = nD L.F := byD_keys _ _
  have ef : (byD L.F fun d => bxD (f L.F.length d)) = byD L.F fun d => bxD (L.bx d).started := byD_congr fun ds hd => by
    show bxD (if ds ∈ L.F.take L.F.length then (L.bx ds).started else L.bx ds) = _
    rw [List.take_length, if_pos hd]
  rw [ef] at e
  refine ⟨y1, ?_⟩
  have hz : (nD L.F).length ≤ sizeLine := by rw [nD_length, sizeL]; have := F_len H.ok; omega
  generalize L.town = tw at *
  simp -implicitDefEqProofs [hi, lDK, dctOf, hs, hk, e]
def LSt.pb (L : LSt) (p : List (List Nat)) : Bool := p.any fun ds => (L.bx ds).brk (rowN ds)
theorem part_ev (H : LineAt S n h L) {p : List (List Nat)} (hp : ∀ ds ∈ p, ds ∈ L.F) (hl : p.length ≤ 1000) : sp_Line_is_part_broken [.ref n, .tup (nD p)] S = .ok (.bl (L.pb p)) S := by
  have hi := H.ins
  have e1 := lcOf (g := noG) (tg := tN 2) (m := eCall sp_breaks_with (aCons (eBin ixA (eFld 0 "states" (eVar 0)) (eVar 2)) (aCons (eBin ixA (eFld 0 "rows" (eVar 0)) (eVar 2)) (aNil)))) (ρ := [some (.ref n), some (.tup (nD p)), none]) (S := S) (fun ds : List Nat => D.str (numS ds)) (fun ds => D.bl ((L.bx ds).brk (rowN ds))) trivial (l := p) (fun ds hd => ⟨_, rfl, by
    have hm := hp ds hd
    have e1 := ixA_ev H.st (byD_val (f := fun ds => bxD (L.bx ds)) hm)
    have e2 := ixA_ev H.rw_ (byD_val (f := fun ds => D.tup (iD (rowN ds))) hm)
    have e3 := bx_breaks (S := S) (H.ok.box ds hm)
    generalize bxD (L.bx ds) = B at *
    generalize D.tup (iD (rowN ds)) = R at *
    generalize L.town = tw at *
    simp -implicitDefEqProofs [hi, e1, e2, e3]⟩)
  have e2 := anyD_map (fun ds => (L.bx ds).brk (rowN ds)) p S
  have hz : p.length ≤ sizeLine := by rw [sizeL]; omega
  rw [show p.map (fun ds : List Nat => D.str (numS ds)) = nD p from rfl] at e1
  unfold sp_Line_is_part_broken m_Line_is_part_broken LSt.pb
  generalize L.town = tw at *
  simp -implicitDefEqProofs [hz, e1, e2]
def LSt.tw (L : LSt) : List (List (List Nat) × List Nat) := L.ls.zip L.cuts
theorem tw_len (o : LOk L) : L.tw.length = L.k := by
  unfold LSt.tw
  rw [List.length_zip, o.lc]
  exact Nat.min_self _
theorem tw_loops (o : LOk L) : loopsD L.tw = L.ls.map loopD := by
  unfold loopsD LSt.tw
  have : L.ls = (L.ls.zip L.cuts).map (·.1) := by
    rw [List.map_fst_zip]
    exact Nat.le_of_eq o.lc.symm
  conv => rhs; rw [this, List.map_map]
  rfl
theorem tw_cuts (o : LOk L) : cutsD L.tw = cutsL L.cuts := by
  unfold cutsD LSt.tw cutsL
  have : L.cuts = (L.ls.zip L.cuts).map (·.2) := by
    rw [List.map_snd_zip]
    exact Nat.le_of_eq o.lc
  conv => rhs; rw [this, List.map_map]
  rfl
theorem near_sub {l : List (List Nat)} {c : List Nat} : ∀ ds ∈ nearL l c, ds ∈ l := fun ds hd => by
  cases c with
  | nil => exact hd
  | cons a r => exact List.mem_of_mem_take hd
theorem far_sub {l : List (List Nat)} {c : List Nat} : ∀ ds ∈ farL l c, ds ∈ l := fun ds hd => by
  unfold farL at hd
  split at hd
  · exact hd
  · exact List.mem_of_mem_drop hd
theorem near_le {l : List (List Nat)} {c : List Nat} : (nearL l c).length ≤ l.length := by
  cases c with
  | nil => exact Nat.le_refl _
  | cons a r => show (l.take a).length ≤ _; rw [List.length_take]; omega
theorem far_le {l : List (List Nat)} {c : List Nat} : (farL l c).length ≤ l.length := by
  unfold farL
  split
  · exact Nat.le_refl _
  · rw [List.length_drop]; omega
theorem parts_sub {tw : List (List (List Nat) × List Nat)} : ∀ p ∈ allParts tw, ∀ ds ∈ p, ds ∈ (tw.map (·.1)).flatten := fun p hp ds hd => by
  unfold allParts at hp
  obtain ⟨x, hx, hq⟩ := List.mem_flatMap.mp hp
  refine List.mem_flatten.mpr ⟨x.1, List.mem_map.mpr ⟨x, hx, rfl⟩, ?_⟩
  unfold partsL at hq
  split at hq
  · rw [List.mem_singleton.mp hq] at hd; exact hd
  · simp at hq
    rcases hq with rfl | rfl
    · exact near_sub ds hd
    · exact far_sub ds hd
theorem parts_le : ∀ {tw : List (List (List Nat) × List Nat)}, (∀ x ∈ tw, x.1.length ≤ 12) → (allParts tw).flatten.length ≤ 24 * tw.length ∧ ∀ p ∈ allParts tw, p.length ≤ 12
  | [], _ => by simp [allParts]
  | x :: tw, h => by
    obtain ⟨h1, h2⟩ := parts_le (tw := tw) fun y hy => h y (by simp [hy])
    have hx := h x (by simp)
    have e : allParts (x :: tw) = partsL x.1 x.2 ++ allParts tw := by simp [allParts]
    have hn := near_le (l := x.1) (c := x.2)
    have hf := far_le (l := x.1) (c := x.2)
    have hp : (partsL x.1 x.2).flatten.length ≤ 24 ∧ ∀ p ∈ partsL x.1 x.2, p.length ≤ 12 := by
      unfold partsL
      split
      · simp; omega
      · refine ⟨by simp; omega, fun p hp => ?_⟩
        simp at hp
        rcases hp with rfl | rfl <;> omega
    rw [e]
    refine ⟨by rw [List.flatten_append, List.length_append, List.length_cons]; omega, fun p hp' => ?_⟩
    rcases List.mem_append.mp hp' with q | q
    · exact hp.2 p q
    · exact h2 p q
theorem tw_fst (o : LOk L) : (L.tw.map (·.1)) = L.ls := by
  unfold LSt.tw
  rw [List.map_fst_zip]
  exact Nat.le_of_eq o.lc.symm
theorem tw_sz (o : LOk L) : ∀ x ∈ L.tw, x.1.length ≤ 12 := fun x hx => (o.town.sz x.1 (by rw [← tw_fst o]; exact List.mem_map.mpr ⟨x, hx, rfl⟩)).2
theorem tw_sub (o : LOk L) : ∀ x ∈ L.tw, ∀ ds ∈ x.1, ds ∈ L.F := fun x hx ds hd => List.mem_flatten.mpr ⟨x.1, by rw [← tw_fst o]; exact List.mem_map.mpr ⟨x, hx, rfl⟩, hd⟩
/-- the parts of wire -/
def LSt.parts (L : LSt) : List (List (List Nat)) := if L.joined then [(allParts L.tw).flatten] else allParts L.tw
theorem wp_ev (H : LineAt S n h L) (j : Bool) : sp_wire_parts [L.town, .tup (cutsL L.cuts), .bl j] S = .ok (.tup (ptsD (if j then [(allParts L.tw).flatten] else allParts L.tw))) S := by
  have o := H.ok
  have h4 : L.tw.length ≤ 4 := by rw [tw_len o]; exact o.town.len
  have hp := parts_le (tw_sz o)
  have ht : L.town = .tup [.tup (loopsD L.tw), .int L.rounds, .int L.spring] := by rw [tw_loops o]; rfl
  rw [ht, ← tw_cuts o]
  cases j with
  | false => exact wire_parts_ev h4
  | true => exact wire_joined_ev h4 (by omega)
def LSt.all (L : LSt) : Bool := L.pb (allParts L.tw).flatten
def LSt.ends (L : LSt) : List (Bool × Bool) := L.tw.map fun x => if L.joined then (L.all, L.all) else (L.pb (nearL x.1 x.2), L.pb (farL x.1 x.2))
def endD (e : Bool × Bool) : D := .tup [.bl e.1, .bl e.2]
noncomputable def endsB : MS := sSeq (sSet 5 (eBin ixD (eFld 0 "cut_rows" (eVar 0)) (eVar 3)))
  (sSeq (sSet 6 (eTup (aCons (eVar 1) (aCons (eVar 1) (aNil)))))
  (sSeq (sIf (tNt (tV (eFld 0 "joined" (eVar 0)))) (sSet 6 (eTup (aCons (eMts "is_part_broken" [(0, sp_Line_is_part_broken)] (eVar 0) (aCons (eCall sp_near_part (aCons (eVar 4) (aCons (eVar 5) (aNil)))) (aNil))) (aCons (eMts "is_part_broken" [(0, sp_Line_is_part_broken)] (eVar 0) (aCons (eCall sp_far_part (aCons (eVar 4) (aCons (eVar 5) (aNil)))) (aNil))) (aNil))))) (sPass))
  (sExpr (eMeth isLstD appendD (eVar 2) (aCons (eVar 6) (aNil))))))
theorem ends_ev (H : LineAt S n h L) : sp_Line_broken_ends [.ref n] S = .ok (.ref S.length) (S ++ [.lst false (L.ends.map endD)]) := by
  have o := H.ok
  have hi := H.ins
  have h4 : L.tw.length ≤ 4 := by rw [tw_len o]; exact o.town.len
  have hp := parts_le (tw_sz o)
  have e1 := wp_ev H true
  have e2 := lineCuts_ev H
  have e3 := part_ev H (p := (allParts L.tw).flatten) (fun ds hd => by
    obtain ⟨p, hp, hd⟩ := List.mem_flatten.mp hd
    have := parts_sub p hp ds hd
    rw [tw_fst o] at this
    exact this) (by omega)
  have e4 : lcD noG (tN 7) tYs (eMts "is_part_broken" [(0, sp_Line_is_part_broken)] (eVar 0) (aCons (eVar 7) (aNil))) [some (.ref n), none, none, none, none, none, none, none] (ptsD [(allParts L.tw).flatten]) S = .ok [.bl L.all] S := by
    have := lcOf (g := noG) (tg := tN 7) (m := eMts "is_part_broken" [(0, sp_Line_is_part_broken)] (eVar 0) (aCons (eVar 7) (aNil))) (ρ := [some (.ref n), none, none, none, none, none, none, none]) (S := S) (fun p : List (List Nat) => D.tup (nD p)) (fun p => D.bl (L.pb p)) trivial (l := [(allParts L.tw).flatten]) (fun p hp => ⟨_, rfl, by
      rw [List.mem_singleton.mp hp]
      generalize (allParts L.tw).flatten = P at *
      generalize L.town = tw at *
      simp -implicitDefEqProofs [hi, e3]⟩)
    exact this
  have e5 : anyD [.bl L.all] S = .ok (.bl L.all) S := by
    have := anyD_map (fun b : Bool => b) [L.all] S
    simpa using this
  generalize hB : endsB = B
  have LL := for_nx (g := noG) (tg := tTp 2 (tsCons (tN 3) (tsCons (tN 4) tsNil))) (b := B) (items := enumD (L.ls.map loopD)) (ρ := [some (.ref n), some (.bl L.all), some (.ref S.length), none, none, none, none, none]) (S := S ++ [.lst false []])
    (fun i ρ S' => S' = S ++ [.lst false ((L.ends.take i).map endD)] ∧ ∃ y3 y4 y5 y6, ρ = [some (.ref n), some (.bl L.all), some (.ref S.length), y3, y4, y5, y6, none])
    ⟨rfl, _, _, _, _, rfl⟩ (fun _ _ _ _ => trivial) (by
      rintro i d ρ S' hd ⟨rfl, y3, y4, y5, y6, rfl⟩
      obtain ⟨l', hx, rfl⟩ := enumD_get hd
      rw [List.getElem?_map] at hx
      obtain ⟨l, hl, rfl⟩ := Option.map_eq_some_iff.mp hx
      have hik := get_of hl
      have hc : i < L.cuts.length := by rw [o.lc]; exact hik
      have hcg := List.getElem?_eq_getElem hc
      generalize hcc : L.cuts[i] = c at *
      have hx : L.tw[i]? = some (l, c) := by
        unfold LSt.tw
        rw [List.getElem?_zip_eq_some]
        exact ⟨hl, hcg⟩
      have hxm := List.mem_of_getElem? hx
      have H1 := H.app [.lst false ((L.ends.take i).map endD)]
      have hi1 := H1.ins
      have c1 : atI (cutsL L.cuts) (i : Int) = some (.tup (ixsD c)) := atI_nat (j := i) (by unfold cutsL; rw [List.getElem?_map, hcg]; rfl)
      have n1 := part_ev H1 (p := nearL l c) (fun ds hd => tw_sub o _ hxm ds (near_sub ds hd)) (by have := near_le (l := l) (c := c); have := tw_sz o _ hxm; simp at this; omega)
      have f1 := part_ev H1 (p := farL l c) (fun ds hd => tw_sub o _ hxm ds (far_sub ds hd)) (by have := far_le (l := l) (c := c); have := tw_sz o _ hxm; simp at this; omega)
      have n2 := near_part_ev (l := l) (c := c) (S := S ++ [.lst false ((L.ends.take i).map endD)])
      have f2 := far_part_ev (l := l) (c := c) (S := S ++ [.lst false ((L.ends.take i).map endD)])
      have hel : L.ends.length = L.tw.length := by simp [LSt.ends]
      have hei : L.ends[i]? = some (if L.joined then (L.all, L.all) else (L.pb (nearL l c), L.pb (farL l c))) := by
        unfold LSt.ends
        rw [List.getElem?_map, hx] <;> rfl
      have htk : L.ends.take (i + 1) = L.ends.take i ++ [if L.joined then (L.all, L.all) else (L.pb (nearL l c), L.pb (farL l c))] := by rw [List.take_add_one, hei]; rfl
      have hg : (S ++ [O.lst false ((L.ends.take i).map endD)])[S.length]? = some (.lst false ((L.ends.take i).map endD)) := by simp
      have ha := append_ev (d := endD (if L.joined then (L.all, L.all) else (L.pb (nearL l c), L.pb (farL l c)))) hg (by rw [List.length_map, List.length_take, sizeL]; omega)
      have hst : (S ++ [O.lst false ((L.ends.take i).map endD)]).set S.length (.lst false ((L.ends.take i).map endD ++ [endD (if L.joined then (L.all, L.all) else (L.pb (nearL l c), L.pb (farL l c)))])) = S ++ [.lst false ((L.ends.take (i + 1)).map endD)] := by
        rw [List.set_append_right _ _ (Nat.le_refl _), Nat.sub_self, htk, List.map_append] <;> rfl
      rw [hst] at ha
      have hct := H1.ct
      subst hB
      refine ⟨[some (.ref n), some (.bl L.all), some (.ref S.length), some (.int (i : Int)), some (loopD l), y5, y6, none], by simp, nx_of fun Q hQ => ?_⟩
      unfold endsB
      clear e1 e2 e3 e4 e5
      generalize S ++ [O.lst false ((L.ends.take i).map endD)] = T at *
      generalize S ++ [O.lst false ((L.ends.take (i + 1)).map endD)] = T2 at *
      generalize (L.ends.take i).map endD = EL at *
      generalize cutsL L.cuts = CL at *
      generalize L.town = tw at *
      unfold loopD
      generalize nD l = NL at *
      generalize ixsD c = IC at *
      generalize nD (nearL l c) = N1 at *
      generalize nD (farL l c) = N2 at *
      generalize L.pb (nearL l c) = b1 at *
      generalize L.pb (farL l c) = b2 at *
      generalize L.all = b0 at *
      have isl := isLst_ev hg
      have c2 := ixD_ref (i := (i : Int)) hct
      rw [c1] at c2
      cases hj : L.joined with
      | true =>
        rw [hj] at hi1 ha
        simp [endD] at ha
        simp -implicitDefEqProofs [hi1, c2, sizeL, eMeth, isl, ha]
        exact hQ _ _ ⟨rfl, _, _, _, _, rfl⟩
      | false =>
        rw [hj] at hi1 ha
        simp [endD] at ha
        simp -implicitDefEqProofs [hi1, c2, sizeL, eMeth, isl, ha, n1, n2, f1, f2]
        exact hQ _ _ ⟨rfl, _, _, _, _, rfl⟩)
  obtain ⟨ρ', S', e, rfl, y3, y4, y5, y6, rfl⟩ := LL
  rw [enumD_len, List.length_map, show L.ls.length = L.ends.length by simp [LSt.ends, tw_len o, LSt.k], List.take_length] at e
  have H1 := H.app [.lst false []]
  have hi1 := H1.ins
  have t0 : atI [D.tup (L.ls.map loopD), .int L.rounds, .int L.spring] 0 = some (.tup (L.ls.map loopD)) := atI_nat (j := 0) rfl
  have ht : L.town = .tup [.tup (L.ls.map loopD), .int L.rounds, .int L.spring] := rfl
  unfold sp_Line_broken_ends m_Line_broken_ends
  unfold endsB at hB
  rw [ht] at hi hi1 e1
  have hz : (ptsD [(allParts L.tw).flatten]).length ≤ 16777216 := by simp [ptsD]
  simp only [if_true] at e1
  generalize ptsD [(allParts L.tw).flatten] = PT at *
  generalize cutsL L.cuts = CL at *
  rw [hB]
  generalize L.ls.map loopD = LL at *
  generalize L.ends.map endD = EE at *
  simp -implicitDefEqProofs [hi, e2, e1, hz, e4, e5, sizeL, hi1, t0, e]
end
end CW

namespace CW
open PySem PySem.Spec PyProof.Rows L2 MM
def keyI (h : Int) (b : Bool) : Int := if 0 < h then 2 else if b = true then 1 else 0
theorem key_or_ev {h : Int} {b : Bool} {S : Sto} : sp_key_or [.int h, .bl b] S = .ok (.int (keyI h b)) S := by
  unfold sp_key_or m_key_or keyI
  by_cases hh : 0 < h
  · simp -implicitDefEqProofs [hh]
  · cases b <;> simp -implicitDefEqProofs [hh]
def putJ (t : List (List Int)) (i : Nat) (g : Nat → Int) : List (List Int) := t.mapIdx fun j x => if j < i then x ++ [g j] else x
theorem putJ_len {t : List (List Int)} {i : Nat} {g : Nat → Int} : (putJ t i g).length = t.length := by simp [putJ]
theorem putJ_get {t : List (List Int)} {i j : Nat} {g : Nat → Int} : (putJ t i g)[j]? = t[j]?.map fun x => if j < i then x ++ [g j] else x := by simp [putJ]
theorem putJ_zero {t : List (List Int)} {g : Nat → Int} : putJ t 0 g = t := by
  apply List.ext_getElem?
  intro j
  rw [putJ_get]
  simp
theorem putJ_succ {t : List (List Int)} {i : Nat} {g : Nat → Int} {x : List Int} (h : t[i]? = some x) : (putJ t i g).set i (x ++ [g i]) = putJ t (i + 1) g := by
  apply List.ext_getElem?
  intro j
  rw [List.getElem?_set, putJ_get, putJ_get]
  by_cases e : i = j
  · subst e
    have h2 := h
    have := get_of h
    rw [if_pos rfl, if_pos (by rw [putJ_len]; exact this), h]
    simp
  · rw [if_neg e]
    cases t[j]? with
    | none => rfl
    | some y =>
      simp only [Option.map_some, Option.some.injEq]
      by_cases hj : j < i
      · rw [if_pos hj, if_pos (by omega)]
      · rw [if_neg hj, if_neg (by omega)]
def LSt.sgN (L : LSt) (j : Nat) : Int := keyI (L.held.getD j 0) (L.ends.getD j (false, false)).1
def LSt.sgF (L : LSt) (j : Nat) : Int := keyI (L.held.getD j 0) (L.ends.getD j (false, false)).2
def LSt.stage (L : LSt) (i : Nat) : LSt := { L with near := putJ L.near i L.sgN, far := putJ L.far i L.sgF }
/-- the tapes get the tick -/
def LSt.wr (L : LSt) : LSt := L.stage L.k
def LSt.Short (L : LSt) : Prop := (∀ t ∈ L.near, t.length ≤ 1000000) ∧ ∀ t ∈ L.far, t.length ≤ 1000000
section
variable {S : Sto} {n h : Nat} {L : LSt}
theorem LineAt.setNear (H : LineAt S n h L) {i : Nat} (hi : i < L.k) (t : List Int) : LineAt (S.set (n + 5 + i) (.lst false (iD t))) n h { L with near := L.near.set i t } := by
  have hl := H.lt
  have hh := H.hh
  have hk : 1 ≤ L.k := H.ok.town.pos
  have o := H.ok
  have g : ∀ m, m ≠ n + 5 + i → (S.set (n + 5 + i) (O.lst false (iD t)))[m]? = S[m]? := fun m hm => List.getElem?_set_ne (Ne.symm hm)
  refine ⟨by rw [g n (by omega)]; exact H.ob, by rw [g _ (by omega)]; exact H.st, by rw [g _ (by omega)]; exact H.rw_, by rw [g _ (by omega)]; exact H.ct, by rw [g _ (by omega)]; exact H.hd, fun j u hu => ?_, fun j u hu => ?_, H.hh, ⟨o.town, o.r1, o.r4, o.s1, o.s50, o.box, o.lc, o.lh, by simp [o.ln]; rfl, o.lf, o.cut⟩⟩
  · by_cases e : i = j
    · subst e
      have hu' : (L.near.set i t)[i]? = some u := hu
      rw [List.getElem?_set_self (by rw [o.ln]; exact hi)] at hu'
      cases hu'
      exact List.getElem?_set_self (by omega)
    · have hu' : (L.near.set i t)[j]? = some u := hu
      rw [List.getElem?_set_ne e] at hu'
      rw [g _ (by omega)]
      exact H.nr j u hu'
  · rw [g _ (by show n + 5 + L.k + j ≠ _; omega)]
    exact H.fr j u hu
theorem LineAt.setFar (H : LineAt S n h L) {i : Nat} (hi : i < L.k) (t : List Int) : LineAt (S.set (n + 5 + L.k + i) (.lst false (iD t))) n h { L with far := L.far.set i t } := by
  have hl := H.lt
  have hh := H.hh
  have hk : 1 ≤ L.k := H.ok.town.pos
  have o := H.ok
  have g : ∀ m, m ≠ n + 5 + L.k + i → (S.set (n + 5 + L.k + i) (O.lst false (iD t)))[m]? = S[m]? := fun m hm => List.getElem?_set_ne (Ne.symm hm)
  refine ⟨by rw [g n (by omega)]; exact H.ob, by rw [g _ (by omega)]; exact H.st, by rw [g _ (by omega)]; exact H.rw_, by rw [g _ (by omega)]; exact H.ct, by rw [g _ (by omega)]; exact H.hd, fun j u hu => ?_, fun j u hu => ?_, H.hh, ⟨o.town, o.r1, o.r4, o.s1, o.s50, o.box, o.lc, o.lh, o.ln, by simp [o.lf]; rfl, o.cut⟩⟩
  · have h1 : j < L.near.length := get_of hu
    have := o.ln
    rw [g _ (by omega)]
    exact H.nr j u hu
  · by_cases e : i = j
    · subst e
      have hu' : (L.far.set i t)[i]? = some u := hu
      rw [List.getElem?_set_self (by rw [o.lf]; exact hi)] at hu'
      cases hu'
      exact List.getElem?_set_self (by omega)
    · have hu' : (L.far.set i t)[j]? = some u := hu
      rw [List.getElem?_set_ne e] at hu'
      rw [g _ (by show n + 5 + L.k + j ≠ _; omega)]
      exact H.fr j u hu'
noncomputable def wrB : MS := sSeq (sExpr (eMeth isLstD appendD (eBin ixD (eFld 0 "near_rows" (eVar 0)) (eVar 1)) (aCons (eCall sp_key_or (aCons (eBin ixD (eFld 0 "held" (eVar 0)) (eVar 1)) (aCons (eVar 2) (aNil)))) (aNil))))
  (sExpr (eMeth isLstD appendD (eBin ixD (eFld 0 "far_rows" (eVar 0)) (eVar 1)) (aCons (eCall sp_key_or (aCons (eBin ixD (eFld 0 "held" (eVar 0)) (eVar 1)) (aCons (eVar 3) (aNil)))) (aNil))))
theorem ends_len (o : LOk L) : L.ends.length = L.k := by simp [LSt.ends, tw_len o]
theorem write_ev (H : LineAt S n h L) (hs : L.Short) : ∃ S', sp_Line_write_tapes [.ref n] S = .ok .non S' ∧ LineAt S' n h L.wr ∧ Lch n h L.k S S' := by
  have o := H.ok
  have e1 := ends_ev H
  have hel := ends_len o
  have H1 := H.app [.lst false (L.ends.map endD)]
  have hTl : (S ++ [O.lst false (L.ends.map endD)]).length = S.length + 1 := by simp
  have hT : (S ++ [O.lst false (L.ends.map endD)])[S.length]? = some (.lst false (L.ends.map endD)) := by simp
  generalize hTT : S ++ [O.lst false (L.ends.map endD)] = T at *
  have hlt := H.lt
  generalize hB : wrB = B
  have LL := for_nx (g := inStore S.length (L.ends.map endD)) (tg := tTp 2 (tsCons (tN 1) (tsCons (tTp 2 (tsCons (tN 2) (tsCons (tN 3) (tsNil)))) (tsNil)))) (b := B) (items := enumD (L.ends.map endD)) (ρ := [some (.ref n), none, none, none]) (S := T)
    (fun i ρ S' => LineAt S' n h (L.stage i) ∧ Lch n h L.k T S' ∧ S'[S.length]? = some (.lst false (L.ends.map endD)) ∧ ∃ y1 y2 y3, ρ = [some (.ref n), y1, y2, y3])
    ⟨by
      have : L.stage 0 = L := by unfold LSt.stage; rw [putJ_zero, putJ_zero]
      rw [this]; exact H1, Lch.refl, hT, _, _, _, rfl⟩ (fun _ _ _ hI => ⟨_, hI.2.2.1⟩) (by
      rintro i d ρ S' hd ⟨H', hw, hE, y1, y2, y3, rfl⟩
      obtain ⟨x, hx, rfl⟩ := enumD_get hd
      rw [List.getElem?_map] at hx
      obtain ⟨e, he, rfl⟩ := Option.map_eq_some_iff.mp hx
      have hik : i < L.k := by have := get_of he; omega
      obtain ⟨t, hN⟩ : ∃ t, L.near[i]? = some t := ⟨_, List.getElem?_eq_getElem (show i < L.near.length by rw [o.ln]; exact hik)⟩
      obtain ⟨u, hF⟩ : ∃ t, L.far[i]? = some t := ⟨_, List.getElem?_eq_getElem (show i < L.far.length by rw [o.lf]; exact hik)⟩
      obtain ⟨hv, hHd⟩ : ∃ t, L.held[i]? = some t := ⟨_, List.getElem?_eq_getElem (show i < L.held.length by rw [o.lh]; exact hik)⟩
      have sN : L.sgN i = keyI hv e.1 := by
        unfold LSt.sgN
        rw [List.getD_eq_getElem?_getD, List.getD_eq_getElem?_getD, he, hHd] <;> rfl
      have sF : L.sgF i = keyI hv e.2 := by
        unfold LSt.sgF
        rw [List.getD_eq_getElem?_getD, List.getD_eq_getElem?_getD, he, hHd] <;> rfl
      have hNs := hs.1 _ (List.mem_of_getElem? hN)
      have hFs := hs.2 _ (List.mem_of_getElem? hF)
      have hi := H'.ins
      have n1 := nearF_at (n := n) hik
      have f1 := farF_at (n := n) hik
      have hd := H'.hd
      have hd1 := ixD_ref (i := (i : Int)) hd
      have hat : atI (iD L.held) (i : Int) = some (.int hv) := atI_nat (j := i) (by rw [iD_get, hHd]; rfl)
      have hd1' : ixD (.ref h) (.int (i : Int)) S' = .ok (.int hv) S' := by
        rw [hd1]
        show (match atI (iD L.held) (i : Int) with | some d => R.ok d S' | none => .no) = _
        rw [hat]
      have gN : (L.stage i).near[i]? = some t := by
        show (putJ L.near i L.sgN)[i]? = _
        rw [putJ_get, hN]
        simp
      have gF : (L.stage i).far[i]? = some u := by
        show (putJ L.far i L.sgF)[i]? = _
        rw [putJ_get, hF]
        simp
      have a1 := H'.nr i t gN
      have l1 := isLst_ev a1
      have p1 := append_ev (d := .int (L.sgN i)) a1 (by rw [iD_length, sizeL]; omega)
      have q1 : iD t ++ [D.int (L.sgN i)] = iD (t ++ [L.sgN i]) := by rw [iD_append]; rfl
      rw [q1] at p1
      have H2 := H'.setNear (i := i) hik (t ++ [L.sgN i])
      have hi2 := H2.ins
      have hd2 := ixD_ref (i := (i : Int)) H2.hd
      have hd2' : ixD (.ref h) (.int (i : Int)) (S'.set (n + 5 + i) (.lst false (iD (t ++ [L.sgN i])))) = .ok (.int hv) (S'.set (n + 5 + i) (.lst false (iD (t ++ [L.sgN i])))) := by
        rw [hd2]
        show (match atI (iD L.held) (i : Int) with | some d => R.ok d _ | none => .no) = _
        rw [hat]
      have a2 : (S'.set (n + 5 + i) (O.lst false (iD (t ++ [L.sgN i]))))[n + 5 + L.k + i]? = some (.lst false (iD u)) := H2.fr i u gF
      have l2 := isLst_ev a2
      have p2 := append_ev (d := .int (L.sgF i)) a2 (by rw [iD_length, sizeL]; omega)
      have q2 : iD u ++ [D.int (L.sgF i)] = iD (u ++ [L.sgF i]) := by rw [iD_append]; rfl
      rw [q2] at p2
      have H3 := H2.setFar (i := i) hik (u ++ [L.sgF i])
      have he3 : ({ ({ L.stage i with near := (L.stage i).near.set i (t ++ [L.sgN i]) } : LSt) with far := (L.stage i).far.set i (u ++ [L.sgF i]) } : LSt) = L.stage (i + 1) := by
        show ({ L with near := (putJ L.near i L.sgN).set i (t ++ [L.sgN i]), far := (putJ L.far i L.sgF).set i (u ++ [L.sgF i]) } : LSt) = _
        rw [putJ_succ hN, putJ_succ hF] <;> rfl
      have H3' : LineAt ((S'.set (n + 5 + i) (.lst false (iD (t ++ [L.sgN i])))).set (n + 5 + L.k + i) (.lst false (iD (u ++ [L.sgF i])))) n h (L.stage (i + 1)) := by rw [← he3]; exact H3
      have hlen := hw.1
      have w3 : Lch n h L.k T ((S'.set (n + 5 + i) (.lst false (iD (t ++ [L.sgN i])))).set (n + 5 + L.k + i) (.lst false (iD (u ++ [L.sgF i])))) := (hw.set (by omega)).set (by omega)
      have E3 : ((S'.set (n + 5 + i) (O.lst false (iD (t ++ [L.sgN i])))).set (n + 5 + L.k + i) (O.lst false (iD (u ++ [L.sgF i]))))[S.length]? = some (.lst false (L.ends.map endD)) := by
        rw [List.getElem?_set_ne (by omega), List.getElem?_set_ne (by omega)]
        exact hE
      have k1 := key_or_ev (h := hv) (b := e.1) (S := S')
      have k2 := key_or_ev (h := hv) (b := e.2) (S := S'.set (n + 5 + i) (.lst false (iD (t ++ [L.sgN i]))))
      rw [← sN] at k1
      rw [← sF] at k2
      refine ⟨[some (.ref n), some (.int (i : Int)), some (.bl e.1), some (.bl e.2)], by simp [endD], nx_of fun Q hQ => ?_⟩
      have hQ' := hQ [some (.ref n), some (.int (i : Int)), some (.bl e.1), some (.bl e.2)] _ ⟨H3', w3, E3, _, _, _, rfl⟩
      subst hB
      unfold wrB
      generalize (S'.set (n + 5 + i) (O.lst false (iD (t ++ [L.sgN i])))).set (n + 5 + L.k + i) (O.lst false (iD (u ++ [L.sgF i]))) = T3 at *
      generalize S'.set (n + 5 + i) (O.lst false (iD (t ++ [L.sgN i]))) = T2 at *
      change insOf S' (.ref n) = some (0, fL L.town n h L.k L.joined (L.ticks : Int)) at hi
      change insOf T2 (.ref n) = some (0, fL L.town n h L.k L.joined (L.ticks : Int)) at hi2
      generalize L.town = tw at *
      generalize L.sgN i = x1 at *
      generalize L.sgF i = x2 at *
      clear H3 H3' H2 H' E3 hE
      simp -implicitDefEqProofs [hi, n1, eMeth, l1, hd1', k1, p1, hi2, f1, l2, hd2', k2, p2]
      exact hQ')
  obtain ⟨ρ', S', e, H', hw, hE, y1, y2, y3, rfl⟩ := LL
  rw [enumD_len, List.length_map, hel] at H'
  have hi := H.ins
  refine ⟨S', ?_, H', ⟨by have := hw.1; omega, fun i hi hn hh => ?_⟩⟩
  · unfold sp_Line_write_tapes m_Line_write_tapes
    unfold wrB at hB
    rw [hB]
    generalize L.town = tw at *
    generalize L.ends.map endD = EE at *
    simp -implicitDefEqProofs [hi, e1, hT, e]
  · rw [hw.2 i (by omega) hn hh, ← hTT, List.getElem?_append_left hi]
end
end CW

namespace CW
open PySem PySem.Spec PyProof.Rows L2 MM
theorem set_same {S : Sto} {q : Nat} {x : O} (h : S[q]? = some x) (o : O) : (S.set q o).set q x = S := by
  rw [List.set_set]
  obtain ⟨h1, h2⟩ := List.getElem?_eq_some_iff.mp h
  rw [← h2, List.set_getElem_self]
theorem sLock_ev {S : Sto} {q : Nat} {l : List (Key × D)} {e : ME} {m : MS} {ρ : Fr} (h : S[q]? = some (.dct false l)) (he : e ρ S = .ok (.ref q) S) : sLock e m ρ S = (m ρ (S.set q (.dct true l))).thaw q l := by
  unfold sLock lockAt
  simp only [he, h]
theorem dLk_at {S : Sto} {q : Nat} {l : List (Key × D)} (h : S[q]? = some (.dct true l)) : dLk S (.ref q) = some l := by
  unfold dLk
  simp [h]
def LSt.lop (L : LSt) : List (List Nat) → Nat
  | [] => 0
  | d :: _ => match spotS (numS d) L.ls with
    | some q => q.1
    | none => 0
def LSt.pbk (L : LSt) (p : List (List Nat)) : Bool := L.pb p || decide (0 < L.held.getD (L.lop p) 0)
def LSt.feltN (L : LSt) (i : Nat) : List Nat → Bool := (L.parts.take i).foldl (fun f p => fun d => if d ∈ p then L.pbk p else f d) (fun _ => true)
/-- whether the box of a number feels the wire broken -/
def LSt.felt (L : LSt) : List Nat → Bool := L.parts.foldl (fun f p => fun d => if d ∈ p then L.pbk p else f d) (fun _ => true)
section
variable {S : Sto} {n h : Nat} {L : LSt}
theorem LSt.parts_sub (o : LOk L) : ∀ p ∈ L.parts, ∀ ds ∈ p, ds ∈ L.F := fun p hp ds hd => by
  unfold LSt.parts at hp
  split at hp
  · rw [List.mem_singleton.mp hp] at hd
    obtain ⟨q, hq, hd⟩ := List.mem_flatten.mp hd
    have := CW.parts_sub q hq ds hd
    rw [tw_fst o] at this
    exact this
  · have := CW.parts_sub p hp ds hd
    rw [tw_fst o] at this
    exact this
theorem LSt.parts_len (o : LOk L) : L.parts.length ≤ 8 ∧ ∀ p ∈ L.parts, p.length ≤ 96 := by
  have h4 : L.tw.length ≤ 4 := by rw [tw_len o]; exact o.town.len
  have hp := parts_le (tw_sz o)
  have hq : ∀ tw : List (List (List Nat) × List Nat), (allParts tw).length ≤ 2 * tw.length := fun tw => by
    induction tw with
    | nil => simp [allParts]
    | cons x r ih =>
      have e : allParts (x :: r) = partsL x.1 x.2 ++ allParts r := by simp [allParts]
      have : (partsL x.1 x.2).length ≤ 2 := by unfold partsL; split <;> simp
      rw [e, List.length_append, List.length_cons]
      omega
  have := hq L.tw
  unfold LSt.parts
  split
  · refine ⟨by simp, fun p hp' => ?_⟩
    rw [List.mem_singleton.mp hp']
    omega
  · refine ⟨by omega, fun p hp' => ?_⟩
    have := hp.2 p hp'
    omega
theorem lop_ev (H : LineAt S n h L) {d : List Nat} {r : List (List Nat)} (hd : d ∈ L.F) : sp_Line_loop_of_part [.ref n, .tup (nD (d :: r))] S = .ok (.int (L.lop (d :: r) : Nat)) S ∧ L.lop (d :: r) < L.k := by
  have hi := H.ins
  have e1 := spot_ev (ls := L.ls) (t := [.int L.rounds, .int L.spring]) (z := numS d) (S := S)
  obtain ⟨l, hl, hdl⟩ := List.mem_flatten.mp hd
  obtain ⟨i, hi2, e2⟩ := List.getElem_of_mem hl
  obtain ⟨j, hj2, e3⟩ := List.getElem_of_mem hdl
  have e4 := spot_at H.ok.town.nd (by rw [List.getElem?_eq_getElem hi2, e2]) (by rw [List.getElem?_eq_getElem hj2, e3])
  have e5 : L.lop (d :: r) = i := by
    unfold LSt.lop
    simp only [e4]
  rw [e4] at e1
  rw [e5]
  refine ⟨?_, hi2⟩
  have t0 : atI (nD (d :: r)) 0 = some (.str (numS d)) := atI_nat (j := 0) rfl
  have t1 : atI [D.int (i : Int), D.int (j : Int)] 0 = some (.int (i : Int)) := atI_nat (j := 0) rfl
  have ht : L.town = .tup [.tup (L.ls.map loopD), .int L.rounds, .int L.spring] := rfl
  rw [← ht] at e1
  unfold sp_Line_loop_of_part m_Line_loop_of_part
  generalize L.town = tw at *
  generalize nD (d :: r) = P at *
  simp -implicitDefEqProofs [hi, t0, e1, spotD, t1]
noncomputable def bnA : MS := sSetA (eVar 1) (eVar 2) (eC (.bl true))
noncomputable def bnB : MS := sIf (tV (eBin neD (eVar 3) (eTup (aNil)))) (sSeq (sSet 4 (eOo (eMts "is_part_broken" [(0, sp_Line_is_part_broken)] (eVar 0) (aCons (eVar 3) (aNil))) (eBin gtD (eBin ixD (eFld 0 "held" (eVar 0)) (eMts "loop_of_part" [(0, sp_Line_loop_of_part)] (eVar 0) (aCons (eVar 3) (aNil)))) (eC (.int 0)))))
  (sFor (iA (eVar 3)) (tN 2) (sSetA (eVar 1) (eVar 2) (eVar 4)))) (sPass)
theorem F_nodup_take (o : LOk L) {i : Nat} {ds : List Nat} (h : L.F[i]? = some ds) : ds ∉ L.F.take i := fun q => by
  have h1 : L.F = L.F.take i ++ ds :: L.F.drop (i + 1) := by
    obtain ⟨a, b⟩ := List.getElem?_eq_some_iff.mp h
    conv => lhs; rw [← List.take_append_drop i L.F, List.drop_eq_getElem_cons a, b]
  have hnd2 : L.F.Nodup := o.town.nd
  rw [h1, List.nodup_append] at hnd2
  exact hnd2.2.2 ds q ds (by simp) rfl
theorem bnA_ev (H : LineAt S n h L) {x2 x3 x4 : Option D} : ∃ y2, sLock (eFld 0 "states" (eVar 0)) (sFor (iDK (eFld 0 "states" (eVar 0))) (tN 2) bnA) [some (.ref n), some (.ref S.length), x2, x3, x4] (S ++ [.dct false []]) = .nx [some (.ref n), some (.ref S.length), y2, x3, x4] (S ++ [.dct false (byD L.F fun _ => .bl true)]) := by
  have o := H.ok
  have hlt := H.lt
  have hk : 1 ≤ L.k := o.town.pos
  have hst := H.st
  have hi := H.ins
  have hob := H.ob
  generalize hM : (byD L.F fun ds => bxD (L.bx ds)) = M at *
  have hkeys : keysOf M = nD L.F := by rw [← hM]; exact byD_keys _ _
  have hq : n + 1 < S.length := by omega
  have hst2 : (S ++ [O.dct false []])[n + 1]? = some (.dct false M) := by rw [List.getElem?_append_left hq]; exact hst
  have hset : ∀ l, (S ++ [O.dct false l]).set (n + 1) (.dct true M) = S.set (n + 1) (.dct true M) ++ [.dct false l] := fun l => List.set_append_left _ _ hq
  have hob2 : ∀ T, insOf (S ++ T) (.ref n) = some (0, fL L.town n h L.k L.joined (L.ticks : Int)) := fun T => insOf_ev (by rw [List.getElem?_append_left (by omega)]; exact hob)
  have hob3 : ∀ T, insOf (S.set (n + 1) (.dct true M) ++ T) (.ref n) = some (0, fL L.town n h L.k L.joined (L.ticks : Int)) := fun T => insOf_ev (by rw [List.getElem?_append_left (by rw [List.length_set]; omega), List.getElem?_set_ne (by omega)]; exact hob)
  have hlk : ∀ T, dLk (S.set (n + 1) (.dct true M) ++ T) (.ref (n + 1)) = some M := fun T => dLk_at (by rw [List.getElem?_append_left (by rw [List.length_set]; exact hq), List.getElem?_set_self hq])
  have hsl : (S.set (n + 1) (O.dct true M)).length = S.length := List.length_set ..
  generalize hT : S.set (n + 1) (O.dct true M) = T at *
  have LL := for_nx (g := noG) (tg := tN 2) (b := bnA) (items := nD L.F) (ρ := [some (.ref n), some (.ref S.length), x2, x3, x4]) (S := T ++ [.dct false []])
    (fun i ρ S' => S' = T ++ [.dct false (byD (L.F.take i) fun _ => .bl true)] ∧ ∃ y2, ρ = [some (.ref n), some (.ref S.length), y2, x3, x4])
    ⟨rfl, _, rfl⟩ (fun _ _ _ _ => trivial) (by
      rintro i d ρ S' hd ⟨rfl, y2, rfl⟩
      unfold nD at hd
      rw [List.getElem?_map] at hd
      obtain ⟨ds, hds, rfl⟩ := Option.map_eq_some_iff.mp hd
      have hno := F_nodup_take o hds
      have htk : L.F.take (i + 1) = L.F.take i ++ [ds] := by rw [List.take_add_one, hds]; rfl
      have hg : (T ++ [O.dct false (byD (L.F.take i) fun _ => .bl true)])[S.length]? = some (.dct false (byD (L.F.take i) fun _ => .bl true)) := by rw [← hsl]; simp
      have hfl := F_len o
      have es := setA_ev (z := numS ds) (v := .bl true) hg (by rw [byD_len, List.length_take]; omega)
      rw [byD_snoc hno, ← htk] at es
      have ef : setF (fun _ => D.bl true) ds (.bl true) = fun _ => .bl true := by
        funext d
        unfold setF
        split <;> rfl
      rw [ef] at es
      have ex : (T ++ [O.dct false (byD (L.F.take i) fun _ => .bl true)]).set S.length (.dct false (byD (L.F.take (i + 1)) fun _ => .bl true)) = T ++ [.dct false (byD (L.F.take (i + 1)) fun _ => .bl true)] := by
        rw [← hsl, List.set_append_right _ _ (Nat.le_refl _), Nat.sub_self] <;> rfl
      rw [ex] at es
      refine ⟨_, rfl, nx_of fun Q hQ => ?_⟩
      unfold bnA
      generalize T ++ [O.dct false (byD (L.F.take i) fun _ => .bl true)] = T1 at *
      simp -implicitDefEqProofs [es]
      exact hQ _ _ ⟨rfl, _, rfl⟩)
  obtain ⟨ρ', S', e, rfl, y2, rfl⟩ := LL
  rw [nD_length, List.take_length] at e
  refine ⟨y2, ?_⟩
  rw [sLock_ev (q := n + 1) (l := M) hst2 (by
    have := hob2 [.dct false []]
    generalize L.town = tw at *
    simp -implicitDefEqProofs [this]), hset]
  have hob3' := hob3 [.dct false []]
  have hlk' := hlk [.dct false []]
  have e3 : sFor (iDK (eFld 0 "states" (eVar 0))) (tN 2) bnA [some (.ref n), some (.ref S.length), x2, x3, x4] (T ++ [.dct false []]) = .nx [some (.ref n), some (.ref S.length), y2, x3, x4] (T ++ [.dct false (byD L.F fun _ => .bl true)]) := by
    generalize L.town = tw at *
    simp -implicitDefEqProofs [iDK, hob3', hlk', hkeys, e]
  rw [e3]
  show RS.nx _ ((T ++ _).set (n + 1) _) = _
  rw [List.set_append_left _ _ (by rw [hsl]; exact hq), ← hT, set_same hst]
theorem broken_ev (H : LineAt S n h L) : sp_Line_broken_numbers [.ref n] S = .ok (.ref S.length) (S ++ [.dct false (byD L.F fun ds => .bl (L.felt ds))]) := by
  have o := H.ok
  have hlt := H.lt
  have hfl := F_len o
  obtain ⟨hp8, hp96⟩ := LSt.parts_len o
  have hpsub := LSt.parts_sub o
  obtain ⟨y2, e1⟩ := bnA_ev H (x2 := none) (x3 := none) (x4 := none)
  have LL := for_nx (g := noG) (tg := tN 3) (b := bnB) (items := ptsD L.parts) (ρ := [some (.ref n), some (.ref S.length), y2, none, none]) (S := S ++ [.dct false (byD L.F fun _ => .bl true)])
    (fun i ρ S' => S' = S ++ [.dct false (byD L.F fun d => .bl (L.feltN i d))] ∧ ∃ z2 z3 z4, ρ = [some (.ref n), some (.ref S.length), z2, z3, z4])
    ⟨rfl, _, _, _, rfl⟩ (fun _ _ _ _ => trivial) (by
      rintro i d ρ S' hd ⟨rfl, z2, z3, z4, rfl⟩
      unfold ptsD at hd
      rw [List.getElem?_map] at hd
      obtain ⟨p, hp, rfl⟩ := Option.map_eq_some_iff.mp hd
      have hpm := List.mem_of_getElem? hp
      have htk : L.parts.take (i + 1) = L.parts.take i ++ [p] := by rw [List.take_add_one, hp]; rfl
      have hfe : L.feltN (i + 1) = fun d => if d ∈ p then L.pbk p else L.feltN i d := by
        unfold LSt.feltN
        rw [htk, List.foldl_append] <;> rfl
      refine ⟨[some (.ref n), some (.ref S.length), z2, some (.tup (nD p)), z4], rfl, nx_of fun Q hQ => ?_⟩
      cases p with
      | nil =>
        have hf0 : L.feltN (i + 1) = L.feltN i := by
          rw [hfe]
          funext d
          simp
        rw [hf0] at hQ
        have e0 : ∀ T, neD (.tup (nD [])) (.tup []) T = .ok (.bl false) T := fun T => rfl
        unfold bnB
        generalize S ++ [O.dct false (byD L.F fun d => .bl (L.feltN i d))] = T at *
        simp -implicitDefEqProofs [e0, sizeL]
        exact hQ _ _ ⟨rfl, _, _, _, rfl⟩
      | cons a r =>
        have ha : a ∈ L.F := hpsub _ hpm a (by simp)
        have H1 := H.app [.dct false (byD L.F fun d => .bl (L.feltN i d))]
        have hi1 := H1.ins
        have e0 : ∀ T, neD (.tup (nD (a :: r))) (.tup []) T = .ok (.bl true) T := fun T => neD_empty (n := 1) (by simp only [plD]; exact plL_nD (l := a :: r) fun ds hd => o.town.good ds (hpsub _ hpm ds hd)) (by decide) T
        have e2 := part_ev H1 (hpsub _ hpm) (by have := hp96 _ hpm; omega)
        obtain ⟨e3, hlop⟩ := lop_ev H1 (r := r) ha
        have e4 := ixD_ref (i := (L.lop (a :: r) : Nat)) H1.hd
        have e5 : atI (iD L.held) ((L.lop (a :: r) : Nat) : Int) = some (.int (L.held.getD (L.lop (a :: r)) 0)) := by
          refine atI_nat (j := L.lop (a :: r)) ?_
          have : L.lop (a :: r) < L.held.length := by rw [o.lh]; exact hlop
          rw [iD_get, List.getElem?_eq_getElem this, List.getD_eq_getElem?_getD, List.getElem?_eq_getElem this] <;> rfl
        rw [e5] at e4
        simp only at e4
        have LL2 := for_nx (g := noG) (tg := tN 2) (b := sSetA (eVar 1) (eVar 2) (eVar 4)) (items := nD (a :: r)) (ρ := [some (.ref n), some (.ref S.length), z2, some (.tup (nD (a :: r))), some (.bl (L.pbk (a :: r)))]) (S := S ++ [.dct false (byD L.F fun d => .bl (L.feltN i d))])
          (fun j ρ S' => S' = S ++ [.dct false (byD L.F fun d => .bl (if d ∈ (a :: r).take j then L.pbk (a :: r) else L.feltN i d))] ∧ ∃ z2, ρ = [some (.ref n), some (.ref S.length), z2, some (.tup (nD (a :: r))), some (.bl (L.pbk (a :: r)))])
          ⟨by simp, _, rfl⟩ (fun _ _ _ _ => trivial) (by
            rintro j d ρ S' hd ⟨rfl, z2, rfl⟩
            unfold nD at hd
            rw [List.getElem?_map] at hd
            obtain ⟨ds, hds, rfl⟩ := Option.map_eq_some_iff.mp hd
            have hdF := hpsub _ hpm ds (List.mem_of_getElem? hds)
            have htk2 : (a :: r).take (j + 1) = (a :: r).take j ++ [ds] := by rw [List.take_add_one, hds]; rfl
            have hg : (S ++ [O.dct false (byD L.F fun d => .bl (if d ∈ (a :: r).take j then L.pbk (a :: r) else L.feltN i d))])[S.length]? = some (.dct false (byD L.F fun d => .bl (if d ∈ (a :: r).take j then L.pbk (a :: r) else L.feltN i d))) := by simp
            have es := setA_ev (z := numS ds) (v := .bl (L.pbk (a :: r))) hg (by rw [byD_len]; omega)
            rw [byD_put hdF] at es
            have ef : setF (fun d => D.bl (if d ∈ (a :: r).take j then L.pbk (a :: r) else L.feltN i d)) ds (.bl (L.pbk (a :: r))) = fun d => .bl (if d ∈ (a :: r).take (j + 1) then L.pbk (a :: r) else L.feltN i d) := by
              funext d
              unfold setF
              rw [htk2]
              by_cases e : d = ds
              · subst e; simp
              · simp [e]
            rw [ef] at es
            have ex : ∀ x y : O, (S ++ [x]).set S.length y = S ++ [y] := fun x y => by
              rw [List.set_append_right _ _ (Nat.le_refl _), Nat.sub_self] <;> rfl
            rw [ex] at es
            refine ⟨_, rfl, nx_of fun Q hQ => ?_⟩
            have hQ' := hQ [some (.ref n), some (.ref S.length), some (.str (numS ds)), some (.tup (nD (a :: r))), some (.bl (L.pbk (a :: r)))] _ ⟨rfl, _, rfl⟩
            generalize S ++ [O.dct false (byD L.F fun d => .bl (if d ∈ (a :: r).take (j + 1) then L.pbk (a :: r) else L.feltN i d))] = T2 at *
            generalize S ++ [O.dct false (byD L.F fun d => .bl (if d ∈ (a :: r).take j then L.pbk (a :: r) else L.feltN i d))] = T1 at *
            generalize L.pbk (a :: r) = pb at *
            generalize nD (a :: r) = NP at *
            simp -implicitDefEqProofs [es]
            exact hQ')
        obtain ⟨ρ2, S2, e6, rfl, w2, rfl⟩ := LL2
        have hfe' : (fun d => D.bl (if d ∈ a :: r then L.pbk (a :: r) else L.feltN i d)) = fun d => D.bl (L.feltN (i + 1) d) := by rw [hfe]
        rw [nD_length, List.take_length, hfe'] at e6
        have hpk : L.pbk (a :: r) = (L.pb (a :: r) || decide (0 < L.held.getD (L.lop (a :: r)) 0)) := rfl
        have hQ' := hQ _ _ ⟨rfl, w2, some (.tup (nD (a :: r))), some (.bl (L.pbk (a :: r))), rfl⟩
        unfold bnB
        generalize S ++ [O.dct false (byD L.F fun d => .bl (L.feltN i d))] = T at *
        generalize S ++ [O.dct false (byD L.F fun d => .bl (L.feltN (i + 1) d))] = T2 at *
        generalize nD (a :: r) = NP at *
        generalize L.held.getD (L.lop (a :: r)) 0 = hv at *
        generalize L.lop (a :: r) = lp at *
        generalize L.pbk (a :: r) = pk at *
        generalize L.pb (a :: r) = pb at *
        generalize L.town = tw at *
        cases pb with
        | true =>
          simp only [Bool.true_or] at hpk
          subst hpk
          simp -implicitDefEqProofs [e0, sizeL, hi1, e2, e6]
          exact hQ'
        | false =>
          simp only [Bool.false_or] at hpk
          rw [hpk] at e6 hQ'
          simp -implicitDefEqProofs [e0, sizeL, hi1, e2, e3, e4, e6]
          exact hQ')
  obtain ⟨ρ', S', e2, rfl, z2, z3, z4, rfl⟩ := LL
  have hfin : L.feltN (ptsD L.parts).length = L.felt := by
    unfold LSt.feltN LSt.felt ptsD
    rw [List.length_map, List.take_length]
  rw [hfin] at e2
  have H1 := H.app [.dct false (byD L.F fun _ => .bl true)]
  have hi1 := H1.ins
  have e3 := lineCuts_ev H1
  have e4 := wp_ev H1 L.joined
  have e5 : (if L.joined = true then [(allParts L.tw).flatten] else allParts L.tw) = L.parts := rfl
  rw [e5] at e4
  unfold sp_Line_broken_numbers m_Line_broken_numbers
  rw [show sSetA (eVar 1) (eVar 2) (eC (.bl true)) = bnA from rfl]
  have hB : ∀ B, bnB = B → sIf (tV (eBin neD (eVar 3) (eTup (aNil)))) (sSeq (sSet 4 (eOo (eMts "is_part_broken" [(0, sp_Line_is_part_broken)] (eVar 0) (aCons (eVar 3) (aNil))) (eBin gtD (eBin ixD (eFld 0 "held" (eVar 0)) (eMts "loop_of_part" [(0, sp_Line_loop_of_part)] (eVar 0) (aCons (eVar 3) (aNil)))) (eC (.int 0)))))
      (sFor (iA (eVar 3)) (tN 2) (sSetA (eVar 1) (eVar 2) (eVar 4)))) (sPass) = B := fun B h => h
  generalize hb : bnB = B at *
  rw [hB B rfl]
  generalize bnA = A at *
  generalize ptsD L.parts = PT at *
  generalize cutsL L.cuts = CL at *
  generalize L.town = tw at *
  simp -implicitDefEqProofs [e1, hi1, e3, e4, e2]
end
end CW

namespace CW
open PySem PySem.Spec PyProof.Rows L2 MM
/-- a line behind a tick -/
def LSt.tick (L : LSt) : LSt := { L.go.wr with bx := fun d => ((L.bx d).started).behind (rowN d) (L.go.felt d), held := L.held.map fun x => max 0 (x - 1), ticks := L.ticks + 1 }
/-- whose rounds come whole at the tick -/
def LSt.due (L : LSt) : List (List Nat) := L.F.filter fun d => ((L.bx d).started).whole (rowN d) (L.go.felt d)
def dueD (l : List (List Nat)) : D := .tup (sD (sortB strLt (l.map numS)))
theorem sorted_nD {a : ML} {ρ : Fr} {S S1 : Sto} {l : List (List Nat)} (h : a ρ S = .ok (nD l) S1) (hl : l.length < 64) : lSorted a ρ S = .ok (sD (sortB strLt (l.map numS))) S1 := by
  unfold lSorted
  rw [h]
  cases l with
  | nil => rfl
  | cons x r =>
    have e1 : intsD (nD (x :: r)) = none := rfl
    have e2 := txts_nD (x :: r)
    simp only [bind_ok, e1, e2]
    rw [if_pos (by rw [List.length_map]; exact hl)] <;> rfl
theorem setFld_at {S : Sto} {n k : Nat} {f : Str} {fs : List (Str × D)} {v : D} (h : S[n]? = some (.ins k fs)) (hl : fs.length ≤ 100) : setFld k f (.ref n) v S = some (S.set n (.ins k (putFD f v fs))) := by
  unfold setFld
  simp only [h]
  rw [if_pos ⟨trivial, by omega⟩]
section
variable {town v : D} {n h k : Nat} {j : Bool} {t : Int}
@[simp] theorem fL_putHeld : putFD (Str.ofString "held") (.ref h') (fL town n h k j t) = fL town n h' k j t := rfl
@[simp] theorem fL_putTicks : putFD (Str.ofString "ticks") (.int t') (fL town n h k j t) = fL town n h k j t' := rfl
@[simp] theorem fL_putJoined : putFD (Str.ofString "joined") (.bl j') (fL town n h k j t) = fL town n h k j' t := rfl
end
section
variable {S : Sto} {n h : Nat} {L : LSt}
theorem LineAt.congr (H : LineAt S n h L) {f : List Nat → Bx} (hf : ∀ ds ∈ L.F, f ds = L.bx ds) : LineAt S n h { L with bx := f } := by
  have o := H.ok
  refine ⟨H.ob, ?_, H.rw_, H.ct, H.hd, H.nr, H.fr, H.hh, ⟨o.town, o.r1, o.r4, o.s1, o.s50, fun ds hd => ?_, o.lc, o.lh, o.ln, o.lf, o.cut⟩⟩
  · rw [H.st]
    congr 2
    exact byD_congr fun ds hd => by show bxD (L.bx ds) = bxD (f ds); rw [hf ds hd]
  · show (f ds).In _
    rw [hf ds hd]
    exact o.box ds hd
/-- other keys, another clock -/
theorem LineAt.reHeld (H : LineAt S n h L) {l : List Int} (hl : l.length = L.k) (t : Nat) : LineAt ((S ++ [O.lst false (iD l)]).set n (.ins 0 (fL L.town n S.length L.k L.joined (t : Int)))) n S.length { L with held := l, ticks := t } := by
  have hlt := H.lt
  have o := H.ok
  have hk : 1 ≤ L.k := o.town.pos
  have g : ∀ i o', i ≠ n → S[i]? = some o' → ((S ++ [O.lst false (iD l)]).set n (.ins 0 (fL L.town n S.length L.k L.joined (t : Int))))[i]? = some o' := fun i o' hi h => by
    rw [List.getElem?_set_ne (Ne.symm hi), List.getElem?_append_left (get_of h)]
    exact h
  refine ⟨List.getElem?_set_self (by simp; omega), g _ _ (by omega) H.st, g _ _ (by omega) H.rw_, g _ _ (by omega) H.ct, ?_, fun i t' ht => g _ _ (by omega) (H.nr i t' ht), fun i t' ht => g _ _ (by omega) (H.fr i t' ht), .inr hlt.1, ⟨o.town, o.r1, o.r4, o.s1, o.s50, o.box, o.lc, hl, o.ln, o.lf, o.cut⟩⟩
  rw [List.getElem?_set_ne (by omega)]
  simp
noncomputable def tkB : MS := sSeq (sSet 4 (eBin ixA (eFld 0 "rows" (eVar 0)) (eVar 1)))
  (sSeq (sIf (tV (eCall sp_is_whole_now (aCons (eBin ixA (eFld 0 "states" (eVar 0)) (eVar 1)) (aCons (eVar 4) (aCons (eVar 3) (aNil)))))) (sExpr (eMeth isLstD appendD (eVar 2) (aCons (eVar 1) (aNil)))) (sPass))
  (sSetA (eFld 0 "states" (eVar 0)) (eVar 1) (eCall sp_behind_with (aCons (eBin ixA (eFld 0 "states" (eVar 0)) (eVar 1)) (aCons (eVar 4) (aCons (eVar 3) (aNil)))))))
def LSt.mid (L : LSt) (q : List Nat → Bool) (i : Nat) : LSt := { L with bx := fun d => if d ∈ L.F.take i then (L.bx d).behind (rowN d) (q d) else L.bx d }
theorem tkB_ev (H : LineAt S n h L) (q : List Nat → Bool) {m : Nat} (hm : S[m]? = some (.lst false [])) (hm2 : n + 5 + 2 * L.k ≤ m) (hmh : m ≠ h) {y1 y3 y4 : Option D} :
    ∃ S' z1 z3 z4, forD noG (tTp 2 (tsCons (tN 1) (tsCons (tN 3) (tsNil)))) tkB (itemsOf (byD L.F fun ds => .bl (q ds))) [some (.ref n), y1, some (.ref m), y3, y4, none] S = .nx [some (.ref n), z1, some (.ref m), z3, z4, none] S' ∧
      LineAt S' n h (L.mid q L.F.length) ∧ (∀ i, i ≠ n + 1 → i ≠ m → S'[i]? = S[i]?) ∧ S'.length = S.length ∧ S'[m]? = some (.lst false (nD (L.F.filter fun d => (L.bx d).whole (rowN d) (q d)))) := by
  have o := H.ok
  have hlt := H.lt
  have hfl := F_len o
  have hk : 1 ≤ L.k := o.town.pos
  have hin : ∀ i, LOk (L.mid q i) := fun i => ⟨o.town, o.r1, o.r4, o.s1, o.s50, fun ds hd => by
    show (if ds ∈ L.F.take i then (L.bx ds).behind (rowN ds) (q ds) else L.bx ds).In _
    split
    · exact (o.box ds hd).behind _
    · exact o.box ds hd, o.lc, o.lh, o.ln, o.lf, o.cut⟩
  generalize hB : tkB = B
  have LL := for_nx (g := noG) (tg := tTp 2 (tsCons (tN 1) (tsCons (tN 3) (tsNil)))) (b := B) (items := itemsOf (byD L.F fun ds => .bl (q ds))) (ρ := [some (.ref n), y1, some (.ref m), y3, y4, none]) (S := S)
    (fun i ρ S' => LineAt S' n h (L.mid q i) ∧ (∀ i, i ≠ n + 1 → i ≠ m → S'[i]? = S[i]?) ∧ S'.length = S.length ∧ S'[m]? = some (.lst false (nD ((L.F.take i).filter fun d => (L.bx d).whole (rowN d) (q d)))) ∧ ∃ z1 z3 z4, ρ = [some (.ref n), z1, some (.ref m), z3, z4, none])
    ⟨H.congr fun ds _ => by simp, fun _ _ _ => rfl, rfl, hm, _, _, _, rfl⟩ (fun _ _ _ _ => trivial) (by
      rintro i d ρ S' hd ⟨H', hk', hl', hm', z1, z3, z4, rfl⟩
      rw [byD_items, List.getElem?_map] at hd
      obtain ⟨ds, hds, rfl⟩ := Option.map_eq_some_iff.mp hd
      have hdF := List.mem_of_getElem? hds
      have hno := F_nodup_take o hds
      have htk : L.F.take (i + 1) = L.F.take i ++ [ds] := by rw [List.take_add_one, hds]; rfl
      have hmid : (L.mid q i).bx ds = L.bx ds := if_neg hno
      have hi := H'.ins
      have s1 := ixA_ev H'.st (byD_val (f := fun ds => bxD ((L.mid q i).bx ds)) hdF)
      rw [hmid] at s1
      have r1 := ixA_ev H'.rw_ (byD_val (f := fun ds => D.tup (iD (rowN ds))) hdF)
      have w1 := bx_whole (k := q ds) (S := S') (o.box ds hdF)
      have b1 := fun S => bx_behind (k := q ds) (S := S) (o.box ds hdF)
      have hset : ∀ T : Sto, T[n + 1]? = some (.dct false (byD L.F fun ds => bxD ((L.mid q i).bx ds))) → setAny (.ref (n + 1)) (.str (numS ds)) (bxD ((L.bx ds).behind (rowN ds) (q ds))) T = some (T.set (n + 1) (.dct false (byD L.F fun ds => bxD ((L.mid q (i + 1)).bx ds)))) := fun T hT => by
        rw [setA_ev hT (by rw [byD_len]; omega), byD_put hdF]
        congr 4
        funext d
        unfold setF
        show _ = bxD (if d ∈ L.F.take (i + 1) then (L.bx d).behind (rowN d) (q d) else L.bx d)
        rw [htk]
        by_cases e : d = ds
        · subst e; simp
        · rw [if_neg e]
          show bxD (if d ∈ L.F.take i then (L.bx d).behind (rowN d) (q d) else L.bx d) = _
          simp [e]
      have hnext : ∀ T : Sto, LineAt T n h (L.mid q i) → LineAt (T.set (n + 1) (.dct false (byD L.F fun ds => bxD ((L.mid q (i + 1)).bx ds)))) n h (L.mid q (i + 1)) := fun T hT => hT.setBx (hin (i + 1)).box
      change insOf S' (.ref n) = some (0, fL L.town n h L.k L.joined (L.ticks : Int)) at hi
      refine ⟨[some (.ref n), some (.str (numS ds)), some (.ref m), some (.bl (q ds)), z4, none], by simp, nx_of fun Q hQ => ?_⟩
      subst hB
      unfold tkB
      cases hw : (L.bx ds).whole (rowN ds) (q ds) with
      | false =>
        rw [hw] at w1
        have hf : ((L.F.take (i + 1)).filter fun d => (L.bx d).whole (rowN d) (q d)) = (L.F.take i).filter fun d => (L.bx d).whole (rowN d) (q d) := by
          rw [htk, List.filter_append, List.filter_cons_of_neg (by simp [hw])]
          simp
        have e1 := hset S' H'.st
        have hQ' := hQ [some (.ref n), some (.str (numS ds)), some (.ref m), some (.bl (q ds)), some (.tup (iD (rowN ds))), none] _ ⟨hnext S' H', fun j h1 h2 => by rw [List.getElem?_set_ne (Ne.symm h1)]; exact hk' j h1 h2, by rw [List.length_set]; exact hl', by rw [List.getElem?_set_ne (by omega), hf]; exact hm', _, _, _, rfl⟩
        generalize S'.set (n + 1) (O.dct false (byD L.F fun ds => bxD ((L.mid q (i + 1)).bx ds))) = T2 at *
        have b1' := b1 S'
        generalize bxD ((L.bx ds).behind (rowN ds) (q ds)) = B2 at *
        generalize bxD (L.bx ds) = B1 at *
        generalize D.tup (iD (rowN ds)) = RW at *
        generalize L.town = tw at *
        generalize q ds = qd at *
        simp -implicitDefEqProofs [hi, r1, s1, w1, b1', e1]
        exact hQ'
      | true =>
        rw [hw] at w1
        have hf : ((L.F.take (i + 1)).filter fun d => (L.bx d).whole (rowN d) (q d)) = ((L.F.take i).filter fun d => (L.bx d).whole (rowN d) (q d)) ++ [ds] := by
          rw [htk, List.filter_append, List.filter_cons_of_pos (by simp [hw])]
          simp
        have hfl2 : (((L.F.take i).filter fun d => (L.bx d).whole (rowN d) (q d))).length ≤ 48 := by
          have := List.length_filter_le (fun d => (L.bx d).whole (rowN d) (q d)) (L.F.take i)
          rw [List.length_take] at this
          omega
        have l1 := isLst_ev hm'
        have a1 := append_ev (d := .str (numS ds)) hm' (by rw [nD_length, sizeL]; omega)
        have a2 : nD ((L.F.take i).filter fun d => (L.bx d).whole (rowN d) (q d)) ++ [D.str (numS ds)] = nD ((L.F.take (i + 1)).filter fun d => (L.bx d).whole (rowN d) (q d)) := by
          rw [hf]
          unfold nD
          rw [List.map_append] <;> rfl
        rw [a2] at a1
        have hm3 := get_of hm'
        have H2 : LineAt (S'.set m (.lst false (nD ((L.F.take (i + 1)).filter fun d => (L.bx d).whole (rowN d) (q d))))) n h (L.mid q i) := H'.keep fun j hj => by
          have hj' : (n ≤ j ∧ j < n + 5 + 2 * L.k) ∨ j = h := hj
          rw [List.getElem?_set_ne (by omega)]
        have hi2 := H2.ins
        change insOf _ (.ref n) = some (0, fL L.town n h L.k L.joined (L.ticks : Int)) at hi2
        have s2 := ixA_ev H2.st (byD_val (f := fun ds => bxD ((L.mid q i).bx ds)) hdF)
        rw [hmid] at s2
        have e1 := hset _ H2.st
        have hQ' := hQ [some (.ref n), some (.str (numS ds)), some (.ref m), some (.bl (q ds)), some (.tup (iD (rowN ds))), none] _ ⟨hnext _ H2, fun j h1 h2 => by rw [List.getElem?_set_ne (Ne.symm h1), List.getElem?_set_ne (Ne.symm h2)]; exact hk' j h1 h2, by rw [List.length_set, List.length_set]; exact hl', by rw [List.getElem?_set_ne (by omega), List.getElem?_set_self hm3], _, _, _, rfl⟩
        have b1' := b1 (S'.set m (.lst false (nD ((L.F.take (i + 1)).filter fun d => (L.bx d).whole (rowN d) (q d)))))
        generalize S'.set m (O.lst false (nD ((L.F.take (i + 1)).filter fun d => (L.bx d).whole (rowN d) (q d)))) = T1 at *
        generalize T1.set (n + 1) (O.dct false (byD L.F fun ds => bxD ((L.mid q (i + 1)).bx ds))) = T2 at *
        generalize bxD ((L.bx ds).behind (rowN ds) (q ds)) = B2 at *
        generalize bxD (L.bx ds) = B1 at *
        generalize D.tup (iD (rowN ds)) = RW at *
        generalize L.town = tw at *
        generalize q ds = qd at *
        simp -implicitDefEqProofs [hi, r1, s1, w1, eMeth, l1, a1, hi2, s2, b1', e1]
        exact hQ')
  obtain ⟨ρ', S', e, H', hk', hl', hm', z1, z3, z4, rfl⟩ := LL
  rw [byD_items, List.length_map] at H' hm'
  rw [List.take_length] at hm'
  subst hB
  exact ⟨S', z1, z3, z4, e, H', hk', hl', hm'⟩
theorem items_noTx {F : List (List Nat)} {q : List Nat → Bool} : noTx (itemsOf (byD F fun ds => .bl (q ds))) = true := by
  rw [byD_items]
  unfold noTx
  rw [List.all_map, List.all_eq_true]
  intro d _
  rfl
theorem tick_ev (H : LineAt S n h L) (hs : L.Short) : ∃ S' h', sp_Line_tick [.ref n] S = .ok (dueD L.due) S' ∧ LineAt S' n h' L.tick ∧ Lch n h L.k S S' ∧ S.length ≤ h' := by
  have o := H.ok
  have hlt := H.lt
  have hk : 1 ≤ L.k := o.town.pos
  obtain ⟨y1, e1⟩ := start_ev H (x1 := none) (x2 := none) (x3 := none) (x4 := none) (x5 := none)
  have H1 := H.setBx (f := fun d => (L.bx d).started) (fun ds hd => (o.box ds hd).started row_pos)
  have w1 : Lch n h L.k S (S.set (n + 1) (O.dct false (byD L.F fun d => bxD (L.bx d).started))) := Lch.refl.set (by omega)
  change LineAt _ n h L.go at H1
  generalize S.set (n + 1) (O.dct false (byD L.F fun d => bxD (L.bx d).started)) = S1 at *
  obtain ⟨S2, e2, H2, w2⟩ := write_ev H1 hs
  have hi1 := H1.ins
  have hlt1 := H1.lt
  have hlt2 := H2.lt
  have H3 := H2.app [.lst false []]
  have hi3 := H3.ins
  have e3 := broken_ev H3
  have hf : L.go.wr.felt = L.go.felt := rfl
  rw [hf] at e3
  have hl3 : (S2 ++ [O.lst false []]).length = S2.length + 1 := by simp
  have hm3 : (S2 ++ [O.lst false []])[S2.length]? = some (.lst false []) := by simp
  generalize hS3 : S2 ++ [O.lst false []] = S3 at *
  have hset : (S3 ++ [O.dct false (byD L.F fun ds => .bl (L.go.felt ds))]).set S3.length (.dct true (byD L.F fun ds => .bl (L.go.felt ds))) = S3 ++ [.dct true (byD L.F fun ds => .bl (L.go.felt ds))] := by
    rw [List.set_append_right _ _ (Nat.le_refl _), Nat.sub_self] <;> rfl
  have hget : (S3 ++ [O.dct false (byD L.F fun ds => .bl (L.go.felt ds))])[S3.length]? = some (.dct false (byD L.F fun ds => .bl (L.go.felt ds))) := by simp
  have H4 := H3.app [.dct true (byD L.F fun ds => .bl (L.go.felt ds))]
  have hlk : dLk (S3 ++ [O.dct true (byD L.F fun ds => .bl (L.go.felt ds))]) (.ref S3.length) = some (byD L.F fun ds => .bl (L.go.felt ds)) := dLk_at (by simp)
  have hm4 : (S3 ++ [O.dct true (byD L.F fun ds => .bl (L.go.felt ds))])[S2.length]? = some (.lst false []) := by rw [List.getElem?_append_left (by omega)]; exact hm3
  have hhS : h < S.length := hlt.2
  have hS12 := w2.1
  have hS01 := w1.1
  obtain ⟨S5, z1, z3, z4, e5, H5, k5, l5, m5⟩ := tkB_ev H4 L.go.felt hm4 (by have := hlt2.1; exact this) (by have := hlt2.2; omega) (y1 := y1) (y3 := none) (y4 := none)
  have hno := items_noTx (F := L.F) (q := L.go.felt)
  have h4l : (S3 ++ [O.dct true (byD L.F fun ds => .bl (L.go.felt ds))]).length = S2.length + 2 := by simp [hl3]
  rw [h4l] at l5
  have H5' : LineAt S5 n h { L.go.wr with bx := fun d => ((L.bx d).started).behind (rowN d) (L.go.felt d) } := H5.congr fun ds hd => by
    have hm : ds ∈ L.F.take L.F.length := by rw [List.take_length]; exact hd
    exact (if_pos hm).symm
  have hi5 := H5'.ins
  change insOf S5 (.ref n) = some (0, fL L.town n h L.k L.joined (L.ticks : Int)) at hi5
  have hd5 := H5'.hd
  change S5[h]? = some (.lst false (iD L.held)) at hd5
  have hc : L.held.length ≤ sizeLine := by rw [o.lh, sizeL]; have := o.town.len; unfold LSt.k; omega
  have e6 := lcOf (g := inStore h (iD L.held)) (tg := tN 5) (m := eCall maxD (aCons (eC (.int 0)) (aCons (eBin subD (eVar 5) (eC (.int 1))) (aNil)))) (ρ := [some (.ref n), z1, some (.ref S2.length), z3, z4, none]) (S := S5) D.int (fun x => D.int (max 0 (x - 1))) ⟨_, hd5⟩ (l := L.held) (fun x hx => ⟨_, rfl, by
    simp
    split <;> omega⟩)
  have e6' : (L.held.map fun x => D.int (max 0 (x - 1))) = iD (L.held.map fun x => max 0 (x - 1)) := by simp [iD]
  rw [e6', show L.held.map D.int = iD L.held from rfl] at e6
  have hob5 : (S5 ++ [O.lst false (iD (L.held.map fun x => max 0 (x - 1)))])[n]? = some (.ins 0 (fL L.town n h L.k L.joined (L.ticks : Int))) := by
    rw [List.getElem?_append_left (by omega)]
    exact H5'.ob
  have f1 := setFld_at (f := "held") (v := .ref S5.length) hob5 (by rw [fL_len]; decide)
  rw [fL_putHeld] at f1
  have hob6 : ((S5 ++ [O.lst false (iD (L.held.map fun x => max 0 (x - 1)))]).set n (.ins 0 (fL L.town n S5.length L.k L.joined (L.ticks : Int))))[n]? = some (.ins 0 (fL L.town n S5.length L.k L.joined (L.ticks : Int))) := List.getElem?_set_self (by simp; omega)
  have f2 := setFld_at (f := "ticks") (v := .int ((L.ticks : Int) + 1)) hob6 (by rw [fL_len]; decide)
  rw [fL_putTicks, List.set_set] at f2
  have hi6 := insOf_ev hob6
  have hi5b := insOf_ev hob5
  have H7 := H5'.reHeld (l := L.held.map fun x => max 0 (x - 1)) (by rw [List.length_map]; exact o.lh) (L.ticks + 1)
  have hm7 : ((S5 ++ [O.lst false (iD (L.held.map fun x => max 0 (x - 1)))]).set n (.ins 0 (fL L.town n S5.length L.k L.joined ((L.ticks : Int) + 1))))[S2.length]? = some (.lst false (nD L.due)) := by
    rw [List.getElem?_set_ne (by omega), List.getElem?_append_left (by omega)]
    exact m5
  have hdl : L.due.length < 64 := by
    have := List.length_filter_le (fun d => ((L.bx d).started).whole (rowN d) (L.go.felt d)) L.F
    have := F_len o
    unfold LSt.due
    omega
  have hS7l : ∀ i, i < S.length → (i < n ∨ n + 5 + 2 * L.k ≤ i) → i ≠ h → ((S5 ++ [O.lst false (iD (L.held.map fun x => max 0 (x - 1)))]).set n (.ins 0 (fL L.town n S5.length L.k L.joined ((L.ticks : Int) + 1))))[i]? = S[i]? := fun i hi hn hh => by
    rw [List.getElem?_set_ne (by omega), List.getElem?_append_left (by omega), k5 i (by omega) (by omega), List.getElem?_append_left (by omega), ← hS3, List.getElem?_append_left (by omega), w2.2 i (by omega) hn hh, w1.2 i hi hn hh]
  have hS7n : S.length ≤ ((S5 ++ [O.lst false (iD (L.held.map fun x => max 0 (x - 1)))]).set n (.ins 0 (fL L.town n S5.length L.k L.joined ((L.ticks : Int) + 1)))).length := by simp; omega
  have H7' : LineAt ((S5 ++ [O.lst false (iD (L.held.map fun x => max 0 (x - 1)))]).set n (.ins 0 (fL L.town n S5.length L.k L.joined ((L.ticks : Int) + 1)))) n S5.length L.tick := H7
  change insOf S1 (.ref n) = some (0, fL L.town n h L.k L.joined (L.ticks : Int)) at hi1
  change insOf S3 (.ref n) = some (0, fL L.town n h L.k L.joined (L.ticks : Int)) at hi3
  change sp_Line_broken_numbers [.ref n] S3 = .ok (.ref S3.length) (S3 ++ [.dct false (byD L.F fun ds => .bl (L.go.felt ds))]) at e3
  change forD noG _ _ (itemsOf (byD L.F fun ds => .bl (L.go.felt ds))) _ _ = _ at e5
  clear H7 H5 H5' H4 H3 H2 H1 m5 hob5 hob6 k5 w2 w1
  generalize (S5 ++ [O.lst false (iD (L.held.map fun x => max 0 (x - 1)))]).set n (.ins 0 (fL L.town n S5.length L.k L.joined ((L.ticks : Int) + 1))) = S7 at *
  generalize (S5 ++ [O.lst false (iD (L.held.map fun x => max 0 (x - 1)))]).set n (.ins 0 (fL L.town n S5.length L.k L.joined (L.ticks : Int))) = S6 at *
  have e8 := sorted_nD (a := lOf (eVar 2)) (ρ := [some (.ref n), z1, some (.ref S2.length), z3, z4, none]) (S := S7) (S1 := S7) (l := L.due) (by simp [hm7]) hdl
  refine ⟨S7, S5.length, ?_, H7', ⟨hS7n, hS7l⟩, by omega⟩
  unfold sp_Line_tick m_Line_tick
  rw [show sSetA (eFld 0 "states" (eVar 0)) (eVar 1) (eCall sp_box_started (aCons (eBin ixA (eFld 0 "states" (eVar 0)) (eVar 1)) (aNil))) = startB from rfl]
  have hB : ∀ B, tkB = B → sSeq (sSet 4 (eBin ixA (eFld 0 "rows" (eVar 0)) (eVar 1)))
    (sSeq (sIf (tV (eCall sp_is_whole_now (aCons (eBin ixA (eFld 0 "states" (eVar 0)) (eVar 1)) (aCons (eVar 4) (aCons (eVar 3) (aNil)))))) (sExpr (eMeth isLstD appendD (eVar 2) (aCons (eVar 1) (aNil)))) (sPass))
    (sSetA (eFld 0 "states" (eVar 0)) (eVar 1) (eCall sp_behind_with (aCons (eBin ixA (eFld 0 "states" (eVar 0)) (eVar 1)) (aCons (eVar 4) (aCons (eVar 3) (aNil))))))) = B := fun B h => h
  generalize hb : tkB = TB at *
  rw [hB TB rfl]
  generalize sFor (iN (lDK (eFld 0 "states" (eVar 0)))) (tN 1) startB = F1 at *
  have e9 : sRet (eLs tupleD (lSorted (lOf (eVar 2)))) [some (.ref n), z1, some (.ref S2.length), z3, z4, none] S7 = .rt (dueD L.due) S7 := by
    rw [sRet_ev, eLs_ev, e8] <;> rfl
  generalize hR : sRet (eLs tupleD (lSorted (lOf (eVar 2)))) = RR at *
  generalize byD L.F (fun ds => D.bl (L.go.felt ds)) = BD at *
  generalize L.town = tw at *
  generalize iD (L.held.map fun x => max 0 (x - 1)) = HH at *
  simp -implicitDefEqProofs [e1, hi1, e2, hS3, hi3, e3, eLockD, hget, hset, iDI, hlk, okZ_ev hno, e5, hi5, hd5, hc, e6, hi5b, f1, MM.sFldAug, hi6, f2, e9]
end
end CW

namespace CW
open PySem PySem.Spec PyProof.Rows L2 MM
def natLt (a b : Nat) : Bool := decide (a < b)
/-- cuts with one more -/
def cutN (c : List Nat) (s : Nat) : List Nat := sortB natLt (c ++ [s])
/-- cuts without one -/
def mendN (c : List Nat) (s : Nat) : List Nat := c.filter fun k => decide (k ≠ s)
theorem CutL.len {n : Nat} {c : List Nat} (h : CutL n c) : c.length ≤ n + 1 := by
  have hs : ∀ x ∈ c, x ∈ List.range (n + 1) := fun x hx => List.mem_range.mpr (by have := h.le x hx; omega)
  have hn : c.Nodup := h.srt.imp fun h => Nat.ne_of_lt h
  have := List.Nodup.length_le_of_subset hn hs
  rw [List.length_range] at this
  exact this
/-- the key is held on a loop, of a joined town on all -/
def LSt.holdAt (L : LSt) (i : Nat) : LSt := { L with held := if L.joined then L.held.map (fun _ => 2) else L.held.set i 2 }
def LSt.holdAll (L : LSt) : LSt := { L with held := L.held.map (fun _ => 2) }
section
variable {S : Sto} {n h : Nat} {L : LSt}
theorem LineAt.setHeld (H : LineAt S n h L) {l : List Int} (hl : l.length = L.k) : LineAt (S.set h (.lst false (iD l))) n h { L with held := l } := by
  have hlt := H.lt
  have hh := H.hh
  have o := H.ok
  have hk : 1 ≤ L.k := o.town.pos
  have g : ∀ m, m ≠ h → (S.set h (O.lst false (iD l)))[m]? = S[m]? := fun m hm => List.getElem?_set_ne (Ne.symm hm)
  refine ⟨by rw [g n (by omega)]; exact H.ob, by rw [g _ (by omega)]; exact H.st, by rw [g _ (by omega)]; exact H.rw_, by rw [g _ (by omega)]; exact H.ct, List.getElem?_set_self (by omega), fun j u hu => ?_, fun j u hu => ?_, H.hh, ⟨o.town, o.r1, o.r4, o.s1, o.s50, o.box, o.lc, hl, o.ln, o.lf, o.cut⟩⟩
  · have := get_of hu
    have h2 : L.near.length = L.k := o.ln
    have h3 : j < L.near.length := this
    rw [g _ (by omega)]
    exact H.nr j u hu
  · have := get_of hu
    have h2 : L.far.length = L.k := o.lf
    have h3 : j < L.far.length := this
    rw [g _ (by show n + 5 + L.k + j ≠ h; omega)]
    exact H.fr j u hu
theorem LineAt.setCut (H : LineAt S n h L) {i : Nat} {l : List (List Nat)} {c : List Nat} (hi : L.ls[i]? = some l) (hc : CutL l.length c) : LineAt (S.set (n + 3) (.lst false (cutsL (L.cuts.set i c)))) n h { L with cuts := L.cuts.set i c } := by
  have hlt := H.lt
  have hh := H.hh
  have o := H.ok
  have hk : 1 ≤ L.k := o.town.pos
  have hik := get_of hi
  have g : ∀ m, m ≠ n + 3 → (S.set (n + 3) (O.lst false (cutsL (L.cuts.set i c))))[m]? = S[m]? := fun m hm => List.getElem?_set_ne (Ne.symm hm)
  refine ⟨by rw [g n (by omega)]; exact H.ob, by rw [g _ (by omega)]; exact H.st, by rw [g _ (by omega)]; exact H.rw_, List.getElem?_set_self (by omega), by rw [g _ (by omega)]; exact H.hd, fun j u hu => by rw [g _ (by omega)]; exact H.nr j u hu, fun j u hu => by rw [g _ (by omega)]; exact H.fr j u hu, H.hh, ⟨o.town, o.r1, o.r4, o.s1, o.s50, o.box, by simp [o.lc]; rfl, o.lh, o.ln, o.lf, fun j m d hj hd => ?_⟩⟩
  have hj' : L.ls[j]? = some m := hj
  have hd' : (L.cuts.set i c)[j]? = some d := hd
  by_cases e : i = j
  · subst e
    rw [List.getElem?_set_self (by rw [o.lc]; exact hik)] at hd'
    cases hd'
    rw [hi] at hj'
    cases hj'
    exact hc
  · rw [List.getElem?_set_ne e] at hd'
    exact o.cut j m d hj' hd'
theorem set_mono {l : List Int} {i : Nat} (h : i < l.length) : ixN l.length (i : Int) = some i := by
  unfold ixN
  simp
  omega
theorem hold_ev (H : LineAt S n h L) (is : List Nat) (hz : ∀ i ∈ is, i < L.k) : sp_Line_hold [.ref n, .pl (ixsD is)] S = .ok .non (S.set h (.lst false (iD (is.foldl (fun l i => l.set i 2) L.held)))) := by
  have o := H.ok
  have hflen : ∀ (is : List Nat) (l : List Int), (is.foldl (fun l i => l.set i 2) l).length = l.length := by
    intro is
    induction is with
    | nil => intro l; rfl
    | cons a r ih => intro l; rw [List.foldl_cons, ih, List.length_set]
  have LL := for_nx (g := noG) (tg := tN 2) (b := sSetIx (eFld 0 "held" (eVar 0)) (eVar 2) (eC (.int 2))) (items := ixsD is) (ρ := [some (.ref n), some (.pl (ixsD is)), none]) (S := S)
    (fun i ρ S' => S' = S.set h (.lst false (iD ((is.take i).foldl (fun l i => l.set i 2) L.held))) ∧ ∃ y2, ρ = [some (.ref n), some (.pl (ixsD is)), y2])
    ⟨by
      obtain ⟨h1, h2⟩ := List.getElem?_eq_some_iff.mp H.hd
      rw [List.take_zero, List.foldl_nil, ← h2, List.set_getElem_self], _, rfl⟩ (fun _ _ _ _ => trivial) (by
      rintro i d ρ S' hd ⟨rfl, y2, rfl⟩
      unfold ixsD at hd
      rw [List.getElem?_map] at hd
      obtain ⟨j, hj, rfl⟩ := Option.map_eq_some_iff.mp hd
      have hjk := hz j (List.mem_of_getElem? hj)
      have hlen : ((is.take i).foldl (fun l i => l.set i 2) L.held).length = L.k := by rw [hflen]; exact o.lh
      have H' := H.setHeld hlen
      have hi := H'.ins
      have e1 := setIx_ev (d := .int 2) (i := (j : Int)) (j := j) H'.hd (by
        have := set_mono (l := (is.take i).foldl (fun l i => l.set i 2) L.held) (i := j) (by rw [hlen]; exact hjk)
        rw [iD_length]
        exact this)
      have e2 : (is.take (i + 1)).foldl (fun l i => l.set i 2) L.held = ((is.take i).foldl (fun l i => l.set i 2) L.held).set j 2 := by
        rw [List.take_add_one, hj, Option.toList_some, List.foldl_append] <;> rfl
      have e3 : ((iD ((is.take i).foldl (fun l i => l.set i 2) L.held)).set j (.int 2)) = iD ((is.take (i + 1)).foldl (fun l i => l.set i 2) L.held) := by
        rw [e2]
        unfold iD
        rw [List.map_set]
      have e4 : (S.set h (O.lst false (iD ((is.take i).foldl (fun l i => l.set i 2) L.held)))).set h (.lst false (iD ((is.take (i + 1)).foldl (fun l i => l.set i 2) L.held))) = S.set h (.lst false (iD ((is.take (i + 1)).foldl (fun l i => l.set i 2) L.held))) := List.set_set ..
      change setIx (.ref h) (.int (j : Int)) (.int 2) _ = some (List.set _ h (.lst false ((iD ((is.take i).foldl (fun l i => l.set i 2) L.held)).set j (.int 2)))) at e1
      rw [e3, e4] at e1
      change insOf _ (.ref n) = some (0, fL L.town n h L.k L.joined (L.ticks : Int)) at hi
      refine ⟨_, rfl, nx_of fun Q hQ => ?_⟩
      have hQ' := hQ [some (.ref n), some (.pl (ixsD is)), some (.int (j : Int))] _ ⟨rfl, _, rfl⟩
      generalize S.set h (O.lst false (iD ((is.take (i + 1)).foldl (fun l i => l.set i 2) L.held))) = T2 at *
      generalize S.set h (O.lst false (iD ((is.take i).foldl (fun l i => l.set i 2) L.held))) = T1 at *
      generalize L.town = tw at *
      generalize ixsD is = IS at *
      simp -implicitDefEqProofs [hi, e1]
      exact hQ')
  obtain ⟨ρ', S', e, rfl, y2, rfl⟩ := LL
  have hlen : (ixsD is).length = is.length := by simp [ixsD]
  rw [hlen, List.take_length] at e
  unfold sp_Line_hold m_Line_hold
  generalize ixsD is = IS at *
  simp -implicitDefEqProofs [e]
theorem set_all (l : List Int) : (List.range l.length).foldl (fun l i => l.set i 2) l = l.map fun _ => 2 := by
  have key : ∀ (k : Nat), k ≤ l.length → (List.range k).foldl (fun l i => l.set i 2) l = l.mapIdx fun j x => if j < k then 2 else x := by
    intro k
    induction k with
    | zero => intro _; apply List.ext_getElem?; intro j; simp
    | succ k ih =>
      intro hk
      rw [List.range_succ, List.foldl_append, ih (by omega)]
      apply List.ext_getElem?
      intro j
      simp only [List.foldl_cons, List.foldl_nil]
      rw [List.getElem?_set]
      by_cases e : k = j
      · subst e
        rw [if_pos rfl]
        have hk' : k < l.length := by omega
        simp [hk']
      · rw [if_neg e, List.getElem?_mapIdx, List.getElem?_mapIdx]
        cases l[j]? with
        | none => rfl
        | some x =>
          simp only [Option.map_some, Option.some.injEq]
          by_cases hj : j < k
          · rw [if_pos hj, if_pos (by omega)]
          · rw [if_neg hj, if_neg (by omega)]
  rw [key _ (Nat.le_refl _)]
  apply List.ext_getElem?
  intro j
  rw [List.getElem?_mapIdx, List.getElem?_map]
  cases hx : l[j]? with
  | none => rfl
  | some x => simp [get_of hx]
theorem rangeD_ixs (k : Nat) : rangeD 0 k = ixsD (List.range k) := by
  unfold rangeD ixsD
  apply List.map_congr_left
  intro i _
  simp
theorem holdFor_ev (H : LineAt S n h L) {i : Nat} (hi : i < L.k) : sp_Line_hold_for [.ref n, .int (i : Int)] S = .ok .non (S.set h (.lst false (iD (L.holdAt i).held))) := by
  have o := H.ok
  have hin := H.ins
  have h4 := o.town.len
  have hk4 : L.k ≤ 4 := h4
  have e1 := hold_ev H (List.range L.held.length) (fun j hj => by have := List.mem_range.mp hj; rw [o.lh] at this; exact this)
  rw [set_all, o.lh, ← rangeD_ixs] at e1
  have e2 := hold_ev H [i] (fun j hj => by rw [List.mem_singleton.mp hj]; exact hi)
  have e3 := lenD_ref H.hd
  rw [iD_length, o.lh] at e3
  have hw : WdL (L.k : Int) := wdl_of (by omega) (by omega)
  unfold LSt.holdAt
  unfold sp_Line_hold_for m_Line_hold_for
  have e2' : ixsD [i] = [D.int (i : Int)] := rfl
  rw [e2'] at e2
  generalize L.town = tw at *
  cases hj : L.joined with
  | true =>
    rw [hj] at hin
    simp -implicitDefEqProofs [hin, e3, hw, e1]
  | false =>
    rw [hj] at hin
    simp -implicitDefEqProofs [hin, sizeL, e2]
theorem LineAt.holdAt (H : LineAt S n h L) (i : Nat) : LineAt (S.set h (.lst false (iD (L.holdAt i).held))) n h (L.holdAt i) := H.setHeld (by
  unfold LSt.holdAt
  dsimp only
  split
  · rw [List.length_map]; exact H.ok.lh
  · rw [List.length_set]; exact H.ok.lh)
def LSt.cutAt (L : LSt) (i : Nat) (c : List Nat) : LSt := ({ L with cuts := L.cuts.set i c } : LSt).holdAt i
theorem LineAt.cutAt (H : LineAt S n h L) {i : Nat} {l : List (List Nat)} {c : List Nat} (hi : L.ls[i]? = some l) (hc : CutL l.length c) : ∃ S', sp_Line_hold_for [.ref n, .int (i : Int)] (S.set (n + 3) (.lst false (cutsL (L.cuts.set i c)))) = .ok .non S' ∧ LineAt S' n h (L.cutAt i c) ∧ Lch n h L.k S S' := by
  have H' := H.setCut hi hc
  have e := holdFor_ev H' (i := i) (get_of hi)
  exact ⟨_, e, H'.holdAt i, (Lch.refl.set (.inl ⟨by omega, by omega⟩)).set (.inr (.inl rfl))⟩
def LSt.jn (L : LSt) (b : Bool) : LSt := ({ L with joined := b } : LSt).holdAll
def LSt.pull (L : LSt) (ds : List Nat) : LSt := { L with bx := setF L.bx ds ((L.bx ds).pulled L.rounds) }
def LSt.wind (L : LSt) (ds : List Nat) : LSt := { L with bx := setF L.bx ds ((L.bx ds).wound L.spring) }
theorem linePull_at (H : LineAt S n h L) {ds : List Nat} (hd : ds ∈ L.F) : ∃ S', sp_Line_pull [.ref n, .str (numS ds)] S = .ok (.bl (decide ((L.bx ds).left = 0))) S' ∧ LineAt S' n h (L.pull ds) ∧ Lch n h L.k S S' := by
  refine ⟨_, linePull_ev H hd, H.setBx fun d hdF => ?_, Lch.refl.set (.inl ⟨by omega, by omega⟩)⟩
  unfold setF
  split
  · rename_i e; subst e; exact (H.ok.box d hdF).pulled _
  · exact H.ok.box d hdF
end
end CW

namespace CW
open PySem PySem.Spec PyProof.Rows L2 MM
def newL (ls : List (List (List Nat))) (r s : Int) : LSt := ⟨ls, r, s, fun _ => ⟨0, 0, s, none, 0⟩, List.replicate ls.length [], List.replicate ls.length 0, List.replicate ls.length [], List.replicate ls.length [], false, 0⟩
noncomputable def inB : MS := sSeq (sSetA (eFld 0 "states" (eVar 0)) (eVar 2) (eCall sp_new_box (aCons (eBin ixD (eVar 1) (eC (.int 2))) (aNil))))
  (sSetA (eFld 0 "rows" (eVar 0)) (eVar 2) (eCall sp_row_of (aCons (eVar 2) (aNil))))
def f3 (t : D) (n : Nat) : List (Str × D) := [("town", t), ("states", .ref (n + 1)), ("rows", .ref (n + 2))]
def f1 (t : D) : List (Str × D) := [("town", t)]
def f2 (t : D) (n : Nat) : List (Str × D) := [("town", t), ("states", .ref (n + 1))]
def f4 (t : D) (n : Nat) : List (Str × D) := [("town", t), ("states", .ref (n + 1)), ("rows", .ref (n + 2)), ("cut_rows", .ref (n + 3))]
def f5 (t : D) (n : Nat) : List (Str × D) := [("town", t), ("states", .ref (n + 1)), ("rows", .ref (n + 2)), ("cut_rows", .ref (n + 3)), ("held", .ref (n + 4))]
def f6 (t : D) (n k : Nat) : List (Str × D) := [("town", t), ("states", .ref (n + 1)), ("rows", .ref (n + 2)), ("cut_rows", .ref (n + 3)), ("held", .ref (n + 4)), ("near_rows", .pl (nearF n k))]
def f7 (t : D) (n k : Nat) : List (Str × D) := [("town", t), ("states", .ref (n + 1)), ("rows", .ref (n + 2)), ("cut_rows", .ref (n + 3)), ("held", .ref (n + 4)), ("near_rows", .pl (nearF n k)), ("far_rows", .pl (farF n k))]
def f8 (t : D) (n k : Nat) : List (Str × D) := [("town", t), ("states", .ref (n + 1)), ("rows", .ref (n + 2)), ("cut_rows", .ref (n + 3)), ("held", .ref (n + 4)), ("near_rows", .pl (nearF n k)), ("far_rows", .pl (farF n k)), ("joined", .bl false)]
theorem p1 {t : D} : putFD (Str.ofString "town") t [] = f1 t := rfl
theorem p2 {t : D} {n : Nat} : putFD (Str.ofString "states") (.ref (n + 1)) (f1 t) = f2 t n := rfl
theorem p3 {t : D} {n : Nat} : putFD (Str.ofString "rows") (.ref (n + 2)) (f2 t n) = f3 t n := rfl
theorem p4 {t : D} {n : Nat} : putFD (Str.ofString "cut_rows") (.ref (n + 3)) (f3 t n) = f4 t n := rfl
end CW

namespace CW
open PySem PySem.Spec PyProof.Rows L2 MM
/-- where a line stands: its object, its keys, how it stands -/
structure LnP where
  n : Nat
  h : Nat
  L : LSt
def LnP.cell (x : LnP) (i : Nat) : Prop := (x.n ≤ i ∧ i < x.n + 5 + 2 * x.L.k) ∨ i = x.h
structure Lns (S : Sto) (b : Nat) (K : List Nat) (X : List LnP) : Prop where
  bag : BagAt S b
  at_ : ∀ x ∈ X, LineAt S x.n x.h x.L
  nb : ∀ x ∈ X, ¬ x.cell b
  ap : ∀ (i j : Nat) x y, i ≠ j → X[i]? = some x → X[j]? = some y → ∀ c, x.cell c → ¬ y.cell c
  kp : ∀ i ∈ K, i < S.length ∧ i ≠ b ∧ ∀ x ∈ X, ¬ x.cell i
section
variable {S S' : Sto} {b : Nat} {K : List Nat} {X : List LnP}
theorem Lns.line (H : Lns S b K X) {i : Nat} {x : LnP} (h : X[i]? = some x) : LineAt S x.n x.h x.L := H.at_ x (List.mem_of_getElem? h)
theorem cell_lt {x : LnP} (H : LineAt S x.n x.h x.L) {c : Nat} (h : x.cell c) : c < S.length := by
  have := H.lt
  rcases h with h | h <;> omega
theorem Lns.none (hb : BagAt S b) : Lns S b [] [] := ⟨hb, by simp, by simp, by simp, by simp⟩
/-- things are made -/
theorem Lns.app (H : Lns S b K X) (T : Sto) : Lns (S ++ T) b K X ∧ ∀ i ∈ K, (S ++ T)[i]? = S[i]? := by
  refine ⟨⟨?_, fun x hx => (H.at_ x hx).app T, H.nb, H.ap, fun i hi => ?_⟩, fun i hi => List.getElem?_append_left (H.kp i hi).1⟩
  · obtain ⟨a, m, k, e, r⟩ := H.bag
    exact ⟨a, m, k, by rw [List.getElem?_append_left (get_of e)]; exact e, r⟩
  · have := H.kp i hi
    exact ⟨by simp; omega, this.2⟩
/-- what is kept may be written -/
theorem Lns.set (H : Lns S b K X) {i : Nat} (hi : i ∈ K) (o : O) : Lns (S.set i o) b K X := by
  have hk := H.kp i hi
  refine ⟨?_, fun x hx => (H.at_ x hx).keep fun j hj => List.getElem?_set_ne fun e => hk.2.2 x hx (by rw [e]; exact hj), H.nb, H.ap, fun j hj => by rw [List.length_set]; exact H.kp j hj⟩
  obtain ⟨a, m, k, e, r⟩ := H.bag
  exact ⟨a, m, k, by rw [List.getElem?_set_ne hk.2.1]; exact e, r⟩
/-- one more is kept -/
theorem Lns.keep (H : Lns S b K X) (o : O) : Lns (S ++ [o]) b (S.length :: K) X := by
  have H' := (H.app [o]).1
  refine ⟨H'.bag, H'.at_, H'.nb, H'.ap, fun i hi => ?_⟩
  rcases List.mem_cons.mp hi with rfl | hi
  · have hb := H.bag.lt
    exact ⟨by simp, by omega, fun x hx hc => Nat.lt_irrefl _ (cell_lt (H.at_ x hx) hc)⟩
  · exact H'.kp i hi
theorem Lns.fewer (H : Lns S b K X) {K' : List Nat} (h : ∀ i ∈ K', i ∈ K) : Lns S b K' X := ⟨H.bag, H.at_, H.nb, H.ap, fun i hi => H.kp i (h i hi)⟩
/-- one of the lines is changed -/
theorem Lns.chg (H : Lns S b K X) {i : Nat} {x : LnP} {h' : Nat} {L' : LSt} (hi : X[i]? = some x) (hL : LineAt S' x.n h' L') (w : Lch x.n x.h x.L.k S S') (hh : h' = x.h ∨ S.length ≤ h') (hk : L'.k = x.L.k) :
    Lns S' b K (X.set i ⟨x.n, h', L'⟩) ∧ ∀ i ∈ K, S'[i]? = S[i]? := by
  have hx := List.mem_of_getElem? hi
  have hlt := get_of hi
  have out : ∀ j, j < S.length → ¬ x.cell j → S'[j]? = S[j]? := fun j hj hc => w.2 j hj (by
    have : ¬ (x.n ≤ j ∧ j < x.n + 5 + 2 * x.L.k) := fun q => hc (.inl q)
    omega) fun q => hc (.inr q)
  have kp : ∀ j ∈ K, S'[j]? = S[j]? := fun j hj => out j (H.kp j hj).1 ((H.kp j hj).2.2 x hx)
  have hbl := H.bag.lt
  have mem : ∀ y ∈ X.set i ⟨x.n, h', L'⟩, y = ⟨x.n, h', L'⟩ ∨ ∃ j, j ≠ i ∧ X[j]? = some y := fun y hy => by
    obtain ⟨j, hj, e⟩ := List.getElem_of_mem hy
    have e' : (X.set i ⟨x.n, h', L'⟩)[j]? = some y := by rw [List.getElem?_eq_getElem hj, e]
    by_cases hji : i = j
    · subst hji
      rw [List.getElem?_set_self hlt] at e'
      exact .inl (Option.some.inj e').symm
    · rw [List.getElem?_set_ne hji] at e'
      exact .inr ⟨j, Ne.symm hji, e'⟩
  have new : ∀ c, LnP.cell ⟨x.n, h', L'⟩ c → x.cell c ∨ S.length ≤ c := fun c hc => by
    rcases hc with hc | hc
    · exact .inl (.inl (by rw [← hk]; exact hc))
    · have hc' : c = h' := hc
      rcases hh with hh | hh
      · exact .inl (.inr (by rw [hc', hh]))
      · exact .inr (by omega)
  refine ⟨⟨?_, fun y hy => ?_, fun y hy => ?_, fun j k y z hjk hy hz c hc hc2 => ?_, fun j hj => ?_⟩, kp⟩
  · obtain ⟨a, m, k, e, r⟩ := H.bag
    exact ⟨a, m, k, by rw [out b hbl (H.nb x hx)]; exact e, r⟩
  · rcases mem y hy with rfl | ⟨j, hji, e⟩
    · exact hL
    · have hy' := List.mem_of_getElem? e
      exact (H.at_ y hy').keep fun m hm => out m (cell_lt (H.at_ y hy') hm) fun q => H.ap j i y x hji e hi m hm q
  · rcases mem y hy with rfl | ⟨j, hji, e⟩
    · intro q
      rcases new b q with q | q
      · exact H.nb x hx q
      · omega
    · exact H.nb y (List.mem_of_getElem? e)
  · by_cases hj : i = j
    · subst hj
      rw [List.getElem?_set_self hlt] at hy
      rw [List.getElem?_set_ne hjk] at hz
      cases hy
      have hz' := List.mem_of_getElem? hz
      rcases new c hc with q | q
      · exact H.ap i k x z hjk hi hz c q hc2
      · have := cell_lt (H.at_ z hz') hc2
        omega
    · rw [List.getElem?_set_ne hj] at hy
      by_cases hk2 : i = k
      · subst hk2
        rw [List.getElem?_set_self hlt] at hz
        cases hz
        have hy' := List.mem_of_getElem? hy
        rcases new c hc2 with q | q
        · exact H.ap j i y x hjk hy hi c hc q
        · have := cell_lt (H.at_ y hy') hc
          omega
      · rw [List.getElem?_set_ne hk2] at hz
        exact H.ap j k y z hjk hy hz c hc hc2
  · have := H.kp j hj
    refine ⟨by have := w.1; omega, this.2.1, fun y hy => ?_⟩
    rcases mem y hy with rfl | ⟨m, hji, e⟩
    · intro q
      rcases new j q with q | q
      · exact this.2.2 x hx q
      · omega
    · exact this.2.2 y (List.mem_of_getElem? e)
/-- one line more -/
theorem Lns.more (H : Lns S b K X) {T : Sto} {L : LSt} (hL : LineAt (S ++ T) S.length (S.length + 4) L) : Lns (S ++ T) b K (X ++ [⟨S.length, S.length + 4, L⟩]) ∧ ∀ i ∈ K, (S ++ T)[i]? = S[i]? := by
  obtain ⟨H', kp⟩ := H.app T
  have hk : 1 ≤ L.k := hL.ok.town.pos
  have new : ∀ c, LnP.cell ⟨S.length, S.length + 4, L⟩ c → S.length ≤ c := fun c hc => by
    rcases hc with ⟨h, _⟩ | h
    · exact h
    · have h' : c = S.length + 4 := h
      omega
  have hbl := H.bag.lt
  refine ⟨⟨H'.bag, fun x hx => ?_, fun x hx => ?_, fun i j x y hij hx hy c hc hc2 => ?_, fun i hi => ?_⟩, kp⟩
  · rcases List.mem_append.mp hx with hx | hx
    · exact H'.at_ x hx
    · rw [List.mem_singleton.mp hx]; exact hL
  · rcases List.mem_append.mp hx with hx | hx
    · exact H.nb x hx
    · rw [List.mem_singleton.mp hx]
      intro q
      have := new b q
      omega
  · have old : ∀ {i : Nat} {x : LnP}, (X ++ [⟨S.length, S.length + 4, L⟩])[i]? = some x → X[i]? = some x ∨ (i = X.length ∧ x = ⟨S.length, S.length + 4, L⟩) := fun {i x} e => by
      by_cases hi : i < X.length
      · rw [List.getElem?_append_left hi] at e
        exact .inl e
      · rw [List.getElem?_append_right (by omega)] at e
        have : i - X.length = 0 := by
          have := get_of e
          simpa using this
        rw [this] at e
        exact .inr ⟨by omega, (Option.some.inj e).symm⟩
    rcases old hx with hx | ⟨hx, rfl⟩
    · rcases old hy with hy | ⟨hy, rfl⟩
      · exact H.ap i j x y hij hx hy c hc hc2
      · have h1 := cell_lt (H.at_ x (List.mem_of_getElem? hx)) hc
        have h2 := new c hc2
        omega
    · rcases old hy with hy | ⟨hy, rfl⟩
      · have h1 := cell_lt (H.at_ y (List.mem_of_getElem? hy)) hc2
        have h2 := new c hc
        omega
      · omega
  · have := H.kp i hi
    refine ⟨(H'.kp i hi).1, this.2.1, fun x hx => ?_⟩
    rcases List.mem_append.mp hx with hx | hx
    · exact this.2.2 x hx
    · rw [List.mem_singleton.mp hx]
      intro q
      have := new i q
      omega
end
section
variable {L : LSt} {i : Nat} {ds : List Nat}
theorem Taped.new {ls : List (List (List Nat))} {r s : Int} : (newL ls r s).Taped := by
  constructor
  · intro t ht
    have ht' : t ∈ List.replicate ls.length ([] : List Int) := ht
    rw [List.eq_of_mem_replicate ht'] <;> rfl
  · intro t ht
    have ht' : t ∈ List.replicate ls.length ([] : List Int) := ht
    rw [List.eq_of_mem_replicate ht'] <;> rfl
theorem Taped.pull (h : L.Taped) : (L.pull ds).Taped := h
theorem Taped.wind (h : L.Taped) : (L.wind ds).Taped := h
theorem Taped.holdAt (h : L.Taped) : (L.holdAt i).Taped := h
theorem Taped.cutAt {c : List Nat} (h : L.Taped) : (L.cutAt i c).Taped := h
theorem Taped.jn {b : Bool} (h : L.Taped) : (L.jn b).Taped := h
theorem putJ_long {t : List (List Int)} {k n : Nat} {g : Nat → Int} (hk : t.length ≤ k) (h : ∀ x ∈ t, x.length = n) : ∀ x ∈ putJ t k g, x.length = n + 1 := fun x hx => by
  obtain ⟨j, hj, e⟩ := List.getElem_of_mem hx
  have e' : (putJ t k g)[j]? = some x := by rw [List.getElem?_eq_getElem hj, e]
  rw [putJ_get] at e'
  obtain ⟨y, hy, rfl⟩ := Option.map_eq_some_iff.mp e'
  have := get_of hy
  rw [if_pos (by omega), List.length_append, h y (List.mem_of_getElem? hy)] <;> rfl
theorem Taped.tick (o : LOk L) (h : L.Taped) : L.tick.Taped := ⟨putJ_long (by show L.near.length ≤ L.k; rw [o.ln]; exact Nat.le_refl _) h.1, putJ_long (by show L.far.length ≤ L.k; rw [o.lf]; exact Nat.le_refl _) h.2⟩
end
end CW

namespace CW
open PySem PySem.Spec PyProof.Rows L2 MM
structure Bx.Ok (b : Bx) (R : Int) : Prop where
  l0 : 0 ≤ b.left
  s0 : 0 ≤ b.sent
  lr : b.left + b.sent ≤ R
  p0 : 0 ≤ b.spring
  q0 : 0 ≤ b.quiet
  q12 : b.quiet ≤ 12
  run : b.place ≠ none → 1 ≤ b.left ∧ 1 ≤ b.spring
  idle : b.left = 0 → b.sent = 0
theorem Bx.Ok.new {R s : Int} (hR : 0 ≤ R) (hs : 0 ≤ s) : Bx.Ok ⟨0, 0, s, none, 0⟩ R := ⟨by simp, by simp, by simpa using hR, hs, by simp, by simp, by simp, by simp⟩
theorem Bx.Ok.pulled {b : Bx} {R : Int} (h : b.Ok R) (hR : 1 ≤ R) : (b.pulled R).Ok R := by
  unfold Bx.pulled
  split
  · exact h
  · rename_i hl
    exact ⟨by dsimp only; omega, by simp, by dsimp only; omega, h.p0, h.q0, h.q12, fun q => absurd (h.run q).1 (by omega), fun q => rfl⟩
theorem Bx.Ok.wound {b : Bx} {R s : Int} (h : b.Ok R) (hs : 1 ≤ s) : (b.wound s).Ok R := ⟨h.l0, h.s0, h.lr, by show 0 ≤ s; omega, h.q0, h.q12, fun q => ⟨(h.run q).1, hs⟩, h.idle⟩
theorem Bx.Ok.started {b : Bx} {R : Int} (h : b.Ok R) : b.started.Ok R := by
  unfold Bx.started
  split
  · rename_i hc
    exact ⟨h.l0, h.s0, h.lr, h.p0, h.q0, h.q12, fun _ => ⟨by dsimp only; omega, by dsimp only; omega⟩, h.idle⟩
  · exact h
theorem qBehind_bd {q : Int} {k : Bool} (h : 0 ≤ q) : 0 ≤ qBehind q k ∧ qBehind q k ≤ 12 := by
  unfold qBehind
  split <;> omega
theorem Bx.Ok.behind {b : Bx} {R : Int} {r : List Int} {k : Bool} (h : b.Ok R) : (b.behind r k).Ok R := by
  obtain ⟨q1, q2⟩ := qBehind_bd (k := k) h.q0
  unfold Bx.behind
  split
  · rename_i hp
    exact ⟨h.l0, h.s0, h.lr, h.p0, q1, q2, fun q => absurd rfl q, h.idle⟩
  · rename_i i hp
    have hr := h.run (by rw [hp]; simp)
    have := h.lr
    have := h.s0
    split
    · exact ⟨h.l0, h.s0, h.lr, h.p0, q1, q2, fun q => absurd rfl q, h.idle⟩
    · split
      · split
        · exact ⟨by simp, by simp, by dsimp only; omega, by dsimp only; omega, q1, q2, fun q => absurd rfl q, fun _ => rfl⟩
        · exact ⟨by dsimp only; omega, by dsimp only; omega, by dsimp only; omega, by dsimp only; omega, q1, q2, fun q => absurd rfl q, fun q => by dsimp only at q; omega⟩
      · exact ⟨h.l0, h.s0, h.lr, h.p0, q1, q2, fun _ => hr, h.idle⟩
def LSt.Good (L : LSt) : Prop := ∀ ds ∈ L.F, (L.bx ds).Ok L.rounds
section
variable {L : LSt} {i : Nat} {ds : List Nat}
theorem Good.new {ls : List (List (List Nat))} {r s : Int} (hr : 0 ≤ r) (hs : 0 ≤ s) : (newL ls r s).Good := fun _ _ => Bx.Ok.new hr hs
theorem Good.pull (h : L.Good) (hR : 1 ≤ L.rounds) : (L.pull ds).Good := fun d hd => by
  show (setF L.bx ds _ d).Ok _
  unfold setF
  split
  · rename_i e
    subst e
    exact (h d hd).pulled hR
  · exact h d hd
theorem Good.wind (h : L.Good) (hs : 1 ≤ L.spring) : (L.wind ds).Good := fun d hd => by
  show (setF L.bx ds _ d).Ok _
  unfold setF
  split
  · rename_i e
    subst e
    exact (h d hd).wound hs
  · exact h d hd
theorem Good.holdAt (h : L.Good) : (L.holdAt i).Good := h
theorem Good.cutAt {c : List Nat} (h : L.Good) : (L.cutAt i c).Good := h
theorem Good.jn {b : Bool} (h : L.Good) : (L.jn b).Good := h
theorem Good.tick (h : L.Good) : L.tick.Good := fun d hd => ((h d hd).started).behind
end
end CW

namespace CW
open PySem PySem.Spec PyProof.Rows L2 MM
structure Bg where
  a : Int
  m : Int
  k : Int
def bgO (B : Bg) : O := .lst false [.int B.a, .int B.m, .int B.k]
def Bg.Ok (B : Bg) : Prop := 0 ≤ B.a ∧ 0 ≤ B.m ∧ B.m < 2147483629 ∧ 0 ≤ B.k ∧ B.k < 11
theorem bag_iff {S : Sto} {b : Nat} : BagAt S b ↔ ∃ B : Bg, S[b]? = some (bgO B) ∧ B.Ok := ⟨fun ⟨a, m, k, e, r⟩ => ⟨⟨a, m, k⟩, e, r⟩, fun ⟨B, e, r⟩ => ⟨B.a, B.m, B.k, e, r⟩⟩
/-- a law's own book of a line: its cuts, whether it is joined, how long the key is held yet -/
structure HereAt (S : Sto) (q c hl : Nat) (L : LSt) : Prop where
  ob : S[q]? = some (.lst false [.ref c, .bl L.joined, .ref hl])
  ct : S[c]? = some (.lst false (cutsL L.cuts))
  hd : S[hl]? = some (.lst false (iD L.held))
  qc : q ≠ c
  qh : q ≠ hl
  ch : c ≠ hl
theorem HereAt.keep {S S' : Sto} {q c hl : Nat} {L L' : LSt} (h : HereAt S q c hl L) (hq : S'[q]? = S[q]?) (hc : S'[c]? = S[c]?) (hh : S'[hl]? = S[hl]?) (e : L'.joined = L.joined ∧ L'.cuts = L.cuts ∧ L'.held = L.held) : HereAt S' q c hl L' :=
  ⟨by rw [hq, e.1]; exact h.ob, by rw [hc, e.2.1]; exact h.ct, by rw [hh, e.2.2]; exact h.hd, h.qc, h.qh, h.ch⟩
/-- what a deed does -/
inductive Acts (L : LSt) : LSt → Prop
  | pull {ds : List Nat} : ds ∈ L.F → Acts L (L.pull ds)
  | wind {ds : List Nat} : ds ∈ L.F → Acts L (L.wind ds)
  | mend {i s : Nat} {l : List (List Nat)} {c : List Nat} : L.ls[i]? = some l → L.cuts[i]? = some c → s ∈ c → Acts L (L.cutAt i (mendN c s))
  | cut {i s : Nat} {l : List (List Nat)} {c : List Nat} : L.ls[i]? = some l → L.cuts[i]? = some c → s ≤ l.length → s ∉ c → Acts L (L.cutAt i (cutN c s))
  | jn : Acts L (L.jn (!L.joined))
  | hold {i : Nat} : i < L.k → Acts L (L.holdAt i)
theorem Acts.same {L L' : LSt} (h : Acts L L') : L'.ls = L.ls ∧ L'.rounds = L.rounds ∧ L'.spring = L.spring ∧ L'.ticks = L.ticks ∧ L'.near = L.near ∧ L'.far = L.far := by
  cases h <;> exact ⟨rfl, rfl, rfl, rfl, rfl, rfl⟩
theorem Acts.good {L L' : LSt} (h : Acts L L') (o : LOk L) (g : L.Good) : L'.Good := by
  cases h with
  | pull _ => exact Good.pull g o.r1
  | wind _ => exact Good.wind g o.s1
  | mend _ _ _ => exact Good.cutAt g
  | cut _ _ _ _ => exact Good.cutAt g
  | jn => exact Good.jn g
  | hold _ => exact Good.holdAt g
section
variable {S : Sto} {b : Nat} {K : List Nat} {X : List LnP} {w : Nat} {x : LnP} {q c hl : Nat} {hv : List Int}
end
section
variable {S : Sto} {b : Nat} {K : List Nat} {X : List LnP} {w : Nat} {x : LnP} {q c hl : Nat} {hv : List Int}
end
section
variable {S : Sto} {b : Nat} {K : List Nat} {X : List LnP} {w : Nat} {x : LnP} {q c hl : Nat} {hv : List Int}
end
end CW

namespace CW
open PySem PySem.Spec PyProof.Rows L2 MM
/-- another of the bags is the one that is drawn from -/
theorem Lns.swap {S : Sto} {b t : Nat} {K : List Nat} {X : List LnP} (H : Lns S b K X) (ht : t ∈ K) {B : Bg} (hb : S[t]? = some (bgO B)) (hB : B.Ok) : Lns S t (b :: K.filter fun i => decide (i ≠ t)) X := by
  have hk := H.kp t ht
  refine ⟨bag_iff.mpr ⟨B, hb, hB⟩, H.at_, hk.2.2, H.ap, fun i hi => ?_⟩
  rcases List.mem_cons.mp hi with rfl | hi
  · exact ⟨H.bag.lt, fun e => hk.2.1 e.symm, H.nb⟩
  · obtain ⟨h1, h2⟩ := List.mem_filter.mp hi
    have := H.kp i h1
    exact ⟨this.1, by simpa using h2, this.2.2⟩
/-- where the books, the other bag and what else is kept stand -/
structure Tw0 (S : Sto) (b t : Nat) (K O : List Nat) (n1 n2 h1 h2 : Nat) (L1 L2 : LSt) (B1 B2 : Bg) (q1 c1 l1 q2 c2 l2 : Nat) : Prop where
  lns : Lns S b K [⟨n1, h1, L1⟩, ⟨n2, h2, L2⟩]
  e1 : ∃ v : List Int, HereAt S q1 c1 l1 { L1 with held := v } ∧ v.length = L1.k
  e2 : ∃ v : List Int, HereAt S q2 c2 l2 { L2 with held := v } ∧ v.length = L2.k
  k1 : q1 ∈ K ∧ c1 ∈ K ∧ l1 ∈ K
  k2 : q2 ∈ K ∧ c2 ∈ K ∧ l2 ∈ K
  kt : t ∈ K
  ko : ∀ i ∈ O, i ∈ K ∧ i ≠ t ∧ i ≠ q1 ∧ i ≠ c1 ∧ i ≠ l1 ∧ i ≠ q2 ∧ i ≠ c2 ∧ i ≠ l2
  bb : S[b]? = some (bgO B1)
  bt : S[t]? = some (bgO B2)
  ok1 : B1.Ok
  ok2 : B2.Ok
  ne : (t ≠ q1 ∧ t ≠ c1 ∧ t ≠ l1) ∧ (t ≠ q2 ∧ t ≠ c2 ∧ t ≠ l2) ∧ (q2 ≠ q1 ∧ q2 ≠ c1 ∧ q2 ≠ l1) ∧ (c2 ≠ q1 ∧ c2 ≠ c1 ∧ c2 ≠ l1) ∧ (l2 ≠ q1 ∧ l2 ≠ c1 ∧ l2 ≠ l1)
section
variable {S : Sto} {b t : Nat} {K O : List Nat} {n1 n2 h1 h2 : Nat} {L1 L2 L : LSt} {B1 B2 B : Bg} {q1 c1 l1 q2 c2 l2 : Nat}
/-- the other way round -/
theorem Tw0.swap (T : Tw0 S b t K O n1 n2 h1 h2 L1 L2 B1 B2 q1 c1 l1 q2 c2 l2) : ∃ K', Lns S t K' [⟨n1, h1, L1⟩, ⟨n2, h2, L2⟩] ∧ b ∈ K' ∧ (∀ i ∈ K, i ≠ t → i ∈ K') := by
  refine ⟨_, T.lns.swap T.kt T.bt T.ok2, by simp, fun i hi hit => List.mem_cons_of_mem _ (List.mem_filter.mpr ⟨hi, by simpa using hit⟩)⟩
end
section
variable {S : Sto} {b t : Nat} {K O : List Nat} {n1 n2 h1 h2 : Nat} {L1 L2 L : LSt} {B1 B2 B : Bg} {q1 c1 l1 q2 c2 l2 : Nat}
theorem Tw0.app (T : Tw0 S b t K O n1 n2 h1 h2 L1 L2 B1 B2 q1 c1 l1 q2 c2 l2) (U : Sto) : Tw0 (S ++ U) b t K O n1 n2 h1 h2 L1 L2 B1 B2 q1 c1 l1 q2 c2 l2 ∧ (∀ i ∈ K, (S ++ U)[i]? = S[i]?) := by
  obtain ⟨H, k⟩ := T.lns.app U
  refine ⟨⟨H, T.e1.imp fun v E => ⟨E.1.keep (k _ T.k1.1) (k _ T.k1.2.1) (k _ T.k1.2.2) ⟨rfl, rfl, rfl⟩, E.2⟩, T.e2.imp fun v E => ⟨E.1.keep (k _ T.k2.1) (k _ T.k2.2.1) (k _ T.k2.2.2) ⟨rfl, rfl, rfl⟩, E.2⟩, T.k1, T.k2, T.kt, T.ko, ?_, by rw [k _ T.kt]; exact T.bt, T.ok1, T.ok2, T.ne⟩, k⟩
  rw [List.getElem?_append_left T.lns.bag.lt]
  exact T.bb
end
section
variable {S : Sto} {b : Nat} {K : List Nat} {n1 n2 : Nat} {L1 L2 : LSt}
end
end CW

namespace CW
open PySem PySem.Spec PyProof.Rows L2 MM
theorem fold_none {v : List (List Nat) → Bool} {ds : List Nat} : ∀ (ps : List (List (List Nat))) (f : List Nat → Bool), (∀ p ∈ ps, ds ∉ p) → (ps.foldl (fun f p => fun d => if d ∈ p then v p else f d) f) ds = f ds
  | [], f, _ => rfl
  | p :: ps, f, h => by
    rw [List.foldl_cons, fold_none ps _ fun q hq => h q (by simp [hq])]
    exact if_neg (h p (by simp))
theorem parts_of {tw : List (List (List Nat) × List Nat)} {p : List (List Nat)} (hp : p ∈ allParts tw) : ∃ x ∈ tw, ∀ ds ∈ p, ds ∈ x.1 := by
  unfold allParts at hp
  obtain ⟨x, hx, hq⟩ := List.mem_flatMap.mp hp
  refine ⟨x, hx, fun ds hd => ?_⟩
  unfold partsL at hq
  split at hq
  · rw [List.mem_singleton.mp hq] at hd; exact hd
  · simp at hq
    rcases hq with rfl | rfl
    · exact near_sub ds hd
    · exact far_sub ds hd
theorem near_far {n : Nat} {l : List (List Nat)} {c : List Nat} (hl : l.Nodup) (hc : CutL n c) (h0 : c ≠ []) {ds : List Nat} (h : ds ∈ nearL l c) : ds ∉ farL l c := by
  intro h2
  have hs := hc.srt
  cases c with
  | nil => exact h0 rfl
  | cons a r =>
    unfold farL at h2
    split at h2
    · rename_i hn
      simp at hn
    · rename_i z hz
      have h1 : ds ∈ l.take a := h
      have hz' := List.mem_of_getLast? hz
      have haz : a ≤ z := by
        rcases List.mem_cons.mp hz' with rfl | hz'
        · exact Nat.le_refl _
        · exact Nat.le_of_lt ((List.pairwise_cons.mp hs).1 z hz')
      have h3 : ds ∈ l.drop a := by
        rw [show l.drop z = (l.drop a).drop (z - a) by rw [List.drop_drop]; congr 1; omega] at h2
        exact List.mem_of_mem_drop h2
      have := (List.nodup_append.mp (by rw [List.take_append_drop]; exact hl : (l.take a ++ l.drop a).Nodup)).2.2 ds h1 ds h3
      exact this rfl
section
variable {L : LSt}
theorem lop_at (o : LOk L) {i : Nat} {l : List (List Nat)} (hi : L.ls[i]? = some l) {p : List (List Nat)} (hp : ∀ ds ∈ p, ds ∈ l) (h0 : p ≠ []) : L.lop p = i := by
  cases p with
  | nil => exact absurd rfl h0
  | cons d r =>
    obtain ⟨j, hj, e⟩ := List.getElem_of_mem (hp d (by simp))
    have := spot_at o.town.nd hi (show l[j]? = some d by rw [List.getElem?_eq_getElem hj, e])
    unfold LSt.lop
    simp only [this]
theorem loop_nodup (o : LOk L) {i : Nat} {l : List (List Nat)} (hi : L.ls[i]? = some l) : l.Nodup := by
  have := o.town.nd
  obtain ⟨s, t, e⟩ := List.append_of_mem (List.mem_of_getElem? hi)
  rw [e, List.flatten_append, List.flatten_cons] at this
  exact (List.nodup_append.mp (List.nodup_append.mp this).2.1).1
theorem felt_at (o : LOk L) (hj : L.joined = false) {i : Nat} {l : List (List Nat)} {c : List Nat} {hv : Int} (hi : L.ls[i]? = some l) (hc : L.cuts[i]? = some c) (hh : L.held[i]? = some hv) {ds : List Nat} (hd : ds ∈ l) :
    L.felt ds = if ds ∈ nearL l c then (L.pb (nearL l c) || decide (0 < hv)) else if ds ∈ farL l c then (L.pb (farL l c) || decide (0 < hv)) else true := by
  have hx : L.tw[i]? = some (l, c) := by
    unfold LSt.tw
    rw [List.getElem?_zip_eq_some]
    exact ⟨hi, hc⟩
  obtain ⟨hlt, he⟩ := List.getElem?_eq_some_iff.mp hx
  have hsplit : L.tw = L.tw.take i ++ (l, c) :: L.tw.drop (i + 1) := by
    conv => lhs; rw [← List.take_append_drop i L.tw, List.drop_eq_getElem_cons hlt, he]
  have hparts : L.parts = allParts (L.tw.take i) ++ (partsL l c ++ allParts (L.tw.drop (i + 1))) := by
    unfold LSt.parts
    rw [hj]
    simp only [Bool.false_eq_true, if_false]
    conv => lhs; rw [hsplit]
    simp [allParts]
  have hnd : (L.tw.map (·.1)).flatten.Nodup := by rw [tw_fst o]; exact o.town.nd
  rw [hsplit, List.map_append, List.map_cons, List.flatten_append, List.flatten_cons] at hnd
  obtain ⟨n1, n2, n3⟩ := List.nodup_append.mp hnd
  obtain ⟨m1, m2, m3⟩ := List.nodup_append.mp n2
  have pre : ∀ p ∈ allParts (L.tw.take i), ds ∉ p := fun p hp q => by
    obtain ⟨x, hx, hs⟩ := parts_of hp
    exact n3 ds (List.mem_flatten.mpr ⟨x.1, List.mem_map.mpr ⟨x, hx, rfl⟩, hs ds q⟩) ds (List.mem_append_left _ hd) rfl
  have post : ∀ p ∈ allParts (L.tw.drop (i + 1)), ds ∉ p := fun p hp q => by
    obtain ⟨x, hx, hs⟩ := parts_of hp
    exact m3 ds hd ds (List.mem_flatten.mpr ⟨x.1, List.mem_map.mpr ⟨x, hx, rfl⟩, hs ds q⟩) rfl
  have hpk : ∀ p, (∀ d ∈ p, d ∈ l) → p ≠ [] → L.pbk p = (L.pb p || decide (0 < hv)) := fun p hp h0 => by
    unfold LSt.pbk
    rw [lop_at o hi hp h0, List.getD_eq_getElem?_getD, hh] <;> rfl
  unfold LSt.felt
  rw [hparts, List.foldl_append, List.foldl_append, fold_none _ _ post]
  have h0 := fold_none (v := L.pbk) (allParts (L.tw.take i)) (fun _ => true) pre
  generalize (allParts (L.tw.take i)).foldl (fun f p => fun d => if d ∈ p then L.pbk p else f d) (fun _ => true) = f0 at h0
  have hcl := o.cut i l c hi hc
  cases c with
  | nil =>
    have hn : nearL l [] = l := rfl
    show (if ds ∈ l then L.pbk l else f0 ds) = _
    rw [hn, if_pos hd, if_pos hd]
    exact hpk l (fun d h => h) (fun e => by rw [e] at hd; cases hd)
  | cons a r =>
    have hpl : partsL l (a :: r) = [nearL l (a :: r), farL l (a :: r)] := rfl
    rw [hpl]
    show (if ds ∈ farL l (a :: r) then L.pbk (farL l (a :: r)) else if ds ∈ nearL l (a :: r) then L.pbk (nearL l (a :: r)) else f0 ds) = _
    by_cases hn : ds ∈ nearL l (a :: r)
    · rw [if_neg (near_far (loop_nodup o hi) hcl (by simp) hn), if_pos hn, if_pos hn]
      exact hpk _ (fun d h => near_sub d h) (fun e => by rw [e] at hn; cases hn)
    · rw [if_neg hn, if_neg hn]
      by_cases hf : ds ∈ farL l (a :: r)
      · rw [if_pos hf, if_pos hf]
        exact hpk _ (fun d h => far_sub d h) (fun e => by rw [e] at hf; cases hf)
      · rw [if_neg hf, if_neg hf]
        exact h0
/-- all boxes that are not dumb -/
def LSt.live (L : LSt) : List (List Nat) := (allParts L.tw).flatten
theorem felt_joined (hj : L.joined = true) (ds : List Nat) : L.felt ds = if ds ∈ L.live then L.pbk L.live else true := by
  unfold LSt.felt LSt.parts
  rw [hj] <;> rfl
end
/-- a stroke is followed by a closed tick -/
theorem stroke_next : ∀ (ds : List Nat) (k : Nat), (rowN ds)[k]? = some 1 → k + 1 < (rowN ds).length ∧ (rowN ds)[k + 1]? = some 0 := by
  have st : ∀ (d k : Nat), (strokes d)[k]? = some 1 → (strokes d)[k + 1]? = some 0 := by
    intro d
    induction d with
    | zero => intro k h; simp [strokes] at h
    | succ d ih =>
      intro k h
      have e : strokes (d + 1) = 1 :: 0 :: strokes d := by
        unfold strokes
        rw [List.replicate_succ, List.flatten_cons] <;> rfl
      rw [e] at h ⊢
      match k, h with
      | 0, _ => rfl
      | 1, h => simp at h
      | k + 2, h => exact ih k (by simpa using h)
  have fg : ∀ (ds : List Nat) (k : Nat), (figsR ds)[k]? = some 1 → (figsR ds)[k + 1]? = some 0 := by
    intro ds
    induction ds with
    | nil => intro k h; simp [figsR] at h
    | cons d ds ih =>
      intro k h
      rw [figsR_cons] at h ⊢
      unfold figR at h ⊢
      by_cases h1 : k < (strokes d).length
      · rw [List.append_assoc, List.getElem?_append_left h1] at h
        have := st d k h
        rw [List.append_assoc, List.getElem?_append_left (get_of this)]
        exact this
      · by_cases h2 : k < (strokes d ++ [0, 0]).length
        · exfalso
          rw [List.getElem?_append_left h2, List.getElem?_append_right (by omega)] at h
          have h3 : k - (strokes d).length < 2 := by simp at h2; omega
          have : k - (strokes d).length = 0 ∨ k - (strokes d).length = 1 := by omega
          rcases this with e | e <;> rw [e] at h <;> simp at h
        · rw [List.getElem?_append_right (by omega)] at h
          rw [List.getElem?_append_right (by omega), show k + 1 - (strokes d ++ [(0 : Int), 0]).length = k - (strokes d ++ [(0 : Int), 0]).length + 1 by omega]
          exact ih _ h
  intro ds k h
  unfold rowN at h ⊢
  by_cases h1 : k < (figsR ds).length
  · rw [List.getElem?_append_left h1] at h
    have := fg ds k h
    have hl := get_of this
    exact ⟨by simp; omega, by rw [List.getElem?_append_left hl]; exact this⟩
  · exfalso
    rw [List.getElem?_append_right (by omega)] at h
    have h3 := get_of h
    simp at h3
    have : k - (figsR ds).length = 0 ∨ k - (figsR ds).length = 1 := by omega
    rcases this with e | e <;> rw [e] at h <;> simp at h
theorem qaft_zeros : ∀ (n q : Nat), qaft q (List.replicate n 0) = q + n
  | 0, q => rfl
  | n + 1, q => by
    rw [List.replicate_succ]
    unfold qaft
    rw [if_pos rfl, qaft_zeros n (q + 1)]
    omega
theorem zeros_of {l : List Int} (h : ∀ x ∈ l, x = 0) : l = List.replicate l.length 0 := by
  induction l with
  | nil => rfl
  | cons a r ih =>
    rw [h a (by simp), List.length_cons, List.replicate_succ, ← ih fun x hx => h x (by simp [hx])]
/-- no five closed ticks stand at the end of what has run of a row -/
theorem run_tail {ds : List Nat} (h : GoodN ds) {k : Nat} (h1 : 1 ≤ k) (hk : k < (rowN ds).length) {t : List Int} (hkt : k ≤ t.length) (e : t.drop (t.length - k) = (rowN ds).take k) {q : Nat} (hq : 5 ≤ q) (hqt : q ≤ t.length) (hz : ∀ x ∈ t.drop (t.length - q), x = 0) : False := by
  obtain ⟨_, h2, r, h3⟩ := part_calm h h1 hk
  by_cases hkq : k ≤ q
  · have : (1 : Int) ∈ t.drop (t.length - q) := by
      have h4 : t.drop (t.length - k) = (t.drop (t.length - q)).drop (q - k) := by rw [List.drop_drop]; congr 1; omega
      rw [e, h3] at h4
      have : (1 : Int) ∈ (t.drop (t.length - q)).drop (q - k) := by rw [← h4]; simp
      exact List.mem_of_mem_drop this
    have := hz 1 this
    omega
  · have h4 : t.drop (t.length - q) = (t.drop (t.length - k)).drop (k - q) := by rw [List.drop_drop]; congr 1; omega
    rw [e] at h4
    have h5 : (rowN ds).take k = ((rowN ds).take k).take (k - q) ++ List.replicate q 0 := by
      conv => lhs; rw [← List.take_append_drop (k - q) ((rowN ds).take k), ← h4]
      congr 1
      have := zeros_of hz
      rw [List.length_drop, show t.length - (t.length - q) = q by omega] at this
      exact this
    rw [h5, qaft_app, qaft_zeros] at h2
    omega
/-- how it stands with the boxes of a part whose tape is t, where the key is not held -/
structure PartOk (bx : List Nat → Bx) (p : List (List Nat)) (t : List Int) : Prop where
  run : ∀ ds ∈ p, ∀ i, (bx ds).place = some i → ∃ k : Nat, i = (k : Int) ∧ 1 ≤ k ∧ k ≤ t.length ∧ t.drop (t.length - k) = (rowN ds).take k
  one : ∀ ds ∈ p, ∀ es ∈ p, (bx ds).place ≠ none → (bx es).place ≠ none → (bx ds).place = (bx es).place
  qt : ∀ ds ∈ p, ∃ k : Nat, (bx ds).quiet = (k : Int) ∧ k ≤ t.length ∧ ∀ x ∈ t.drop (t.length - k), x = 0
theorem PartOk.congr {bx by_ : List Nat → Bx} {p : List (List Nat)} {t : List Int} (h : PartOk bx p t) (e : ∀ ds ∈ p, (by_ ds).place = (bx ds).place ∧ (by_ ds).quiet = (bx ds).quiet) : PartOk by_ p t :=
  ⟨fun ds hd i hi => h.run ds hd i (by rw [← (e ds hd).1]; exact hi), fun ds hd es he h1 h2 => by rw [(e ds hd).1, (e es he).1] at *; exact h.one ds hd es he h1 h2, fun ds hd => by rw [(e ds hd).2]; exact h.qt ds hd⟩
theorem Bx.started_cases (b : Bx) : b.started = b ∨ (b.place = none ∧ 8 + b.sent ≤ b.quiet ∧ b.started.place = some 0) := by
  unfold Bx.started
  split
  · rename_i h
    exact .inr ⟨h.1, h.2.2.2, rfl⟩
  · exact .inl rfl
theorem Bx.started_quiet (b : Bx) : b.started.quiet = b.quiet := by
  unfold Bx.started
  split <;> rfl
theorem Bx.behind_quiet (b : Bx) (r : List Int) (k : Bool) : (b.behind r k).quiet = qBehind b.quiet k := by
  unfold Bx.behind
  split
  · rfl
  · split
    · rfl
    · split
      · split <;> rfl
      · rfl
/-- what runs on behind a tick -/
theorem Bx.behind_place {b : Bx} {r : List Int} {k : Bool} {i : Int} (h : (b.behind r k).place = some i) : ∃ j, b.place = some j ∧ i = j + 1 ∧ ¬ (k = true ∧ b.brk r = false) ∧ j + 1 ≠ r.length := by
  unfold Bx.behind at h
  split at h
  · cases h
  · rename_i j hj
    split at h
    · cases h
    · rename_i h1
      split at h
      · split at h <;> cases h
      · rename_i h2
        cases h
        exact ⟨j, hj, rfl, h1, h2⟩
theorem PartOk.tick {bx : List Nat → Bx} {p : List (List Nat)} {t : List Int} (P : PartOk bx p t) (hG : ∀ ds ∈ p, GoodN ds) (hIn : ∀ ds ∈ p, (bx ds).In (rowN ds)) (hS : ∀ ds ∈ p, 0 ≤ (bx ds).sent) {br : Bool} (hbr : br = p.any fun ds => ((bx ds).started).brk (rowN ds)) :
    PartOk (fun ds => ((bx ds).started).behind (rowN ds) br) p (t ++ [if br = true then 1 else 0]) := by
  have A : ∀ ds ∈ p, ∀ es ∈ p, (bx es).place ≠ none → (bx ds).started = bx ds := fun ds hd es he hn => by
    rcases Bx.started_cases (bx ds) with h | ⟨_, h2, _⟩
    · exact h
    · exfalso
      obtain ⟨i, hi⟩ := Option.ne_none_iff_exists'.mp hn
      obtain ⟨k, rfl, k1, k2, k3⟩ := P.run es he i hi
      obtain ⟨q, e1, e2, e3⟩ := P.qt ds hd
      have := hS ds hd
      have hin := hIn es he _ hi
      exact run_tail (hG es he) k1 (by omega) k2 k3 (q := q) (by omega) e2 e3
  have hlen : (t ++ [if br = true then (1 : Int) else 0]).length = t.length + 1 := by simp
  have ev : ∀ k : Nat, k ≤ t.length → (t ++ [if br = true then (1 : Int) else 0]).drop ((t ++ [if br = true then (1 : Int) else 0]).length - (k + 1)) = t.drop (t.length - k) ++ [if br = true then 1 else 0] := fun k hk => by
    rw [hlen, show t.length + 1 - (k + 1) = t.length - k by omega, List.drop_append_of_le_length (by omega)]
  refine ⟨fun ds hd i hi => ?_, fun ds hd es he h1 h2 => ?_, fun ds hd => ?_⟩
  · obtain ⟨j, hj, rfl, hnb, hne⟩ := Bx.behind_place hi
    rcases Bx.started_cases (bx ds) with h | ⟨h0, _, h2⟩
    · rw [h] at hj hnb
      obtain ⟨k, rfl, k1, k2, k3⟩ := P.run ds hd j hj
      have hin := hIn ds hd _ hj
      have hkl : k < (rowN ds).length := by omega
      refine ⟨k + 1, by omega, by omega, by rw [hlen]; omega, ?_⟩
      rw [ev k k2, k3, List.take_succ, List.getElem?_eq_getElem hkl]
      congr 1
      show [if br = true then (1 : Int) else 0] = [(rowN ds)[k]]
      congr 1
      have hbk : (bx ds).brk (rowN ds) = decide ((rowN ds)[k]? = some 1) := by
        unfold Bx.brk brkB
        rw [hj]
        simp
      have hbits := rowN_bits ds _ (List.getElem_mem hkl)
      cases hb : (bx ds).brk (rowN ds) with
      | true =>
        have : br = true := by
          rw [hbr, List.any_eq_true]
          exact ⟨ds, hd, by rw [h]; exact hb⟩
        rw [if_pos this]
        rw [hbk] at hb
        have hb := of_decide_eq_true hb
        rw [List.getElem?_eq_getElem hkl] at hb
        exact (Option.some.inj hb).symm
      | false =>
        have : ¬ br = true := fun q => hnb ⟨q, hb⟩
        rw [if_neg this]
        rw [hbk] at hb
        have hb := of_decide_eq_false hb
        rw [List.getElem?_eq_getElem hkl] at hb
        rcases hbits with e | e
        · exact e.symm
        · exact absurd (congrArg some e) hb
    · rw [h2] at hj
      cases hj
      obtain ⟨r, hr⟩ := row_head (hG ds hd)
      have hb : (bx ds).started.brk (rowN ds) = true := by
        unfold Bx.brk brkB
        rw [h2, hr] <;> rfl
      have : br = true := by
        rw [hbr, List.any_eq_true]
        exact ⟨ds, hd, hb⟩
      refine ⟨1, by omega, Nat.le_refl _, by rw [hlen]; omega, ?_⟩
      rw [ev 0 (Nat.zero_le _), if_pos this, hr]
      simp
  · obtain ⟨i, hi⟩ := Option.ne_none_iff_exists'.mp h1
    obtain ⟨i2, hi2⟩ := Option.ne_none_iff_exists'.mp h2
    rw [hi, hi2]
    obtain ⟨j, hj, rfl, _, _⟩ := Bx.behind_place hi
    obtain ⟨j2, hj2, rfl, _, _⟩ := Bx.behind_place hi2
    suffices j = j2 by rw [this]
    by_cases hd0 : (bx ds).place = none
    · by_cases he0 : (bx es).place = none
      · rcases Bx.started_cases (bx ds) with h | ⟨_, _, h3⟩
        · rw [h, hd0] at hj; cases hj
        · rcases Bx.started_cases (bx es) with h' | ⟨_, _, h3'⟩
          · rw [h', he0] at hj2; cases hj2
          · rw [h3] at hj
            rw [h3'] at hj2
            rw [← Option.some.inj hj, ← Option.some.inj hj2]
      · rw [A ds hd es he he0, hd0] at hj
        cases hj
    · by_cases he0 : (bx es).place = none
      · rw [A es he ds hd hd0, he0] at hj2
        cases hj2
      · rw [A ds hd es he he0] at hj
        rw [A es he ds hd hd0] at hj2
        have := P.one ds hd es he hd0 he0
        rw [hj, hj2] at this
        exact Option.some.inj this
  · rw [Bx.behind_quiet, Bx.started_quiet]
    obtain ⟨k, e1, e2, e3⟩ := P.qt ds hd
    unfold qBehind
    cases br with
    | true => exact ⟨0, by simp, Nat.zero_le _, by simp⟩
    | false =>
      simp only [Bool.false_eq_true, if_false] at ev hlen ⊢
      refine ⟨min 12 (k + 1), by rw [e1]; omega, by rw [hlen]; omega, ?_⟩
      have hz : ∀ x ∈ (t ++ [(0 : Int)]).drop ((t ++ [(0 : Int)]).length - (k + 1)), x = 0 := by
        rw [ev k e2]
        intro x hx
        rcases List.mem_append.mp hx with hx | hx
        · exact e3 x hx
        · simpa using hx
      intro x hx
      refine hz x ?_
      rw [show (t ++ [(0 : Int)]).drop ((t ++ [(0 : Int)]).length - min 12 (k + 1)) = ((t ++ [(0 : Int)]).drop ((t ++ [(0 : Int)]).length - (k + 1))).drop (k + 1 - min 12 (k + 1)) by rw [List.drop_drop]; congr 1; omega] at hx
      exact List.mem_of_mem_drop hx
end CW

namespace CW
open PySem PySem.Spec PyProof.Rows L2 MM
structure PInv (bx : List Nat → Bx) (hv : Int) (p : List (List Nat)) (t : List Int) : Prop where
  z : hv = 0 → PartOk bx p t
  o : hv = 1 → ∀ ds ∈ p, (bx ds).quiet = 0 ∧ (bx ds).brk (rowN ds) = false
theorem PInv.congr {bx by_ : List Nat → Bx} {hv : Int} {p : List (List Nat)} {t : List Int} (h : PInv bx hv p t) (e : ∀ ds ∈ p, (by_ ds).place = (bx ds).place ∧ (by_ ds).quiet = (bx ds).quiet) : PInv by_ hv p t :=
  ⟨fun q => (h.z q).congr e, fun q ds hd => ⟨by rw [(e ds hd).2]; exact (h.o q ds hd).1, by unfold Bx.brk; rw [(e ds hd).1]; exact (h.o q ds hd).2⟩⟩
theorem Bx.started_idle {b : Bx} (hs : 0 ≤ b.sent) (hq : b.quiet < 8) : b.started = b := by
  rcases Bx.started_cases b with h | ⟨_, h, _⟩
  · exact h
  · omega
/-- behind a broken tick what runs had a stroke there -/
theorem Bx.behind_true {b : Bx} {ds : List Nat} (hin : b.In (rowN ds)) : (b.behind (rowN ds) true).quiet = 0 ∧ (b.behind (rowN ds) true).brk (rowN ds) = false := by
  refine ⟨by rw [Bx.behind_quiet]; rfl, ?_⟩
  cases hp : (b.behind (rowN ds) true).place with
  | none => unfold Bx.brk brkB; rw [hp]
  | some i =>
    obtain ⟨j, hj, rfl, hnb, hne⟩ := Bx.behind_place hp
    have hb : b.brk (rowN ds) = true := by
      cases h : b.brk (rowN ds) with
      | true => rfl
      | false => exact absurd ⟨rfl, h⟩ hnb
    have h0 := (hin j hj).1
    unfold Bx.brk brkB at hb ⊢
    rw [hj] at hb
    have hb := of_decide_eq_true hb
    have := (stroke_next ds _ hb).2
    rw [hp]
    simp only [decide_eq_false_iff_not]
    rw [show (j + 1).toNat = j.toNat + 1 by omega, this]
    decide
theorem Bx.behind_none {b : Bx} {r : List Int} (hb : b.brk r = false) : (b.behind r true).place = none := by
  unfold Bx.behind
  split
  · rfl
  · rw [if_pos ⟨rfl, hb⟩]
theorem PInv.tick {bx : List Nat → Bx} {hv : Int} {p : List (List Nat)} {t : List Int} (h0 : 0 ≤ hv) (h2 : hv ≤ 2) (P : PInv bx hv p t) (hG : ∀ ds ∈ p, GoodN ds) (hIn : ∀ ds ∈ p, (bx ds).In (rowN ds)) (hS : ∀ ds ∈ p, 0 ≤ (bx ds).sent) {br : Bool} (hbr : br = p.any fun ds => ((bx ds).started).brk (rowN ds)) :
    PInv (fun ds => ((bx ds).started).behind (rowN ds) (br || decide (0 < hv))) (max 0 (hv - 1)) p (t ++ [keyI hv br]) := by
  have : hv = 0 ∨ hv = 1 ∨ hv = 2 := by omega
  rcases this with rfl | rfl | rfl
  · refine ⟨fun _ => ?_, fun h => absurd h (by decide)⟩
    have := (P.z rfl).tick hG hIn hS hbr
    simpa [keyI] using this
  · refine ⟨fun _ => ?_, fun h => absurd h (by decide)⟩
    have key : ∀ ds ∈ p, (((bx ds).started).behind (rowN ds) (br || decide ((0 : Int) < 1))).place = none ∧ (((bx ds).started).behind (rowN ds) (br || decide ((0 : Int) < 1))).quiet = 0 := fun ds hd => by
      obtain ⟨q1, q2⟩ := P.o rfl ds hd
      rw [Bx.started_idle (hS ds hd) (by omega)]
      have : (br || decide ((0 : Int) < 1)) = true := by cases br <;> rfl
      rw [this]
      exact ⟨Bx.behind_none q2, by rw [Bx.behind_quiet]; rfl⟩
    refine ⟨fun ds hd i hi => ?_, fun ds hd es he h1 _ => absurd (key ds hd).1 h1, fun ds hd => ⟨0, (key ds hd).2, Nat.zero_le _, by simp⟩⟩
    rw [(key ds hd).1] at hi
    cases hi
  · refine ⟨fun h => absurd h (by decide), fun _ ds hd => ?_⟩
    have : (br || decide ((0 : Int) < 2)) = true := by cases br <;> rfl
    rw [this]
    exact Bx.behind_true ((hIn ds hd).started row_pos)
structure RunInv (L : LSt) : Prop where
  hb : ∀ h ∈ L.held, 0 ≤ h ∧ h ≤ 2
  sep : L.joined = false → ∀ (i : Nat) l c hv tn tf, L.ls[i]? = some l → L.cuts[i]? = some c → L.held[i]? = some hv → L.near[i]? = some tn → L.far[i]? = some tf → PInv L.bx hv (nearL l c) tn ∧ PInv L.bx hv (farL l c) tf
  jnd : L.joined = true → ∃ hv, (∀ h ∈ L.held, h = hv) ∧ ∀ (i : Nat) tn tf, L.near[i]? = some tn → L.far[i]? = some tf → PInv L.bx hv L.live tn ∧ PInv L.bx hv L.live tf
theorem PInv.new {s hv : Int} {p : List (List Nat)} {t : List Int} : PInv (fun _ => ⟨0, 0, s, none, 0⟩) hv p t :=
  ⟨fun _ => ⟨(fun _ _ i hi => by cases hi), fun _ _ _ _ h => absurd rfl h, fun _ _ => ⟨0, rfl, Nat.zero_le _, by simp⟩⟩, fun _ _ _ => ⟨rfl, rfl⟩⟩
theorem RunInv.new {ls : List (List (List Nat))} {r s : Int} : RunInv (newL ls r s) := ⟨fun h hh => by
  have hh' : h ∈ List.replicate ls.length (0 : Int) := hh
  rw [List.eq_of_mem_replicate hh']
  decide, fun _ _ _ _ _ _ _ _ _ _ _ _ => ⟨PInv.new, PInv.new⟩, fun h => by cases h⟩
section
variable {L : LSt}
theorem sg_at (o : LOk L) (hj : L.joined = false) {i : Nat} {l : List (List Nat)} {c : List Nat} {hv : Int} (hi : L.ls[i]? = some l) (hc : L.cuts[i]? = some c) (hh : L.held[i]? = some hv) : L.sgN i = keyI hv (L.pb (nearL l c)) ∧ L.sgF i = keyI hv (L.pb (farL l c)) := by
  have hx : L.tw[i]? = some (l, c) := by
    unfold LSt.tw
    rw [List.getElem?_zip_eq_some]
    exact ⟨hi, hc⟩
  have he : L.ends[i]? = some (L.pb (nearL l c), L.pb (farL l c)) := by
    unfold LSt.ends
    rw [List.getElem?_map, hx, hj] <;> rfl
  unfold LSt.sgN LSt.sgF
  rw [List.getD_eq_getElem?_getD, List.getD_eq_getElem?_getD, hh, he]
  exact ⟨rfl, rfl⟩
theorem sg_joined (o : LOk L) (hj : L.joined = true) {i : Nat} {hv : Int} (hh : L.held[i]? = some hv) : L.sgN i = keyI hv (L.pb L.live) ∧ L.sgF i = keyI hv (L.pb L.live) := by
  have hik : i < L.tw.length := by rw [tw_len o, ← o.lh]; exact get_of hh
  have he : L.ends[i]? = some (L.pb L.live, L.pb L.live) := by
    unfold LSt.ends
    rw [List.getElem?_map, List.getElem?_eq_getElem hik, hj] <;> rfl
  unfold LSt.sgN LSt.sgF
  rw [List.getD_eq_getElem?_getD, List.getD_eq_getElem?_getD, hh, he]
  exact ⟨rfl, rfl⟩
theorem goOk (o : LOk L) : LOk L.go := ⟨o.town, o.r1, o.r4, o.s1, o.s50, fun ds hd => (o.box ds hd).started row_pos, o.lc, o.lh, o.ln, o.lf, o.cut⟩
theorem live_sub (o : LOk L) : ∀ ds ∈ L.live, ds ∈ L.F := fun ds hd => by
  obtain ⟨q, hq, hd⟩ := List.mem_flatten.mp hd
  have := CW.parts_sub q hq ds hd
  rw [tw_fst o] at this
  exact this
theorem tape_at {t : List (List Int)} {k : Nat} {g : Nat → Int} {i : Nat} {t' : List Int} (h : (putJ t k g)[i]? = some t') (hk : t.length = k) : ∃ t0, t[i]? = some t0 ∧ t' = t0 ++ [g i] := by
  rw [putJ_get] at h
  obtain ⟨t0, h0, rfl⟩ := Option.map_eq_some_iff.mp h
  exact ⟨t0, h0, by rw [if_pos (by rw [← hk]; exact get_of h0)]⟩
theorem RunInv.tick (o : LOk L) (g : L.Good) (h : RunInv L) : RunInv L.tick := by
  have og := goOk o
  have hmem : ∀ v ∈ L.tick.held, ∃ w ∈ L.held, v = max 0 (w - 1) := fun v hv => by
    obtain ⟨w, hw, rfl⟩ := List.mem_map.mp hv
    exact ⟨w, hw, rfl⟩
  refine ⟨fun v hv => ?_, fun hj i l c hv tn tf h1 h2 h3 h4 h5 => ?_, fun hj => ?_⟩
  · obtain ⟨w, hw, rfl⟩ := hmem v hv
    have := h.hb w hw
    omega
  · have hj' : L.joined = false := hj
    have h1' : L.ls[i]? = some l := h1
    have h2' : L.cuts[i]? = some c := h2
    have h3' : (L.held.map fun x => max 0 (x - 1))[i]? = some hv := h3
    rw [List.getElem?_map] at h3'
    obtain ⟨hw, hw1, rfl⟩ := Option.map_eq_some_iff.mp h3'
    have h4' : (putJ L.go.near L.go.k L.go.sgN)[i]? = some tn := h4
    have h5' : (putJ L.go.far L.go.k L.go.sgF)[i]? = some tf := h5
    obtain ⟨t1, g1, rfl⟩ := tape_at h4' og.ln
    obtain ⟨t2, g2, rfl⟩ := tape_at h5' og.lf
    obtain ⟨s1, s2⟩ := sg_at og hj' h1' h2' hw1
    obtain ⟨P1, P2⟩ := h.sep hj' i l c hw t1 t2 h1' h2' hw1 g1 g2
    obtain ⟨b0, b2⟩ := h.hb hw (List.mem_of_getElem? hw1)
    have inF : ∀ ds ∈ l, ds ∈ L.F := fun ds hd => List.mem_flatten.mpr ⟨l, List.mem_of_getElem? h1', hd⟩
    have hcl := o.cut i l c h1' h2'
    rw [s1, s2]
    refine ⟨(P1.tick b0 b2 (fun ds hd => o.town.good ds (inF ds (near_sub ds hd))) (fun ds hd => o.box ds (inF ds (near_sub ds hd))) (fun ds hd => (g ds (inF ds (near_sub ds hd))).s0) (br := L.go.pb (nearL l c)) rfl).congr fun ds hd => ?_, (P2.tick b0 b2 (fun ds hd => o.town.good ds (inF ds (far_sub ds hd))) (fun ds hd => o.box ds (inF ds (far_sub ds hd))) (fun ds hd => (g ds (inF ds (far_sub ds hd))).s0) (br := L.go.pb (farL l c)) rfl).congr fun ds hd => ?_⟩
    · have := felt_at og hj' h1' h2' hw1 (near_sub ds hd)
      rw [if_pos hd] at this
      show ((L.bx ds).started.behind (rowN ds) (L.go.felt ds)).place = _ ∧ ((L.bx ds).started.behind (rowN ds) (L.go.felt ds)).quiet = _
      rw [this]
      exact ⟨rfl, rfl⟩
    · have := felt_at og hj' h1' h2' hw1 (far_sub ds hd)
      have hn : ds ∈ nearL l c → L.go.pb (nearL l c) = L.go.pb (farL l c) := fun hn => by
        cases c with
        | nil => rfl
        | cons a r => exact absurd hd (near_far (loop_nodup o h1') hcl (by simp) hn)
      have e : L.go.felt ds = (L.go.pb (farL l c) || decide (0 < hw)) := by
        rw [this]
        by_cases q : ds ∈ nearL l c
        · rw [if_pos q, hn q]
        · rw [if_neg q, if_pos hd]
      show ((L.bx ds).started.behind (rowN ds) (L.go.felt ds)).place = _ ∧ ((L.bx ds).started.behind (rowN ds) (L.go.felt ds)).quiet = _
      rw [e]
      exact ⟨rfl, rfl⟩
  · have hj' : L.joined = true := hj
    obtain ⟨hv, q1, q2⟩ := h.jnd hj'
    refine ⟨max 0 (hv - 1), fun v hv' => ?_, fun i tn tf h4 h5 => ?_⟩
    · obtain ⟨w, hw, rfl⟩ := hmem v hv'
      rw [q1 w hw]
    · have h4' : (putJ L.go.near L.go.k L.go.sgN)[i]? = some tn := h4
      have h5' : (putJ L.go.far L.go.k L.go.sgF)[i]? = some tf := h5
      obtain ⟨t1, g1, rfl⟩ := tape_at h4' og.ln
      obtain ⟨t2, g2, rfl⟩ := tape_at h5' og.lf
      have hik : i < L.held.length := by
        have := get_of g1
        rw [o.lh, ← o.ln]
        exact this
      have hw1 := List.getElem?_eq_getElem hik
      rw [q1 _ (List.getElem_mem hik)] at hw1
      obtain ⟨s1, s2⟩ := sg_joined og hj' hw1
      obtain ⟨P1, P2⟩ := q2 i t1 t2 g1 g2
      obtain ⟨b0, b2⟩ := h.hb hv (List.mem_of_getElem? hw1)
      have ls := live_sub o
      have hlop : L.live ≠ [] → L.held.getD (L.lop L.live) 0 = hv := fun h0 => by
        have : L.lop L.live < L.held.length := by
          rw [o.lh]
          cases hl : L.live with
          | nil => exact absurd hl h0
          | cons d r =>
            obtain ⟨l, hl2, hdl⟩ := List.mem_flatten.mp (ls d (by rw [hl]; simp))
            obtain ⟨m, hm2, e2⟩ := List.getElem_of_mem hl2
            obtain ⟨j, hj2, e3⟩ := List.getElem_of_mem hdl
            have := spot_at o.town.nd (show L.ls[m]? = some l by rw [List.getElem?_eq_getElem hm2, e2]) (show l[j]? = some d by rw [List.getElem?_eq_getElem hj2, e3])
            unfold LSt.lop
            simp only [this]
            exact hm2
        rw [List.getD_eq_getElem?_getD, List.getElem?_eq_getElem this]
        exact q1 _ (List.getElem_mem this)
      have fe : ∀ ds ∈ L.live, L.go.felt ds = (L.go.pb L.go.live || decide (0 < hv)) := fun ds hd => by
        have := felt_joined (L := L.go) hj' ds
        rw [this, if_pos (show ds ∈ L.go.live from hd)]
        unfold LSt.pbk
        have h9 : L.go.held.getD (L.go.lop L.go.live) 0 = hv := hlop (fun e => by rw [e] at hd; cases hd)
        rw [h9]
      rw [s1, s2]
      refine ⟨(P1.tick b0 b2 (fun ds hd => o.town.good ds (ls ds hd)) (fun ds hd => o.box ds (ls ds hd)) (fun ds hd => (g ds (ls ds hd)).s0) (br := L.go.pb L.go.live) rfl).congr fun ds hd => ?_, (P2.tick b0 b2 (fun ds hd => o.town.good ds (ls ds hd)) (fun ds hd => o.box ds (ls ds hd)) (fun ds hd => (g ds (ls ds hd)).s0) (br := L.go.pb L.go.live) rfl).congr fun ds hd => ?_⟩
      · show ((L.bx ds).started.behind (rowN ds) (L.go.felt ds)).place = _ ∧ ((L.bx ds).started.behind (rowN ds) (L.go.felt ds)).quiet = _
        rw [fe ds hd]
        exact ⟨rfl, rfl⟩
      · show ((L.bx ds).started.behind (rowN ds) (L.go.felt ds)).place = _ ∧ ((L.bx ds).started.behind (rowN ds) (L.go.felt ds)).quiet = _
        rw [fe ds hd]
        exact ⟨rfl, rfl⟩
end
end CW

namespace CW
open PySem PySem.Spec PyProof.Rows L2 MM
def endsL (L : LSt) : List (List (List Nat) × List (List Nat)) := L.tw.map fun x => (nearL x.1 x.2, farL x.1 x.2)
def endsE (L : LSt) : List (List (List Nat) × List (List Nat)) := if L.joined then L.tw.map (fun _ => (L.live, L.live)) else endsL L
end CW

namespace CW
open PySem PySem.Spec PyProof.Rows L2 MM
structure St0 (S : Sto) (b : Nat) (K : List Nat) (n h q c hl : Nat) (L : LSt) : Prop where
  lns : Lns S b K [⟨n, h, L⟩]
  here : HereAt S q c hl L
  kk : q ∈ K ∧ c ∈ K ∧ hl ∈ K
def St (S : Sto) (b n q c : Nat) (L : LSt) : Prop := ∃ K h hl, St0 S b K n h q c hl L
section
variable {S S' : Sto} {b n q c : Nat} {L : LSt}
theorem St.line (T : St S b n q c L) : ∃ h, LineAt S n h L := by
  obtain ⟨K, h, hl, T⟩ := T
  exact ⟨h, T.lns.at_ ⟨n, h, L⟩ (by simp)⟩
theorem St.bag (T : St S b n q c L) : BagAt S b := by
  obtain ⟨K, h, hl, T⟩ := T
  exact T.lns.bag
theorem St.app (T : St S b n q c L) (U : Sto) : St (S ++ U) b n q c L := by
  obtain ⟨K, h, hl, T⟩ := T
  obtain ⟨H, k⟩ := T.lns.app U
  exact ⟨K, h, hl, H, T.here.keep (k _ T.kk.1) (k _ T.kk.2.1) (k _ T.kk.2.2) ⟨rfl, rfl, rfl⟩, T.kk⟩
theorem St.pull (T : St S b n q c L) {ds : List Nat} (hd : ds ∈ L.F) : ∃ S', sp_Line_pull [.ref n, .str (numS ds)] S = .ok (.bl (decide ((L.bx ds).left = 0))) S' ∧ St S' b n q c (L.pull ds) := by
  obtain ⟨K, h, hl, T⟩ := T
  obtain ⟨S', e, H, w⟩ := linePull_at (T.lns.at_ ⟨n, h, L⟩ (by simp)) hd
  obtain ⟨H', k⟩ := T.lns.chg (i := 0) (x := ⟨n, h, L⟩) rfl H w (.inl rfl) rfl
  exact ⟨S', e, K, h, hl, H', T.here.keep (k _ T.kk.1) (k _ T.kk.2.1) (k _ T.kk.2.2) ⟨rfl, rfl, rfl⟩, T.kk⟩
/-- a tick, and the book's keys a tick later -/
theorem St.tick (T : St S b n q c L) (hs : L.Short) : ∃ S1 hl, sp_Line_tick [.ref n] S = .ok (dueD L.due) S1 ∧ S1[q]? = some (.lst false [.ref c, .bl L.joined, .ref hl]) ∧ S1[hl]? = some (.lst false (iD L.held)) ∧ (∃ h, LineAt S1 n h L.tick) ∧
    St ((S1 ++ [O.lst false (iD L.tick.held)]).set q (.lst false [.ref c, .bl L.joined, .ref S1.length])) b n q c L.tick := by
  obtain ⟨K, h, hl, T⟩ := T
  obtain ⟨S1, h', e, HL, w, hh⟩ := tick_ev (T.lns.at_ ⟨n, h, L⟩ (by simp)) hs
  obtain ⟨H1, k⟩ := T.lns.chg (i := 0) (x := ⟨n, h, L⟩) rfl HL w (.inr hh) rfl
  have hq := k _ T.kk.1
  have hc := k _ T.kk.2.1
  have hhl := k _ T.kk.2.2
  have H2 := H1.keep (.lst false (iD L.tick.held))
  have H3 := H2.set (i := q) (List.mem_cons_of_mem _ T.kk.1) (.lst false [.ref c, .bl L.joined, .ref S1.length])
  have lq := (H1.kp q T.kk.1).1
  have lc := (H1.kp c T.kk.2.1).1
  have qc := T.here.qc
  refine ⟨S1, hl, e, by rw [hq]; exact T.here.ob, by rw [hhl]; exact T.here.hd, ⟨h', HL⟩, S1.length :: K, h', S1.length, H3, ⟨List.getElem?_set_self (by simp; omega), ?_, ?_, qc, by omega, by omega⟩, ⟨List.mem_cons_of_mem _ T.kk.1, List.mem_cons_of_mem _ T.kk.2.1, by simp⟩⟩
  · rw [List.getElem?_set_ne qc, List.getElem?_append_left lc, hc]
    exact T.here.ct
  · rw [List.getElem?_set_ne (by omega), List.getElem?_append_right (Nat.le_refl _), Nat.sub_self] <;> rfl
/-- a new line and its book -/
theorem St.new {S : Sto} {b : Nat} {ls : List (List (List Nat))} {r s : Int} (hb : BagAt S b) {T : Sto} (hL : LineAt (S ++ T) S.length (S.length + 4) (newL ls r s)) :
    St (S ++ T ++ [.lst false (cutsL (List.replicate ls.length []))] ++ [.lst false (iD (List.replicate ls.length 0))] ++ [.lst false [.ref (S ++ T).length, .bl false, .ref ((S ++ T).length + 1)]]) b S.length ((S ++ T).length + 2) (S ++ T).length (newL ls r s) := by
  have H0 := ((Lns.none hb).more hL).1
  have H1 := H0.keep (.lst false (cutsL (List.replicate ls.length [])))
  have H2 := H1.keep (.lst false (iD (List.replicate ls.length 0)))
  have l1 : (S ++ T ++ [O.lst false (cutsL (List.replicate ls.length []))]).length = (S ++ T).length + 1 := by rw [List.length_append]; rfl
  rw [l1] at H2
  have H3 := H2.keep (.lst false [.ref (S ++ T).length, .bl false, .ref ((S ++ T).length + 1)])
  have l2 : (S ++ T ++ [O.lst false (cutsL (List.replicate ls.length []))] ++ [O.lst false (iD (List.replicate ls.length 0))]).length = (S ++ T).length + 2 := by rw [List.length_append, l1]; rfl
  rw [l2] at H3
  generalize S ++ T = U at *
  refine ⟨[U.length + 2, U.length + 1, U.length], S.length + 4, U.length + 1, H3, ⟨?_, ?_, ?_, by omega, by omega, by omega⟩, by simp⟩
  · rw [List.getElem?_append_right (by simp)]
    simp [newL]
  · rw [List.getElem?_append_left (by simp), List.getElem?_append_left (by simp), List.getElem?_append_right (Nat.le_refl _), Nat.sub_self] <;> rfl
  · rw [List.getElem?_append_left (by simp), List.getElem?_append_right (by simp)]
    simp
    rfl
end
end CW

namespace CW
open PySem PySem.Spec PyProof.Rows L2 MM
structure Wt where
  num : List Nat
  pulled : Int
  left : Int
  sent : Int
def wV (x : Wt) : D := .tup [.int x.pulled, .int x.left, .int x.sent]
def wK (x : Wt) : Key := .inr (numS x.num)
def wD (w : List Wt) : List (Key × D) := w.map fun x => (wK x, wV x)
def stT (last : Int) (x : Wt) : Int := max x.pulled (last + 9 + x.sent)
def rdy (last tick : Int) (w : List Wt) : List (List Nat) := (w.filter fun x => decide (stT last x ≤ tick)).map (·.num)
def take1 (rounds : Int) (w : List Wt) (p : Int × List Nat) : List Wt := if w.any (fun x => decide (x.num = p.2)) = true then w else w ++ [⟨p.2, p.1, rounds, 0⟩]
/-- those that wait and the place of the next pull -/
def takeP (rounds tick : Int) : List (Int × List Nat) → List Wt → List Wt × List (Int × List Nat)
  | [], w => (w, [])
  | p :: r, w => if p.1 ≤ tick then takeP rounds tick r (take1 rounds w p) else (w, p :: r)
/-- how many are left -/
def mu (n : Nat) (ρ : Fr) : Nat := match ρ with
  | _ :: _ :: some (D.int i) :: _ => n - i.toNat
  | _ => 0
theorem wK_eq {x : Wt} {n : List Nat} : (wK x = .inr (numS n)) ↔ x.num = n := by
  constructor
  · intro h
    injection h with h
    exact numS_inj h
  · intro h
    rw [← h] <;> rfl
theorem valW_of : ∀ {w : List Wt} {x : Wt}, x ∈ w → (w.map (·.num)).Nodup → valD (wD w) (.inr (numS x.num)) = some (wV x)
  | [], x, h, _ => by cases h
  | y :: w, x, h, hn => by
    rw [List.map_cons, List.nodup_cons] at hn
    show valD ((wK y, wV y) :: wD w) _ = _
    rw [valD_cons]
    rcases List.mem_cons.mp h with rfl | h
    · rw [if_pos (wK_eq.mpr rfl)]
    · have hne : ¬ (wK y = .inr (numS x.num)) := fun e => hn.1 (by rw [wK_eq.mp e]; exact List.mem_map.mpr ⟨x, h, rfl⟩)
      rw [if_neg hne]
      exact valW_of h hn.2
def sendW (n : List Nat) (left : Int) (w : List Wt) : List Wt := if left = 1 then w.filter (fun y => decide (y.num ≠ n)) else w.map fun y => if y.num = n then ⟨y.num, y.pulled, y.left - 1, y.sent + 1⟩ else y
def minT (last : Int) (w : List Wt) : Int := match w.map (stT last) with
  | [] => 0
  | a :: l => l.foldl min a
def pick (last t : Int) (w : List Wt) : List Nat := match rdy last t w with
  | [] => []
  | f :: l => mxN f l
def leftOf (n : List Nat) (w : List Wt) : Int := match w.find? (fun x => decide (x.num = n)) with
  | some x => x.left
  | none => 0
/-- how those that wait stand -/
structure WI (w : List Wt) : Prop where
  nd : (w.map (·.num)).Nodup
  good : ∀ x ∈ w, GoodN x.num
  left : ∀ x ∈ w, 1 ≤ x.left
def sumL (w : List Wt) : Int := (w.map (·.left)).sum
theorem WI.take1 {R : Int} {w : List Wt} {p : Int × List Nat} (h : WI w) (hR : 1 ≤ R) (hp : GoodN p.2) : WI (take1 R w p) := by
  unfold CW.take1
  split
  · exact h
  · rename_i hn
    have hn : ∀ x ∈ w, x.num ≠ p.2 := by simpa using hn
    refine ⟨?_, ?_, ?_⟩
    · rw [List.map_append, List.nodup_append]
      refine ⟨h.nd, by simp, ?_⟩
      intro a ha b hb e
      obtain ⟨x, hx, rfl⟩ := List.mem_map.mp ha
      simp at hb
      exact hn x hx (by rw [e, hb])
    · intro x hx
      rcases List.mem_append.mp hx with hx | hx
      · exact h.good x hx
      · rw [List.mem_singleton.mp hx]; exact hp
    · intro x hx
      rcases List.mem_append.mp hx with hx | hx
      · exact h.left x hx
      · rw [List.mem_singleton.mp hx]; exact hR
theorem sum_take1 {R : Int} {w : List Wt} {p : Int × List Nat} (hR : 1 ≤ R) : sumL (take1 R w p) ≤ sumL w + R ∧ sumL w ≤ sumL (take1 R w p) ∧ (take1 R w p).length ≤ w.length + 1 ∧ ∀ x ∈ w, x ∈ take1 R w p := by
  unfold take1
  split
  · exact ⟨by omega, by omega, by omega, fun x hx => hx⟩
  · refine ⟨?_, ?_, by simp, fun x hx => List.mem_append_left _ hx⟩ <;> simp [sumL] <;> omega
/-- what taking pulls does -/
theorem takeP_inv {R t : Int} (hR : 1 ≤ R) : ∀ (ps : List (Int × List Nat)) (w : List Wt), WI w → (∀ p ∈ ps, GoodN p.2) →
    WI (takeP R t ps w).1 ∧ (∃ k, (takeP R t ps w).2 = ps.drop k ∧ k ≤ ps.length) ∧ sumL (takeP R t ps w).1 + R * ((takeP R t ps w).2.length : Int) ≤ sumL w + R * (ps.length : Int) ∧ (∀ x ∈ w, x ∈ (takeP R t ps w).1) ∧ (takeP R t ps w).1.length + (takeP R t ps w).2.length ≤ w.length + ps.length
  | [], w, h, _ => ⟨h, ⟨0, rfl, Nat.le_refl _⟩, by simp [takeP], fun x hx => hx, by simp [takeP]⟩
  | p :: r, w, h, hg => by
    have s1 := sum_take1 (R := R) (w := w) (p := p) hR
    obtain ⟨h1, ⟨k, h2, hk⟩, h3, h4, h5⟩ := takeP_inv (t := t) hR r (take1 R w p) (h.take1 hR (hg p (by simp))) (fun q hq => hg q (by simp [hq]))
    unfold takeP
    split
    · refine ⟨h1, ⟨k + 1, by rw [h2]; rfl, by simp; omega⟩, ?_, fun x hx => h4 x (s1.2.2.2 x hx), by simp; omega⟩
      have e : R * (((p :: r).length : Nat) : Int) = R * (r.length : Int) + R := by
        rw [List.length_cons]
        push_cast
        rw [Int.mul_add, Int.mul_one]
      rw [e]
      omega
    · exact ⟨h, ⟨0, rfl, Nat.zero_le _⟩, Int.le_refl _, fun x hx => hx, Nat.le_refl _⟩
theorem minT_mem {last : Int} {w : List Wt} (h : w ≠ []) : (∃ x ∈ w, stT last x = minT last w) ∧ ∀ x ∈ w, minT last w ≤ stT last x := by
  have key : ∀ (l : List Int) (a : Int), (l.foldl min a = a ∨ l.foldl min a ∈ l) ∧ l.foldl min a ≤ a ∧ ∀ b ∈ l, l.foldl min a ≤ b := by
    intro l
    induction l with
    | nil => intro a; simp
    | cons c l ih =>
      intro a
      obtain ⟨h1, h2, h3⟩ := ih (min a c)
      rw [List.foldl_cons]
      refine ⟨?_, by omega, ?_⟩
      · rcases h1 with h1 | h1
        · rw [h1]
          by_cases hc : a ≤ c
          · left; omega
          · right; simp; left; omega
        · right; exact List.mem_cons_of_mem _ h1
      · intro b hb
        rcases List.mem_cons.mp hb with rfl | hb
        · omega
        · exact h3 b hb
  cases w with
  | nil => exact absurd rfl h
  | cons x r =>
    unfold minT
    rw [List.map_cons]
    obtain ⟨h1, h2, h3⟩ := key (r.map (stT last)) (stT last x)
    refine ⟨?_, ?_⟩
    · rcases h1 with h1 | h1
      · exact ⟨x, by simp, h1.symm⟩
      · obtain ⟨y, hy, e⟩ := List.mem_map.mp h1
        exact ⟨y, by simp [hy], e⟩
    · intro y hy
      rcases List.mem_cons.mp hy with rfl | hy
      · exact h2
      · exact h3 _ (List.mem_map.mpr ⟨y, hy, rfl⟩)
theorem pick_mem {last : Int} {w : List Wt} (h : w ≠ []) : ∃ x ∈ w, x.num = pick last (minT last w) w ∧ stT last x = minT last w := by
  obtain ⟨⟨x, hx, e⟩, hle⟩ := minT_mem (last := last) h
  have hr : x.num ∈ rdy last (minT last w) w := List.mem_map.mpr ⟨x, List.mem_filter.mpr ⟨hx, by simp [e]⟩, rfl⟩
  unfold pick
  cases hh : rdy last (minT last w) w with
  | nil => rw [hh] at hr; cases hr
  | cons f l =>
    have : mxN f l ∈ f :: l := by
      rcases mxN_mem l f with q | q
      · rw [q]; exact List.mem_cons_self
      · exact List.mem_cons_of_mem _ q
    rw [← hh] at this
    obtain ⟨y, hy, e2⟩ := List.mem_map.mp this
    obtain ⟨hy1, hy2⟩ := List.mem_filter.mp hy
    have := hle y hy1
    simp at hy2
    exact ⟨y, hy1, e2, by omega⟩
theorem leftOf_mem {w : List Wt} {x : Wt} (hx : x ∈ w) (hn : (w.map (·.num)).Nodup) : leftOf x.num w = x.left := by
  induction w with
  | nil => cases hx
  | cons y w ih =>
    rw [List.map_cons, List.nodup_cons] at hn
    unfold leftOf
    rw [List.find?_cons]
    rcases List.mem_cons.mp hx with rfl | hx
    · simp
    · have hne : ¬ (y.num = x.num) := fun e => hn.1 (by rw [e]; exact List.mem_map.mpr ⟨x, hx, rfl⟩)
      rw [decide_eq_false hne]
      exact ih hx hn.2
theorem WI.send {w : List Wt} {x : Wt} (h : WI w) (hx : x ∈ w) : WI (sendW x.num x.left w) ∧ (sendW x.num x.left w).length ≤ w.length := by
  unfold sendW
  split
  · rename_i hl
    refine ⟨⟨?_, fun y hy => h.good y (List.mem_filter.mp hy).1, fun y hy => h.left y (List.mem_filter.mp hy).1⟩, List.length_filter_le _ _⟩
    exact h.nd.sublist (List.Sublist.map _ List.filter_sublist)
  · rename_i hl
    have hu : ∀ y ∈ w, y.num = x.num → y = x := fun y hy e => by
      have e1 := valW_of hx h.nd
      have e2 := valW_of hy h.nd
      rw [e, e1] at e2
      have e3 := Option.some.inj e2
      simp only [wV, D.tup.injEq, List.cons.injEq, D.int.injEq, and_true] at e3
      cases x
      cases y
      simp_all
    refine ⟨⟨?_, ?_, ?_⟩, by simp⟩
    · rw [List.map_map]
      have : ((fun x : Wt => x.num) ∘ fun y => if y.num = x.num then (⟨y.num, y.pulled, y.left - 1, y.sent + 1⟩ : Wt) else y) = fun y => y.num := by
        funext y
        show (if y.num = x.num then (⟨y.num, y.pulled, y.left - 1, y.sent + 1⟩ : Wt) else y).num = y.num
        split <;> rfl
      rw [this]
      exact h.nd
    · intro y hy
      obtain ⟨z, hz, rfl⟩ := List.mem_map.mp hy
      have := h.good z hz
      split <;> exact this
    · intro y hy
      obtain ⟨z, hz, rfl⟩ := List.mem_map.mp hy
      have h1 := h.left z hz
      split
      · rename_i e
        have := hu z hz e
        subst this
        show 1 ≤ z.left - 1
        omega
      · exact h1
theorem sum_send : ∀ {w : List Wt} {x : Wt}, x ∈ w → (w.map (·.num)).Nodup → sumL (sendW x.num x.left w) = sumL w - 1
  | [], x, h, _ => by cases h
  | y :: w, x, h, hn => by
    rw [List.map_cons, List.nodup_cons] at hn
    have keep : (∀ z ∈ w, z.num ≠ x.num) → w.filter (fun z => decide (z.num ≠ x.num)) = w ∧ (w.map fun z => if z.num = x.num then (⟨z.num, z.pulled, z.left - 1, z.sent + 1⟩ : Wt) else z) = w := fun hne => by
      refine ⟨List.filter_eq_self.mpr fun z hz => by simpa using hne z hz, ?_⟩
      conv => rhs; rw [← List.map_id w]
      apply List.map_congr_left
      intro z hz
      rw [if_neg (hne z hz)] <;> rfl
    rcases List.mem_cons.mp h with rfl | h
    · have hne : ∀ z ∈ w, z.num ≠ x.num := fun z hz e => hn.1 (by rw [← e]; exact List.mem_map.mpr ⟨z, hz, rfl⟩)
      obtain ⟨k1, k2⟩ := keep hne
      unfold sendW
      split
      · rename_i hl
        rw [List.filter_cons_of_neg (by simp), k1]
        simp [sumL, hl]
        omega
      · rw [List.map_cons, if_pos rfl, k2]
        simp [sumL]
        omega
    · have hyx : y.num ≠ x.num := fun e => hn.1 (by rw [e]; exact List.mem_map.mpr ⟨x, h, rfl⟩)
      have ih := sum_send h hn.2
      unfold sendW at ih ⊢
      split
      · rename_i hl
        rw [if_pos hl] at ih
        rw [List.filter_cons_of_pos (by simpa using hyx)]
        simp [sumL] at ih ⊢
        omega
      · rename_i hl
        rw [if_neg hl] at ih
        rw [List.map_cons, if_neg hyx]
        simp [sumL] at ih ⊢
        omega
/-- how a queue stands -/
structure QI (R : Int) (ps : List (Int × List Nat)) (w : List Wt) (rest f : List (Int × List Nat)) : Prop where
  wi : WI w
  suf : rest <:+ ps
  sum : (f.length : Int) + sumL w + R * (rest.length : Int) ≤ R * (ps.length : Int)
  len : w.length + rest.length ≤ ps.length
def muQ (R : Int) (w : List Wt) (rest : List (Int × List Nat)) : Int := sumL w + R * (rest.length : Int) + rest.length
theorem sumL_ge : ∀ {w : List Wt}, (∀ x ∈ w, 1 ≤ x.left) → (w.length : Int) ≤ sumL w
  | [], _ => Int.le_refl _
  | x :: w, h => by
    have := sumL_ge (w := w) fun y hy => h y (List.mem_cons_of_mem _ hy)
    have h1 := h x (List.mem_cons_self)
    simp [sumL] at this ⊢
    omega
theorem QI.take {R : Int} {ps rest f : List (Int × List Nat)} {w : List Wt} (t : Int) (hR : 1 ≤ R) (hg : ∀ p ∈ ps, GoodN p.2) (h : QI R ps w rest f) :
    QI R ps (takeP R t rest w).1 (takeP R t rest w).2 f ∧ (∀ x ∈ w, x ∈ (takeP R t rest w).1) ∧ muQ R (takeP R t rest w).1 (takeP R t rest w).2 ≤ muQ R w rest ∧ (takeP R t rest w).2.length ≤ rest.length := by
  obtain ⟨h1, ⟨k, h2, hk⟩, h3, h4, h5⟩ := takeP_inv (t := t) hR rest w h.wi fun p hp => hg p (h.suf.subset hp)
  have hl : (takeP R t rest w).2.length ≤ rest.length := by rw [h2, List.length_drop]; omega
  have := h.sum
  have := h.len
  refine ⟨⟨h1, ?_, by omega, by omega⟩, h4, ?_, hl⟩
  · rw [h2]
    exact (List.drop_suffix k rest).trans h.suf
  · unfold muQ
    omega
theorem takeP_lt {R t : Int} {p : Int × List Nat} {r : List (Int × List Nat)} {w : List Wt} (hR : 1 ≤ R) (hp : p.1 ≤ t) (hw : WI w) (hg : ∀ q ∈ p :: r, GoodN q.2) : (takeP R t (p :: r) w).2.length < (p :: r).length ∧ (takeP R t (p :: r) w).1 ≠ [] := by
  have e : takeP R t (p :: r) w = takeP R t r (take1 R w p) := by
    show (if p.1 ≤ t then _ else _) = _
    rw [if_pos hp]
  rw [e]
  obtain ⟨h1, ⟨k, h2, hk⟩, h3, h4, h5⟩ := takeP_inv (t := t) hR r (take1 R w p) (hw.take1 hR (hg p (by simp))) fun q hq => hg q (by simp [hq])
  refine ⟨?_, ?_⟩
  · rw [h2, List.length_drop, List.length_cons]
    omega
  · intro hn
    rw [hn] at h4
    unfold take1 at h4
    split at h4
    · rename_i ha
      obtain ⟨x, hx, _⟩ := List.any_eq_true.mp ha
      cases h4 x hx
    · cases h4 ⟨p.2, p.1, R, 0⟩ (by simp)
end CW

namespace CW
open PySem PySem.Spec PyProof.Rows L2 MM
abbrev Pull := Int × List Nat
def Srt (ps : List Pull) : Prop := ps.Pairwise fun a b => a.1 ≤ b.1
theorem takeP_cons_le {R t : Int} {p : Pull} {r : List Pull} {w : List Wt} (h : p.1 ≤ t) : takeP R t (p :: r) w = takeP R t r (take1 R w p) := by
  show (if p.1 ≤ t then _ else _) = _
  rw [if_pos h]
theorem takeP_cons_gt {R t : Int} {p : Pull} {r : List Pull} {w : List Wt} (h : ¬ p.1 ≤ t) : takeP R t (p :: r) w = (w, p :: r) := by
  show (if p.1 ≤ t then _ else _) = _
  rw [if_neg h]
theorem takeP_nil {R t : Int} {w : List Wt} : takeP R t [] w = (w, []) := rfl
theorem takeP_comp {R s t : Int} (h : s ≤ t) : ∀ (ps : List Pull) (w : List Wt), takeP R t (takeP R s ps w).2 (takeP R s ps w).1 = takeP R t ps w
  | [], _ => rfl
  | p :: r, w => by
    by_cases hp : p.1 ≤ s
    · rw [takeP_cons_le hp, takeP_cons_le (show p.1 ≤ t by omega), takeP_comp h r]
    · rw [takeP_cons_gt hp]
theorem takeP_skip {R t : Int} {ps : List Pull} {w : List Wt} (h : ∀ p ∈ ps, ¬ p.1 ≤ t) : takeP R t ps w = (w, ps) := by
  cases ps with
  | nil => rfl
  | cons p r => exact takeP_cons_gt (h p (List.mem_cons_self))
theorem take1_sub {R : Int} {w : List Wt} {p : Pull} : ∀ x ∈ w, x ∈ take1 R w p := fun x hx => by
  unfold take1
  split
  · exact hx
  · exact List.mem_append_left _ hx
theorem take1_new {R : Int} {w : List Wt} {p : Pull} : ∀ x ∈ take1 R w p, x ∈ w ∨ x = ⟨p.2, p.1, R, 0⟩ := fun x hx => by
  unfold take1 at hx
  split at hx
  · exact .inl hx
  · rcases List.mem_append.mp hx with hx | hx
    · exact .inl hx
    · exact .inr (List.mem_singleton.mp hx)
theorem take1_in {R : Int} {w : List Wt} {p : Pull} (h : ∃ x ∈ w, x.num = p.2) : take1 R w p = w := by
  obtain ⟨x, hx, e⟩ := h
  unfold take1
  rw [if_pos (List.any_eq_true.mpr ⟨x, hx, by simpa using e⟩)]
theorem takeP_sub {R t : Int} : ∀ (ps : List Pull) (w : List Wt), ∀ x ∈ w, x ∈ (takeP R t ps w).1
  | [], _, x, hx => hx
  | p :: r, w, x, hx => by
    by_cases hp : p.1 ≤ t
    · rw [takeP_cons_le hp]
      exact takeP_sub r _ x (take1_sub x hx)
    · rw [takeP_cons_gt hp]
      exact hx
theorem takeP_new {R t : Int} : ∀ (ps : List Pull) (w : List Wt), ∀ x ∈ (takeP R t ps w).1, x ∈ w ∨ ∃ p ∈ ps, x = ⟨p.2, p.1, R, 0⟩
  | [], _, x, hx => .inl hx
  | p :: r, w, x, hx => by
    by_cases hp : p.1 ≤ t
    · rw [takeP_cons_le hp] at hx
      rcases takeP_new r _ x hx with h | ⟨q, hq, e⟩
      · rcases take1_new x h with h | h
        · exact .inl h
        · exact .inr ⟨p, List.mem_cons_self, h⟩
      · exact .inr ⟨q, List.mem_cons_of_mem _ hq, e⟩
    · rw [takeP_cons_gt hp] at hx
      exact .inl hx
theorem takeP_suf {R t : Int} : ∀ (ps : List Pull) (w : List Wt), (takeP R t ps w).2 <:+ ps
  | [], _ => List.suffix_refl _
  | p :: r, w => by
    by_cases hp : p.1 ≤ t
    · rw [takeP_cons_le hp]
      exact (takeP_suf r _).trans (List.suffix_cons p r)
    · rw [takeP_cons_gt hp]
      exact List.suffix_refl _
theorem minT_le {last : Int} {w : List Wt} {x : Wt} (hx : x ∈ w) : minT last w ≤ stT last x := (minT_mem (List.ne_nil_of_mem hx)).2 x hx
/-- where the rounds go -/
inductive Walk (R : Int) : List Wt → List Pull → Int → List Pull → Prop
  | nil {last : Int} : Walk R [] [] last []
  | go {w : List Wt} {rest : List Pull} {last : Int} {l : List Pull} {t : Int} {n : List Nat} (h1 : (takeP R t rest w).1 ≠ []) (h2 : minT last (takeP R t rest w).1 = t) (h3 : pick last t (takeP R t rest w).1 = n)
      (h : Walk R (sendW n (leftOf n (takeP R (t + ((rowN n).length : Int) - 1) (takeP R t rest w).2 (takeP R t rest w).1).1) (takeP R (t + ((rowN n).length : Int) - 1) (takeP R t rest w).2 (takeP R t rest w).1).1)
        (takeP R (t + ((rowN n).length : Int) - 1) (takeP R t rest w).2 (takeP R t rest w).1).2 (t + ((rowN n).length : Int) - 6) l) : Walk R w rest last ((t, n) :: l)
theorem start_le {R t s last : Int} {w : List Wt} {rest : List Pull} (h1 : (takeP R t rest w).1 ≠ []) (h2 : minT last (takeP R t rest w).1 = t) (h4 : minT last (takeP R s rest w).1 = s) : s ≤ t := by
  by_cases h : s ≤ t
  · exact h
  · obtain ⟨⟨x, hx, e⟩, _⟩ := minT_mem (last := last) h1
    have hx2 : x ∈ (takeP R s rest w).1 := by
      rw [← takeP_comp (show t ≤ s by omega) rest w]
      exact takeP_sub _ _ x hx
    have := minT_le (last := last) hx2
    omega
theorem Walk.head {R t last : Int} {w : List Wt} {rest l : List Pull} (h1 : (takeP R t rest w).1 ≠ []) (h2 : minT last (takeP R t rest w).1 = t) (W : Walk R w rest last l) :
    ∃ l2, l = (t, pick last t (takeP R t rest w).1) :: l2 ∧ ∀ n, n = pick last t (takeP R t rest w).1 → Walk R (sendW n (leftOf n (takeP R (t + ((rowN n).length : Int) - 1) (takeP R t rest w).2 (takeP R t rest w).1).1) (takeP R (t + ((rowN n).length : Int) - 1) (takeP R t rest w).2 (takeP R t rest w).1).1)
        (takeP R (t + ((rowN n).length : Int) - 1) (takeP R t rest w).2 (takeP R t rest w).1).2 (t + ((rowN n).length : Int) - 6) l2 := by
  cases W with
  | nil => exact absurd rfl h1
  | @go _ _ _ l2 s n g1 g2 g3 g =>
    have e1 := start_le h1 h2 g2
    have e2 := start_le g1 g2 h2
    obtain rfl : s = t := by omega
    subst g3
    exact ⟨l2, rfl, fun n hn => by subst hn; exact g⟩
/-- what stands in a queue -/
structure Stt (w : List Wt) (rest : List Pull) : Prop where
  wi : WI w
  sent : ∀ x ∈ w, 0 ≤ x.sent
  srt : Srt rest
  good : ∀ p ∈ rest, GoodN p.2
theorem Stt.take {R : Int} {w : List Wt} {rest : List Pull} (hR : 1 ≤ R) (h : Stt w rest) (t : Int) : Stt (takeP R t rest w).1 (takeP R t rest w).2 := by
  refine ⟨(takeP_inv hR rest w h.wi h.good).1, fun x hx => ?_, h.srt.sublist (takeP_suf rest w).sublist, fun p hp => h.good p ((takeP_suf rest w).subset hp)⟩
  rcases takeP_new rest w x hx with hx | ⟨p, _, rfl⟩
  · exact h.sent x hx
  · exact Int.le_refl _
theorem send_split {w : List Wt} {x : Wt} (hx : x ∈ w) (hi : WI w) : ∃ A B, w = A ++ x :: B ∧ sendW x.num x.left w = A ++ (if x.left = 1 then [] else [⟨x.num, x.pulled, x.left - 1, x.sent + 1⟩]) ++ B := by
  obtain ⟨A, B, rfl⟩ := List.append_of_mem hx
  refine ⟨A, B, rfl, ?_⟩
  have hnd := hi.nd
  rw [List.map_append, List.map_cons, List.nodup_append, List.nodup_cons] at hnd
  have hA : ∀ y ∈ A, y.num ≠ x.num := fun y hy => hnd.2.2 _ (List.mem_map.mpr ⟨y, hy, rfl⟩) _ (List.mem_cons_self)
  have hB : ∀ y ∈ B, y.num ≠ x.num := fun y hy e => hnd.2.1.1 (List.mem_map.mpr ⟨y, hy, e⟩)
  unfold sendW
  split
  · rw [List.filter_append, List.filter_cons]
    rw [List.filter_eq_self.mpr (fun y hy => by simpa using hA y hy), List.filter_eq_self.mpr (fun y hy => by simpa using hB y hy)]
    simp
  · rw [List.map_append, List.map_cons]
    rw [List.map_congr_left (g := id) (fun y hy => by rw [if_neg (hA y hy)]; rfl), List.map_congr_left (l := B) (g := id) (fun y hy => by rw [if_neg (hB y hy)]; rfl)]
    simp
theorem Stt.send {w : List Wt} {rest : List Pull} {x : Wt} (h : Stt w rest) (hx : x ∈ w) : Stt (sendW x.num x.left w) rest := by
  refine ⟨(h.wi.send hx).1, fun y hy => ?_, h.srt, h.good⟩
  obtain ⟨A, B, e1, e2⟩ := send_split hx h.wi
  have hs := h.sent x hx
  rw [e2, List.mem_append, List.mem_append] at hy
  rcases hy with (hy | hy) | hy
  · exact h.sent y (by rw [e1]; simp [hy])
  · split at hy
    · cases hy
    · rw [List.mem_singleton.mp hy]
      show 0 ≤ x.sent + 1
      omega
  · exact h.sent y (by rw [e1]; simp [hy])
/-- what stands behind a round -/
theorem Stt.next {R t last : Int} {w : List Wt} {rest : List Pull} {n : List Nat} (hR : 1 ≤ R) (h : Stt w rest) (h1 : (takeP R t rest w).1 ≠ []) (h2 : minT last (takeP R t rest w).1 = t) (h3 : pick last t (takeP R t rest w).1 = n) :
    ∃ x ∈ (takeP R t rest w).1, x.num = n ∧ GoodN n ∧ last + 9 ≤ t ∧ x ∈ (takeP R (t + ((rowN n).length : Int) - 1) (takeP R t rest w).2 (takeP R t rest w).1).1 ∧ leftOf n (takeP R (t + ((rowN n).length : Int) - 1) (takeP R t rest w).2 (takeP R t rest w).1).1 = x.left ∧
      Stt (sendW n (leftOf n (takeP R (t + ((rowN n).length : Int) - 1) (takeP R t rest w).2 (takeP R t rest w).1).1) (takeP R (t + ((rowN n).length : Int) - 1) (takeP R t rest w).2 (takeP R t rest w).1).1) (takeP R (t + ((rowN n).length : Int) - 1) (takeP R t rest w).2 (takeP R t rest w).1).2 := by
  obtain ⟨x, hx, e1, e2⟩ := pick_mem (last := last) h1
  rw [h2] at e1 e2
  rw [h3] at e1
  have s1 := h.take hR t
  have s2 := s1.take hR (t + ((rowN n).length : Int) - 1)
  have hx2 := takeP_sub (R := R) (t := t + ((rowN n).length : Int) - 1) (takeP R t rest w).2 (takeP R t rest w).1 x hx
  have hl := leftOf_mem hx2 s2.wi.nd
  rw [e1] at hl
  refine ⟨x, hx, e1, by rw [← e1]; exact s1.wi.good x hx, ?_, hx2, hl, ?_⟩
  · have := s1.sent x hx
    unfold stT at e2
    omega
  · rw [hl]
    have := s2.send hx2
    rw [e1] at this
    exact this
theorem Walk.starts {R last : Int} {w : List Wt} {rest l : List Pull} (hR : 1 ≤ R) (W : Walk R w rest last l) : Stt w rest → ∀ p ∈ l, last + 9 ≤ p.1 ∧ GoodN p.2 := by
  induction W with
  | nil => intro _ p hp; cases hp
  | @go w rest last l t n h1 h2 h3 h ih =>
    intro hs p hp
    obtain ⟨x, hx, e1, hg, ht, hx2, hl, s2⟩ := hs.next hR h1 h2 h3
    rcases List.mem_cons.mp hp with rfl | hp
    · exact ⟨ht, hg⟩
    · have := ih s2 p hp
      exact ⟨by omega, this.2⟩
/-- the walk from the queue's turns -/
theorem take_walk {R s last : Int} {w : List Wt} {rest l : List Pull} (hw : ∀ x ∈ w, s ≤ stT last x) (hr : ∀ p ∈ rest, s ≤ p.1) (hne : (takeP R s rest w).1 ≠ []) (W : Walk R (takeP R s rest w).1 (takeP R s rest w).2 last l) : Walk R w rest last l := by
  generalize hA : (takeP R s rest w).1 = A at *
  generalize hB : (takeP R s rest w).2 = B at *
  cases W with
  | nil => exact absurd rfl hne
  | @go _ _ _ l2 t n g1 g2 g3 g =>
    subst hA hB
    have hst : s ≤ t := by
      obtain ⟨⟨x, hx, e⟩, _⟩ := minT_mem (last := last) g1
      rw [g2] at e
      have h1 : ∀ p ∈ rest, s ≤ stT last ⟨p.2, p.1, R, 0⟩ := fun p hp => by
        have := hr p hp
        unfold stT
        show s ≤ max p.1 _
        omega
      rcases takeP_new _ _ x hx with hx | ⟨p, hp, rfl⟩
      · rcases takeP_new _ _ x hx with hx | ⟨p, hp, rfl⟩
        · have := hw x hx
          omega
        · have := h1 p hp
          omega
      · have := h1 p ((takeP_suf rest w).subset hp)
        omega
    rw [takeP_comp hst] at g1 g2 g3 g
    exact .go g1 g2 g3 g
theorem Srt.head {p : Pull} {r : List Pull} (h : Srt (p :: r)) : ∀ q ∈ p :: r, p.1 ≤ q.1 := fun q hq => by
  rcases List.mem_cons.mp hq with rfl | hq
  · exact Int.le_refl _
  · exact (List.pairwise_cons.mp h).1 q hq
end CW

namespace CW
open PySem PySem.Spec PyProof.Rows L2 MM
end CW

namespace CW
open PySem PySem.Spec PyProof.Rows L2 MM
def kAt (t : List Int) : Nat → Nat
  | 0 => 0
  | p + 1 => if t[p]? = some 2 then p + 1 else kAt t p
def bk (t : List Int) : List Int := t.drop (kAt t t.length)
theorem kAt_app {t u : List Int} : ∀ {p : Nat}, p ≤ t.length → kAt (t ++ u) p = kAt t p
  | 0, _ => rfl
  | p + 1, h => by
    unfold kAt
    rw [List.getElem?_append_left (by omega), kAt_app (by omega)]
theorem kAt_key {t u : List Int} (h : ∀ x ∈ u, x ≠ 2) : kAt (t ++ u) (t ++ u).length = kAt t t.length := by
  have key : ∀ k, k ≤ u.length → kAt (t ++ u) (t.length + k) = kAt t t.length := by
    intro k
    induction k with
    | zero => intro _; exact kAt_app (Nat.le_refl _)
    | succ k ih =>
      intro hk
      have hx : (t ++ u)[t.length + k]? = some u[k] := by rw [List.getElem?_append_right (by omega), show t.length + k - t.length = k by omega, List.getElem?_eq_getElem]
      show (if (t ++ u)[t.length + k]? = some 2 then _ else kAt (t ++ u) (t.length + k)) = _
      rw [hx, if_neg (fun e => h _ (List.getElem_mem _) (Option.some.inj e)), ih (by omega)]
  rw [List.length_append]
  exact key u.length (Nat.le_refl _)
theorem bk_key {t u : List Int} (h : ∀ x ∈ u, x ≠ 2) : bk (t ++ 2 :: u) = u := by
  have e : t ++ 2 :: u = (t ++ [2]) ++ u := by simp
  have k : kAt (t ++ [2]) (t ++ [2]).length = (t ++ [2]).length := by
    rw [List.length_append]
    show (if (t ++ [2])[t.length]? = some 2 then _ else _) = _
    rw [if_pos (by simp)] <;> rfl
  unfold bk
  rw [e, kAt_key h, k, List.drop_left]
def Pc.nm? : Pc → Option (List Nat)
  | .rnd ds => some ds
  | _ => none
def rset (L : List Pc) : List (List Nat) := L.filterMap Pc.nm?
theorem bools_map {α : Type} (f : α → Bool) : ∀ l : List α, bools (l.map fun x => D.bl (f x)) = some (l.map f)
  | [] => rfl
  | a :: l => by
    show (bools (l.map fun x => D.bl (f x))).map (f a :: ·) = _
    rw [bools_map f l] <;> rfl
end CW

namespace CW
open PySem PySem.Spec PyProof.Rows L2 MM
abbrev NP := Nat × List Nat
def tp : Nat → List NP → List Int
  | _, [] => []
  | a, p :: l => List.replicate (p.1 - a) 0 ++ rowN p.2 ++ tp (p.1 + (rowN p.2).length) l
def Spd : Nat → List NP → Prop
  | _, [] => True
  | a, p :: l => a ≤ p.1 ∧ GoodN p.2 ∧ Spd (p.1 + (rowN p.2).length) l
theorem Spd.ge : ∀ {l : List NP} {a : Nat}, Spd a l → ∀ p ∈ l, a ≤ p.1 ∧ GoodN p.2
  | [], _, _, p, hp => by cases hp
  | q :: l, a, h, p, hp => by
    rcases List.mem_cons.mp hp with rfl | hp
    · exact ⟨h.1, h.2.1⟩
    · have := Spd.ge h.2.2 p hp
      have := h.1
      exact ⟨by omega, (Spd.ge h.2.2 p hp).2⟩
def gapL (g : Nat) : List LP := if g = 0 then [] else [(.quiet g, List.replicate g 0)]
theorem good_gap {g : Nat} {M : List LP} (hM : Good M) (h : ∀ q r, M = q :: r → q.1.isQ = false) : Good (gapL g ++ M) := by
  unfold gapL
  split
  · exact hM
  · exact ⟨.quiet (by omega), h, hM⟩
theorem cat_gap {g : Nat} {M : List LP} : cat (gapL g ++ M) = List.replicate g 0 ++ cat M := by
  unfold gapL
  split
  · rename_i h
    rw [h] <;> rfl
  · rw [List.singleton_append, cat_cons]
theorem rnds_gap {g a : Nat} {M : List LP} : rnds a ((gapL g ++ M).map (·.1)) = rnds (a + g) (M.map (·.1)) := by
  unfold gapL
  split
  · rename_i h
    rw [h] <;> rfl
  · simp [rnds, rnd1, Pc.ticks]
def endN (p : NP) : NP := (p.1 + (rowN p.2).length - 1, p.2)
theorem cut_good : ∀ (l : List NP) (a k : Nat), Spd a l → ∃ L : List LP, Good L ∧ cat L = (tp a l).take k ∧ rnds a (L.map (·.1)) = (l.filter (fun p => decide (p.1 + (rowN p.2).length ≤ a + k))).map endN
  | [], a, k, _ => ⟨[], trivial, by simp [cat, tp], rfl⟩
  | p :: l, a, k, h => by
    obtain ⟨h1, h2, h3⟩ := h
    have hp := row_six h2
    have hge := h3.ge
    have htp : tp a (p :: l) = List.replicate (p.1 - a) 0 ++ rowN p.2 ++ tp (p.1 + (rowN p.2).length) l := rfl
    have hno : k < p.1 - a + (rowN p.2).length → (p :: l).filter (fun p => decide (p.1 + (rowN p.2).length ≤ a + k)) = [] := fun hk => List.filter_eq_nil_iff.mpr fun q hq => by
      rcases List.mem_cons.mp hq with rfl | hq
      · simp
        omega
      · have := (hge q hq).1
        simp
        omega
    by_cases c1 : k ≤ p.1 - a
    · refine ⟨gapL k ++ [], good_gap trivial (by simp), ?_, ?_⟩
      · rw [cat_gap, htp, List.append_assoc, List.take_append_of_le_length (by simpa using c1), List.take_replicate, Nat.min_eq_left c1]
        simp [cat]
      · rw [rnds_gap, hno (by omega)] <;> rfl
    · by_cases c2 : k < p.1 - a + (rowN p.2).length
      · refine ⟨gapL (p.1 - a) ++ [(.begun (k - (p.1 - a)), (rowN p.2).take (k - (p.1 - a)))], good_gap (g_begun h2 (by omega) (by omega)) (by simp [Pc.isQ]), ?_, ?_⟩
        · rw [cat_gap, htp, List.append_assoc, List.take_append, List.take_of_length_le (l := List.replicate _ _) (by simp; omega), List.length_replicate, List.take_append_of_le_length (by omega)]
          simp [cat]
        · rw [rnds_gap, hno c2] <;> rfl
      · obtain ⟨L, g1, g2, g3⟩ := cut_good l (p.1 + (rowN p.2).length) (k - (p.1 - a) - (rowN p.2).length) h3
        refine ⟨gapL (p.1 - a) ++ ((.rnd p.2, rowN p.2) :: L), good_gap ⟨.rnd h2, trivial, g1⟩ (by simp [Pc.isQ]), ?_, ?_⟩
        · rw [cat_gap, cat_cons, g2, htp, List.append_assoc, List.take_append, List.take_of_length_le (l := List.replicate _ _) (by simp; omega), List.length_replicate, List.take_append, List.take_of_length_le (l := rowN p.2) (by omega)]
        · rw [rnds_gap, show a + (p.1 - a) = p.1 by omega, List.map_cons]
          show rnd1 p.1 (.rnd p.2) ++ rnds (p.1 + (rowN p.2).length) (L.map (·.1)) = _
          rw [g3, List.filter_cons, if_pos (by simp; omega)]
          rw [show p.1 + (rowN p.2).length + (k - (p.1 - a) - (rowN p.2).length) = a + k by omega] <;> rfl
theorem tp_end : ∀ (l : List NP) (a : Nat), Spd a l → ∀ p ∈ l, p.1 + (rowN p.2).length ≤ a + (tp a l).length
  | [], _, _, p, hp => by cases hp
  | q :: l, a, h, p, hp => by
    obtain ⟨h1, h2, h3⟩ := h
    have e : (tp a (q :: l)).length = (q.1 - a) + (rowN q.2).length + (tp (q.1 + (rowN q.2).length) l).length := by simp [tp]; omega
    rcases List.mem_cons.mp hp with rfl | hp
    · omega
    · have := tp_end l _ h3 p hp
      omega
theorem rnds_snd : ∀ (L : List Pc) (a : Nat), (rnds a L).map (·.2) = rset L
  | [], _ => rfl
  | .rnd ds :: L, a => by
    show ds :: (rnds _ L).map (·.2) = ds :: rset L
    rw [rnds_snd L]
  | .odd n :: L, a => rnds_snd L _
  | .spoilt n :: L, a => rnds_snd L _
  | .begun n :: L, a => rnds_snd L _
  | .quiet n :: L, a => rnds_snd L _
  | .key n :: L, a => rnds_snd L _
structure Hrd (t : List Int) (h : List (List Nat)) : Prop where
  ex : ∃ (pre : List Int) (l : List NP) (z : Nat), t = pre ++ (tp 0 l ++ List.replicate z 0) ∧ (pre = [] ∨ ∃ u, pre = u ++ [2]) ∧ Spd 0 l ∧ h = l.map (·.2)
theorem tp_no2 : ∀ (l : List NP) (a : Nat), Spd a l → ∀ x ∈ tp a l, x ≠ 2
  | [], _, _, x, hx => by cases hx
  | p :: l, a, h, x, hx => by
    have hx : x ∈ List.replicate (p.1 - a) 0 ++ rowN p.2 ++ tp (p.1 + (rowN p.2).length) l := hx
    rcases List.mem_append.mp hx with hx | hx
    · rcases List.mem_append.mp hx with hx | hx
      · rw [List.eq_of_mem_replicate hx]; decide
      · exact calm_no2 _ 0 (row_calm h.2.1).1 x hx
    · exact tp_no2 l _ h.2.2 x hx
theorem spd_snoc {l : List NP} {n : List Nat} {z : Nat} (h : Spd 0 l) (hn : GoodN n) : Spd 0 (l ++ [((tp 0 l).length + z, n)]) ∧ tp 0 (l ++ [((tp 0 l).length + z, n)]) = tp 0 l ++ List.replicate z 0 ++ rowN n := by
  have key : ∀ (l : List NP) (a : Nat), Spd a l → Spd a (l ++ [(a + (tp a l).length + z, n)]) ∧ tp a (l ++ [(a + (tp a l).length + z, n)]) = tp a l ++ List.replicate z 0 ++ rowN n := by
    intro l
    induction l with
    | nil =>
      intro a _
      refine ⟨⟨by simp [tp], hn, trivial⟩, ?_⟩
      show List.replicate (a + 0 + z - a) 0 ++ rowN n ++ [] = _
      rw [show a + 0 + z - a = z by omega, List.append_nil] <;> rfl
    | cons p l ih =>
      intro a h
      obtain ⟨h1, h2, h3⟩ := h
      obtain ⟨i1, i2⟩ := ih _ h3
      have e : a + (tp a (p :: l)).length = p.1 + (rowN p.2).length + (tp (p.1 + (rowN p.2).length) l).length := by simp [tp]; omega
      rw [e]
      refine ⟨⟨h1, h2, i1⟩, ?_⟩
      show List.replicate (p.1 - a) 0 ++ rowN p.2 ++ tp (p.1 + (rowN p.2).length) (l ++ _) = List.replicate (p.1 - a) 0 ++ rowN p.2 ++ tp (p.1 + (rowN p.2).length) l ++ _ ++ _
      rw [i2]
      simp only [List.append_assoc]
  have := key l 0 h
  rw [Nat.zero_add] at this
  exact this
theorem good_one : GoodN [1] := ⟨by decide, by decide, by simp, by decide⟩
theorem Hrd.nil : Hrd [] [] := ⟨[], [], 0, rfl, .inl rfl, trivial, rfl⟩
theorem Hrd.key (t : List Int) : Hrd (t ++ [2]) [] := ⟨t ++ [2], [], 0, by simp [tp], .inr ⟨t, rfl⟩, trivial, rfl⟩
theorem Hrd.quiet {t : List Int} {h : List (List Nat)} (H : Hrd t h) (k : Nat) : Hrd (t ++ List.replicate k 0) h := by
  obtain ⟨pre, l, z, rfl, hp, hs, rfl⟩ := H.ex
  exact ⟨pre, l, z + k, by rw [← List.replicate_append_replicate]; simp only [List.append_assoc], hp, hs, rfl⟩
theorem Hrd.row {t : List Int} {h : List (List Nat)} {n : List Nat} (H : Hrd t h) (hn : GoodN n) : Hrd (t ++ rowN n) (h ++ [n]) := by
  obtain ⟨pre, l, z, rfl, hp, hs, rfl⟩ := H.ex
  obtain ⟨s1, s2⟩ := spd_snoc (z := z) hs hn
  exact ⟨pre, l ++ [((tp 0 l).length + z, n)], 0, by rw [s2]; simp, hp, s1, by simp⟩
end CW

namespace CW
open PySem PySem.Spec PyProof.Rows L2 MM
abbrev Bxs := List Nat → Bx
/-- what a tape tells from where it begins quiet -/
structure Hr0 (t : List Int) (h : List (List Nat)) : Prop where
  ex : ∃ (l : List NP) (z : Nat), t = tp 0 l ++ List.replicate z 0 ∧ Spd 0 l ∧ h = l.map (·.2)
theorem Hr0.nil : Hr0 [] [] := ⟨[], 0, rfl, trivial, rfl⟩
theorem Hr0.quiet {t : List Int} {h : List (List Nat)} (H : Hr0 t h) (k : Nat) : Hr0 (t ++ List.replicate k 0) h := by
  obtain ⟨l, z, rfl, hs, rfl⟩ := H.ex
  exact ⟨l, z + k, by rw [← List.replicate_append_replicate]; simp only [List.append_assoc], hs, rfl⟩
theorem Hr0.row {t : List Int} {h : List (List Nat)} {n : List Nat} (H : Hr0 t h) (hn : GoodN n) : Hr0 (t ++ rowN n) (h ++ [n]) := by
  obtain ⟨l, z, rfl, hs, rfl⟩ := H.ex
  obtain ⟨s1, s2⟩ := spd_snoc (z := z) hs hn
  exact ⟨l ++ [((tp 0 l).length + z, n)], 0, by rw [s2]; simp, s1, by simp⟩
theorem Hr0.no2 {t : List Int} {h : List (List Nat)} (H : Hr0 t h) : ∀ x ∈ t, x ≠ 2 := fun x hx => by
  obtain ⟨l, z, rfl, hs, rfl⟩ := H.ex
  rcases List.mem_append.mp hx with hx | hx
  · exact tp_no2 l 0 hs x hx
  · rw [List.eq_of_mem_replicate hx]; decide
theorem Hr0.good {t : List Int} {h : List (List Nat)} (H : Hr0 t h) : ∃ L : List LP, Good L ∧ cat L = t ∧ rset (L.map (·.1)) = h := by
  obtain ⟨l, z, rfl, hs, rfl⟩ := H.ex
  obtain ⟨s1, s2⟩ := spd_snoc (z := z) hs good_one
  obtain ⟨L, g, c, r⟩ := cut_good _ 0 ((tp 0 l).length + z) s1
  rw [s2, List.take_append_of_le_length (by simp), List.take_of_length_le (by simp)] at c
  refine ⟨L, g, c, ?_⟩
  rw [← rnds_snd _ 0, r, List.filter_append, List.filter_eq_self.mpr (fun p hp => by
    have := tp_end l 0 hs p hp
    simp
    omega), List.filter_cons_of_neg (by
    have := row_six good_one
    simp
    omega), List.filter_nil, List.append_nil, List.map_map]
  rfl
theorem Hr0.pt {t : List Int} {h : List (List Nat)} (H : Hr0 t h) : rset (CW.pt t) = h := by
  obtain ⟨L, g, c, r⟩ := H.good
  have := pt_cat L g
  rw [c] at this
  rw [this, r]
/-- behind a key -/
theorem Hr0.hrd {t : List Int} {h : List (List Nat)} (H : Hr0 t h) (u : List Int) : Hrd (u ++ [2] ++ t) h := by
  obtain ⟨l, z, rfl, hs, rfl⟩ := H.ex
  exact ⟨u ++ [2], l, z, rfl, .inr ⟨u, rfl⟩, hs, rfl⟩
theorem bk_of {t : List Int} {h : List (List Nat)} (H : Hr0 t h) (u : List Int) : bk (u ++ [2] ++ t) = t := by
  rw [List.append_assoc]
  exact bk_key H.no2
/-- how often a number comes -/
def cntL (l : List Pull) (ds : List Nat) : Int := ((l.filter fun q => decide (q.2 = ds)).length : Int)
theorem cntL_cons {q : Pull} {l : List Pull} {ds : List Nat} : cntL (q :: l) ds = cntL l ds + (if q.2 = ds then 1 else 0) := by
  unfold cntL
  rw [List.filter_cons]
  by_cases h : q.2 = ds
  · simp [h]
  · simp [h]
theorem cntL_nn {l : List Pull} {ds : List Nat} : 0 ≤ cntL l ds := Int.natCast_nonneg _
theorem sendW_other {n : List Nat} {c : Int} {w : List Wt} {x : Wt} (hx : x ∈ w) (h : x.num ≠ n) : x ∈ sendW n c w := by
  unfold sendW
  split
  · exact List.mem_filter.mpr ⟨hx, by simpa using h⟩
  · exact List.mem_map.mpr ⟨x, hx, if_neg h⟩
/-- one that waits comes -/
theorem Walk.cnt {R last : Int} (hR : 1 ≤ R) {w : List Wt} {rest l : List Pull} (W : Walk R w rest last l) : ∀ {x : Wt}, Stt w rest → x ∈ w → 1 ≤ cntL l x.num := by
  induction W with
  | nil => intro x _ hx; cases hx
  | @go w rest last l t n h1 h2 h3 h ih =>
    intro x hs hx
    rw [cntL_cons]
    have := cntL_nn (l := l) (ds := x.num)
    by_cases e : n = x.num
    · rw [if_pos e]
      omega
    · obtain ⟨x0, hx0, e1, hg, ht, hx2, hl, s2⟩ := hs.next hR h1 h2 h3
      have hxx := takeP_sub (R := R) (t := t + ((rowN n).length : Int) - 1) (takeP R t rest w).2 (takeP R t rest w).1 x (takeP_sub (R := R) (t := t) rest w x hx)
      have := ih s2 (sendW_other hxx fun q => e q.symm)
      split <;> omega
/-- whether a row is the greatest one's so far -/
def agr (n m : List Nat) (j : Nat) : Bool := match diffAt (rowN n) (rowN m) with
  | none => true
  | some d => decide (j ≤ d)
theorem agr_self {n : List Nat} {j : Nat} : agr n n j = true := by
  unfold agr
  rw [diffAt_self]
theorem agr_succ {n m : List Nat} {j : Nat} : agr n m (j + 1) = (agr n m j && !decide (diffAt (rowN n) (rowN m) = some j)) := by
  unfold agr
  cases diffAt (rowN n) (rowN m) with
  | none => rfl
  | some d =>
    simp only [Option.some.injEq]
    by_cases h1 : j + 1 ≤ d
    · rw [decide_eq_true h1, decide_eq_true (show j ≤ d by omega), decide_eq_false (show ¬ d = j by omega)]; rfl
    · rw [decide_eq_false h1]
      by_cases h2 : j ≤ d
      · rw [decide_eq_true h2, decide_eq_true (show d = j by omega)]; rfl
      · rw [decide_eq_false h2]; rfl
theorem lt_other {n m : List Nat} (hn : GoodN n) (hm : GoodN m) (h : m < n) : ∃ d, diffAt (rowN n) (rowN m) = some d ∧ (rowN n)[d]? = some 1 ∧ (rowN m)[d]? = some 0 ∧ ∀ i, i < d → (rowN n)[i]? = (rowN m)[i]? := by
  obtain ⟨d, h1, h2⟩ := lt_diff hn hm h
  obtain ⟨x, y, q1, q2, q3, q4⟩ := diffAt_some h1
  refine ⟨d, h1, h2, ?_, q4⟩
  rw [q2]
  rw [h2] at q1
  cases q1
  rcases row01 y (List.mem_of_getElem? q2) with rfl | rfl
  · rfl
  · exact absurd rfl q3
/-- what one that has run with the greatest one has at a place -/
theorem agr_at {n m : List Nat} (hn : GoodN n) (hm : GoodN m) (h : m = n ∨ m < n) {j : Nat} (hj : j < (rowN n).length) (ha : agr n m j = true) :
    (rowN m)[j]? = some (if diffAt (rowN n) (rowN m) = some j then 0 else (rowN n)[j]) ∧ (diffAt (rowN n) (rowN m) = some j → (rowN n)[j] = 1) := by
  rcases h with rfl | h
  · rw [diffAt_self]
    exact ⟨by simp [List.getElem?_eq_getElem hj], fun e => nomatch e⟩
  · obtain ⟨d, e1, e2, e3, e4⟩ := lt_other hn hm h
    unfold agr at ha
    rw [e1] at ha ⊢
    have hpd : j ≤ d := by simpa using ha
    by_cases hd : d = j
    · subst hd
      have hb : (rowN n)[d] = 1 := (List.getElem?_eq_some_iff.mp e2).2
      exact ⟨by simp [e3], fun _ => hb⟩
    · have := e4 j (by omega)
      rw [List.getElem?_eq_getElem hj] at this
      exact ⟨by simp [hd, ← this], fun e => absurd (Option.some.inj e) hd⟩
theorem agr_len {n m : List Nat} (hn : GoodN n) (hm : GoodN m) (h : m < n) {j : Nat} (ha : agr n m j = true) : j < (rowN m).length ∧ j < (rowN n).length := by
  obtain ⟨d, e1, e2, e3, e4⟩ := lt_other hn hm h
  unfold agr at ha
  rw [e1] at ha
  have hpd : j ≤ d := by simpa using ha
  have h1 := get_of e2
  have h2 := get_of e3
  exact ⟨by omega, by omega⟩
theorem agr_one {n m : List Nat} (hn : GoodN n) (hm : GoodN m) : agr n m 1 = true := by
  obtain ⟨r, h1⟩ := row_head hn
  obtain ⟨s, h2⟩ := row_head hm
  unfold agr
  rw [h1, h2]
  cases h : diffAt (1 :: r) (1 :: s) with
  | none => rfl
  | some d =>
    unfold diffAt at h
    simp at h
    obtain ⟨k, _, rfl⟩ := h
    simp
structure HB (R : Int) (p : List (List Nat)) (w : List Wt) (bx : Bxs) : Prop where
  mem : ∀ x ∈ w, x.num ∈ p
  box : ∀ x ∈ w, (bx x.num).left = x.left ∧ (bx x.num).sent = x.sent ∧ 0 ≤ x.sent ∧ x.left + x.sent ≤ R
  idle : ∀ ds ∈ p, (∀ x ∈ w, x.num ≠ ds) → (bx ds).left = 0 ∧ (bx ds).sent = 0
theorem HB.congr {R : Int} {p : List (List Nat)} {w : List Wt} {bx b2 : Bxs} (h : HB R p w bx) (e : ∀ ds ∈ p, (b2 ds).left = (bx ds).left ∧ (b2 ds).sent = (bx ds).sent) : HB R p w b2 :=
  ⟨h.mem, fun x hx => by rw [(e _ (h.mem x hx)).1, (e _ (h.mem x hx)).2]; exact h.box x hx, fun ds hd hn => by rw [(e ds hd).1, (e ds hd).2]; exact h.idle ds hd hn⟩
theorem HB.pull {R t : Int} {p : List (List Nat)} {w : List Wt} {bx : Bxs} {m : List Nat} (h : HB R p w bx) (hw : WI w) (hm : m ∈ p) (hR : 1 ≤ R) : HB R p (take1 R w (t, m)) (setF bx m ((bx m).pulled R)) := by
  by_cases hx : ∃ x ∈ w, x.num = m
  · rw [take1_in hx]
    obtain ⟨x, hx, rfl⟩ := hx
    have : (bx x.num).pulled R = bx x.num := by
      unfold Bx.pulled
      rw [if_pos (by rw [(h.box x hx).1]; have := hw.left x hx; omega)]
    rw [this]
    refine h.congr fun ds _ => ?_
    unfold setF
    split
    · rename_i e; subst e; exact ⟨rfl, rfl⟩
    · exact ⟨rfl, rfl⟩
  · have hn : ∀ x ∈ w, x.num ≠ m := fun x hx' e => hx ⟨x, hx', e⟩
    have e : take1 R w (t, m) = w ++ [⟨m, t, R, 0⟩] := by
      unfold take1
      rw [if_neg]
      intro ha
      obtain ⟨x, q, e⟩ := List.any_eq_true.mp ha
      exact hn x q (by simpa using e)
    have hp : (bx m).pulled R = ⟨R, 0, (bx m).spring, (bx m).place, (bx m).quiet⟩ := by
      unfold Bx.pulled
      rw [if_neg (by rw [(h.idle m hm hn).1]; omega)]
    rw [e, hp]
    refine ⟨fun x hx => ?_, fun x hx => ?_, fun ds hd hq => ?_⟩
    · rcases List.mem_append.mp hx with hx | hx
      · exact h.mem x hx
      · rw [List.mem_singleton.mp hx]; exact hm
    · rcases List.mem_append.mp hx with hx | hx
      · unfold setF
        rw [if_neg (hn x hx)]
        exact h.box x hx
      · rw [List.mem_singleton.mp hx]
        unfold setF
        rw [if_pos rfl]
        exact ⟨rfl, rfl, Int.le_refl _, by show R + 0 ≤ R; omega⟩
    · have : ds ≠ m := fun e => hq _ (List.mem_append_right _ (List.mem_singleton.mpr rfl)) e.symm
      unfold setF
      rw [if_neg this]
      exact h.idle ds hd fun x hx => hq x (List.mem_append_left _ hx)
/-- behind a round -/
theorem HB.send {R : Int} {p : List (List Nat)} {w : List Wt} {bx b2 : Bxs} {x : Wt} (h : HB R p w bx) (hw : WI w) (hx : x ∈ w) (h1 : ∀ ds ∈ p, ds ≠ x.num → (b2 ds).left = (bx ds).left ∧ (b2 ds).sent = (bx ds).sent)
    (h2 : (b2 x.num).left = (if x.left = 1 then 0 else x.left - 1) ∧ (b2 x.num).sent = (if x.left = 1 then 0 else x.sent + 1)) : HB R p (sendW x.num x.left w) b2 := by
  obtain ⟨A, C, e1, e2⟩ := send_split hx hw
  have hnd := hw.nd
  rw [e1, List.map_append, List.map_cons, List.nodup_append, List.nodup_cons] at hnd
  have hA : ∀ y ∈ A, y.num ≠ x.num := fun y hy => hnd.2.2 _ (List.mem_map.mpr ⟨y, hy, rfl⟩) _ (List.mem_cons_self)
  have hC : ∀ y ∈ C, y.num ≠ x.num := fun y hy e => hnd.2.1.1 (List.mem_map.mpr ⟨y, hy, e⟩)
  have hl := hw.left x hx
  have hb := h.box x hx
  have old : ∀ y ∈ w, y.num ≠ x.num → (b2 y.num).left = y.left ∧ (b2 y.num).sent = y.sent ∧ 0 ≤ y.sent ∧ y.left + y.sent ≤ R := fun y hy hn => by
    rw [(h1 _ (h.mem y hy) hn).1, (h1 _ (h.mem y hy) hn).2]
    exact h.box y hy
  have inA : ∀ y ∈ A, y ∈ w := fun y hy => by rw [e1]; exact List.mem_append_left _ hy
  have inC : ∀ y ∈ C, y ∈ w := fun y hy => by rw [e1]; exact List.mem_append_right _ (List.mem_cons_of_mem _ hy)
  rw [e2]
  by_cases h0 : x.left = 1
  · rw [if_pos h0] at h2 ⊢
    rw [if_pos h0] at h2
    refine ⟨fun y hy => ?_, fun y hy => ?_, fun ds hd hq => ?_⟩
    · rcases List.mem_append.mp hy with hy | hy
      · rcases List.mem_append.mp hy with hy | hy
        · exact h.mem y (inA y hy)
        · cases hy
      · exact h.mem y (inC y hy)
    · rcases List.mem_append.mp hy with hy | hy
      · rcases List.mem_append.mp hy with hy | hy
        · exact old y (inA y hy) (hA y hy)
        · cases hy
      · exact old y (inC y hy) (hC y hy)
    · by_cases e : ds = x.num
      · rw [e]; exact h2
      · rw [(h1 ds hd e).1, (h1 ds hd e).2]
        refine h.idle ds hd fun y hy => ?_
        rw [e1] at hy
        rcases List.mem_append.mp hy with hy | hy
        · exact hq y (List.mem_append_left _ (List.mem_append_left _ hy))
        · rcases List.mem_cons.mp hy with rfl | hy
          · exact fun q => e q.symm
          · exact hq y (List.mem_append_right _ hy)
  · rw [if_neg h0] at h2 ⊢
    rw [if_neg h0] at h2
    refine ⟨fun y hy => ?_, fun y hy => ?_, fun ds hd hq => ?_⟩
    · rcases List.mem_append.mp hy with hy | hy
      · rcases List.mem_append.mp hy with hy | hy
        · exact h.mem y (inA y hy)
        · rw [List.mem_singleton.mp hy]; exact h.mem x hx
      · exact h.mem y (inC y hy)
    · rcases List.mem_append.mp hy with hy | hy
      · rcases List.mem_append.mp hy with hy | hy
        · exact old y (inA y hy) (hA y hy)
        · rw [List.mem_singleton.mp hy]
          exact ⟨h2.1, h2.2, by show 0 ≤ x.sent + 1; omega, by show x.left - 1 + (x.sent + 1) ≤ R; omega⟩
      · exact old y (inC y hy) (hC y hy)
    · have e : ds ≠ x.num := fun e => hq ⟨x.num, x.pulled, x.left - 1, x.sent + 1⟩ (List.mem_append_left _ (List.mem_append_right _ (List.mem_singleton.mpr rfl))) e.symm
      rw [(h1 ds hd e).1, (h1 ds hd e).2]
      refine h.idle ds hd fun y hy => ?_
      rw [e1] at hy
      rcases List.mem_append.mp hy with hy | hy
      · exact hq y (List.mem_append_left _ (List.mem_append_left _ hy))
      · rcases List.mem_cons.mp hy with rfl | hy
        · exact fun q => e q.symm
        · exact hq y (List.mem_append_right _ hy)
/-- a pull ahead of the next start -/
theorem Walk.pull {R t last : Int} {w : List Wt} {m : List Nat} {rest l : List Pull} (hs : ∀ x ∈ w, t ≤ stT last x) (hr : ∀ q ∈ rest, t ≤ q.1) (W : Walk R w ((t, m) :: rest) last l) : Walk R (take1 R w (t, m)) rest last l := by
  generalize hA : (t, m) :: rest = A at W
  cases W with
  | nil => cases hA
  | @go _ _ _ l2 T n g1 g2 g3 g =>
    subst hA
    have hst : t ≤ T := by
      obtain ⟨⟨x, hx, e⟩, _⟩ := minT_mem (last := last) g1
      rw [g2] at e
      rcases takeP_new _ _ x hx with hx | ⟨q, hq, rfl⟩
      · have := hs x hx
        omega
      · have : t ≤ q.1 := by
          rcases List.mem_cons.mp hq with rfl | hq
          · exact Int.le_refl _
          · exact hr q hq
        have h2 : q.1 ≤ stT last ⟨q.2, q.1, R, 0⟩ := by
          unfold stT
          show q.1 ≤ max q.1 _
          omega
        omega
    rw [takeP_cons_le (show ((t, m) : Pull).1 ≤ T from hst)] at g1 g2 g3 g
    exact .go g1 g2 g3 g
/-- nobody runs -/
structure Rst (R : Int) (p : List (List Nat)) (B : List Nat → Int) (t last : Int) (w : List Wt) (rest l : List Pull) (u : List Int) (h : List (List Nat)) (bx : Bxs) : Prop where
  stt : Stt w rest
  walk : Walk R w rest last l
  hb : HB R p w bx
  at_ : ∀ ds ∈ p, (bx ds).place = none ∧ (bx ds).quiet = min 12 (t - 1 - last) ∧ (bx ds).spring = B ds + cntL l ds
  lt : last + 1 ≤ t
  st : ∀ x ∈ w, t ≤ stT last x ∧ x.pulled ≤ t
  rt : ∀ q ∈ rest, t ≤ q.1 ∧ q.2 ∈ p
  hrd : Hr0 u h
/-- some run at a place of their rows -/
structure Rng (R : Int) (p : List (List Nat)) (B : List Nat → Int) (t T : Int) (n : List Nat) (j : Nat) (S : List (List Nat)) (w : List Wt) (rest l2 : List Pull) (u : List Int) (h : List (List Nat)) (bx : Bxs) : Prop where
  stt : Stt w rest
  tj : t = T + j
  j1 : 1 ≤ j
  jl : j < (rowN n).length
  gn : GoodN n
  nS : n ∈ S
  sm : ∀ m ∈ S, m ∈ p ∧ GoodN m ∧ (m = n ∨ m < n)
  inw : ∃ x ∈ w, x.num = n
  walk : Walk R (sendW n (leftOf n (takeP R (T + ((rowN n).length : Int) - 1) rest w).1) (takeP R (T + ((rowN n).length : Int) - 1) rest w).1) (takeP R (T + ((rowN n).length : Int) - 1) rest w).2 (T + ((rowN n).length : Int) - 6) l2
  hb : HB R p w bx
  at_ : ∀ ds ∈ p, (bx ds).place = (if ds ∈ S ∧ agr n ds j = true then some (j : Int) else none) ∧ (bx ds).quiet = (qaft 0 ((rowN n).take j) : Nat) ∧ (bx ds).spring = B ds + cntL ((T, n) :: l2) ds
  pl : ∀ x ∈ w, x.pulled ≤ t
  rt : ∀ q ∈ rest, t ≤ q.1 ∧ q.2 ∈ p
  hrd : Hr0 u h
def WQ (R : Int) (p : List (List Nat)) (B : List Nat → Int) (t : Int) (rest l : List Pull) (u : List Int) (h : List (List Nat)) (bx : Bxs) : Prop :=
  (∃ w last, Rst R p B t last w rest l u h bx) ∨ ∃ w T n j S l2 u0, l = (T, n) :: l2 ∧ u = u0 ++ (rowN n).take j ∧ Rng R p B t T n j S w rest l2 u0 h bx
theorem setF_pq {bx : Bxs} {m : List Nat} {R : Int} (ds : List Nat) : (setF bx m ((bx m).pulled R) ds).place = (bx ds).place ∧ (setF bx m ((bx m).pulled R) ds).quiet = (bx ds).quiet ∧ (setF bx m ((bx m).pulled R) ds).spring = (bx ds).spring := by
  unfold setF
  split
  · rename_i e
    subst e
    unfold Bx.pulled
    split <;> exact ⟨rfl, rfl, rfl⟩
  · exact ⟨rfl, rfl, rfl⟩
theorem Stt.pull {R t : Int} {w : List Wt} {m : List Nat} {rest : List Pull} (hR : 1 ≤ R) (h : Stt w ((t, m) :: rest)) : Stt (take1 R w (t, m)) rest := by
  refine ⟨h.wi.take1 hR (h.good _ (List.mem_cons_self)), fun x hx => ?_, (List.pairwise_cons.mp h.srt).2, fun q hq => h.good q (List.mem_cons_of_mem _ hq)⟩
  rcases take1_new x hx with hx | rfl
  · exact h.sent x hx
  · exact Int.le_refl _
/-- a pull -/
theorem WQ.pull {R t : Int} {p : List (List Nat)} {B : List Nat → Int} {m : List Nat} {rest l : List Pull} {u : List Int} {h : List (List Nat)} {bx : Bxs} (hR : 1 ≤ R) (Q : WQ R p B t ((t, m) :: rest) l u h bx) : WQ R p B t rest l u h (setF bx m ((bx m).pulled R)) := by
  rcases Q with ⟨w, last, Q⟩ | ⟨w, T, n, j, S, l2, u0, e1, e2, Q⟩
  · refine .inl ⟨take1 R w (t, m), last, Q.stt.pull hR, Q.walk.pull (fun x hx => (Q.st x hx).1) fun q hq => (Q.rt q (List.mem_cons_of_mem _ hq)).1, Q.hb.pull Q.stt.wi (Q.rt _ (List.mem_cons_self)).2 hR, fun ds hd => ?_, Q.lt, fun x hx => ?_, fun q hq => Q.rt q (List.mem_cons_of_mem _ hq), Q.hrd⟩
    · obtain ⟨a, b, c⟩ := setF_pq (bx := bx) (m := m) (R := R) ds
      rw [a, b, c]
      exact Q.at_ ds hd
    · rcases take1_new x hx with hx | rfl
      · exact Q.st x hx
      · refine ⟨?_, Int.le_refl _⟩
        unfold stT
        show t ≤ max t _
        omega
  · refine .inr ⟨take1 R w (t, m), T, n, j, S, l2, u0, e1, e2, Q.stt.pull hR, Q.tj, Q.j1, Q.jl, Q.gn, Q.nS, Q.sm, ?_, ?_, Q.hb.pull Q.stt.wi (Q.rt _ (List.mem_cons_self)).2 hR, fun ds hd => ?_, fun x hx => ?_, fun q hq => Q.rt q (List.mem_cons_of_mem _ hq), Q.hrd⟩
    · obtain ⟨x, hx, e⟩ := Q.inw
      exact ⟨x, take1_sub x hx, e⟩
    · have := Q.walk
      have h1 := Q.tj
      have h2 := Q.jl
      rw [takeP_cons_le (show ((t, m) : Pull).1 ≤ T + ((rowN n).length : Int) - 1 by show t ≤ _; omega)] at this
      exact this
    · obtain ⟨a, b, c⟩ := setF_pq (bx := bx) (m := m) (R := R) ds
      rw [a, b, c]
      exact Q.at_ ds hd
    · rcases take1_new x hx with hx | rfl
      · exact Q.pl x hx
      · exact Int.le_refl _
def wBr (p : List (List Nat)) (bx : Bxs) : Bool := p.any fun ds => ((bx ds).started).brk (rowN ds)
def sg (b : Bool) : Int := if b = true then 1 else 0
/-- what a tick does to a part of wire -/
def Ticked (R : Int) (p : List (List Nat)) (B : List Nat → Int) (t : Int) (rest l : List Pull) (u : List Int) (h : List (List Nat)) (bx b2 : Bxs) : Prop :=
  (WQ R p B (t + 1) rest l (u ++ [sg (wBr p bx)]) h b2 ∧ ∀ ds ∈ p, ((bx ds).started).whole (rowN ds) (wBr p bx) = false) ∨
  ∃ n l2, l = (t + 1 - ((rowN n).length : Int), n) :: l2 ∧ n ∈ p ∧ WQ R p B (t + 1) rest l2 (u ++ [sg (wBr p bx)]) (h ++ [n]) b2 ∧ ∀ ds ∈ p, ((bx ds).started).whole (rowN ds) (wBr p bx) = decide (ds = n)
theorem Bx.behind_idle {b : Bx} {r : List Int} {k : Bool} (h : b.place = none) : b.behind r k = ⟨b.left, b.sent, b.spring, none, qBehind b.quiet k⟩ := by
  unfold Bx.behind
  rw [h]
theorem Bx.whole_idle {b : Bx} {r : List Int} {k : Bool} (h : b.place = none) : b.whole r k = false := by
  unfold Bx.whole
  rw [h]
theorem Rst.tick {R t last : Int} {p : List (List Nat)} {B : List Nat → Int} {w : List Wt} {rest l : List Pull} {u : List Int} {h : List (List Nat)} {bx b2 : Bxs} (hp : ∀ ds ∈ p, GoodN ds) (hR1 : 1 ≤ R) (hR : R ≤ 4) (hB : ∀ ds ∈ p, 0 ≤ B ds)
    (Q : Rst R p B t last w rest l u h bx) (hr : ∀ q ∈ rest, t < q.1) (e : ∀ ds ∈ p, b2 ds = ((bx ds).started).behind (rowN ds) (wBr p bx)) : Ticked R p B t rest l u h bx b2 := by
  have idle : ∀ ds ∈ p, (∀ x ∈ w, x.num = ds → t < stT last x) → (bx ds).started = bx ds := fun ds hd hx => by
    unfold Bx.started
    rw [if_neg]
    rintro ⟨_, h1, _, h8⟩
    by_cases hw : ∃ x ∈ w, x.num = ds
    · obtain ⟨x, hxw, rfl⟩ := hw
      have a1 := (Q.hb.box x hxw).2.1
      have a2 := (Q.at_ _ hd).2.1
      have a3 := hx x hxw rfl
      have a4 := (Q.st x hxw).2
      unfold stT at a3
      omega
    · have := (Q.hb.idle ds hd fun x hx e => hw ⟨x, hx, e⟩).1
      omega
  by_cases hs : ∃ x ∈ w, stT last x ≤ t
  · obtain ⟨x0, hx0, hle0⟩ := hs
    have hwne : w ≠ [] := List.ne_nil_of_mem hx0
    have hmin : minT last w = t := by
      obtain ⟨⟨y, hy, e1⟩, h2⟩ := minT_mem (last := last) hwne
      have := h2 x0 hx0
      have := (Q.st y hy).1
      omega
    have hsk : takeP R t rest w = (w, rest) := takeP_skip fun q hq => by have := hr q hq; omega
    obtain ⟨l2, el, hW⟩ := Q.walk.head (t := t) (by rw [hsk]; exact hwne) (by rw [hsk]; exact hmin)
    rw [hsk] at el hW
    dsimp only at el hW
    obtain ⟨y, hy, en, ey⟩ := pick_mem (last := last) hwne
    rw [hmin] at en ey
    generalize hn : pick last t w = n at el hW en
    have hyS : n ∈ rdy last t w := List.mem_map.mpr ⟨y, List.mem_filter.mpr ⟨hy, by simp [ey]⟩, en⟩
    have gn : GoodN n := by rw [← en]; exact Q.stt.wi.good y hy
    have hS : ∀ m, m ∈ rdy last t w ↔ ∃ x ∈ w, x.num = m ∧ stT last x ≤ t := fun m => by
      unfold rdy
      rw [List.mem_map]
      constructor
      · rintro ⟨x, hx, e⟩
        obtain ⟨h1, h2⟩ := List.mem_filter.mp hx
        exact ⟨x, h1, e, by simpa using h2⟩
      · rintro ⟨x, h1, e, h2⟩
        exact ⟨x, List.mem_filter.mpr ⟨h1, by simpa using h2⟩, e⟩
    have hmax : ∀ m ∈ rdy last t w, m = n ∨ m < n := fun m hm => by
      unfold pick at hn
      cases hh : rdy last t w with
      | nil => rw [hh] at hm; cases hm
      | cons f r =>
        rw [hh] at hn hm
        dsimp only at hn
        have hge := mxN_ge r f
        rw [hn] at hge
        have : m ≤ n := by
          rcases List.mem_cons.mp hm with rfl | hm
          · exact hge.1
          · exact hge.2 m hm
        rcases List.le_iff_lt_or_eq.mp this with q | q
        · exact .inr q
        · exact .inl q
    generalize hSS : rdy last t w = S at hyS hS hmax
    have sm : ∀ m ∈ S, m ∈ p ∧ GoodN m ∧ (m = n ∨ m < n) := fun m hm => by
      obtain ⟨x, hx, e1, _⟩ := (hS m).mp hm
      exact ⟨by rw [← e1]; exact Q.hb.mem x hx, by rw [← e1]; exact Q.stt.wi.good x hx, hmax m hm⟩
    have hst1 : ∀ ds ∈ p, ds ∈ S → (bx ds).started = ⟨(bx ds).left, (bx ds).sent, (bx ds).spring, some 0, (bx ds).quiet⟩ := fun ds hd hds => by
      obtain ⟨x, hx, rfl, hle⟩ := (hS ds).mp hds
      obtain ⟨a1, a2, a3⟩ := Q.at_ _ hd
      obtain ⟨b1, b2, b3, b4⟩ := Q.hb.box x hx
      have c1 := Q.stt.wi.left x hx
      have c2 := hB _ hd
      have c3 := Q.walk.cnt hR1 Q.stt hx
      unfold stT at hle
      unfold Bx.started
      rw [if_pos ⟨a1, by omega, by omega, by omega⟩]
    have hst2 : ∀ ds ∈ p, ds ∉ S → (bx ds).started = bx ds := fun ds hd hds => idle ds hd fun x hx e => by
      have : ¬ stT last x ≤ t := fun q => hds ((hS ds).mpr ⟨x, hx, e, q⟩)
      omega
    have r0 : ∀ ds, GoodN ds → (rowN ds)[0]? = some 1 := fun ds hg => by
      obtain ⟨r, hr⟩ := row_head hg
      rw [hr] <;> rfl
    have hbk : ∀ ds, GoodN ds → ∀ a b c q, (⟨a, b, c, some 0, q⟩ : Bx).brk (rowN ds) = true := fun ds hg a b c q => by
      unfold Bx.brk brkB
      simp [r0 ds hg]
    have hbr : wBr p bx = true := by
      unfold wBr
      rw [List.any_eq_true]
      refine ⟨n, (sm n hyS).1, ?_⟩
      rw [hst1 n (sm n hyS).1 hyS]
      exact hbk n gn _ _ _ _
    have hb1 : ∀ ds ∈ p, ds ∈ S → b2 ds = ⟨(bx ds).left, (bx ds).sent, (bx ds).spring, some 1, 0⟩ := fun ds hd hds => by
      rw [e ds hd, hst1 ds hd hds, hbr]
      unfold Bx.behind
      dsimp only
      rw [if_neg (by rw [hbk ds (hp ds hd)]; simp), if_neg (by have := row_six (hp ds hd); omega)] <;> rfl
    have hb2 : ∀ ds ∈ p, ds ∉ S → b2 ds = ⟨(bx ds).left, (bx ds).sent, (bx ds).spring, none, 0⟩ := fun ds hd hds => by
      rw [e ds hd, hst2 ds hd hds, hbr, Bx.behind_idle (Q.at_ ds hd).1] <;> rfl
    have ht1 : (rowN n).take 1 = [1] := by
      obtain ⟨r, hr⟩ := row_head gn
      rw [hr] <;> rfl
    refine .inl ⟨.inr ⟨w, t, n, 1, S, l2, u, el, by rw [hbr, ht1]; rfl, Q.stt, rfl, Nat.le_refl _, by have := row_six gn; omega, gn, hyS, sm, ⟨y, hy, en⟩, hW n rfl, Q.hb.congr fun ds hd => ?_, fun ds hd => ?_, fun x hx => by have := (Q.st x hx).2; omega, fun q hq => ⟨by have := hr q hq; omega, (Q.rt q hq).2⟩, Q.hrd⟩, fun ds hd => ?_⟩
    · by_cases hds : ds ∈ S
      · rw [hb1 ds hd hds]; exact ⟨rfl, rfl⟩
      · rw [hb2 ds hd hds]; exact ⟨rfl, rfl⟩
    · obtain ⟨a1, a2, a3⟩ := Q.at_ ds hd
      rw [ht1, ← el]
      by_cases hds : ds ∈ S
      · rw [hb1 ds hd hds, if_pos ⟨hds, agr_one gn (hp ds hd)⟩]
        exact ⟨rfl, rfl, a3⟩
      · rw [hb2 ds hd hds, if_neg fun q => hds q.1]
        exact ⟨rfl, rfl, a3⟩
    · by_cases hds : ds ∈ S
      · rw [hst1 ds hd hds]
        unfold Bx.whole
        dsimp only
        rw [if_pos (by have := row_six (hp ds hd); omega)]
      · rw [hst2 ds hd hds, Bx.whole_idle (Q.at_ ds hd).1]
  · have hq : ∀ ds ∈ p, (bx ds).started = bx ds := fun ds hd => idle ds hd fun x hx _ => by
      have : ¬ stT last x ≤ t := fun q => hs ⟨x, hx, q⟩
      omega
    have hbr : wBr p bx = false := by
      unfold wBr
      rw [List.any_eq_false]
      intro ds hd
      rw [hq ds hd]
      unfold Bx.brk brkB
      rw [(Q.at_ ds hd).1]
      simp
    have hb : ∀ ds ∈ p, b2 ds = ⟨(bx ds).left, (bx ds).sent, (bx ds).spring, none, min 12 ((bx ds).quiet + 1)⟩ := fun ds hd => by
      rw [e ds hd, hq ds hd, hbr, Bx.behind_idle (Q.at_ ds hd).1] <;> rfl
    refine .inl ⟨.inl ⟨w, last, Q.stt, Q.walk, Q.hb.congr fun ds hd => by rw [hb ds hd]; exact ⟨rfl, rfl⟩, fun ds hd => ?_, by have := Q.lt; omega, fun x hx => ?_, fun q hq => ⟨by have := hr q hq; omega, (Q.rt q hq).2⟩, ?_⟩, fun ds hd => ?_⟩
    · obtain ⟨a1, a2, a3⟩ := Q.at_ ds hd
      rw [hb ds hd]
      refine ⟨rfl, ?_, a3⟩
      show min 12 ((bx ds).quiet + 1) = min 12 (t + 1 - 1 - last)
      rw [a2]
      omega
    · have : ¬ stT last x ≤ t := fun q => hs ⟨x, hx, q⟩
      have := (Q.st x hx).2
      exact ⟨by omega, by omega⟩
    · rw [hbr]
      exact Q.hrd.quiet 1
    · rw [hq ds hd, Bx.whole_idle (Q.at_ ds hd).1]
theorem Rng.tick {R t T : Int} {p : List (List Nat)} {B : List Nat → Int} {n : List Nat} {j : Nat} {S : List (List Nat)} {w : List Wt} {rest l2 : List Pull} {u : List Int} {h : List (List Nat)} {bx b2 : Bxs} (hp : ∀ ds ∈ p, GoodN ds)
    (Q : Rng R p B t T n j S w rest l2 u h bx) (hr : ∀ q ∈ rest, t < q.1) (e : ∀ ds ∈ p, b2 ds = ((bx ds).started).behind (rowN ds) (wBr p bx)) : Ticked R p B t rest ((T, n) :: l2) (u ++ (rowN n).take j) h bx b2 := by
  have gn := Q.gn
  have hjl := Q.jl
  have htj := Q.tj
  have hnp := (Q.sm n Q.nS).1
  obtain ⟨_, hq5, _⟩ := part_calm gn Q.j1 Q.jl
  have hst : ∀ ds ∈ p, (bx ds).started = bx ds := fun ds hd => by
    have a2 := (Q.at_ ds hd).2.1
    refine Bx.started_idle ?_ (by rw [a2]; omega)
    by_cases hw : ∃ x ∈ w, x.num = ds
    · obtain ⟨x, hx, rfl⟩ := hw
      have := Q.hb.box x hx
      omega
    · have := Q.hb.idle ds hd fun x hx e => hw ⟨x, hx, e⟩
      omega
  generalize hb : (rowN n)[j] = b
  have hb01 : b = 0 ∨ b = 1 := by rw [← hb]; exact row01 _ (List.getElem_mem hjl)
  have run : ∀ ds ∈ p, ds ∈ S → agr n ds j = true → (bx ds).place = some (j : Int) ∧ (bx ds).brk (rowN ds) = decide ((if diffAt (rowN n) (rowN ds) = some j then 0 else b) = 1) ∧ (diffAt (rowN n) (rowN ds) = some j → b = 1) := fun ds hd hds ha => by
    have a1 := (Q.at_ ds hd).1
    rw [if_pos ⟨hds, ha⟩] at a1
    obtain ⟨_, g2, g3⟩ := Q.sm ds hds
    obtain ⟨q1, q2⟩ := agr_at gn g2 g3 hjl ha
    rw [hb] at q1 q2
    refine ⟨a1, ?_, q2⟩
    unfold Bx.brk brkB
    rw [a1]
    simp only [Int.toNat_natCast, q1, Option.some.injEq]
  have still : ∀ ds ∈ p, ¬ (ds ∈ S ∧ agr n ds j = true) → (bx ds).place = none := fun ds hd hn => by
    have a1 := (Q.at_ ds hd).1
    rw [if_neg hn] at a1
    exact a1
  have hbr : wBr p bx = decide (b = 1) := by
    unfold wBr
    by_cases h1 : b = 1
    · rw [decide_eq_true h1, List.any_eq_true]
      refine ⟨n, hnp, ?_⟩
      rw [hst n hnp, (run n hnp Q.nS agr_self).2.1, diffAt_self]
      simp [h1]
    · rw [decide_eq_false h1, List.any_eq_false]
      intro ds hd
      rw [hst ds hd]
      by_cases hn : ds ∈ S ∧ agr n ds j = true
      · rw [(run ds hd hn.1 hn.2).2.1]
        split
        · simp
        · simp [h1]
      · unfold Bx.brk brkB
        rw [still ds hd hn]
        simp
  have hsg : sg (wBr p bx) = b := by
    rw [hbr]
    rcases hb01 with rfl | rfl <;> rfl
  have htk : (rowN n).take (j + 1) = (rowN n).take j ++ [b] := by
    rw [List.take_succ, List.getElem?_eq_getElem hjl, hb] <;> rfl
  have hqn : ∀ ds ∈ p, qBehind (bx ds).quiet (wBr p bx) = (qaft 0 ((rowN n).take (j + 1)) : Nat) := fun ds hd => by
    rw [(Q.at_ ds hd).2.1, htk, qaft_app, hbr]
    rcases hb01 with rfl | rfl
    · show min 12 (((qaft 0 ((rowN n).take j) : Nat) : Int) + 1) = _
      have : qaft (qaft 0 ((rowN n).take j)) [0] = qaft 0 ((rowN n).take j) + 1 := rfl
      rw [this]
      omega
    · rfl
  -- one that stands
  have s1 : ∀ ds ∈ p, ¬ (ds ∈ S ∧ agr n ds j = true) → b2 ds = ⟨(bx ds).left, (bx ds).sent, (bx ds).spring, none, (qaft 0 ((rowN n).take (j + 1)) : Nat)⟩ ∧ ((bx ds).started).whole (rowN ds) (wBr p bx) = false := fun ds hd hn => by
    rw [e ds hd, hst ds hd, Bx.behind_idle (still ds hd hn), Bx.whole_idle (still ds hd hn), hqn ds hd]
    exact ⟨rfl, rfl⟩
  -- one that steps back
  have s2 : ∀ ds ∈ p, ds ∈ S → agr n ds j = true → diffAt (rowN n) (rowN ds) = some j → b2 ds = ⟨(bx ds).left, (bx ds).sent, (bx ds).spring, none, (qaft 0 ((rowN n).take (j + 1)) : Nat)⟩ ∧ ((bx ds).started).whole (rowN ds) (wBr p bx) = false := fun ds hd hds ha hdf => by
    obtain ⟨r1, r2, r3⟩ := run ds hd hds ha
    have hb1 := r3 hdf
    rw [if_pos hdf] at r2
    have hbt : wBr p bx = true := by rw [hbr, hb1]; rfl
    have hk : (bx ds).brk (rowN ds) = false := by rw [r2]; rfl
    have hqq := hqn ds hd
    rw [e ds hd, hst ds hd]
    constructor
    · unfold Bx.behind
      rw [r1]
      dsimp only
      rw [if_pos ⟨hbt, hk⟩, hqq]
    · unfold Bx.whole
      rw [r1]
      dsimp only
      rw [hbt, hk]
      split <;> rfl
  -- one that runs on
  have s3 : ∀ ds ∈ p, ds ∈ S → agr n ds j = true → diffAt (rowN n) (rowN ds) ≠ some j → j + 1 ≠ (rowN ds).length → b2 ds = ⟨(bx ds).left, (bx ds).sent, (bx ds).spring, some ((j + 1 : Nat) : Int), (qaft 0 ((rowN n).take (j + 1)) : Nat)⟩ := fun ds hd hds ha hdf hlen => by
    obtain ⟨r1, r2, r3⟩ := run ds hd hds ha
    rw [if_neg hdf] at r2
    have hqq := hqn ds hd
    rw [e ds hd, hst ds hd]
    unfold Bx.behind
    rw [r1]
    dsimp only
    rw [if_neg (by rw [hbr, r2]; rintro ⟨q1, q2⟩; rw [q1] at q2; cases q2), if_neg (by omega), hqq] <;> rfl
  have agd : ∀ ds, agr n ds (j + 1) = (agr n ds j && !decide (diffAt (rowN n) (rowN ds) = some j)) := fun ds => agr_succ
  have rt' : ∀ q ∈ rest, t + 1 ≤ q.1 ∧ q.2 ∈ p := fun q hq => ⟨by have := hr q hq; omega, (Q.rt q hq).2⟩
  by_cases hend : j + 1 = (rowN n).length
  · -- the round comes whole
    have only : ∀ ds ∈ p, ds ≠ n → b2 ds = ⟨(bx ds).left, (bx ds).sent, (bx ds).spring, none, (qaft 0 ((rowN n).take (j + 1)) : Nat)⟩ ∧ ((bx ds).started).whole (rowN ds) (wBr p bx) = false := fun ds hd hne => by
      by_cases hn : ds ∈ S ∧ agr n ds j = true
      · by_cases hdf : diffAt (rowN n) (rowN ds) = some j
        · exact s2 ds hd hn.1 hn.2 hdf
        · exfalso
          obtain ⟨_, g2, g3⟩ := Q.sm ds hn.1
          have ha : agr n ds (j + 1) = true := by rw [agd, hn.2, decide_eq_false hdf]; rfl
          have := agr_len gn g2 (g3.resolve_left hne) ha
          omega
      · exact s1 ds hd hn
    obtain ⟨r1, r2, _⟩ := run n hnp Q.nS agr_self
    rw [diffAt_self] at r2
    rw [if_neg (by simp)] at r2
    have hwn : ((bx n).started).whole (rowN n) (wBr p bx) = true := by
      rw [hst n hnp]
      unfold Bx.whole
      rw [r1]
      dsimp only
      rw [if_neg (by omega), hbr, r2]
      cases decide (b = 1) <;> rfl
    obtain ⟨x, hx, ex⟩ := Q.inw
    subst ex
    have hbx := Q.hb.box x hx
    have hqq := hqn x.num hnp
    have hbn : b2 x.num = (if x.left = 1 then ⟨0, 0, (bx x.num).spring - 1, none, (qaft 0 ((rowN x.num).take (j + 1)) : Nat)⟩ else ⟨x.left - 1, x.sent + 1, (bx x.num).spring - 1, none, (qaft 0 ((rowN x.num).take (j + 1)) : Nat)⟩) := by
      rw [e x.num hnp, hst x.num hnp]
      unfold Bx.behind
      rw [r1]
      dsimp only
      rw [if_neg (by rw [hbr, r2]; rintro ⟨q1, q2⟩; rw [q1] at q2; cases q2), if_pos (by omega), hqq, hbx.1, hbx.2.1]
    have hsk : takeP R (T + ((rowN x.num).length : Int) - 1) rest w = (w, rest) := takeP_skip fun q hq => by have := hr q hq; omega
    have hW := Q.walk
    rw [hsk] at hW
    dsimp only at hW
    rw [leftOf_mem hx Q.stt.wi.nd] at hW
    have hfull : (rowN x.num).take (j + 1) = rowN x.num := by rw [hend]; exact List.take_length
    refine .inr ⟨x.num, l2, by rw [show t + 1 - ((rowN x.num).length : Int) = T by omega], hnp, .inl ⟨_, _, Q.stt.send hx, hW, Q.hb.send Q.stt.wi hx (fun ds hd hne => by rw [(only ds hd hne).1]; exact ⟨rfl, rfl⟩) ?_, fun ds hd => ?_, by omega, fun y hy => ?_, rt', ?_⟩, fun ds hd => ?_⟩
    · rw [hbn]
      split <;> exact ⟨rfl, rfl⟩
    · have a3 := (Q.at_ ds hd).2.2
      have h5 : ((qaft 0 ((rowN x.num).take (j + 1)) : Nat) : Int) = min 12 (t + 1 - 1 - (T + ((rowN x.num).length : Int) - 6)) := by
        rw [hfull, (row_calm gn).2]
        omega
      rw [cntL_cons] at a3
      by_cases hne : ds = x.num
      · subst hne
        rw [if_pos rfl] at a3
        rw [hbn, a3]
        split
        · exact ⟨rfl, h5, by show B x.num + (cntL l2 x.num + 1) - 1 = _; omega⟩
        · exact ⟨rfl, h5, by show B x.num + (cntL l2 x.num + 1) - 1 = _; omega⟩
      · rw [if_neg (fun q => hne q.symm)] at a3
        rw [(only ds hd hne).1]
        exact ⟨rfl, h5, by show (bx ds).spring = _; rw [a3]; omega⟩
    · have hs0 : ∀ z ∈ sendW x.num x.left w, 0 ≤ z.sent := (Q.stt.send hx).sent
      have := hs0 y hy
      refine ⟨by unfold stT; omega, ?_⟩
      obtain ⟨A, C, e1, e2⟩ := send_split hx Q.stt.wi
      have hpl := Q.pl
      rw [e2] at hy
      have : y.pulled ≤ t := by
        rcases List.mem_append.mp hy with hy | hy
        · rcases List.mem_append.mp hy with hy | hy
          · exact hpl y (by rw [e1]; exact List.mem_append_left _ hy)
          · split at hy
            · cases hy
            · rw [List.mem_singleton.mp hy]
              exact hpl x hx
        · exact hpl y (by rw [e1]; exact List.mem_append_right _ (List.mem_cons_of_mem _ hy))
      omega
    · rw [hsg, List.append_assoc, ← htk, hfull]
      exact Q.hrd.row gn
    · by_cases hne : ds = x.num
      · subst hne
        rw [hwn]
        simp
      · rw [(only ds hd hne).2]
        simp [hne]
  · have hj1 : j + 1 < (rowN n).length := by omega
    have nend : ∀ ds ∈ p, ds ∈ S → agr n ds j = true → diffAt (rowN n) (rowN ds) ≠ some j → j + 1 < (rowN ds).length := fun ds hd hds ha hdf => by
      obtain ⟨_, g2, g3⟩ := Q.sm ds hds
      rcases g3 with rfl | g3
      · exact hj1
      · exact (agr_len gn g2 g3 (show agr n ds (j + 1) = true by rw [agd, ha, decide_eq_false hdf]; rfl)).1
    have all : ∀ ds ∈ p, b2 ds = ⟨(bx ds).left, (bx ds).sent, (bx ds).spring, if ds ∈ S ∧ agr n ds (j + 1) = true then some ((j + 1 : Nat) : Int) else none, (qaft 0 ((rowN n).take (j + 1)) : Nat)⟩ ∧ ((bx ds).started).whole (rowN ds) (wBr p bx) = false := fun ds hd => by
      by_cases hn : ds ∈ S ∧ agr n ds j = true
      · by_cases hdf : diffAt (rowN n) (rowN ds) = some j
        · rw [if_neg (by rw [agd, decide_eq_true hdf]; simp)]
          exact s2 ds hd hn.1 hn.2 hdf
        · have hlt := nend ds hd hn.1 hn.2 hdf
          rw [if_pos ⟨hn.1, by rw [agd, hn.2, decide_eq_false hdf]; rfl⟩]
          refine ⟨s3 ds hd hn.1 hn.2 hdf (by omega), ?_⟩
          rw [hst ds hd]
          unfold Bx.whole
          rw [(run ds hd hn.1 hn.2).1]
          dsimp only
          rw [if_pos (by omega)]
      · rw [if_neg (by rw [agd]; rintro ⟨q1, q2⟩; exact hn ⟨q1, by simp at q2; exact q2.1⟩)]
        exact s1 ds hd hn
    refine .inl ⟨.inr ⟨w, T, n, j + 1, S, l2, u, rfl, by rw [hsg, htk, List.append_assoc], Q.stt, by omega, by omega, hj1, gn, Q.nS, Q.sm, Q.inw, Q.walk, Q.hb.congr fun ds hd => by rw [(all ds hd).1]; exact ⟨rfl, rfl⟩, fun ds hd => ?_, fun y hy => by have := Q.pl y hy; omega, rt', Q.hrd⟩, fun ds hd => (all ds hd).2⟩
    rw [(all ds hd).1]
    exact ⟨rfl, rfl, (Q.at_ ds hd).2.2⟩
theorem WQ.tick {R t : Int} {p : List (List Nat)} {B : List Nat → Int} {rest l : List Pull} {u : List Int} {h : List (List Nat)} {bx b2 : Bxs} (hp : ∀ ds ∈ p, GoodN ds) (hR1 : 1 ≤ R) (hR : R ≤ 4) (hB : ∀ ds ∈ p, 0 ≤ B ds)
    (Q : WQ R p B t rest l u h bx) (hr : ∀ q ∈ rest, t < q.1) (e : ∀ ds ∈ p, b2 ds = ((bx ds).started).behind (rowN ds) (wBr p bx)) : Ticked R p B t rest l u h bx b2 := by
  rcases Q with ⟨w, last, Q⟩ | ⟨w, T, n, j, S, l2, u0, rfl, rfl, Q⟩
  · exact Q.tick hp hR1 hR hB hr e
  · exact Q.tick hp hr e
theorem WQ.pulls {R t : Int} {p : List (List Nat)} {B : List Nat → Int} {l : List Pull} {u : List Int} {h : List (List Nat)} (hR : 1 ≤ R) {rest : List Pull} : ∀ (A : List Pull) {bx : Bxs}, (∀ q ∈ A, q.1 = t) → WQ R p B t (A ++ rest) l u h bx → WQ R p B t rest l u h (A.foldl (fun b q => setF b q.2 ((b q.2).pulled R)) bx)
  | [], bx, _, Q => Q
  | q :: A, bx, hA, Q => by
    have : q.1 = t := hA q (List.mem_cons_self)
    obtain ⟨s, m⟩ := q
    dsimp only at this
    subst this
    exact WQ.pulls hR A (fun q hq => hA q (List.mem_cons_of_mem _ hq)) (Q.pull hR)
theorem srt_split {t : Int} : ∀ {ps : List Pull}, Srt ps → ps.filter (fun q => decide (t ≤ q.1)) = ps.filter (fun q => decide (q.1 = t)) ++ ps.filter (fun q => decide (t + 1 ≤ q.1))
  | [], _ => rfl
  | q :: ps, h => by
    obtain ⟨h1, h2⟩ := List.pairwise_cons.mp h
    have ih := srt_split (t := t) h2
    by_cases h3 : q.1 < t
    · rw [List.filter_cons_of_neg (by simp; omega), List.filter_cons_of_neg (by simp; omega), List.filter_cons_of_neg (by simp; omega), ih]
    · by_cases h4 : q.1 = t
      · rw [List.filter_cons_of_pos (by simp; omega), List.filter_cons_of_pos (by simp; omega), List.filter_cons_of_neg (by simp; omega), ih] <;> rfl
      · have e1 : (q :: ps).filter (fun q => decide (q.1 = t)) = [] := List.filter_eq_nil_iff.mpr fun x hx => by
          rcases List.mem_cons.mp hx with rfl | hx
          · simpa using h4
          · have := h1 x hx
            simp
            omega
        rw [e1, List.nil_append]
        refine List.filter_congr fun x hx => ?_
        have : t + 1 ≤ x.1 := by
          rcases List.mem_cons.mp hx with rfl | hx
          · omega
          · have := h1 x hx
            omega
        rw [decide_eq_true this, decide_eq_true (show t ≤ x.1 by omega)]
theorem WQ.ends {R t : Int} {p : List (List Nat)} {B : List Nat → Int} {rest l : List Pull} {u : List Int} {h : List (List Nat)} {bx : Bxs} (hR : 1 ≤ R) (Q : WQ R p B t rest l u h bx) : ∀ q ∈ l, t ≤ q.1 + ((rowN q.2).length : Int) - 1 := by
  rcases Q with ⟨w, last, Q⟩ | ⟨w, T, n, j, S, l2, u0, rfl, rfl, Q⟩
  · have W := Q.walk
    cases W with
    | nil => intro q hq; cases hq
    | @go _ _ _ l2 T n g1 g2 g3 g =>
      have hst : t ≤ T := by
        obtain ⟨⟨x, hx, e⟩, _⟩ := minT_mem (last := last) g1
        rw [g2] at e
        rcases takeP_new _ _ x hx with hx | ⟨q, hq, rfl⟩
        · have := (Q.st x hx).1
          omega
        · have h1 := (Q.rt q hq).1
          have h2 : q.1 ≤ stT last ⟨q.2, q.1, R, 0⟩ := by
            unfold stT
            show q.1 ≤ max q.1 _
            omega
          omega
      obtain ⟨x, hx, e1, hg, ht, hx2, hl, s2⟩ := Q.stt.next hR g1 g2 g3
      intro q hq
      have h6 := row_six hg
      rcases List.mem_cons.mp hq with rfl | hq
      · show t ≤ T + ((rowN n).length : Int) - 1
        omega
      · have := (g.starts hR s2 q hq)
        have := row_six this.2
        omega
  · intro q hq
    have h6 := row_six Q.gn
    have h7 := Q.jl
    have h8 := Q.tj
    rcases List.mem_cons.mp hq with rfl | hq
    · show t ≤ T + ((rowN n).length : Int) - 1
      omega
    · obtain ⟨x, hx, e⟩ := Q.inw
      have s1 := Q.stt.take hR (T + ((rowN n).length : Int) - 1)
      have hx2 := takeP_sub (R := R) (t := T + ((rowN n).length : Int) - 1) rest w x hx
      have hl := leftOf_mem hx2 s1.wi.nd
      have s2 := s1.send hx2
      rw [e] at hl s2
      have hW := Q.walk
      rw [hl] at hW
      have := hW.starts hR s2 q hq
      have := row_six this.2
      omega
theorem WQ.done {R t : Int} {p : List (List Nat)} {B : List Nat → Int} {rest : List Pull} {u : List Int} {h : List (List Nat)} {bx : Bxs} (Q : WQ R p B t rest [] u h bx) : ∃ last, last + 1 ≤ t ∧ ∀ ds ∈ p, bx ds = ⟨0, 0, B ds, none, min 12 (t - 1 - last)⟩ := by
  rcases Q with ⟨w, last, Q⟩ | ⟨w, T, n, j, S, l2, u0, e, _⟩
  · refine ⟨last, Q.lt, fun ds hd => ?_⟩
    have hw : w = [] := by
      have W := Q.walk
      generalize hl : ([] : List Pull) = l at W
      cases W with
      | nil => rfl
      | go => cases hl
    subst hw
    obtain ⟨a1, a2, a3⟩ := Q.at_ ds hd
    obtain ⟨b1, b2⟩ := Q.hb.idle ds hd (by simp)
    have c : cntL [] ds = 0 := rfl
    rw [c] at a3
    generalize bx ds = b at *
    obtain ⟨x1, x2, x3, x4, x5⟩ := b
    dsimp only at *
    rw [b1, b2, a1, a2, a3, Int.add_zero]
  · cases e
/-- a tick with its pulls -/
theorem WQ.turn {R t : Int} {p : List (List Nat)} {B : List Nat → Int} {ps l : List Pull} {u : List Int} {h : List (List Nat)} {bx bp b2 : Bxs} (hp : ∀ ds ∈ p, GoodN ds) (hR1 : 1 ≤ R) (hR : R ≤ 4) (hB : ∀ ds ∈ p, 0 ≤ B ds) (hs : Srt ps)
    (Q : WQ R p B t (ps.filter fun q => decide (t ≤ q.1)) l u h bx) (ep : bp = (ps.filter fun q => decide (q.1 = t)).foldl (fun b q => setF b q.2 ((b q.2).pulled R)) bx) (e : ∀ ds ∈ p, b2 ds = ((bp ds).started).behind (rowN ds) (wBr p bp)) :
    Ticked R p B t (ps.filter fun q => decide (t + 1 ≤ q.1)) l u h bp b2 := by
  subst ep
  rw [srt_split hs] at Q
  refine (Q.pulls hR1 _ fun q hq => by simpa using (List.mem_filter.mp hq).2).tick hp hR1 hR hB (fun q hq => ?_) e
  have := (List.mem_filter.mp hq).2
  simp at this
  omega
/-- where it begins: all stand, quiet for long -/
theorem WQ.init {R : Int} {p : List (List Nat)} {B : List Nat → Int} {ps f : List Pull} {bx : Bxs} (W : Walk R [] ps (-13) f) (hs : Stt [] ps) (h0 : ∀ q ∈ ps, 0 ≤ q.1 ∧ q.2 ∈ p) (hb : ∀ ds ∈ p, bx ds = ⟨0, 0, B ds + cntL f ds, none, 12⟩) :
    WQ R p B 0 (ps.filter fun q => decide (0 ≤ q.1)) f [] [] bx := by
  have e : ps.filter (fun q => decide (0 ≤ q.1)) = ps := List.filter_eq_self.mpr fun q hq => by simpa using (h0 q hq).1
  rw [e]
  exact .inl ⟨[], -13, hs, W, ⟨by simp, by simp, fun ds hd _ => by rw [hb ds hd]; exact ⟨rfl, rfl⟩⟩, fun ds hd => by rw [hb ds hd]; exact ⟨rfl, rfl, rfl⟩, by decide, by simp, h0, Hr0.nil⟩
end CW

namespace CW
open PySem PySem.Spec PyProof.Rows L2 MM
end CW

namespace CW
open PySem PySem.Spec PyProof.Rows L2 MM
theorem takeP_sum {R t : Int} (hR : 1 ≤ R) {ps : List Pull} {w : List Wt} (h : Stt w ps) : sumL (takeP R t ps w).1 + R * ((takeP R t ps w).2.length : Int) ≤ sumL w + R * (ps.length : Int) ∧ (takeP R t ps w).2.length ≤ ps.length := by
  obtain ⟨_, ⟨k, e, hk⟩, h3, _⟩ := takeP_inv (t := t) hR ps w h.wi h.good
  exact ⟨h3, by rw [e, List.length_drop]; omega⟩
theorem Walk.ex {R : Int} (hR : 1 ≤ R) : ∀ (k : Nat) (w : List Wt) (rest : List Pull) (last : Int), Stt w rest → sumL w + R * (rest.length : Int) + (rest.length : Int) ≤ k → ∃ l, Walk R w rest last l
  | k, w, rest, last, hs, hk => by
    -- a first pull taken
    have first : ∀ p r, rest = p :: r → (∀ x ∈ w, p.1 ≤ stT last x) → ∃ l, Walk R w rest last l := fun p r e hw => by
      subst e
      have h6 := takeP_lt (r := r) hR (Int.le_refl p.1) hs.wi hs.good
      have h7 := takeP_sum (t := p.1) hR hs
      cases k with
      | zero =>
        exfalso
        have h8 : 0 ≤ sumL w := by have := sumL_ge hs.wi.left; omega
        have h9 : 0 ≤ R * ((p :: r).length : Int) := Int.mul_nonneg (by omega) (by omega)
        simp only [List.length_cons] at hk h9
        omega
      | succ k =>
        obtain ⟨l, W⟩ := Walk.ex hR k _ _ last (hs.take hR p.1) (by omega)
        exact ⟨l, take_walk hw hs.srt.head h6.2 W⟩
    by_cases hw : w = []
    · subst hw
      cases hr : rest with
      | nil => exact ⟨[], .nil⟩
      | cons p r => rw [← hr]; exact first p r hr (by simp)
    · by_cases hc : ∃ p r, rest = p :: r ∧ p.1 ≤ minT last w
      · obtain ⟨p, r, e, hle⟩ := hc
        exact first p r e fun x hx => by have := minT_le (last := last) hx; omega
      · have hsk : takeP R (minT last w) rest w = (w, rest) := by
          cases hr : rest with
          | nil => rfl
          | cons p r => exact takeP_cons_gt fun h => hc ⟨p, r, hr, h⟩
        obtain ⟨x, hx, e1, hg, ht, hx2, hl, s2⟩ := hs.next (t := minT last w) (last := last) hR (by rw [hsk]; exact hw) (by rw [hsk]) rfl
        rw [hsk] at e1 hx2 hl s2
        dsimp only at e1 hx2 hl s2
        have s1 := hs.take hR (minT last w + ((rowN (pick last (minT last w) w)).length : Int) - 1)
        have h7 := takeP_sum (t := minT last w + ((rowN (pick last (minT last w) w)).length : Int) - 1) hR hs
        have h8 := sum_send hx2 s1.wi.nd
        rw [e1] at h8
        rw [hl] at s2
        have h10 : 0 ≤ sumL w := by have := sumL_ge hs.wi.left; omega
        cases k with
        | zero =>
          exfalso
          have h8 := sumL_ge hs.wi.left
          have h9 : 0 ≤ R * (rest.length : Int) := Int.mul_nonneg (by omega) (by omega)
          have : 0 < w.length := List.length_pos_iff.mpr hw
          omega
        | succ k =>
          obtain ⟨l, W⟩ := Walk.ex hR k _ _ (minT last w + ((rowN (pick last (minT last w) w)).length : Int) - 6) s2 (by omega)
          refine ⟨(minT last w, pick last (minT last w) w) :: l, .go (l := l) (t := minT last w) (n := pick last (minT last w) w) (by rw [hsk]; exact hw) (by rw [hsk]) (by rw [hsk]) ?_⟩
          rw [hsk]
          dsimp only
          rw [hl]
          exact W
theorem Walk.exists {R : Int} (hR : 1 ≤ R) {w : List Wt} {rest : List Pull} (last : Int) (hs : Stt w rest) : ∃ l, Walk R w rest last l :=
  Walk.ex hR (sumL w + R * (rest.length : Int) + (rest.length : Int)).toNat w rest last hs (by omega)
/-- the ticks that one's rounds take -/
def cst (len : Int) : Int → Nat → Int
  | _, 0 => 0
  | sent, k + 1 => (len + 3 + sent) + cst len (sent + 1) k
def costW (x : Wt) : Int := cst ((rowN x.num).length : Int) x.sent x.left.toNat
def totW (w : List Wt) : Int := (w.map costW).sum
theorem tot_send {w : List Wt} {x : Wt} (hx : x ∈ w) (hi : WI w) : totW w = totW (sendW x.num x.left w) + (((rowN x.num).length : Int) + 3 + x.sent) := by
  obtain ⟨A, C, e1, e2⟩ := send_split hx hi
  have hl := hi.left x hx
  rw [e2]
  conv => lhs; rw [e1]
  unfold totW
  simp only [List.map_append, List.map_cons, List.sum_append, List.sum_cons]
  have hc : costW x = (((rowN x.num).length : Int) + 3 + x.sent) + (if x.left = 1 then 0 else costW ⟨x.num, x.pulled, x.left - 1, x.sent + 1⟩) := by
    unfold costW
    obtain ⟨k, hk⟩ : ∃ k, x.left.toNat = k + 1 := ⟨x.left.toNat - 1, by omega⟩
    rw [hk]
    show _ + cst _ (x.sent + 1) k = _
    by_cases h1 : x.left = 1
    · rw [if_pos h1, show k = 0 by omega] <;> rfl
    · rw [if_neg h1]
      show _ = _ + cst ((rowN x.num).length : Int) (x.sent + 1) (x.left - 1).toNat
      rw [show (x.left - 1).toNat = k by omega]
  rw [hc]
  by_cases h1 : x.left = 1
  · simp only [if_pos h1, List.map_nil, List.sum_nil]
    omega
  · simp only [if_neg h1, List.map_cons, List.map_nil, List.sum_cons, List.sum_nil]
    omega
theorem tot_nn : ∀ {w : List Wt}, (∀ x ∈ w, 0 ≤ x.sent) → 0 ≤ totW w := by
  have key : ∀ (k : Nat) (len s : Int), 0 ≤ len → 0 ≤ s → 0 ≤ cst len s k := by
    intro k
    induction k with
    | zero => intro _ _ _ _; exact Int.le_refl _
    | succ k ih =>
      intro len s h1 h2
      have := ih len (s + 1) h1 (by omega)
      show 0 ≤ (len + 3 + s) + cst len (s + 1) k
      omega
  intro w
  induction w with
  | nil => intro _; exact Int.le_refl _
  | cons x w ih =>
    intro h
    have h1 := ih fun y hy => h y (List.mem_cons_of_mem _ hy)
    have h2 := key x.left.toNat ((rowN x.num).length : Int) x.sent (by omega) (h x (List.mem_cons_self))
    show 0 ≤ ((x :: w).map costW).sum
    rw [List.map_cons, List.sum_cons]
    have h3 : costW x = cst ((rowN x.num).length : Int) x.sent x.left.toNat := rfl
    unfold totW at h1
    omega
/-- what follows from a walk without pulls: where the last round ends, how often each comes -/
structure Alone (w : List Wt) (last : Int) (l : List Pull) : Prop where
  le : ∀ q ∈ l, q.1 + ((rowN q.2).length : Int) ≤ last + 6 + totW w
  end_ : ∀ q, l.getLast? = some q → q.1 + ((rowN q.2).length : Int) = last + 6 + totW w
  cnt : ∀ x ∈ w, cntL l x.num = x.left
  none_ : ∀ ds, (∀ x ∈ w, x.num ≠ ds) → cntL l ds = 0
  len : (l.length : Int) = sumL w
theorem cntL_nil {ds : List Nat} : cntL [] ds = 0 := rfl
theorem Walk.alone {R : Int} (hR : 1 ≤ R) {w : List Wt} {rest l : List Pull} {last : Int} (W : Walk R w rest last l) : rest = [] → Stt w [] → (∀ x ∈ w, x.pulled ≤ last + 9) → Alone w last l := by
  induction W with
  | nil => exact fun _ _ _ => ⟨by simp, by simp, by simp, fun _ _ => rfl, rfl⟩
  | @go w rest last l t n h1 h2 h3 h ih =>
    intro e hs hp
    subst e
    rw [takeP_nil] at h1 h2 h3 h ih
    dsimp only at h1 h2 h3 h ih
    rw [takeP_nil] at h ih
    dsimp only at h ih
    obtain ⟨x, hx, e1, e2⟩ := pick_mem (last := last) h1
    rw [h2] at e1 e2
    rw [h3] at e1
    subst e1
    rw [leftOf_mem hx hs.wi.nd] at h ih
    have s2 := hs.send hx
    have hs0 := hs.sent x hx
    have hpx := hp x hx
    have ht : t = last + 9 + x.sent := by
      unfold stT at e2
      omega
    have hpl : ∀ y ∈ sendW x.num x.left w, y.pulled ≤ last + 9 := fun y hy => by
      obtain ⟨A, C, q1, q2⟩ := send_split hx hs.wi
      rw [q2] at hy
      rcases List.mem_append.mp hy with hy | hy
      · rcases List.mem_append.mp hy with hy | hy
        · exact hp y (by rw [q1]; exact List.mem_append_left _ hy)
        · split at hy
          · cases hy
          · rw [List.mem_singleton.mp hy]
            exact hpx
      · exact hp y (by rw [q1]; exact List.mem_append_right _ (List.mem_cons_of_mem _ hy))
    have h6 := row_six (hs.wi.good x hx)
    have A := ih rfl s2 fun y hy => by have := hpl y hy; omega
    have htot := tot_send hx hs.wi
    have hnn := tot_nn s2.sent
    have hsum := sum_send hx hs.wi.nd
    have inS : ∀ y ∈ w, y.num ≠ x.num → y ∈ sendW x.num x.left w := fun y hy hn => sendW_other hy hn
    have numS2 : ∀ y ∈ sendW x.num x.left w, y.num = x.num → x.left ≠ 1 ∧ y.left = x.left - 1 := fun y hy hn => by
      unfold sendW at hy
      split at hy
      · have := (List.mem_filter.mp hy).2
        simp [hn] at this
      · rename_i hne
        refine ⟨hne, ?_⟩
        obtain ⟨z, hz, rfl⟩ := List.mem_map.mp hy
        by_cases hzn : z.num = x.num
        · rw [if_pos hzn]
          have h1 := leftOf_mem hz hs.wi.nd
          have h2 := leftOf_mem hx hs.wi.nd
          rw [hzn] at h1
          show z.left - 1 = x.left - 1
          omega
        · rw [if_neg hzn] at hn
          exact absurd hn hzn
    refine ⟨fun q hq => ?_, fun q hq => ?_, fun y hy => ?_, fun ds hd => ?_, ?_⟩
    · rcases List.mem_cons.mp hq with rfl | hq
      · show t + ((rowN x.num).length : Int) ≤ _
        omega
      · have := A.le q hq
        omega
    · cases l with
      | nil =>
        have : q = (t, x.num) := by simpa using hq.symm
        subst this
        have hw0 : sumL (sendW x.num x.left w) = 0 := by have := A.len; simpa using this.symm
        have he : sendW x.num x.left w = [] := by
          have := sumL_ge s2.wi.left
          exact List.length_eq_zero_iff.mp (by omega)
        rw [he] at htot
        have : totW [] = 0 := rfl
        show t + ((rowN x.num).length : Int) = _
        omega
      | cons p r =>
        have := A.end_ q (by rw [List.getLast?_cons_cons] at hq; exact hq)
        omega
    · rw [cntL_cons]
      show cntL l y.num + (if x.num = y.num then 1 else 0) = y.left
      by_cases hyn : y.num = x.num
      · have hyl : y.left = x.left := by
          have h1 := leftOf_mem hy hs.wi.nd
          have h2 := leftOf_mem hx hs.wi.nd
          rw [hyn] at h1
          omega
        rw [if_pos hyn.symm]
        by_cases h0 : x.left = 1
        · rw [A.none_ y.num fun z hz e => (numS2 z hz (e.trans hyn)).1 h0]
          omega
        · have hz : (⟨x.num, x.pulled, x.left - 1, x.sent + 1⟩ : Wt) ∈ sendW x.num x.left w := by
            unfold sendW
            rw [if_neg h0]
            exact List.mem_map.mpr ⟨x, hx, if_pos rfl⟩
          have := A.cnt _ hz
          rw [hyn]
          dsimp only at this
          omega
      · rw [if_neg fun e => hyn e.symm, A.cnt y (inS y hy hyn)]
        omega
    · rw [cntL_cons]
      have hxd : x.num ≠ ds := hd x hx
      show cntL l ds + (if x.num = ds then 1 else 0) = 0
      rw [if_neg hxd, A.none_ ds fun z hz e => ?_]
      · rfl
      · by_cases hzn : z.num = x.num
        · exact hxd (hzn.symm.trans e)
        · have : z ∈ w := by
            unfold sendW at hz
            split at hz
            · exact (List.mem_filter.mp hz).1
            · obtain ⟨v, hv, rfl⟩ := List.mem_map.mp hz
              by_cases hvn : v.num = x.num
              · rw [if_pos hvn] at hzn
                exact absurd hvn hzn
              · rw [if_neg hvn]
                exact hv
          exact hd z this e
    · rw [List.length_cons]
      have := A.len
      omega
theorem cst_le {len : Int} : ∀ (k : Nat) (s : Int), s + k ≤ 4 → cst len s k ≤ (k : Int) * (len + 6)
  | 0, s, h => by show (0 : Int) ≤ _; simp
  | k + 1, s, h => by
    have ih := cst_le (len := len) k (s + 1) (by omega)
    show (len + 3 + s) + cst len (s + 1) k ≤ _
    have : ((k + 1 : Nat) : Int) * (len + 6) = (k : Int) * (len + 6) + (len + 6) := by
      push_cast
      rw [Int.add_mul, Int.one_mul]
    rw [this]
    omega
theorem mem_cnt {l : List Pull} {ds : List Nat} : ds ∈ l.map (·.2) ↔ 1 ≤ cntL l ds := by
  unfold cntL
  constructor
  · intro h
    obtain ⟨q, hq, e⟩ := List.mem_map.mp h
    have : q ∈ l.filter fun q => decide (q.2 = ds) := List.mem_filter.mpr ⟨hq, by simpa using e⟩
    have := List.length_pos_of_mem this
    omega
  · intro h
    have : 0 < (l.filter fun q => decide (q.2 = ds)).length := by omega
    obtain ⟨q, hq⟩ := List.length_pos_iff_exists_mem.mp this
    obtain ⟨h1, h2⟩ := List.mem_filter.mp hq
    exact List.mem_map.mpr ⟨q, h1, by simpa using h2⟩
end CW

namespace CW
open PySem PySem.Spec PyProof.Rows L2 MM
theorem Bx.started_same (b : Bx) : b.started.left = b.left ∧ b.started.sent = b.sent ∧ b.started.spring = b.spring ∧ b.started.quiet = b.quiet := by
  unfold Bx.started
  split <;> exact ⟨rfl, rfl, rfl, rfl⟩
theorem Bx.key1 {b : Bx} {ds : List Nat} (hin : b.In (rowN ds)) : (b.behind (rowN ds) true).left = b.left ∧ (b.behind (rowN ds) true).sent = b.sent ∧ (b.behind (rowN ds) true).spring = b.spring := by
  unfold Bx.behind
  cases hp : b.place with
  | none => exact ⟨rfl, rfl, rfl⟩
  | some i =>
    dsimp only
    by_cases h : b.brk (rowN ds) = false
    · rw [if_pos ⟨rfl, h⟩]
      exact ⟨rfl, rfl, rfl⟩
    · rw [if_neg fun q => h q.2]
      have hb : b.brk (rowN ds) = true := by
        cases hh : b.brk (rowN ds) with
        | true => rfl
        | false => exact absurd hh h
      unfold Bx.brk brkB at hb
      rw [hp] at hb
      have hs := (stroke_next ds _ (of_decide_eq_true hb)).1
      have h0 := (hin i hp).1
      rw [if_neg (by omega)]
      exact ⟨rfl, rfl, rfl⟩
/-- two ticks with the key -/
theorem Bx.key2 {b : Bx} {ds : List Nat} (hin : b.In (rowN ds)) (hs : 0 ≤ b.sent) : (((b.started).behind (rowN ds) true).started).behind (rowN ds) true = ⟨b.left, b.sent, b.spring, none, 0⟩ := by
  have hin2 := hin.started row_pos
  obtain ⟨a1, a2, a3⟩ := Bx.key1 hin2
  obtain ⟨b1, b2⟩ := Bx.behind_true hin2
  obtain ⟨c1, c2, c3, _⟩ := b.started_same
  generalize (b.started).behind (rowN ds) true = d at *
  rw [Bx.started_idle (by rw [a2, c2]; exact hs) (by omega)]
  have hk := Bx.behind_none b2
  obtain ⟨e1, e2, e3⟩ : (d.behind (rowN ds) true).left = d.left ∧ (d.behind (rowN ds) true).sent = d.sent ∧ (d.behind (rowN ds) true).spring = d.spring := by
    unfold Bx.behind
    cases hp : d.place with
    | none => exact ⟨rfl, rfl, rfl⟩
    | some i =>
      dsimp only
      rw [if_pos ⟨rfl, b2⟩]
      exact ⟨rfl, rfl, rfl⟩
  have hq : (d.behind (rowN ds) true).quiet = 0 := by rw [Bx.behind_quiet]; rfl
  generalize d.behind (rowN ds) true = f at *
  obtain ⟨x1, x2, x3, x4, x5⟩ := f
  dsimp only at *
  rw [e1, e2, e3, hk, hq, a1, a2, a3, c1, c2, c3]
/-- what is to be sent and the spring go down together -/
theorem Bx.gap {b : Bx} {r : List Int} {k : Bool} : (b.started.behind r k).spring - (b.started.behind r k).left = b.spring - b.left := by
  obtain ⟨c1, _, c3, _⟩ := b.started_same
  rw [← c1, ← c3]
  generalize b.started = d
  unfold Bx.behind
  cases d.place with
  | none => rfl
  | some i =>
    dsimp only
    split
    · rfl
    · split
      · split
        · rename_i h
          show d.spring - 1 - 0 = _
          omega
        · show d.spring - 1 - (d.left - 1) = _
          omega
      · rfl
section
variable {L : LSt} {i : Nat} {e : Bool} {p : List (List Nat)} {u : List Int}
theorem LOk.tick (o : LOk L) : LOk L.tick := ⟨o.town, o.r1, o.r4, o.s1, o.s50, fun ds hd => ((o.box ds hd).started row_pos).behind _, o.lc, by show (L.held.map _).length = L.k; rw [List.length_map]; exact o.lh, by show (putJ _ _ _).length = L.k; rw [putJ_len]; exact o.ln, by show (putJ _ _ _).length = L.k; rw [putJ_len]; exact o.lf, o.cut⟩
structure EndAt (L : LSt) (i : Nat) (e : Bool) (p : List (List Nat)) (u : List Int) : Prop where
  ex : ∃ l c, L.ls[i]? = some l ∧ L.cuts[i]? = some c ∧ p = (if e = true then farL l c else nearL l c)
  tape : (if e = true then L.far else L.near)[i]? = some u
theorem EndAt.sub (E : EndAt L i e p u) : ∀ ds ∈ p, ds ∈ L.F := fun ds hd => by
  obtain ⟨l, c, h1, h2, rfl⟩ := E.ex
  refine List.mem_flatten.mpr ⟨l, List.mem_of_getElem? h1, ?_⟩
  split at hd
  · exact far_sub ds hd
  · exact near_sub ds hd
theorem EndAt.nd (o : LOk L) (E : EndAt L i e p u) : p.Nodup := by
  obtain ⟨l, c, h1, h2, rfl⟩ := E.ex
  have hn := loop_nodup o h1
  split
  · unfold farL
    split
    · exact hn
    · exact hn.sublist (List.drop_sublist _ _)
  · unfold nearL
    split
    · exact hn
    · exact hn.sublist (List.take_sublist _ _)
theorem EndAt.tick (o : LOk L) (hj : L.joined = false) (E : EndAt L i e p u) {hv : Int} (hh : L.held[i]? = some hv) :
    EndAt L.tick i e p (u ++ [keyI hv (wBr p L.bx)]) ∧ ∀ ds ∈ p, L.tick.bx ds = ((L.bx ds).started).behind (rowN ds) (wBr p L.bx || decide (0 < hv)) := by
  have og := goOk o
  obtain ⟨⟨l, c, h1, h2, rfl⟩, ht⟩ := E
  have hcl := o.cut i l c h1 h2
  obtain ⟨s1, s2⟩ := sg_at og hj h1 h2 hh
  have hik : i < L.go.k := get_of h1
  cases e with
  | false =>
    simp only [Bool.false_eq_true, if_false] at ht ⊢
    refine ⟨⟨⟨l, c, h1, h2, rfl⟩, ?_⟩, fun ds hd => ?_⟩
    · show (putJ L.go.near L.go.k L.go.sgN)[i]? = _
      rw [putJ_get, show L.go.near = L.near from rfl, ht, Option.map_some, if_pos hik, s1] <;> rfl
    · have := felt_at og hj h1 h2 hh (near_sub ds hd)
      rw [if_pos hd] at this
      show (L.bx ds).started.behind (rowN ds) (L.go.felt ds) = _
      rw [this] <;> rfl
  | true =>
    simp only [if_true] at ht ⊢
    refine ⟨⟨⟨l, c, h1, h2, rfl⟩, ?_⟩, fun ds hd => ?_⟩
    · show (putJ L.go.far L.go.k L.go.sgF)[i]? = _
      rw [putJ_get, show L.go.far = L.far from rfl, ht, Option.map_some, if_pos hik, s2] <;> rfl
    · have := felt_at og hj h1 h2 hh (far_sub ds hd)
      have hn : ds ∈ nearL l c → L.go.pb (nearL l c) = L.go.pb (farL l c) := fun hn => by
        cases c with
        | nil => rfl
        | cons a r => exact absurd hd (near_far (loop_nodup o h1) hcl (by simp) hn)
      show (L.bx ds).started.behind (rowN ds) (L.go.felt ds) = _
      have e2 : L.go.felt ds = (L.go.pb (farL l c) || decide (0 < hv)) := by
        rw [this]
        by_cases q : ds ∈ nearL l c
        · rw [if_pos q, hn q]
        · rw [if_neg q, if_pos hd]
      rw [e2] <;> rfl
theorem held_tick {hv : Int} (hh : L.held[i]? = some hv) : L.tick.held[i]? = some (max 0 (hv - 1)) := by
  show (L.held.map fun x => max 0 (x - 1))[i]? = _
  rw [List.getElem?_map, hh] <;> rfl
/-- the key's two ticks -/
theorem EndAt.key (o : LOk L) (g : L.Good) (hj : L.joined = false) (E : EndAt L i e p u) (hh : L.held[i]? = some 2) :
    EndAt L.tick.tick i e p (u ++ [2] ++ [2]) ∧ L.tick.tick.held[i]? = some 0 ∧ ∀ ds ∈ p, L.tick.tick.bx ds = ⟨(L.bx ds).left, (L.bx ds).sent, (L.bx ds).spring, none, 0⟩ := by
  obtain ⟨E1, b1⟩ := E.tick o hj hh
  have h1 := held_tick hh
  have hj1 : L.tick.joined = false := hj
  obtain ⟨E2, b2⟩ := E1.tick o.tick hj1 h1
  refine ⟨E2, held_tick h1, fun ds hd => ?_⟩
  have hF := E.sub ds hd
  rw [b2 ds hd, b1 ds hd]
  have t1 : ∀ x : Bool, (x || decide ((0 : Int) < 2)) = true := fun x => by cases x <;> rfl
  have t2 : ∀ x : Bool, (x || decide ((0 : Int) < max 0 (2 - 1))) = true := fun x => by cases x <;> rfl
  rw [t1, t2]
  exact Bx.key2 (o.box ds hF) (g ds hF).s0
end
/-- those that have something to send -/
def waitsW (p : List (List Nat)) (bx : Bxs) (t : Int) : List Wt := (p.filter fun ds => decide (0 < (bx ds).left)).map fun ds => ⟨ds, t, (bx ds).left, (bx ds).sent⟩
theorem mem_waits {p : List (List Nat)} {bx : Bxs} {t : Int} {x : Wt} : x ∈ waitsW p bx t ↔ ∃ ds ∈ p, 0 < (bx ds).left ∧ x = ⟨ds, t, (bx ds).left, (bx ds).sent⟩ := by
  unfold waitsW
  rw [List.mem_map]
  constructor
  · rintro ⟨ds, h, rfl⟩
    obtain ⟨h1, h2⟩ := List.mem_filter.mp h
    exact ⟨ds, h1, by simpa using h2, rfl⟩
  · rintro ⟨ds, h1, h2, rfl⟩
    exact ⟨ds, List.mem_filter.mpr ⟨h1, by simpa using h2⟩, rfl⟩
theorem Stt.waits {p : List (List Nat)} {bx : Bxs} {t : Int} {R : Int} (hn : p.Nodup) (hp : ∀ ds ∈ p, GoodN ds) (hok : ∀ ds ∈ p, (bx ds).Ok R) : Stt (waitsW p bx t) [] := by
  refine ⟨⟨?_, fun x hx => ?_, fun x hx => ?_⟩, fun x hx => ?_, List.Pairwise.nil, by simp⟩
  · have : (waitsW p bx t).map (·.num) = p.filter fun ds => decide (0 < (bx ds).left) := by
      unfold waitsW
      rw [List.map_map]
      exact List.map_id _
    rw [this]
    exact hn.filter _
  · obtain ⟨ds, h1, _, rfl⟩ := mem_waits.mp hx
    exact hp ds h1
  · obtain ⟨ds, h1, h2, rfl⟩ := mem_waits.mp hx
    show 1 ≤ (bx ds).left
    omega
  · obtain ⟨ds, h1, h2, rfl⟩ := mem_waits.mp hx
    exact (hok ds h1).s0
theorem Alone.left {p : List (List Nat)} {bx : Bxs} {t last : Int} {R : Int} {l : List Pull} (hok : ∀ ds ∈ p, (bx ds).Ok R) (A : Alone (waitsW p bx t) last l) : ∀ ds ∈ p, cntL l ds = (bx ds).left := fun ds hd => by
  by_cases h : 0 < (bx ds).left
  · exact A.cnt _ (mem_waits.mpr ⟨ds, hd, h, rfl⟩)
  · have h0 := (hok ds hd).l0
    rw [A.none_ ds fun x hx e => ?_]
    · omega
    · obtain ⟨es, _, h2, rfl⟩ := mem_waits.mp hx
      dsimp only at e
      subst e
      exact h h2
theorem Alone.mem {p : List (List Nat)} {bx : Bxs} {t last : Int} {R : Int} {l : List Pull} (hok : ∀ ds ∈ p, (bx ds).Ok R) (A : Alone (waitsW p bx t) last l) {ds : List Nat} : ds ∈ l.map (·.2) ↔ ds ∈ p ∧ 0 < (bx ds).left := by
  rw [mem_cnt]
  constructor
  · intro h
    by_cases hd : ds ∈ p
    · rw [A.left hok ds hd] at h
      exact ⟨hd, by omega⟩
    · rw [A.none_ ds fun x hx e => ?_] at h
      · omega
      · obtain ⟨es, h1, _, rfl⟩ := mem_waits.mp hx
        dsimp only at e
        subst e
        exact hd h1
  · rintro ⟨hd, h⟩
    rw [A.left hok ds hd]
    omega
/-- all stand, and have felt no quiet: from here on without pulls -/
theorem WQ.fresh {R t : Int} {p : List (List Nat)} {b0 bx : Bxs} (hR : 1 ≤ R) (hn : p.Nodup) (hp : ∀ ds ∈ p, GoodN ds) (hb : ∀ ds ∈ p, bx ds = ⟨(b0 ds).left, (b0 ds).sent, (b0 ds).spring, none, 0⟩) (hok : ∀ ds ∈ p, (b0 ds).Ok R) :
    ∃ l, WQ R p (fun ds => (b0 ds).spring - (b0 ds).left) t [] l [] [] bx ∧ Alone (waitsW p b0 t) (t - 1) l := by
  have hs : Stt (waitsW p b0 t) [] := Stt.waits hn hp hok
  obtain ⟨l, W⟩ := Walk.exists hR (t - 1) hs
  have hpl : ∀ x ∈ waitsW p b0 t, x.pulled = t ∧ 0 ≤ x.sent := fun x hx => by
    obtain ⟨ds, h1, _, rfl⟩ := mem_waits.mp hx
    exact ⟨rfl, (hok ds h1).s0⟩
  have A := W.alone hR rfl hs fun x hx => by have := (hpl x hx).1; omega
  refine ⟨l, .inl ⟨_, t - 1, hs, W, ⟨fun x hx => ?_, fun x hx => ?_, fun ds hd hno => ?_⟩, fun ds hd => ?_, by omega, fun x hx => ?_, by simp, Hr0.nil⟩, A⟩
  · obtain ⟨ds, h1, _, rfl⟩ := mem_waits.mp hx
    exact h1
  · obtain ⟨ds, h1, _, rfl⟩ := mem_waits.mp hx
    rw [hb ds h1]
    exact ⟨rfl, rfl, (hok ds h1).s0, (hok ds h1).lr⟩
  · rw [hb ds hd]
    have h0 : ¬ 0 < (b0 ds).left := fun h => hno _ (mem_waits.mpr ⟨ds, hd, h, rfl⟩) rfl
    have h1 := (hok ds hd).l0
    exact ⟨by show (b0 ds).left = 0; omega, (hok ds hd).idle (by omega)⟩
  · rw [hb ds hd, A.left hok ds hd]
    exact ⟨rfl, by show (0 : Int) = min 12 (t - 1 - (t - 1)); omega, by show (b0 ds).spring = _; omega⟩
  · obtain ⟨h1, h2⟩ := hpl x hx
    unfold stT
    exact ⟨by omega, by omega⟩
def tickN : Nat → LSt → LSt
  | 0, L => L
  | k + 1, L => (tickN k L).tick
section
variable {L : LSt} {i : Nat} {e : Bool} {p : List (List Nat)} {u : List Int}
theorem tickN_add (a b : Nat) : tickN (a + b) L = tickN b (tickN a L) := by
  induction b with
  | zero => rfl
  | succ b ih =>
    show (tickN (a + b) L).tick = _
    rw [ih] <;> rfl
theorem LOk.tickN (o : LOk L) : ∀ k, LOk (tickN k L)
  | 0 => o
  | k + 1 => (LOk.tickN o k).tick
theorem Good.tickN (g : L.Good) : ∀ k, (CW.tickN k L).Good
  | 0 => g
  | k + 1 => Good.tick (Good.tickN g k)
theorem tickN_same : ∀ k, (tickN k L).joined = L.joined ∧ (tickN k L).ls = L.ls ∧ (tickN k L).cuts = L.cuts ∧ (tickN k L).rounds = L.rounds ∧ (tickN k L).spring = L.spring ∧ (tickN k L).ticks = L.ticks + k
  | 0 => ⟨rfl, rfl, rfl, rfl, rfl, rfl⟩
  | k + 1 => by
    obtain ⟨h1, h2, h3, h4, h5, h6⟩ := tickN_same k
    exact ⟨h1, h2, h3, h4, h5, by show (tickN k L).ticks + 1 = _; omega⟩
theorem EndAt.run {R t : Int} {B : List Nat → Int} {l : List Pull} {h : List (List Nat)} (o : LOk L) (hj : L.joined = false) (hR1 : 1 ≤ R) (hR4 : R ≤ 4) (hB : ∀ ds ∈ p, 0 ≤ B ds) {pre : List Int} (E : EndAt L i e p (pre ++ u)) (hh : L.held[i]? = some 0) (Q : WQ R p B t [] l u h L.bx) :
    ∀ k : Nat, ∃ l1 l2 u', l = l1 ++ l2 ∧ EndAt (tickN k L) i e p (pre ++ u') ∧ (tickN k L).held[i]? = some 0 ∧ WQ R p B (t + k) [] l2 u' (h ++ l1.map (·.2)) (tickN k L).bx
  | 0 => ⟨[], l, u, rfl, E, hh, by rw [List.map_nil, List.append_nil, show t + ((0 : Nat) : Int) = t by omega]; exact Q⟩
  | k + 1 => by
    obtain ⟨l1, l2, u', el, E', hh', Q'⟩ := EndAt.run o hj hR1 hR4 hB E hh Q k
    have o' := o.tickN k
    have hj' : (tickN k L).joined = false := by rw [(tickN_same k).1]; exact hj
    obtain ⟨E2, b2⟩ := E'.tick o' hj' hh'
    have hp : ∀ ds ∈ p, GoodN ds := fun ds hd => by
      have := E'.sub ds hd
      exact o'.town.good ds this
    have hx : ∀ x : Bool, (x || decide ((0 : Int) < 0)) = x := fun x => by cases x <;> rfl
    have hs : keyI 0 (wBr p (tickN k L).bx) = sg (wBr p (tickN k L).bx) := rfl
    rw [hs, List.append_assoc] at E2
    rcases Q'.tick hp hR1 hR4 hB (by simp) (b2 := (tickN (k + 1) L).bx) (fun ds hd => by have := b2 ds hd; rw [hx] at this; exact this) with ⟨Q2, _⟩ | ⟨n, l3, e3, _, Q2, _⟩
    · exact ⟨l1, l2, _, el, E2, held_tick hh', by rw [show t + ((k + 1 : Nat) : Int) = t + k + 1 by omega]; exact Q2⟩
    · refine ⟨l1 ++ [(t + k + 1 - ((rowN n).length : Int), n)], l3, _, by rw [el, e3]; simp, E2, held_tick hh', ?_⟩
      rw [show t + ((k + 1 : Nat) : Int) = t + k + 1 by omega, List.map_append, ← List.append_assoc]
      exact Q2
/-- what is heard at an end where the key was held and all that had to send have sent -/
theorem EndAt.sent (o : LOk L) (g : L.Good) (hj : L.joined = false) (hsp : ∀ ds ∈ p, (L.bx ds).left ≤ (L.bx ds).spring) (E : EndAt L i e p u) (hh : L.held[i]? = some 2) {M : Nat} (hM : 5 + totW (waitsW p L.bx 0) ≤ M) :
    ∃ l v, EndAt (tickN (2 + M) L) i e p (u ++ [2] ++ [2] ++ v) ∧ Hr0 v (l.map (·.2)) ∧ (∀ ds, ds ∈ l.map (·.2) ↔ ds ∈ p ∧ 0 < (L.bx ds).left) ∧ Alone (waitsW p L.bx 0) (-1) l := by
  obtain ⟨E2, hh2, b2⟩ := E.key o g hj hh
  have hF := E.sub
  have hok : ∀ ds ∈ p, (L.bx ds).Ok L.rounds := fun ds hd => g ds (hF ds hd)
  obtain ⟨l, Q, A⟩ := WQ.fresh (t := 0) o.r1 (E.nd o) (fun ds hd => o.town.good ds (hF ds hd)) b2 hok
  have o2 : LOk L.tick.tick := o.tick.tick
  obtain ⟨l1, l2, v, el, E3, hh3, Q3⟩ := EndAt.run (pre := u ++ [2] ++ [2]) (u := []) o2 hj o.r1 o.r4 (fun ds hd => by have := hsp ds hd; show 0 ≤ (L.bx ds).spring - (L.bx ds).left; omega) (by rw [List.append_nil]; exact E2) hh2 Q M
  have h2 : l2 = [] := by
    cases hl2 : l2 with
    | nil => rfl
    | cons q r =>
      have h1 := Q3.ends o.r1 q (by rw [hl2]; simp)
      have h3 := A.le q (by rw [el, hl2]; simp)
      omega
  subst h2
  rw [List.append_nil] at el
  subst el
  have e4 : tickN (2 + M) L = tickN M L.tick.tick := tickN_add 2 M
  refine ⟨l, v, by rw [e4]; exact E3, ?_, fun ds => A.mem hok, A⟩
  rcases Q3 with ⟨w, last, Q3⟩ | ⟨w, T, n, j, S, l2, u0, e5, _⟩
  · have := Q3.hrd
    rw [List.nil_append] at this
    exact this
  · cases e5
end
/-- ticks that are enough -/
def needR (R : Int) (p : List (List Nat)) : Int := (p.map fun ds => R * (((rowN ds).length : Int) + 6)).sum
theorem tot_le {R : Int} {bx : Bxs} {t : Int} (hR : R ≤ 4) : ∀ {p : List (List Nat)}, (∀ ds ∈ p, (bx ds).Ok R) → totW (waitsW p bx t) ≤ needR R p
  | [], _ => Int.le_refl _
  | ds :: p, hok => by
    have ih := tot_le (R := R) (bx := bx) (t := t) hR (p := p) fun d hd => hok d (List.mem_cons_of_mem _ hd)
    have h := hok ds (List.mem_cons_self)
    have h0 := h.l0
    have h1 := h.s0
    have h2 := h.lr
    have hm : 0 ≤ R * (((rowN ds).length : Int) + 6) := Int.mul_nonneg (by omega) (by omega)
    have hmono : ∀ {p q : List (List Nat)}, needR R (ds :: p) = R * (((rowN ds).length : Int) + 6) + needR R p := fun {p q} => by
      unfold needR
      rw [List.map_cons, List.sum_cons]
    rw [hmono (q := [])]
    by_cases hl : 0 < (bx ds).left
    · have e : waitsW (ds :: p) bx t = ⟨ds, t, (bx ds).left, (bx ds).sent⟩ :: waitsW p bx t := by
        unfold waitsW
        rw [List.filter_cons_of_pos (by simpa using hl), List.map_cons]
      have e2 : totW (⟨ds, t, (bx ds).left, (bx ds).sent⟩ :: waitsW p bx t) = cst ((rowN ds).length : Int) (bx ds).sent (bx ds).left.toNat + totW (waitsW p bx t) := by
        unfold totW
        rw [List.map_cons, List.sum_cons] <;> rfl
      rw [e, e2]
      have c := cst_le (len := ((rowN ds).length : Int)) (bx ds).left.toNat (bx ds).sent (by omega)
      have : (((bx ds).left.toNat : Nat) : Int) * (((rowN ds).length : Int) + 6) ≤ R * (((rowN ds).length : Int) + 6) := Int.mul_le_mul_of_nonneg_right (by omega) (by omega)
      omega
    · have e : waitsW (ds :: p) bx t = waitsW p bx t := by
        unfold waitsW
        rw [List.filter_cons_of_neg (by simpa using hl)]
      rw [e]
      omega
theorem need_sub {R : Int} (hR : 0 ≤ R) {p q : List (List Nat)} (h : p.Sublist q) : needR R p ≤ needR R q := by
  have cons : ∀ (a : List Nat) (r : List (List Nat)), needR R (a :: r) = R * (((rowN a).length : Int) + 6) + needR R r := fun a r => by
    unfold needR
    rw [List.map_cons, List.sum_cons]
  induction h with
  | slnil => exact Int.le_refl _
  | cons a _ ih =>
    rw [cons]
    have : 0 ≤ R * (((rowN a).length : Int) + 6) := Int.mul_nonneg hR (by omega)
    omega
  | cons_cons a _ ih =>
    rw [cons, cons]
    omega
end CW

namespace CW
open PySem PySem.Spec PyProof.Rows L2 MM
def pullN (l : List (List Nat)) (L : LSt) : LSt := l.foldl LSt.pull L
theorem pullN_same (L : LSt) : ∀ l : List (List Nat), (pullN l L).ls = L.ls ∧ (pullN l L).rounds = L.rounds ∧ (pullN l L).spring = L.spring ∧ (pullN l L).cuts = L.cuts ∧ (pullN l L).held = L.held ∧ (pullN l L).near = L.near ∧ (pullN l L).far = L.far ∧ (pullN l L).joined = L.joined ∧ (pullN l L).ticks = L.ticks := by
  intro l
  unfold pullN
  induction l generalizing L with
  | nil => exact ⟨rfl, rfl, rfl, rfl, rfl, rfl, rfl, rfl, rfl⟩
  | cons a l ih => exact ih (L.pull a)
theorem pulled_twice {b : Bx} {R : Int} (hR : 1 ≤ R) : (b.pulled R).pulled R = b.pulled R := by
  unfold Bx.pulled
  by_cases h : 0 < b.left
  · rw [if_pos h, if_pos h]
  · rw [if_neg h]
    exact if_pos (show 0 < R by omega)
theorem pullN_bx {R : Int} (hR : 1 ≤ R) : ∀ (l : List (List Nat)) (L : LSt), L.rounds = R → ∀ ds, (pullN l L).bx ds = if ds ∈ l then (L.bx ds).pulled R else L.bx ds
  | [], L, _, ds => rfl
  | a :: l, L, h, ds => by
    have ih := pullN_bx hR l (L.pull a) h ds
    show (pullN l (L.pull a)).bx ds = _
    rw [ih]
    have e : (L.pull a).bx ds = if ds = a then (L.bx ds).pulled R else L.bx ds := by
      show setF L.bx a ((L.bx a).pulled L.rounds) ds = _
      unfold setF
      rw [h]
      split
      · rename_i e; rw [e]
      · rfl
    rw [e]
    by_cases h1 : ds = a
    · rw [if_pos h1, if_pos (show ds ∈ a :: l by rw [h1]; exact List.mem_cons_self)]
      split
      · exact pulled_twice hR
      · rfl
    · rw [if_neg h1]
      by_cases h2 : ds ∈ l
      · rw [if_pos h2, if_pos (List.mem_cons_of_mem _ h2)]
      · rw [if_neg h2, if_neg (by simp [h1, h2])]
section
variable {S : Sto} {n h : Nat} {L : LSt}
end
end CW

namespace CW
open PySem PySem.Spec PyProof.Rows L2 MM
theorem sendW_num {n : List Nat} {c : Int} {w : List Wt} {z : Wt} (hz : z ∈ sendW n c w) : ∃ v ∈ w, v.num = z.num := by
  unfold sendW at hz
  split at hz
  · exact ⟨z, (List.mem_filter.mp hz).1, rfl⟩
  · obtain ⟨v, hv, rfl⟩ := List.mem_map.mp hz
    refine ⟨v, hv, ?_⟩
    split <;> rfl
/-- how often each comes -/
structure Cnts (w : List Wt) (l : List Pull) : Prop where
  cnt : ∀ x ∈ w, cntL l x.num = x.left
  none_ : ∀ ds, (∀ x ∈ w, x.num ≠ ds) → cntL l ds = 0
theorem Walk.count {R : Int} (hR : 1 ≤ R) {w : List Wt} {rest l : List Pull} {last : Int} (W : Walk R w rest last l) : rest = [] → Stt w [] → Cnts w l := by
  induction W with
  | nil => exact fun _ _ => ⟨by simp, fun _ _ => rfl⟩
  | @go w rest last l t n h1 h2 h3 h ih =>
    intro e hs
    subst e
    rw [takeP_nil] at h1 h2 h3 h ih
    dsimp only at h1 h2 h3 h ih
    rw [takeP_nil] at h ih
    dsimp only at h ih
    obtain ⟨x, hx, e1, e2⟩ := pick_mem (last := last) h1
    rw [h2] at e1 e2
    rw [h3] at e1
    subst e1
    rw [leftOf_mem hx hs.wi.nd] at h ih
    have s2 := hs.send hx
    have A := ih rfl s2
    have numS2 : ∀ y ∈ sendW x.num x.left w, y.num = x.num → x.left ≠ 1 ∧ y.left = x.left - 1 := fun y hy hn => by
      unfold sendW at hy
      split at hy
      · have := (List.mem_filter.mp hy).2
        simp [hn] at this
      · rename_i hne
        refine ⟨hne, ?_⟩
        obtain ⟨z, hz, rfl⟩ := List.mem_map.mp hy
        by_cases hzn : z.num = x.num
        · rw [if_pos hzn]
          have h1 := leftOf_mem hz hs.wi.nd
          have h2 := leftOf_mem hx hs.wi.nd
          rw [hzn] at h1
          show z.left - 1 = x.left - 1
          omega
        · rw [if_neg hzn] at hn
          exact absurd hn hzn
    refine ⟨fun y hy => ?_, fun ds hd => ?_⟩
    · rw [cntL_cons]
      show cntL l y.num + (if x.num = y.num then 1 else 0) = y.left
      by_cases hyn : y.num = x.num
      · have hyl : y.left = x.left := by
          have h1 := leftOf_mem hy hs.wi.nd
          have h2 := leftOf_mem hx hs.wi.nd
          rw [hyn] at h1
          omega
        rw [if_pos hyn.symm]
        by_cases h0 : x.left = 1
        · rw [A.none_ y.num fun z hz e => (numS2 z hz (e.trans hyn)).1 h0]
          omega
        · have hz : (⟨x.num, x.pulled, x.left - 1, x.sent + 1⟩ : Wt) ∈ sendW x.num x.left w := by
            unfold sendW
            rw [if_neg h0]
            exact List.mem_map.mpr ⟨x, hx, if_pos rfl⟩
          have := A.cnt _ hz
          rw [hyn]
          dsimp only at this
          omega
      · rw [if_neg fun e => hyn e.symm, A.cnt y (sendW_other hy hyn)]
        omega
    · rw [cntL_cons]
      have hxd : x.num ≠ ds := hd x hx
      show cntL l ds + (if x.num = ds then 1 else 0) = 0
      rw [if_neg hxd, A.none_ ds fun z hz e => ?_]
      · rfl
      · obtain ⟨v, hv, e2⟩ := sendW_num hz
        exact hd v hv (e2.trans e)
/-- where it ends at the latest -/
theorem Walk.le {R : Int} (hR : 1 ≤ R) {w : List Wt} {rest l : List Pull} {last : Int} (W : Walk R w rest last l) : ∀ c : Int, rest = [] → Stt w [] → last ≤ c → (∀ x ∈ w, x.pulled ≤ c + 9) → ∀ q ∈ l, q.1 + ((rowN q.2).length : Int) ≤ c + 6 + totW w := by
  induction W with
  | nil => intro _ _ _ _ _ q hq; cases hq
  | @go w rest last l t n h1 h2 h3 h ih =>
    intro c e hs hc hp q hq
    subst e
    rw [takeP_nil] at h1 h2 h3 h ih
    dsimp only at h1 h2 h3 h ih
    rw [takeP_nil] at h ih
    dsimp only at h ih
    obtain ⟨x, hx, e1, e2⟩ := pick_mem (last := last) h1
    rw [h2] at e1 e2
    rw [h3] at e1
    subst e1
    rw [leftOf_mem hx hs.wi.nd] at h ih
    have s2 := hs.send hx
    have hs0 := hs.sent x hx
    have hpx := hp x hx
    have ht : t ≤ c + 9 + x.sent := by
      unfold stT at e2
      omega
    have h6 := row_six (hs.wi.good x hx)
    have htot := tot_send hx hs.wi
    have hnn := tot_nn s2.sent
    rcases List.mem_cons.mp hq with rfl | hq
    · show t + ((rowN x.num).length : Int) ≤ _
      omega
    · have := ih (c + ((rowN x.num).length : Int) + 3 + x.sent) rfl s2 (by omega) (fun y hy => by
        obtain ⟨A, C, q1, q2⟩ := send_split hx hs.wi
        rw [q2] at hy
        have hy' : y.pulled ≤ c + 9 := by
          rcases List.mem_append.mp hy with hy | hy
          · rcases List.mem_append.mp hy with hy | hy
            · exact hp y (by rw [q1]; exact List.mem_append_left _ hy)
            · split at hy
              · cases hy
              · rw [List.mem_singleton.mp hy]
                exact hpx
          · exact hp y (by rw [q1]; exact List.mem_append_right _ (List.mem_cons_of_mem _ hy))
        omega) q hq
      omega
theorem HB.cnt {R : Int} {p : List (List Nat)} {w : List Wt} {bx : Bxs} {l : List Pull} (h : HB R p w bx) (C : Cnts w l) : ∀ ds ∈ p, cntL l ds = (bx ds).left := fun ds hd => by
  by_cases hx : ∃ x ∈ w, x.num = ds
  · obtain ⟨x, hx, rfl⟩ := hx
    rw [C.cnt x hx, (h.box x hx).1]
  · have hn : ∀ x ∈ w, x.num ≠ ds := fun x hx' e => hx ⟨x, hx', e⟩
    rw [C.none_ ds hn, (h.idle ds hd hn).1]
theorem WQ.congrB {R t : Int} {p : List (List Nat)} {B B' : List Nat → Int} {rest l : List Pull} {u : List Int} {h : List (List Nat)} {bx : Bxs} (e : ∀ ds ∈ p, B ds = B' ds) (Q : WQ R p B t rest l u h bx) : WQ R p B' t rest l u h bx := by
  rcases Q with ⟨w, last, Q⟩ | ⟨w, T, n, j, S, l2, u0, e1, e2, Q⟩
  · exact .inl ⟨w, last, Q.stt, Q.walk, Q.hb, fun ds hd => by rw [← e ds hd]; exact Q.at_ ds hd, Q.lt, Q.st, Q.rt, Q.hrd⟩
  · exact .inr ⟨w, T, n, j, S, l2, u0, e1, e2, Q.stt, Q.tj, Q.j1, Q.jl, Q.gn, Q.nS, Q.sm, Q.inw, Q.walk, Q.hb, fun ds hd => by rw [← e ds hd]; exact Q.at_ ds hd, Q.pl, Q.rt, Q.hrd⟩
/-- how often each comes, with nobody pulled any more -/
theorem WQ.left {R t : Int} {p : List (List Nat)} {B : List Nat → Int} {l : List Pull} {u : List Int} {h : List (List Nat)} {bx : Bxs} (hR : 1 ≤ R) (Q : WQ R p B t [] l u h bx) : ∀ ds ∈ p, cntL l ds = (bx ds).left := by
  rcases Q with ⟨w, last, Q⟩ | ⟨w, T, n, j, S, l2, u0, rfl, rfl, Q⟩
  · exact Q.hb.cnt (Q.walk.count hR rfl Q.stt)
  · intro ds hd
    obtain ⟨x, hx, rfl⟩ := Q.inw
    have W := Q.walk
    rw [takeP_nil] at W
    dsimp only at W
    rw [leftOf_mem hx Q.stt.wi.nd] at W
    have C := W.count hR rfl (Q.stt.send hx)
    have hbx := Q.hb.box x hx
    have hl := Q.stt.wi.left x hx
    have H2 := Q.hb.send (b2 := setF bx x.num ⟨if x.left = 1 then 0 else x.left - 1, if x.left = 1 then 0 else x.sent + 1, 0, none, 0⟩) Q.stt.wi hx (fun ds _ hne => by unfold setF; rw [if_neg hne]; exact ⟨rfl, rfl⟩) (by unfold setF; rw [if_pos rfl]; exact ⟨rfl, rfl⟩)
    have hc := H2.cnt C ds hd
    rw [cntL_cons, hc]
    unfold setF
    by_cases e : ds = x.num
    · subst e
      rw [if_pos rfl, if_pos rfl, hbx.1]
      show (if x.left = 1 then 0 else x.left - 1) + 1 = x.left
      split <;> omega
    · rw [if_neg e, if_neg (fun q => e q.symm)]
      omega
/-- what is to be told with the springs that are there -/
def gapB (bx : Bxs) : List Nat → Int := fun ds => (bx ds).spring - (bx ds).left
def Live (R : Int) (p : List (List Nat)) (t : Int) (u : List Int) (h : List (List Nat)) (bx : Bxs) : Prop := ∃ l, WQ R p (gapB bx) t [] l u h bx
/-- a pull at any time -/
theorem Live.pull {R t : Int} {p : List (List Nat)} {u : List Int} {h : List (List Nat)} {bx : Bxs} {m : List Nat} (hR : 1 ≤ R) (hm : m ∈ p) (gm : GoodN m) (Q : Live R p t u h bx) : Live R p t u h (setF bx m ((bx m).pulled R)) := by
  obtain ⟨l, Q⟩ := Q
  have stt' : ∀ w, Stt w [] → Stt (take1 R w (t, m)) [] := fun w hs => Stt.pull (t := t) (m := m) hR ⟨hs.wi, hs.sent, by simp [Srt], by simpa using gm⟩
  rcases Q with ⟨w, last, Q⟩ | ⟨w, T, n, j, S, l2, u0, rfl, rfl, Q⟩
  · have hs := stt' w Q.stt
    have H := Q.hb.pull (t := t) Q.stt.wi hm hR
    obtain ⟨l', W⟩ := Walk.exists hR last hs
    have C := W.count hR rfl hs
    refine ⟨l', .inl ⟨_, last, hs, W, H, fun ds hd => ?_, Q.lt, fun x hx => ?_, by simp, Q.hrd⟩⟩
    · obtain ⟨a, b, c⟩ := setF_pq (bx := bx) (m := m) (R := R) ds
      obtain ⟨q1, q2, _⟩ := Q.at_ ds hd
      refine ⟨a.trans q1, b.trans q2, ?_⟩
      rw [H.cnt C ds hd]
      unfold gapB
      omega
    · rcases take1_new x hx with hx | rfl
      · exact Q.st x hx
      · refine ⟨?_, Int.le_refl _⟩
        unfold stT
        show t ≤ max t _
        omega
  · have hs := stt' w Q.stt
    have H := Q.hb.pull (t := t) Q.stt.wi hm hR
    obtain ⟨x, hx, rfl⟩ := Q.inw
    have hx' := take1_sub (R := R) (p := (t, m)) x hx
    have hl := leftOf_mem hx' hs.wi.nd
    have s2 := hs.send hx'
    obtain ⟨l', W⟩ := Walk.exists hR (T + ((rowN x.num).length : Int) - 6) s2
    have Q2 : Rng R p (fun ds => (setF bx m ((bx m).pulled R) ds).spring - cntL ((T, x.num) :: l') ds) t T x.num j S (take1 R w (t, m)) [] l' u0 h (setF bx m ((bx m).pulled R)) := by
      refine ⟨hs, Q.tj, Q.j1, Q.jl, Q.gn, Q.nS, Q.sm, ⟨x, hx', rfl⟩, ?_, H, fun ds hd => ?_, fun y hy => ?_, by simp, Q.hrd⟩
      · rw [takeP_nil]
        dsimp only
        rw [hl]
        exact W
      · obtain ⟨a, b, c⟩ := setF_pq (bx := bx) (m := m) (R := R) ds
        obtain ⟨q1, q2, _⟩ := Q.at_ ds hd
        exact ⟨a.trans q1, b.trans q2, by omega⟩
      · rcases take1_new y hy with hy | rfl
        · exact Q.pl y hy
        · exact Int.le_refl _
    have Q3 : WQ R p (fun ds => (setF bx m ((bx m).pulled R) ds).spring - cntL ((T, x.num) :: l') ds) t [] ((T, x.num) :: l') (u0 ++ (rowN x.num).take j) h (setF bx m ((bx m).pulled R)) := .inr ⟨_, T, x.num, j, S, l', u0, rfl, rfl, Q2⟩
    have hc := Q3.left hR
    exact ⟨_, Q3.congrB fun ds hd => by show _ - cntL _ ds = _; rw [hc ds hd]; rfl⟩
theorem wq_gap {R t : Int} {p : List (List Nat)} {l : List Pull} {u : List Int} {h : List (List Nat)} {bx bx' : Bxs} (Q : WQ R p (gapB bx) t [] l u h bx') (e : ∀ ds ∈ p, gapB bx' ds = gapB bx ds) : WQ R p (gapB bx') t [] l u h bx' := Q.congrB fun ds hd => (e ds hd).symm
theorem gap_tick {p : List (List Nat)} {bx b2 : Bxs} {br : Bool} (e : ∀ ds ∈ p, b2 ds = ((bx ds).started).behind (rowN ds) br) : ∀ ds ∈ p, gapB b2 ds = gapB bx ds := fun ds hd => by
  unfold gapB
  rw [e ds hd]
  exact Bx.gap
/-- all that run are at one place, and only behind a quiet wire one starts -/
theorem WQ.one {R t : Int} {p : List (List Nat)} {B : List Nat → Int} {rest l : List Pull} {u : List Int} {h : List (List Nat)} {bx : Bxs} (Q : WQ R p B t rest l u h bx) : ∃ j : Int, 0 ≤ j ∧ ∀ ds ∈ p, ((bx ds).started).place = none ∨ ((bx ds).started).place = some j := by
  rcases Q with ⟨w, last, Q⟩ | ⟨w, T, n, j, S, l2, u0, rfl, rfl, Q⟩
  · refine ⟨0, Int.le_refl _, fun ds hd => ?_⟩
    rcases Bx.started_cases (bx ds) with e | ⟨_, _, e⟩
    · rw [e]
      exact .inl (Q.at_ ds hd).1
    · exact .inr e
  · refine ⟨j, by omega, fun ds hd => ?_⟩
    have a2 := (Q.at_ ds hd).2.1
    obtain ⟨_, hq5, _⟩ := part_calm Q.gn Q.j1 Q.jl
    have hs0 : 0 ≤ (bx ds).sent := by
      by_cases hw : ∃ x ∈ w, x.num = ds
      · obtain ⟨x, hx, rfl⟩ := hw
        have := Q.hb.box x hx
        omega
      · have := Q.hb.idle ds hd fun x hx e => hw ⟨x, hx, e⟩
        omega
    rw [Bx.started_idle hs0 (by rw [a2]; omega), (Q.at_ ds hd).1]
    split
    · exact .inr rfl
    · exact .inl rfl
/-- a new part of wire -/
theorem Live.fresh {R t : Int} {p : List (List Nat)} {b0 bx : Bxs} (hR : 1 ≤ R) (hn : p.Nodup) (hp : ∀ ds ∈ p, GoodN ds) (hb : ∀ ds ∈ p, bx ds = ⟨(b0 ds).left, (b0 ds).sent, (b0 ds).spring, none, 0⟩) (hok : ∀ ds ∈ p, (b0 ds).Ok R) : Live R p t [] [] bx := by
  obtain ⟨l, Q, _⟩ := WQ.fresh (t := t) hR hn hp hb hok
  exact ⟨l, Q.congrB fun ds hd => by unfold gapB; rw [hb ds hd]⟩
theorem cst_add {len : Int} : ∀ (m k : Nat) (a : Int), cst len a (m + k) = cst len a m + cst len (a + m) k
  | 0, k, a => by
    rw [Nat.zero_add, show a + ((0 : Nat) : Int) = a by omega]
    show _ = 0 + _
    omega
  | m + 1, k, a => by
    rw [show m + 1 + k = (m + k) + 1 by omega]
    show (len + 3 + a) + cst len (a + 1) (m + k) = (len + 3 + a) + cst len (a + 1) m + _
    rw [cst_add m k (a + 1), show a + 1 + (m : Int) = a + ((m + 1 : Nat) : Int) by omega]
    omega
theorem cst_nn {len : Int} (h : 0 ≤ len) : ∀ (k : Nat) (a : Int), 0 ≤ a → 0 ≤ cst len a k
  | 0, _, _ => Int.le_refl _
  | k + 1, a, ha => by
    have := cst_nn h k (a + 1) (by omega)
    show 0 ≤ (len + 3 + a) + cst len (a + 1) k
    omega
/-- the ticks that all rounds of some need -/
def fullR (R : Nat) (p : List (List Nat)) : Int := (p.map fun ds => cst ((rowN ds).length : Int) 0 R).sum
theorem fullR_cons {R : Nat} {ds : List Nat} {p : List (List Nat)} : fullR R (ds :: p) = cst ((rowN ds).length : Int) 0 R + fullR R p := by
  unfold fullR
  rw [List.map_cons, List.sum_cons]
theorem tot_full {R : Nat} {bx : Bxs} {t : Int} : ∀ {p : List (List Nat)}, (∀ ds ∈ p, (bx ds).Ok (R : Int)) → totW (waitsW p bx t) ≤ fullR R p
  | [], _ => Int.le_refl _
  | ds :: p, hok => by
    have ih := tot_full (R := R) (bx := bx) (t := t) (p := p) fun d hd => hok d (List.mem_cons_of_mem _ hd)
    have h := hok ds (List.mem_cons_self)
    have h0 := h.l0
    have h1 := h.s0
    have h2 := h.lr
    rw [fullR_cons]
    obtain ⟨s, hs⟩ : ∃ s : Nat, (bx ds).sent = s := ⟨(bx ds).sent.toNat, by omega⟩
    have e0 : cst ((rowN ds).length : Int) 0 R = cst ((rowN ds).length : Int) 0 s + (cst ((rowN ds).length : Int) s (bx ds).left.toNat + cst ((rowN ds).length : Int) ((s : Int) + (bx ds).left.toNat) (R - s - (bx ds).left.toNat)) := by
      rw [← cst_add]
      have := cst_add (len := ((rowN ds).length : Int)) s ((bx ds).left.toNat + (R - s - (bx ds).left.toNat)) 0
      rw [show (0 : Int) + (s : Int) = s by omega] at this
      rw [← this]
      congr 1
      omega
    have n1 := cst_nn (len := ((rowN ds).length : Int)) (by omega) s 0 (Int.le_refl _)
    have n2 := cst_nn (len := ((rowN ds).length : Int)) (by omega) (R - s - (bx ds).left.toNat) ((s : Int) + (bx ds).left.toNat) (by omega)
    by_cases hl : 0 < (bx ds).left
    · have e : waitsW (ds :: p) bx t = ⟨ds, t, (bx ds).left, (bx ds).sent⟩ :: waitsW p bx t := by
        unfold waitsW
        rw [List.filter_cons_of_pos (by simpa using hl), List.map_cons]
      have e2 : totW (⟨ds, t, (bx ds).left, (bx ds).sent⟩ :: waitsW p bx t) = cst ((rowN ds).length : Int) (bx ds).sent (bx ds).left.toNat + totW (waitsW p bx t) := by
        unfold totW
        rw [List.map_cons, List.sum_cons] <;> rfl
      rw [e, e2, hs]
      omega
    · have e : waitsW (ds :: p) bx t = waitsW p bx t := by
        unfold waitsW
        rw [List.filter_cons_of_neg (by simpa using hl)]
      have n3 := cst_nn (len := ((rowN ds).length : Int)) (by omega) (bx ds).left.toNat (s : Int) (by omega)
      rw [e]
      omega
end CW

namespace CW
open PySem PySem.Spec PyProof.Rows L2 MM
theorem WQ.re {R t : Int} {p : List (List Nat)} {l : List Pull} {u : List Int} {h : List (List Nat)} {bx b2 : Bxs} (hR : 1 ≤ R) (Q : WQ R p (gapB bx) t [] l u h bx) (e : ∀ ds ∈ p, (b2 ds).left = (bx ds).left ∧ (b2 ds).sent = (bx ds).sent ∧ (b2 ds).place = (bx ds).place ∧ (b2 ds).quiet = (bx ds).quiet) : WQ R p (gapB b2) t [] l u h b2 := by
  have hl := Q.left hR
  rcases Q with ⟨w, last, Q⟩ | ⟨w, T, n, j, S, l2, u0, rfl, rfl, Q⟩
  · refine .inl ⟨w, last, Q.stt, Q.walk, Q.hb.congr fun ds hd => ⟨(e ds hd).1, (e ds hd).2.1⟩, fun ds hd => ?_, Q.lt, Q.st, Q.rt, Q.hrd⟩
    obtain ⟨e1, e2, e3, e4⟩ := e ds hd
    obtain ⟨a1, a2, a3⟩ := Q.at_ ds hd
    refine ⟨e3.trans a1, e4.trans a2, ?_⟩
    rw [hl ds hd]
    unfold gapB
    omega
  · refine .inr ⟨w, T, n, j, S, l2, u0, rfl, rfl, Q.stt, Q.tj, Q.j1, Q.jl, Q.gn, Q.nS, Q.sm, Q.inw, Q.walk, Q.hb.congr fun ds hd => ⟨(e ds hd).1, (e ds hd).2.1⟩, fun ds hd => ?_, Q.pl, Q.rt, Q.hrd⟩
    obtain ⟨e1, e2, e3, e4⟩ := e ds hd
    obtain ⟨a1, a2, a3⟩ := Q.at_ ds hd
    refine ⟨e3.trans a1, e4.trans a2, ?_⟩
    rw [hl ds hd]
    unfold gapB
    omega
/-- a part whose key is held for hv ticks, within E where that is asked -/
structure PL (bnd : Prop) (E : Int) (R : Nat) (t : Int) (hv : Int) (p : List (List Nat)) (bx : Bxs) : Prop where
  z : hv = 0 → ∃ l u h, WQ (R : Int) p (gapB bx) t [] l u h bx ∧ (bnd → ∀ q ∈ l, q.1 + ((rowN q.2).length : Int) ≤ E)
  o : hv = 1 → (∀ ds ∈ p, (bx ds).quiet = 0 ∧ (bx ds).brk (rowN ds) = false) ∧ (bnd → t + 6 + fullR R p ≤ E)
  w : hv = 2 → bnd → t + 7 + fullR R p ≤ E
theorem PL.re {bnd : Prop} {E : Int} {R : Nat} {t hv : Int} {p : List (List Nat)} {bx b2 : Bxs} (hR : 1 ≤ R) (P : PL bnd E R t hv p bx) (e : ∀ ds ∈ p, (b2 ds).left = (bx ds).left ∧ (b2 ds).sent = (bx ds).sent ∧ (b2 ds).place = (bx ds).place ∧ (b2 ds).quiet = (bx ds).quiet) : PL bnd E R t hv p b2 := by
  refine ⟨fun h => ?_, fun h => ⟨fun ds hd => ?_, (P.o h).2⟩, P.w⟩
  · obtain ⟨l, u, hh, Q, q⟩ := P.z h
    exact ⟨l, u, hh, Q.re (by omega) e, q⟩
  · obtain ⟨e1, e2, e3, e4⟩ := e ds hd
    obtain ⟨q1, q2⟩ := (P.o h).1 ds hd
    refine ⟨e4.trans q1, ?_⟩
    unfold Bx.brk at q2 ⊢
    rw [e3]
    exact q2
theorem PL.pull {E : Int} {R : Nat} {t hv : Int} {p : List (List Nat)} {bx : Bxs} {m : List Nat} (hR : 1 ≤ R) (gm : GoodN m) (P : PL False E R t hv p bx) : PL False E R t hv p (setF bx m ((bx m).pulled (R : Int))) := by
  by_cases hm : m ∈ p
  · refine ⟨fun h => ?_, fun h => ⟨fun ds hd => ?_, fun q => q.elim⟩, fun _ q => q.elim⟩
    · obtain ⟨l, u, hh, Q, q⟩ := P.z h
      obtain ⟨l', Q'⟩ := Live.pull (R := (R : Int)) (by omega) hm gm ⟨l, Q⟩
      exact ⟨l', u, hh, Q', fun q => q.elim⟩
    · obtain ⟨a, b, _⟩ := setF_pq (bx := bx) (m := m) (R := (R : Int)) ds
      obtain ⟨q1, q2⟩ := (P.o h).1 ds hd
      refine ⟨b.trans q1, ?_⟩
      unfold Bx.brk at q2 ⊢
      rw [a]
      exact q2
  · refine P.re hR fun ds hd => ?_
    unfold setF
    rw [if_neg fun e => hm (by rw [← e]; exact hd)]
    exact ⟨rfl, rfl, rfl, rfl⟩
theorem PL.tick {bnd : Prop} {E : Int} {R : Nat} {t hv : Int} {p : List (List Nat)} {bx b2 : Bxs} (hR1 : 1 ≤ R) (hR4 : R ≤ 4) (hn : p.Nodup) (hg : ∀ ds ∈ p, GoodN ds) (hok : ∀ ds ∈ p, (bx ds).Ok (R : Int)) (hin : ∀ ds ∈ p, (bx ds).In (rowN ds)) (hgap : ∀ ds ∈ p, 0 ≤ gapB bx ds) (h0 : 0 ≤ hv) (h2 : hv ≤ 2)
    (P : PL bnd E R t hv p bx) (e : ∀ ds ∈ p, b2 ds = ((bx ds).started).behind (rowN ds) (wBr p bx || decide (0 < hv))) : PL bnd E R (t + 1) (max 0 (hv - 1)) p b2 := by
  have : hv = 0 ∨ hv = 1 ∨ hv = 2 := by omega
  rcases this with rfl | rfl | rfl
  · refine ⟨fun _ => ?_, fun h => absurd h (by decide), fun h => absurd h (by decide)⟩
    have e' : ∀ ds ∈ p, b2 ds = ((bx ds).started).behind (rowN ds) (wBr p bx) := fun ds hd => by
      rw [e ds hd]
      cases wBr p bx <;> rfl
    obtain ⟨l, u, hh, Q, q⟩ := P.z rfl
    rcases Q.tick hg (by omega) (by omega) hgap (by simp) e' with ⟨Q', _⟩ | ⟨n, l2, el, _, Q', _⟩
    · exact ⟨l, _, hh, wq_gap Q' (gap_tick e'), q⟩
    · exact ⟨l2, _, _, wq_gap Q' (gap_tick e'), fun b x hx => q b x (by rw [el]; exact List.mem_cons_of_mem _ hx)⟩
  · refine ⟨fun _ => ?_, fun h => absurd h (by decide), fun h => absurd h (by decide)⟩
    obtain ⟨hq, hb⟩ := P.o rfl
    have ft : (wBr p bx || decide ((0 : Int) < 1)) = true := by cases wBr p bx <;> rfl
    have hb2 : ∀ ds ∈ p, b2 ds = ⟨(bx ds).left, (bx ds).sent, (bx ds).spring, none, 0⟩ := fun ds hd => by
      obtain ⟨q1, q2⟩ := hq ds hd
      rw [e ds hd, ft, Bx.started_idle (hok ds hd).s0 (by omega)]
      have k1 := Bx.behind_none q2
      have k2 : ((bx ds).behind (rowN ds) true).quiet = 0 := by rw [Bx.behind_quiet]; rfl
      obtain ⟨k3, k4, k5⟩ := Bx.key1 (hin ds hd)
      generalize (bx ds).behind (rowN ds) true = f at *
      obtain ⟨x1, x2, x3, x4, x5⟩ := f
      dsimp only at *
      rw [k1, k2, k3, k4, k5]
    obtain ⟨l, Q, A⟩ := WQ.fresh (R := (R : Int)) (t := t + 1) (b0 := bx) (bx := b2) (by omega) hn hg hb2 hok
    have hg2 : ∀ ds ∈ p, gapB bx ds = gapB b2 ds := fun ds hd => by unfold gapB; rw [hb2 ds hd]
    refine ⟨l, [], [], Q.congrB hg2, fun b q hqq => ?_⟩
    have h1 := A.le q hqq
    have h3 := tot_full (t := t + 1) hok
    have h4 := hb b
    omega
  · refine ⟨fun h => absurd h (by decide), fun _ => ⟨fun ds hd => ?_, fun b => ?_⟩, fun h => absurd h (by decide)⟩
    · have ft : (wBr p bx || decide ((0 : Int) < 2)) = true := by cases wBr p bx <;> rfl
      rw [e ds hd, ft]
      exact Bx.behind_true ((hin ds hd).started row_pos)
    · have := P.w rfl b
      omega
structure LInv (bnd : Prop) (E : Int) (R : Nat) (t : Int) (L : LSt) : Prop where
  hb : ∀ h ∈ L.held, 0 ≤ h ∧ h ≤ 2
  sep : L.joined = false → ∀ (i : Nat) l c hv, L.ls[i]? = some l → L.cuts[i]? = some c → L.held[i]? = some hv → PL bnd E R t hv (nearL l c) L.bx ∧ PL bnd E R t hv (farL l c) L.bx
  jnd : L.joined = true → ∃ hv, (∀ h ∈ L.held, h = hv) ∧ PL bnd E R t hv L.live L.bx
theorem near_nd {l : List (List Nat)} {c : List Nat} (h : l.Nodup) : (nearL l c).Nodup ∧ (farL l c).Nodup := by
  constructor
  · unfold nearL
    split
    · exact h
    · exact h.sublist (List.take_sublist _ _)
  · unfold farL
    split
    · exact h
    · exact h.sublist (List.drop_sublist _ _)
theorem LInv.tick {bnd : Prop} {E : Int} {R : Nat} {t : Int} {L : LSt} (o : LOk L) (g : L.Good) (hR : L.rounds = R) (hlv : L.live.Nodup) (hgap : ∀ ds ∈ L.F, 0 ≤ gapB L.bx ds) (h : LInv bnd E R t L) : LInv bnd E R (t + 1) L.tick := by
  have og := goOk o
  have hR1 : 1 ≤ R := by have := o.r1; omega
  have hR4 : R ≤ 4 := by have := o.r4; omega
  have hmem : ∀ v ∈ L.tick.held, ∃ w ∈ L.held, v = max 0 (w - 1) := fun v hv => by
    obtain ⟨w, hw, rfl⟩ := List.mem_map.mp hv
    exact ⟨w, hw, rfl⟩
  have gR : ∀ ds ∈ L.F, (L.bx ds).Ok (R : Int) := fun ds hd => by rw [← hR]; exact g ds hd
  refine ⟨fun v hv => ?_, fun hj i l c hv h1 h2 h3 => ?_, fun hj => ?_⟩
  · obtain ⟨w, hw, rfl⟩ := hmem v hv
    have := h.hb w hw
    omega
  · have hj' : L.joined = false := hj
    have h1' : L.ls[i]? = some l := h1
    have h2' : L.cuts[i]? = some c := h2
    have h3' : (L.held.map fun x => max 0 (x - 1))[i]? = some hv := h3
    rw [List.getElem?_map] at h3'
    obtain ⟨hw, hw1, rfl⟩ := Option.map_eq_some_iff.mp h3'
    obtain ⟨P1, P2⟩ := h.sep hj' i l c hw h1' h2' hw1
    obtain ⟨b0, b2⟩ := h.hb hw (List.mem_of_getElem? hw1)
    have inF : ∀ ds ∈ l, ds ∈ L.F := fun ds hd => List.mem_flatten.mpr ⟨l, List.mem_of_getElem? h1', hd⟩
    have hcl := o.cut i l c h1' h2'
    obtain ⟨n1, n2⟩ := near_nd (c := c) (loop_nodup o h1')
    refine ⟨P1.tick hR1 hR4 n1 (fun ds hd => o.town.good ds (inF ds (near_sub ds hd))) (fun ds hd => gR ds (inF ds (near_sub ds hd))) (fun ds hd => o.box ds (inF ds (near_sub ds hd))) (fun ds hd => hgap ds (inF ds (near_sub ds hd))) b0 b2 fun ds hd => ?_,
      P2.tick hR1 hR4 n2 (fun ds hd => o.town.good ds (inF ds (far_sub ds hd))) (fun ds hd => gR ds (inF ds (far_sub ds hd))) (fun ds hd => o.box ds (inF ds (far_sub ds hd))) (fun ds hd => hgap ds (inF ds (far_sub ds hd))) b0 b2 fun ds hd => ?_⟩
    · have := felt_at og hj' h1' h2' hw1 (near_sub ds hd)
      rw [if_pos hd] at this
      show (L.bx ds).started.behind (rowN ds) (L.go.felt ds) = _
      rw [this] <;> rfl
    · have := felt_at og hj' h1' h2' hw1 (far_sub ds hd)
      have hn : ds ∈ nearL l c → L.go.pb (nearL l c) = L.go.pb (farL l c) := fun hn => by
        cases c with
        | nil => rfl
        | cons a r => exact absurd hd (near_far (loop_nodup o h1') hcl (by simp) hn)
      have e : L.go.felt ds = (L.go.pb (farL l c) || decide (0 < hw)) := by
        rw [this]
        by_cases q : ds ∈ nearL l c
        · rw [if_pos q, hn q]
        · rw [if_neg q, if_pos hd]
      show (L.bx ds).started.behind (rowN ds) (L.go.felt ds) = _
      rw [e] <;> rfl
  · have hj' : L.joined = true := hj
    obtain ⟨hv, q1, P⟩ := h.jnd hj'
    have hk : 0 < L.held.length := by rw [o.lh]; have := o.town.pos; exact this
    obtain ⟨b0, b2⟩ := h.hb hv (by rw [← q1 _ (List.getElem_mem hk)]; exact List.getElem_mem hk)
    have ls := live_sub o
    have hlop : L.live ≠ [] → L.held.getD (L.lop L.live) 0 = hv := fun h0 => by
      have : L.lop L.live < L.held.length := by
        rw [o.lh]
        cases hl : L.live with
        | nil => exact absurd hl h0
        | cons d r =>
          obtain ⟨l, hl2, hdl⟩ := List.mem_flatten.mp (ls d (by rw [hl]; simp))
          obtain ⟨m, hm2, e2⟩ := List.getElem_of_mem hl2
          obtain ⟨j, hj2, e3⟩ := List.getElem_of_mem hdl
          have := spot_at o.town.nd (show L.ls[m]? = some l by rw [List.getElem?_eq_getElem hm2, e2]) (show l[j]? = some d by rw [List.getElem?_eq_getElem hj2, e3])
          unfold LSt.lop
          simp only [this]
          exact hm2
      rw [List.getD_eq_getElem?_getD, List.getElem?_eq_getElem this]
      exact q1 _ (List.getElem_mem this)
    have fe : ∀ ds ∈ L.live, L.go.felt ds = (L.go.pb L.go.live || decide (0 < hv)) := fun ds hd => by
      have := felt_joined (L := L.go) hj' ds
      rw [this, if_pos (show ds ∈ L.go.live from hd)]
      unfold LSt.pbk
      have h9 : L.go.held.getD (L.go.lop L.go.live) 0 = hv := hlop (fun e => by rw [e] at hd; cases hd)
      rw [h9]
    refine ⟨max 0 (hv - 1), fun v hv' => ?_, P.tick hR1 hR4 hlv (fun ds hd => o.town.good ds (ls ds hd)) (fun ds hd => gR ds (ls ds hd)) (fun ds hd => o.box ds (ls ds hd)) (fun ds hd => hgap ds (ls ds hd)) b0 b2 fun ds hd => ?_⟩
    · obtain ⟨w, hw, rfl⟩ := hmem v hv'
      rw [q1 w hw]
    · show (L.bx ds).started.behind (rowN ds) (L.go.felt ds) = _
      rw [fe ds hd] <;> rfl
theorem LInv.new {E : Int} {R : Nat} {ls : List (List (List Nat))} {s : Int} (h : GoodT 12 ls) (hR1 : 1 ≤ R) (hs : 0 ≤ s) : LInv False E R 0 (newL ls (R : Int) s) := by
  have pl : ∀ p : List (List Nat), p.Nodup → (∀ ds ∈ p, GoodN ds) → ∀ hv, PL False E R 0 hv p fun _ => ⟨0, 0, s, none, 0⟩ := fun p hn hg hv => by
    refine ⟨fun _ => ?_, fun _ => ⟨fun ds _ => ⟨rfl, rfl⟩, fun q => q.elim⟩, fun _ q => q.elim⟩
    obtain ⟨l, Q⟩ := Live.fresh (R := (R : Int)) (t := 0) (p := p) (b0 := fun _ => ⟨0, 0, s, none, 0⟩) (bx := fun _ => ⟨0, 0, s, none, 0⟩) (by omega) hn hg (fun _ _ => rfl) fun _ _ => Bx.Ok.new (by omega) hs
    exact ⟨l, [], [], Q, fun q => q.elim⟩
  refine ⟨fun v hv => ?_, fun _ i l c hv h1 h2 h3 => ?_, fun hj => by cases hj⟩
  · have hv' : v ∈ List.replicate ls.length (0 : Int) := hv
    rw [List.eq_of_mem_replicate hv']
    decide
  · have hl : l ∈ ls := List.mem_of_getElem? h1
    have hnd : l.Nodup := by
      have := h.nd
      obtain ⟨s, t, e⟩ := List.append_of_mem hl
      rw [e, List.flatten_append, List.flatten_cons] at this
      exact (List.nodup_append.mp (List.nodup_append.mp this).2.1).1
    obtain ⟨n1, n2⟩ := near_nd (c := c) hnd
    exact ⟨pl _ n1 (fun ds hd => h.good ds (List.mem_flatten.mpr ⟨l, hl, near_sub ds hd⟩)) hv, pl _ n2 (fun ds hd => h.good ds (List.mem_flatten.mpr ⟨l, hl, far_sub ds hd⟩)) hv⟩
theorem PL.done {E : Int} {R : Nat} {t : Int} {p : List (List Nat)} {bx : Bxs} (hR1 : 1 ≤ R) (P : PL True E R t 0 p bx) (ht : E ≤ t) : ∀ ds ∈ p, (bx ds).left = 0 := fun ds hd => by
  obtain ⟨l, u, h, Q, hE⟩ := P.z rfl
  have hl : l = [] := by
    cases hl : l with
    | nil => rfl
    | cons q r =>
      have h1 := Q.ends (by omega) q (by rw [hl]; simp)
      have h2 := hE trivial q (by rw [hl]; simp)
      omega
  subst hl
  have := Q.left (by omega) ds hd
  rw [cntL_nil] at this
  exact this.symm
end CW

namespace CW
open PySem PySem.Spec PyProof.Rows L2 MM
end CW

namespace CW
open PySem PySem.Spec PyProof.Rows L2 MM
end CW

namespace CW
open PySem PySem.Spec PyProof.Rows L2 MM
theorem EndAt.felt {L : LSt} {i : Nat} {e : Bool} {p : List (List Nat)} {u : List Int} (o : LOk L) (hj : L.joined = false) (E : EndAt L i e p u) {hv : Int} (hh : L.held[i]? = some hv) : ∀ ds ∈ p, L.go.felt ds = (wBr p L.bx || decide (0 < hv)) := fun ds hd => by
  have og := goOk o
  obtain ⟨⟨l, c, h1, h2, rfl⟩, ht⟩ := E
  have hcl := o.cut i l c h1 h2
  cases e with
  | false =>
    simp only [Bool.false_eq_true, if_false] at hd ⊢
    have := felt_at og hj h1 h2 hh (near_sub ds hd)
    rw [if_pos hd] at this
    rw [this] <;> rfl
  | true =>
    simp only [if_true] at hd ⊢
    have := felt_at og hj h1 h2 hh (far_sub ds hd)
    have hn : ds ∈ nearL l c → L.go.pb (nearL l c) = L.go.pb (farL l c) := fun hn => by
      cases c with
      | nil => rfl
      | cons a r => exact absurd hd (near_far (loop_nodup o h1) hcl (by simp) hn)
    rw [this]
    by_cases q : ds ∈ nearL l c
    · rw [if_pos q, hn q] <;> rfl
    · rw [if_neg q, if_pos hd] <;> rfl
structure Hp (L : LSt) (i : Nat) (e : Bool) (p : List (List Nat)) (M : LSt) : Prop where
  E : ∃ u, EndAt L i e p u ∧ EndAt M 0 false p u
  j1 : L.joined = false
  j2 : M.joined = false
  hd : ∃ hv, L.held[i]? = some hv ∧ M.held[0]? = some hv
  bx : ∀ ds ∈ p, L.bx ds = M.bx ds
  ls : M.ls = [p]
  rn : M.rounds = L.rounds
  sp : M.spring = L.spring
  tk : M.ticks = L.ticks
section
variable {L L' M M' : LSt} {i : Nat} {e : Bool} {p : List (List Nat)}
theorem Hp.F (h : Hp L i e p M) : M.F = p := by
  unfold LSt.F
  rw [h.ls]
  simp
theorem wBr_congr {b c : Bxs} (h : ∀ ds ∈ p, b ds = c ds) : wBr p b = wBr p c := by
  unfold wBr
  induction p with
  | nil => rfl
  | cons d p ih =>
    rw [List.any_cons, List.any_cons, h d List.mem_cons_self, ih fun ds hd => h ds (List.mem_cons_of_mem _ hd)]
theorem Hp.felt (o : LOk L) (o' : LOk M) (h : Hp L i e p M) : ∀ ds ∈ p, L.go.felt ds = M.go.felt ds := fun ds hd => by
  obtain ⟨u, E1, E2⟩ := h.E
  obtain ⟨hv, h1, h2⟩ := h.hd
  rw [E1.felt o h.j1 h1 ds hd, E2.felt o' h.j2 h2 ds hd, wBr_congr h.bx]
theorem Hp.tick (o : LOk L) (o' : LOk M) (h : Hp L i e p M) : Hp L.tick i e p M.tick := by
  obtain ⟨u, E1, E2⟩ := h.E
  obtain ⟨hv, h1, h2⟩ := h.hd
  obtain ⟨F1, b1⟩ := E1.tick o h.j1 h1
  obtain ⟨F2, b2⟩ := E2.tick o' h.j2 h2
  rw [wBr_congr h.bx] at F1 b1
  exact ⟨⟨_, F1, F2⟩, h.j1, h.j2, ⟨_, held_tick h1, held_tick h2⟩, fun ds hd => by rw [b1 ds hd, b2 ds hd, h.bx ds hd], h.ls, h.rn, h.sp, by show M.ticks + 1 = L.ticks + 1; rw [h.tk]⟩
theorem Hp.due (o : LOk L) (o' : LOk M) (h : Hp L i e p M) : M.due = p.filter fun ds => ((L.bx ds).started).whole (rowN ds) (L.go.felt ds) := by
  unfold LSt.due
  rw [h.F]
  refine List.filter_congr fun ds hd => ?_
  rw [h.bx ds hd, h.felt o o' ds hd]
/-- the boxes alone are changed -/
theorem Hp.re (h : Hp L i e p M) (a : L'.joined = L.joined ∧ L'.ls = L.ls ∧ L'.cuts = L.cuts ∧ L'.held = L.held ∧ L'.near = L.near ∧ L'.far = L.far ∧ L'.rounds = L.rounds ∧ L'.spring = L.spring ∧ L'.ticks = L.ticks) (b : M'.joined = M.joined ∧ M'.ls = M.ls ∧ M'.cuts = M.cuts ∧ M'.held = M.held ∧ M'.near = M.near ∧ M'.far = M.far ∧ M'.rounds = M.rounds ∧ M'.spring = M.spring ∧ M'.ticks = M.ticks) (c : ∀ ds ∈ p, L'.bx ds = M'.bx ds) : Hp L' i e p M' := by
  obtain ⟨a1, a2, a3, a4, a5, a6, a7, a8, a9⟩ := a
  obtain ⟨b1, b2, b3, b4, b5, b6, b7, b8, b9⟩ := b
  obtain ⟨u, E1, E2⟩ := h.E
  refine ⟨⟨u, ⟨?_, ?_⟩, ⟨?_, ?_⟩⟩, by rw [a1]; exact h.j1, by rw [b1]; exact h.j2, by rw [a4, b4]; exact h.hd, c, by rw [b2]; exact h.ls, by rw [a7, b7]; exact h.rn, by rw [a8, b8]; exact h.sp, by rw [a9, b9]; exact h.tk⟩
  · rw [a2, a3]; exact E1.ex
  · rw [a5, a6]; exact E1.tape
  · rw [b2, b3]; exact E2.ex
  · rw [b5, b6]; exact E2.tape
theorem Hp.pull {ds : List Nat} (h : Hp L i e p M) : Hp (L.pull ds) i e p (M.pull ds) := h.re ⟨rfl, rfl, rfl, rfl, rfl, rfl, rfl, rfl, rfl⟩ ⟨rfl, rfl, rfl, rfl, rfl, rfl, rfl, rfl, rfl⟩ fun d hd => by
  show setF L.bx ds ((L.bx ds).pulled L.rounds) d = setF M.bx ds ((M.bx ds).pulled M.rounds) d
  unfold setF
  split
  · rename_i e
    subst e
    rw [h.bx d hd, h.rn]
  · exact h.bx d hd
theorem Hp.wind {ds : List Nat} (h : Hp L i e p M) : Hp (L.wind ds) i e p (M.wind ds) := h.re ⟨rfl, rfl, rfl, rfl, rfl, rfl, rfl, rfl, rfl⟩ ⟨rfl, rfl, rfl, rfl, rfl, rfl, rfl, rfl, rfl⟩ fun d hd => by
  show setF L.bx ds ((L.bx ds).wound L.spring) d = setF M.bx ds ((M.bx ds).wound M.spring) d
  unfold setF
  split
  · rename_i e
    subst e
    rw [h.bx d hd, h.sp]
  · exact h.bx d hd
end
/-- sorted all together -/
theorem sort_perm {l m : List Str} (h : l.Perm m) : sortB strLt l = sortB strLt m := sortB_uniq lin_str ((sortB_perm strLt l).trans h) (sortB_srt lin_str l)
end CW

namespace CW
open PySem PySem.Spec PyProof.Rows L2 MM
theorem lop_lt {L : LSt} (o : LOk L) {p : List (List Nat)} (hp : ∀ ds ∈ p, ds ∈ L.F) (h0 : p ≠ []) : L.lop p < L.k := by
  cases p with
  | nil => exact absurd rfl h0
  | cons d r =>
    obtain ⟨l, hl, hd⟩ := List.mem_flatten.mp (hp d List.mem_cons_self)
    obtain ⟨i, hi⟩ := List.getElem?_of_mem hl
    obtain ⟨j, hj⟩ := List.getElem?_of_mem hd
    have e := spot_at o.town.nd hi hj
    have e2 : L.lop (d :: r) = i := by
      unfold LSt.lop
      simp only [e]
    rw [e2]
    exact get_of hi
theorem wBr_mem {p q : List (List Nat)} {b : Bxs} (h : ∀ ds, ds ∈ p ↔ ds ∈ q) : wBr p b = wBr q b := by
  unfold wBr
  rw [Bool.eq_iff_iff, List.any_eq_true, List.any_eq_true]
  constructor
  · rintro ⟨ds, hd, e⟩
    exact ⟨ds, (h ds).mp hd, e⟩
  · rintro ⟨ds, hd, e⟩
    exact ⟨ds, (h ds).mpr hd, e⟩
/-- a joined town, the same on all its loops -/
structure Ja (L : LSt) (hv : Int) (u : List Int) : Prop where
  jn : L.joined = true
  hd : ∀ i, i < L.k → L.held[i]? = some hv
  nr : ∀ i, i < L.k → L.near[i]? = some u
  fr : ∀ i, i < L.k → L.far[i]? = some u
section
variable {L M : LSt} {hv : Int} {u : List Int} {p : List (List Nat)}
theorem Ja.felt (o : LOk L) (J : Ja L hv u) : ∀ ds ∈ L.live, L.go.felt ds = (wBr L.live L.bx || decide (0 < hv)) := fun ds hd => by
  have og := goOk o
  rw [felt_joined (L := L.go) J.jn, if_pos (show ds ∈ L.go.live from hd)]
  have h1 := lop_lt og (p := L.go.live) (live_sub og) (fun e => by rw [show L.go.live = L.live from rfl] at e; rw [e] at hd; cases hd)
  have h2 : L.go.held[L.go.lop L.go.live]? = some hv := J.hd _ h1
  unfold LSt.pbk
  rw [List.getD_eq_getElem?_getD, h2] <;> rfl
theorem Ja.feltD (J : Ja L hv u) {ds : List Nat} (hd : ds ∉ L.live) : L.go.felt ds = true := by
  rw [felt_joined (L := L.go) J.jn, if_neg (show ds ∉ L.go.live from hd)]
theorem Ja.tick (o : LOk L) (J : Ja L hv u) : Ja L.tick (max 0 (hv - 1)) (u ++ [keyI hv (wBr L.live L.bx)]) := by
  have og := goOk o
  refine ⟨J.jn, fun i hi => held_tick (J.hd i hi), fun i hi => ?_, fun i hi => ?_⟩
  · obtain ⟨s1, s2⟩ := sg_joined og J.jn (i := i) (hv := hv) (J.hd i hi)
    show (putJ L.go.near L.go.k L.go.sgN)[i]? = _
    rw [putJ_get, show L.go.near = L.near from rfl, J.nr i hi, Option.map_some, if_pos (show i < L.go.k from hi), s1] <;> rfl
  · obtain ⟨s1, s2⟩ := sg_joined og J.jn (i := i) (hv := hv) (J.hd i hi)
    show (putJ L.go.far L.go.k L.go.sgF)[i]? = _
    rw [putJ_get, show L.go.far = L.far from rfl, J.fr i hi, Option.map_some, if_pos (show i < L.go.k from hi), s2] <;> rfl
/-- those between the cuts stand still -/
def Dmb (L : LSt) : Prop := ∀ ds ∈ L.F, ds ∉ L.live → (L.bx ds).place = none ∧ (L.bx ds).quiet = 0 ∧ (L.bx ds).sent = 0 ∧ (L.bx ds).spring = L.spring
theorem Dmb.idle (D : Dmb L) {ds : List Nat} (hF : ds ∈ L.F) (hn : ds ∉ L.live) : (L.bx ds).started = L.bx ds := by
  obtain ⟨_, q, s, _⟩ := D ds hF hn
  exact Bx.started_idle (by omega) (by omega)
theorem Dmb.tick (D : Dmb L) (J : Ja L hv u) : Dmb L.tick := fun ds hF hn => by
  have h := D ds hF hn
  have e := D.idle hF hn
  have hb : L.tick.bx ds = ⟨(L.bx ds).left, (L.bx ds).sent, (L.bx ds).spring, none, qBehind (L.bx ds).quiet true⟩ := by
    show (L.bx ds).started.behind (rowN ds) (L.go.felt ds) = _
    rw [J.feltD hn, e, Bx.behind_idle h.1]
  rw [hb]
  exact ⟨rfl, rfl, h.2.2.1, h.2.2.2⟩
theorem Dmb.pull (D : Dmb L) (ds : List Nat) : Dmb (L.pull ds) := fun d hF hn => by
  have h := D d hF hn
  show ((setF L.bx ds ((L.bx ds).pulled L.rounds)) d).place = none ∧ _
  by_cases e : d = ds
  · subst e
    have : (L.pull d).bx d = (L.bx d).pulled L.rounds := by show setF L.bx d _ d = _; unfold setF; rw [if_pos rfl]
    rw [this, show setF L.bx d ((L.bx d).pulled L.rounds) d = (L.bx d).pulled L.rounds by unfold setF; rw [if_pos rfl]]
    unfold Bx.pulled
    split
    · exact h
    · exact ⟨h.1, h.2.1, rfl, h.2.2.2⟩
  · have : (L.pull ds).bx d = L.bx d := by show setF L.bx ds _ d = _; unfold setF; rw [if_neg e]
    rw [this, show setF L.bx ds ((L.bx ds).pulled L.rounds) d = L.bx d by unfold setF; rw [if_neg e]]
    exact h
theorem Dmb.wind (D : Dmb L) (ds : List Nat) : Dmb (L.wind ds) := fun d hF hn => by
  have h := D d hF hn
  show ((setF L.bx ds ((L.bx ds).wound L.spring)) d).place = none ∧ _
  by_cases e : d = ds
  · subst e
    have : (L.wind d).bx d = (L.bx d).wound L.spring := by show setF L.bx d _ d = _; unfold setF; rw [if_pos rfl]
    rw [this, show setF L.bx d ((L.bx d).wound L.spring) d = (L.bx d).wound L.spring by unfold setF; rw [if_pos rfl]]
    exact ⟨h.1, h.2.1, h.2.2.1, rfl⟩
  · have : (L.wind ds).bx d = L.bx d := by show setF L.bx ds _ d = _; unfold setF; rw [if_neg e]
    rw [this, show setF L.bx ds ((L.bx ds).wound L.spring) d = L.bx d by unfold setF; rw [if_neg e]]
    exact h
/-- the one loop beside it -/
structure Sj (L M : LSt) (p : List (List Nat)) (hv : Int) (u : List Int) : Prop where
  J : Ja L hv u
  E : EndAt M 0 false p u
  j2 : M.joined = false
  hd : M.held[0]? = some hv
  mem : ∀ ds, ds ∈ L.live ↔ ds ∈ p
  bx : ∀ ds ∈ p, L.bx ds = M.bx ds
  ls : M.ls = [p]
  rn : M.rounds = L.rounds
  sp : M.spring = L.spring
  tk : M.ticks = L.ticks
theorem Sj.F (s : Sj L M p hv u) : M.F = p := by
  unfold LSt.F
  rw [s.ls]
  simp
theorem Sj.br (s : Sj L M p hv u) : wBr L.live L.bx = wBr p M.bx := by rw [wBr_mem s.mem, wBr_congr s.bx]
theorem Sj.tick (o : LOk L) (o' : LOk M) (s : Sj L M p hv u) : Sj L.tick M.tick p (max 0 (hv - 1)) (u ++ [keyI hv (wBr p M.bx)]) := by
  obtain ⟨F2, b2⟩ := s.E.tick o' s.j2 s.hd
  have J1 := s.J.tick o
  rw [s.br] at J1
  refine ⟨J1, F2, s.j2, held_tick s.hd, s.mem, fun ds hd => ?_, s.ls, s.rn, s.sp, by show M.ticks + 1 = L.ticks + 1; rw [s.tk]⟩
  rw [b2 ds hd, ← s.bx ds hd]
  show (L.bx ds).started.behind (rowN ds) (L.go.felt ds) = _
  rw [s.J.felt o ds ((s.mem ds).mpr hd), s.br]
theorem Sj.due (o : LOk L) (o' : LOk M) (s : Sj L M p hv u) (D : Dmb L) : L.due.Perm M.due := by
  have n1 : L.due.Nodup := o.town.nd.sublist List.filter_sublist
  have n2 : M.due.Nodup := o'.town.nd.sublist List.filter_sublist
  refine (List.perm_ext_iff_of_nodup n1 n2).mpr fun ds => ?_
  unfold LSt.due
  rw [List.mem_filter, List.mem_filter, s.F]
  by_cases hl : ds ∈ p
  · have hL := (s.mem ds).mpr hl
    rw [s.J.felt o ds hL, s.E.felt o' s.j2 s.hd ds hl, s.br, s.bx ds hl]
    exact ⟨fun h => ⟨hl, h.2⟩, fun h => ⟨live_sub o ds hL, h.2⟩⟩
  · refine ⟨fun h => ?_, fun h => absurd h.1 hl⟩
    have hn : ds ∉ L.live := fun q => hl ((s.mem ds).mp q)
    have h2 := h.2
    rw [D.idle h.1 hn, Bx.whole_idle (D ds h.1 hn).1] at h2
    cases h2
theorem Sj.re {L' M' : LSt} (s : Sj L M p hv u) (a : L'.joined = L.joined ∧ L'.ls = L.ls ∧ L'.cuts = L.cuts ∧ L'.held = L.held ∧ L'.near = L.near ∧ L'.far = L.far ∧ L'.rounds = L.rounds ∧ L'.spring = L.spring ∧ L'.ticks = L.ticks) (b : M'.joined = M.joined ∧ M'.ls = M.ls ∧ M'.cuts = M.cuts ∧ M'.held = M.held ∧ M'.near = M.near ∧ M'.far = M.far ∧ M'.rounds = M.rounds ∧ M'.spring = M.spring ∧ M'.ticks = M.ticks) (c : ∀ ds ∈ p, L'.bx ds = M'.bx ds) : Sj L' M' p hv u := by
  obtain ⟨a1, a2, a3, a4, a5, a6, a7, a8, a9⟩ := a
  obtain ⟨b1, b2, b3, b4, b5, b6, b7, b8, b9⟩ := b
  have hk : L'.k = L.k := by unfold LSt.k; rw [a2]
  have hlv : L'.live = L.live := by unfold LSt.live LSt.tw; rw [a2, a3]
  refine ⟨⟨by rw [a1]; exact s.J.jn, fun i hi => by rw [a4]; exact s.J.hd i (by rw [← hk]; exact hi), fun i hi => by rw [a5]; exact s.J.nr i (by rw [← hk]; exact hi), fun i hi => by rw [a6]; exact s.J.fr i (by rw [← hk]; exact hi)⟩, ⟨?_, ?_⟩, by rw [b1]; exact s.j2, by rw [b4]; exact s.hd, fun ds => by rw [hlv]; exact s.mem ds, c, by rw [b2]; exact s.ls, by rw [b7, a7]; exact s.rn, by rw [b8, a8]; exact s.sp, by rw [b9, a9]; exact s.tk⟩
  · rw [b2, b3]; exact s.E.ex
  · rw [b5, b6]; exact s.E.tape
theorem Sj.pull {ds : List Nat} (s : Sj L M p hv u) : Sj (L.pull ds) (M.pull ds) p hv u := s.re ⟨rfl, rfl, rfl, rfl, rfl, rfl, rfl, rfl, rfl⟩ ⟨rfl, rfl, rfl, rfl, rfl, rfl, rfl, rfl, rfl⟩ fun d hd => by
  show setF L.bx ds ((L.bx ds).pulled L.rounds) d = setF M.bx ds ((M.bx ds).pulled M.rounds) d
  unfold setF
  split
  · rename_i e
    subst e
    rw [s.bx d hd, s.rn]
  · exact s.bx d hd
theorem Sj.wind {ds : List Nat} (s : Sj L M p hv u) : Sj (L.wind ds) (M.wind ds) p hv u := s.re ⟨rfl, rfl, rfl, rfl, rfl, rfl, rfl, rfl, rfl⟩ ⟨rfl, rfl, rfl, rfl, rfl, rfl, rfl, rfl, rfl⟩ fun d hd => by
  show setF L.bx ds ((L.bx ds).wound L.spring) d = setF M.bx ds ((M.bx ds).wound M.spring) d
  unfold setF
  split
  · rename_i e
    subst e
    rw [s.bx d hd, s.sp]
  · exact s.bx d hd
end
end CW

namespace CW
open PySem PySem.Spec PyProof.Rows L2 MM
/-- the ticks of an end without boxes -/
def kt : Nat → List Int
  | 0 => []
  | i + 1 => kt i ++ [if i < 2 then 2 else 0]
theorem near_far_sl {l : List (List Nat)} {c : List Nat} (h : CutL l.length c) : ((partsL l c).flatten).Sublist l := by
  unfold partsL
  split
  · rename_i e
    subst e
    simp
  · rename_i hne
    obtain ⟨a, r, rfl⟩ : ∃ a r, c = a :: r := by
      cases c with
      | nil => exact absurd rfl hne
      | cons a r => exact ⟨a, r, rfl⟩
    have hl : (a :: r).getLast? = some ((a :: r).getLast (by simp)) := List.getLast?_eq_some_getLast (by simp)
    obtain ⟨z, hz⟩ : ∃ z, z = (a :: r).getLast (by simp) := ⟨_, rfl⟩
    rw [← hz] at hl
    have haz : a ≤ z := by
      have hm : z ∈ a :: r := by rw [hz]; exact List.getLast_mem _
      rcases List.mem_cons.mp hm with e | e
      · omega
      · have := (List.pairwise_cons.mp h.srt).1 z e
        omega
    have e1 : nearL l (a :: r) = l.take a := rfl
    have e2 : farL l (a :: r) = l.drop z := by unfold farL; rw [hl]
    rw [e1, e2, List.flatten_cons, List.flatten_cons, List.flatten_nil, List.append_nil]
    have h1 : (l.drop z).Sublist (l.drop a) := by
      rw [show z = a + (z - a) by omega, ← List.drop_drop]
      exact List.drop_sublist _ _
    have h2 := List.Sublist.append (List.Sublist.refl (l.take a)) h1
    rw [List.take_append_drop] at h2
    exact h2
theorem live_sl : ∀ {tw : List (List (List Nat) × List Nat)}, (∀ x ∈ tw, CutL x.1.length x.2) → ((allParts tw).flatten).Sublist (tw.map (·.1)).flatten
  | [], _ => List.Sublist.refl _
  | x :: tw, h => by
    have ih := live_sl (tw := tw) fun y hy => h y (List.mem_cons_of_mem _ hy)
    show ((partsL x.1 x.2 ++ allParts tw).flatten).Sublist (x.1 ++ (tw.map (·.1)).flatten)
    rw [List.flatten_append]
    exact List.Sublist.append (near_far_sl (h x List.mem_cons_self)) ih
theorem tw_at {L : LSt} {i : Nat} {x : List (List Nat) × List Nat} : L.tw[i]? = some x ↔ L.ls[i]? = some x.1 ∧ L.cuts[i]? = some x.2 := by
  unfold LSt.tw
  rw [List.getElem?_zip_eq_some]
end CW

namespace CW
open PySem PySem.Spec PyProof.Rows L2 MM
end CW

namespace CW
open PySem PySem.Spec PyProof.Rows L2 MM
structure Lnb (S : Sto) (b : Nat) (K : List Nat) (X : List LnP) : Prop where
  bag : Bag2 S b
  at_ : ∀ x ∈ X, LineAt S x.n x.h x.L
  nb : ∀ x ∈ X, ¬ x.cell b
  ap : ∀ (i j : Nat) x y, i ≠ j → X[i]? = some x → X[j]? = some y → ∀ c, x.cell c → ¬ y.cell c
  kp : ∀ i ∈ K, i < S.length ∧ i ≠ b ∧ ∀ x ∈ X, ¬ x.cell i
section
variable {S S' : Sto} {b : Nat} {K : List Nat} {X : List LnP}
theorem Lnb.line (H : Lnb S b K X) {i : Nat} {x : LnP} (h : X[i]? = some x) : LineAt S x.n x.h x.L := H.at_ x (List.mem_of_getElem? h)
theorem Lnb.none (hb : Bag2 S b) : Lnb S b [] [] := ⟨hb, by simp, by simp, by simp, by simp⟩
/-- things are made -/
theorem Lnb.app (H : Lnb S b K X) (T : Sto) : Lnb (S ++ T) b K X ∧ ∀ i ∈ K, (S ++ T)[i]? = S[i]? := by
  refine ⟨⟨?_, fun x hx => (H.at_ x hx).app T, H.nb, H.ap, fun i hi => ?_⟩, fun i hi => List.getElem?_append_left (H.kp i hi).1⟩
  · obtain ⟨a, m, e, r⟩ := H.bag
    exact ⟨a, m, by rw [List.getElem?_append_left (get_of e)]; exact e, r⟩
  · have := H.kp i hi
    exact ⟨by simp; omega, this.2⟩
/-- what is kept may be written -/
theorem Lnb.set (H : Lnb S b K X) {i : Nat} (hi : i ∈ K) (o : O) : Lnb (S.set i o) b K X := by
  have hk := H.kp i hi
  refine ⟨?_, fun x hx => (H.at_ x hx).keep fun j hj => List.getElem?_set_ne fun e => hk.2.2 x hx (by rw [e]; exact hj), H.nb, H.ap, fun j hj => by rw [List.length_set]; exact H.kp j hj⟩
  obtain ⟨a, m, e, r⟩ := H.bag
  exact ⟨a, m, by rw [List.getElem?_set_ne hk.2.1]; exact e, r⟩
/-- one more is kept -/
theorem Lnb.keep (H : Lnb S b K X) (o : O) : Lnb (S ++ [o]) b (S.length :: K) X := by
  have H' := (H.app [o]).1
  refine ⟨H'.bag, H'.at_, H'.nb, H'.ap, fun i hi => ?_⟩
  rcases List.mem_cons.mp hi with rfl | hi
  · have hb := H.bag.lt
    exact ⟨by simp, by omega, fun x hx hc => Nat.lt_irrefl _ (cell_lt (H.at_ x hx) hc)⟩
  · exact H'.kp i hi
theorem Lnb.fewer (H : Lnb S b K X) {K' : List Nat} (h : ∀ i ∈ K', i ∈ K) : Lnb S b K' X := ⟨H.bag, H.at_, H.nb, H.ap, fun i hi => H.kp i (h i hi)⟩
/-- one of the lines is changed -/
theorem Lnb.chg (H : Lnb S b K X) {i : Nat} {x : LnP} {h' : Nat} {L' : LSt} (hi : X[i]? = some x) (hL : LineAt S' x.n h' L') (w : Lch x.n x.h x.L.k S S') (hh : h' = x.h ∨ S.length ≤ h') (hk : L'.k = x.L.k) :
    Lnb S' b K (X.set i ⟨x.n, h', L'⟩) ∧ ∀ i ∈ K, S'[i]? = S[i]? := by
  have hx := List.mem_of_getElem? hi
  have hlt := get_of hi
  have out : ∀ j, j < S.length → ¬ x.cell j → S'[j]? = S[j]? := fun j hj hc => w.2 j hj (by
    have : ¬ (x.n ≤ j ∧ j < x.n + 5 + 2 * x.L.k) := fun q => hc (.inl q)
    omega) fun q => hc (.inr q)
  have kp : ∀ j ∈ K, S'[j]? = S[j]? := fun j hj => out j (H.kp j hj).1 ((H.kp j hj).2.2 x hx)
  have hbl := H.bag.lt
  have mem : ∀ y ∈ X.set i ⟨x.n, h', L'⟩, y = ⟨x.n, h', L'⟩ ∨ ∃ j, j ≠ i ∧ X[j]? = some y := fun y hy => by
    obtain ⟨j, hj, e⟩ := List.getElem_of_mem hy
    have e' : (X.set i ⟨x.n, h', L'⟩)[j]? = some y := by rw [List.getElem?_eq_getElem hj, e]
    by_cases hji : i = j
    · subst hji
      rw [List.getElem?_set_self hlt] at e'
      exact .inl (Option.some.inj e').symm
    · rw [List.getElem?_set_ne hji] at e'
      exact .inr ⟨j, Ne.symm hji, e'⟩
  have new : ∀ c, LnP.cell ⟨x.n, h', L'⟩ c → x.cell c ∨ S.length ≤ c := fun c hc => by
    rcases hc with hc | hc
    · exact .inl (.inl (by rw [← hk]; exact hc))
    · have hc' : c = h' := hc
      rcases hh with hh | hh
      · exact .inl (.inr (by rw [hc', hh]))
      · exact .inr (by omega)
  refine ⟨⟨?_, fun y hy => ?_, fun y hy => ?_, fun j k y z hjk hy hz c hc hc2 => ?_, fun j hj => ?_⟩, kp⟩
  · obtain ⟨a, m, e, r⟩ := H.bag
    exact ⟨a, m, by rw [out b hbl (H.nb x hx)]; exact e, r⟩
  · rcases mem y hy with rfl | ⟨j, hji, e⟩
    · exact hL
    · have hy' := List.mem_of_getElem? e
      exact (H.at_ y hy').keep fun m hm => out m (cell_lt (H.at_ y hy') hm) fun q => H.ap j i y x hji e hi m hm q
  · rcases mem y hy with rfl | ⟨j, hji, e⟩
    · intro q
      rcases new b q with q | q
      · exact H.nb x hx q
      · omega
    · exact H.nb y (List.mem_of_getElem? e)
  · by_cases hj : i = j
    · subst hj
      rw [List.getElem?_set_self hlt] at hy
      rw [List.getElem?_set_ne hjk] at hz
      cases hy
      have hz' := List.mem_of_getElem? hz
      rcases new c hc with q | q
      · exact H.ap i k x z hjk hi hz c q hc2
      · have := cell_lt (H.at_ z hz') hc2
        omega
    · rw [List.getElem?_set_ne hj] at hy
      by_cases hk2 : i = k
      · subst hk2
        rw [List.getElem?_set_self hlt] at hz
        cases hz
        have hy' := List.mem_of_getElem? hy
        rcases new c hc2 with q | q
        · exact H.ap j i y x hjk hy hi c hc q
        · have := cell_lt (H.at_ y hy') hc
          omega
      · rw [List.getElem?_set_ne hk2] at hz
        exact H.ap j k y z hjk hy hz c hc hc2
  · have := H.kp j hj
    refine ⟨by have := w.1; omega, this.2.1, fun y hy => ?_⟩
    rcases mem y hy with rfl | ⟨m, hji, e⟩
    · intro q
      rcases new j q with q | q
      · exact this.2.2 x hx q
      · omega
    · exact this.2.2 y (List.mem_of_getElem? e)
/-- one line more -/
theorem Lnb.more (H : Lnb S b K X) {T : Sto} {L : LSt} (hL : LineAt (S ++ T) S.length (S.length + 4) L) : Lnb (S ++ T) b K (X ++ [⟨S.length, S.length + 4, L⟩]) ∧ ∀ i ∈ K, (S ++ T)[i]? = S[i]? := by
  obtain ⟨H', kp⟩ := H.app T
  have hk : 1 ≤ L.k := hL.ok.town.pos
  have new : ∀ c, LnP.cell ⟨S.length, S.length + 4, L⟩ c → S.length ≤ c := fun c hc => by
    rcases hc with ⟨h, _⟩ | h
    · exact h
    · have h' : c = S.length + 4 := h
      omega
  have hbl := H.bag.lt
  refine ⟨⟨H'.bag, fun x hx => ?_, fun x hx => ?_, fun i j x y hij hx hy c hc hc2 => ?_, fun i hi => ?_⟩, kp⟩
  · rcases List.mem_append.mp hx with hx | hx
    · exact H'.at_ x hx
    · rw [List.mem_singleton.mp hx]; exact hL
  · rcases List.mem_append.mp hx with hx | hx
    · exact H.nb x hx
    · rw [List.mem_singleton.mp hx]
      intro q
      have := new b q
      omega
  · have old : ∀ {i : Nat} {x : LnP}, (X ++ [⟨S.length, S.length + 4, L⟩])[i]? = some x → X[i]? = some x ∨ (i = X.length ∧ x = ⟨S.length, S.length + 4, L⟩) := fun {i x} e => by
      by_cases hi : i < X.length
      · rw [List.getElem?_append_left hi] at e
        exact .inl e
      · rw [List.getElem?_append_right (by omega)] at e
        have : i - X.length = 0 := by
          have := get_of e
          simpa using this
        rw [this] at e
        exact .inr ⟨by omega, (Option.some.inj e).symm⟩
    rcases old hx with hx | ⟨hx, rfl⟩
    · rcases old hy with hy | ⟨hy, rfl⟩
      · exact H.ap i j x y hij hx hy c hc hc2
      · have h1 := cell_lt (H.at_ x (List.mem_of_getElem? hx)) hc
        have h2 := new c hc2
        omega
    · rcases old hy with hy | ⟨hy, rfl⟩
      · have h1 := cell_lt (H.at_ y (List.mem_of_getElem? hy)) hc2
        have h2 := new c hc
        omega
      · omega
  · have := H.kp i hi
    refine ⟨(H'.kp i hi).1, this.2.1, fun x hx => ?_⟩
    rcases List.mem_append.mp hx with hx | hx
    · exact this.2.2 x hx
    · rw [List.mem_singleton.mp hx]
      intro q
      have := new i q
      omega
end
end CW

namespace CW
open PySem PySem.Spec PyProof.Rows L2 MM
theorem gap_tickN {L : LSt} {ds : List Nat} : ∀ k, ((tickN k L).bx ds).spring - ((tickN k L).bx ds).left = (L.bx ds).spring - (L.bx ds).left
  | 0 => rfl
  | k + 1 => by
    have : (tickN (k + 1) L).bx ds = (((tickN k L).bx ds).started).behind (rowN ds) ((tickN k L).go.felt ds) := rfl
    rw [this, Bx.gap, gap_tickN k]
theorem Taped.tickN {L : LSt} (o : LOk L) (t : L.Taped) : ∀ k, (CW.tickN k L).Taped
  | 0 => t
  | k + 1 => CW.Taped.tick (o.tickN k) (Taped.tickN o t k)
theorem gap_pulled {b : Bx} {R : Int} (h : 0 ≤ b.left) (hR : 0 ≤ R) : b.spring - b.left - R ≤ (b.pulled R).spring - (b.pulled R).left := by
  unfold Bx.pulled
  split
  · omega
  · show _ ≤ b.spring - R
    omega
/-- a line of one loop, its cuts -/
structure One (l : List (List Nat)) (R : Int) (c : List Nat) (g : Int) (t : Nat) (L : LSt) : Prop where
  ls : L.ls = [l]
  rounds : L.rounds = R
  cuts : L.cuts = [c]
  jn : L.joined = false
  good : L.Good
  tp : L.Taped
  tk : L.ticks ≤ t
  gap : ∀ ds ∈ l, g ≤ (L.bx ds).spring - (L.bx ds).left
theorem One.F {l : List (List Nat)} {R g : Int} {c : List Nat} {t : Nat} {L : LSt} (h : One l R c g t L) : L.F = l := by
  unfold LSt.F
  rw [h.ls]
  simp
theorem One.k {l : List (List Nat)} {R g : Int} {c : List Nat} {t : Nat} {L : LSt} (h : One l R c g t L) : L.k = 1 := by
  unfold LSt.k
  rw [h.ls] <;> rfl
theorem One.pulls {l : List (List Nat)} {R g : Int} {c : List Nat} {t : Nat} {L : LSt} (h : One l R c g t L) (hR : 1 ≤ R) (p : List (List Nat)) (hp : ∀ ds ∈ p, ds ∈ l) : One l R c (g - R) t (pullN p L) := by
  obtain ⟨a1, a2, a3, a4, a5, a6, a7, a8, a9⟩ := pullN_same L p
  have hb := pullN_bx hR p L h.rounds
  refine ⟨a1.trans h.ls, a2.trans h.rounds, a4.trans h.cuts, a8.trans h.jn, fun ds hd => ?_, ?_, by rw [a9]; exact h.tk, fun ds hd => ?_⟩
  · have hF : ds ∈ L.F := by unfold LSt.F at hd ⊢; rw [a1] at hd; exact hd
    rw [hb, a2, h.rounds]
    have := h.good ds hF
    rw [h.rounds] at this
    split
    · exact this.pulled hR
    · exact this
  · unfold LSt.Taped
    rw [a6, a7, a9]
    exact h.tp
  · have h1 := h.gap ds hd
    have h2 := (h.good ds (by rw [h.F]; exact hd)).l0
    rw [hb]
    split
    · have := gap_pulled (R := R) h2 (by omega)
      omega
    · omega
theorem One.ticks {l : List (List Nat)} {R g : Int} {c : List Nat} {t : Nat} {L : LSt} (h : One l R c g t L) (o : LOk L) (N : Nat) : One l R c g (t + N) (tickN N L) := by
  obtain ⟨a1, a2, a3, a4, a5, a6⟩ := tickN_same (L := L) N
  exact ⟨a2.trans h.ls, a4.trans h.rounds, a3.trans h.cuts, a1.trans h.jn, Good.tickN h.good N, Taped.tickN o h.tp N, by rw [a6]; have := h.tk; omega, fun ds hd => by rw [gap_tickN]; exact h.gap ds hd⟩
theorem LOk.pullN {L : LSt} (o : LOk L) (p : List (List Nat)) : LOk (CW.pullN p L) := by
  obtain ⟨a1, a2, a3, a4, a5, a6, a7, a8, a9⟩ := pullN_same L p
  have hb := pullN_bx o.r1 p L rfl
  have hk : (CW.pullN p L).k = L.k := by unfold LSt.k; rw [a1]
  exact ⟨by rw [a1]; exact o.town, by rw [a2]; exact o.r1, by rw [a2]; exact o.r4, by rw [a3]; exact o.s1, by rw [a3]; exact o.s50, fun ds hd => by
    have hF : ds ∈ L.F := by unfold LSt.F at hd ⊢; rw [a1] at hd; exact hd
    rw [hb]
    split
    · exact (o.box ds hF).pulled _
    · exact o.box ds hF, by rw [a4, hk]; exact o.lc, by rw [a5, hk]; exact o.lh, by rw [a6, hk]; exact o.ln, by rw [a7, hk]; exact o.lf, by rw [a1, a4]; exact o.cut⟩
/-- what is heard at both ends of a line whose key was held, when all have sent -/
theorem One.heard {l : List (List Nat)} {R g : Int} {c : List Nat} {t : Nat} {L : LSt} (h : One l R c g t L) (o : LOk L) (hh : L.held = [2]) (hR : 1 ≤ R) (hg : R ≤ g) (p : List (List Nat)) (hp : ∀ ds ∈ p, ds ∈ l) {M : Nat} (hM : 5 + needR R l ≤ M) :
    ∃ un uf h0 h1, (tickN (2 + M) (pullN p L)).near[0]? = some un ∧ (tickN (2 + M) (pullN p L)).far[0]? = some uf ∧ rset (pt (bk un)) = h0 ∧ rset (pt (bk uf)) = h1 ∧
      (∀ ds ∈ l, (ds ∈ h0 ↔ ds ∈ nearL l c ∧ (ds ∈ p ∨ 0 < (L.bx ds).left))) ∧ ∀ ds ∈ l, (ds ∈ h1 ↔ ds ∈ farL l c ∧ (ds ∈ p ∨ 0 < (L.bx ds).left)) := by
  have h2 := h.pulls hR p hp
  have o2 : LOk (pullN p L) := LOk.pullN o p
  obtain ⟨a1, a2, a3, a4, a5, a6, a7, a8, a9⟩ := pullN_same L p
  have hb := pullN_bx hR p L h.rounds
  have hh2 : (pullN p L).held[0]? = some 2 := by rw [a5, hh]; rfl
  have hn0 : ∃ u, (pullN p L).near[0]? = some u := ⟨_, List.getElem?_eq_getElem (by rw [o2.ln, h2.k]; decide)⟩
  have hf0 : ∃ u, (pullN p L).far[0]? = some u := ⟨_, List.getElem?_eq_getElem (by rw [o2.lf, h2.k]; decide)⟩
  obtain ⟨u0, hn0⟩ := hn0
  obtain ⟨w0, hf0⟩ := hf0
  have hl0 : (pullN p L).ls[0]? = some l := by rw [h2.ls]; rfl
  have hc0 : (pullN p L).cuts[0]? = some c := by rw [h2.cuts]; rfl
  have En : EndAt (pullN p L) 0 false (nearL l c) u0 := ⟨⟨l, c, hl0, hc0, rfl⟩, hn0⟩
  have Ef : EndAt (pullN p L) 0 true (farL l c) w0 := ⟨⟨l, c, hl0, hc0, rfl⟩, hf0⟩
  have hr4 := o2.r4
  rw [a2, h.rounds] at hr4
  have tot : ∀ q : List (List Nat), q.Sublist l → 5 + totW (waitsW q (pullN p L).bx 0) ≤ M := fun q hq => by
    have e1 := tot_le (t := 0) (bx := (pullN p L).bx) hr4 (p := q) fun ds hd => by
      have := h2.good ds (by rw [h2.F]; exact hq.subset hd)
      rw [h2.rounds] at this
      exact this
    have e2 := need_sub (R := R) (by omega) hq
    omega
  have sp : ∀ q : List (List Nat), (∀ ds ∈ q, ds ∈ l) → ∀ ds ∈ q, ((pullN p L).bx ds).left ≤ ((pullN p L).bx ds).spring := fun q hq ds hd => by
    have := h2.gap ds (hq ds hd)
    omega
  have sn : (nearL l c).Sublist l := by
    unfold nearL
    split
    · exact List.Sublist.refl _
    · exact List.take_sublist _ _
  have sf : (farL l c).Sublist l := by
    unfold farL
    split
    · exact List.Sublist.refl _
    · exact List.drop_sublist _ _
  obtain ⟨l0, v0, E0, r0, m0, _⟩ := En.sent o2 h2.good h2.jn (sp _ sn.subset) hh2 (tot _ sn)
  obtain ⟨l1, v1, E1, r1, m1, _⟩ := Ef.sent o2 h2.good h2.jn (sp _ sf.subset) hh2 (tot _ sf)
  have key : ∀ ds, 0 < ((pullN p L).bx ds).left ↔ (ds ∈ p ∨ 0 < (L.bx ds).left) := fun ds => by
    rw [hb]
    by_cases hd : ds ∈ p
    · rw [if_pos hd]
      refine ⟨fun _ => .inl hd, fun _ => ?_⟩
      unfold Bx.pulled
      split
      · assumption
      · show 0 < R
        omega
    · rw [if_neg hd]
      exact ⟨fun q => .inr q, fun q => q.resolve_left hd⟩
  refine ⟨_, _, l0.map (·.2), l1.map (·.2), E0.tape, E1.tape, ?_, ?_, fun ds _ => ?_, fun ds _ => ?_⟩
  · rw [bk_of r0]
    exact r0.pt
  · rw [bk_of r1]
    exact r1.pt
  · rw [m0, key]
  · rw [m1, key]
section
variable {l : List (List Nat)} {R g : Int} {c : List Nat} {t : Nat} {L : LSt}
theorem One.cutAt (h : One l R c g t L) (s : List Nat) : One l R s g t (L.cutAt 0 s) := ⟨h.ls, h.rounds, by show L.cuts.set 0 s = [s]; rw [h.cuts]; rfl, h.jn, h.good, h.tp, h.tk, h.gap⟩
theorem One.mono (h : One l R c g t L) {t' : Nat} (ht : t ≤ t') : One l R c g t' L := ⟨h.ls, h.rounds, h.cuts, h.jn, h.good, h.tp, by have := h.tk; omega, h.gap⟩
theorem One.clear (h : One l R c g t L) (o : LOk L) : One l R c g t (L.holdAt 0) ∧ (L.holdAt 0).held = [2] := by
  refine ⟨⟨h.ls, h.rounds, h.cuts, h.jn, h.good, h.tp, h.tk, h.gap⟩, ?_⟩
  show (if L.joined then L.held.map (fun _ => 2) else L.held.set 0 2) = [2]
  rw [h.jn]
  have hl : L.held.length = 1 := by rw [o.lh, h.k]
  match hq : L.held, hl with
  | [x], _ => rfl
end
theorem sum_waits {p : List (List Nat)} {bx : Bxs} {t R : Int} (hR : 0 ≤ R) (h : ∀ ds ∈ p, (bx ds).left ≤ R) : sumL (waitsW p bx t) ≤ R * (p.length : Int) := by
  induction p with
  | nil => simp [waitsW, sumL]
  | cons a p ih =>
    have ih := ih fun ds hd => h ds (List.mem_cons_of_mem _ hd)
    have ha := h a List.mem_cons_self
    have e : R * ((a :: p).length : Int) = R * (p.length : Int) + R := by
      rw [List.length_cons]
      push_cast
      rw [Int.mul_add, Int.mul_one]
    rw [e]
    unfold waitsW sumL at ih ⊢
    rw [List.filter_cons]
    split
    · rw [List.map_cons, List.map_cons, List.sum_cons]
      show (bx a).left + _ ≤ _
      omega
    · omega
/-- what a new line has on its tapes, when its key was held and all have sent -/
theorem One.fresh {l : List (List Nat)} {R g : Int} {c : List Nat} {t : Nat} {L : LSt} (h : One l R c g t L) (o : LOk L) (hn : L.near = [[]]) (hf : L.far = [[]]) (hb0 : ∀ ds ∈ l, (L.bx ds).left = 0) (hh : L.held = [2]) (hR : 1 ≤ R) (hg : R ≤ g) (p : List (List Nat)) (hp : ∀ ds ∈ p, ds ∈ l) {M : Nat} (hM : 5 + needR R l ≤ M) :
    ∃ v w h0 h1, (tickN (2 + M) (pullN p L)).near[0]? = some ([2, 2] ++ v) ∧ (tickN (2 + M) (pullN p L)).far[0]? = some ([2, 2] ++ w) ∧ Hr0 v h0 ∧ Hr0 w h1 ∧
      (∀ ds, ds ∈ h0 ↔ ds ∈ nearL l c ∧ ds ∈ p) ∧ (∀ ds, ds ∈ h1 ↔ ds ∈ farL l c ∧ ds ∈ p) ∧ (h0.length : Int) ≤ R * (l.length : Int) ∧ (h1.length : Int) ≤ R * (l.length : Int) := by
  have h2 := h.pulls hR p hp
  have o2 : LOk (pullN p L) := LOk.pullN o p
  obtain ⟨a1, a2, a3, a4, a5, a6, a7, a8, a9⟩ := pullN_same L p
  have hb := pullN_bx hR p L h.rounds
  have hh2 : (pullN p L).held[0]? = some 2 := by rw [a5, hh]; rfl
  have hn0 : (pullN p L).near[0]? = some [] := by rw [a6, hn]; rfl
  have hf0 : (pullN p L).far[0]? = some [] := by rw [a7, hf]; rfl
  have hl0 : (pullN p L).ls[0]? = some l := by rw [h2.ls]; rfl
  have hc0 : (pullN p L).cuts[0]? = some c := by rw [h2.cuts]; rfl
  have En : EndAt (pullN p L) 0 false (nearL l c) [] := ⟨⟨l, c, hl0, hc0, rfl⟩, hn0⟩
  have Ef : EndAt (pullN p L) 0 true (farL l c) [] := ⟨⟨l, c, hl0, hc0, rfl⟩, hf0⟩
  have hr4 := o2.r4
  rw [a2, h.rounds] at hr4
  have tot : ∀ q : List (List Nat), q.Sublist l → 5 + totW (waitsW q (pullN p L).bx 0) ≤ M := fun q hq => by
    have e1 := tot_le (t := 0) (bx := (pullN p L).bx) hr4 (p := q) fun ds hd => by
      have := h2.good ds (by rw [h2.F]; exact hq.subset hd)
      rw [h2.rounds] at this
      exact this
    have e2 := need_sub (R := R) (by omega) hq
    omega
  have sp : ∀ q : List (List Nat), (∀ ds ∈ q, ds ∈ l) → ∀ ds ∈ q, ((pullN p L).bx ds).left ≤ ((pullN p L).bx ds).spring := fun q hq ds hd => by
    have := h2.gap ds (hq ds hd)
    omega
  have sn : (nearL l c).Sublist l := by
    unfold nearL
    split
    · exact List.Sublist.refl _
    · exact List.take_sublist _ _
  have sf : (farL l c).Sublist l := by
    unfold farL
    split
    · exact List.Sublist.refl _
    · exact List.drop_sublist _ _
  obtain ⟨l0, v0, E0, r0, m0, A0⟩ := En.sent o2 h2.good h2.jn (sp _ sn.subset) hh2 (tot _ sn)
  obtain ⟨l1, v1, E1, r1, m1, A1⟩ := Ef.sent o2 h2.good h2.jn (sp _ sf.subset) hh2 (tot _ sf)
  have key : ∀ ds, ds ∈ l → (0 < ((pullN p L).bx ds).left ↔ ds ∈ p) := fun ds hl => by
    rw [hb]
    by_cases hd : ds ∈ p
    · rw [if_pos hd]
      refine ⟨fun _ => hd, fun _ => ?_⟩
      unfold Bx.pulled
      split
      · assumption
      · show 0 < R
        omega
    · rw [if_neg hd]
      exact ⟨fun q => by have := hb0 ds hl; omega, fun q => absurd q hd⟩
  have lft : ∀ ds ∈ l, ((pullN p L).bx ds).left ≤ R := fun ds hd => by
    have := (h2.good ds (by rw [h2.F]; exact hd)).lr
    have := (h2.good ds (by rw [h2.F]; exact hd)).s0
    rw [h2.rounds] at *
    omega
  have len : ∀ (q : List (List Nat)) (x : List Pull), q.Sublist l → Alone (waitsW q (pullN p L).bx 0) (-1) x → ((x.map (·.2)).length : Int) ≤ R * (l.length : Int) := fun q x hq A => by
    rw [List.length_map, A.len]
    refine Int.le_trans (sum_waits (R := R) (by omega) fun ds hd => lft ds (hq.subset hd)) ?_
    exact Int.mul_le_mul_of_nonneg_left (by have := hq.length_le; omega) (by omega)
  refine ⟨v0, v1, l0.map (·.2), l1.map (·.2), E0.tape, E1.tape, r0, r1, fun ds => ?_, fun ds => ?_, len _ _ sn A0, len _ _ sf A1⟩
  · rw [m0]
    exact ⟨fun q => ⟨q.1, (key ds (sn.subset q.1)).mp q.2⟩, fun q => ⟨q.1, (key ds (sn.subset q.1)).mpr q.2⟩⟩
  · rw [m1]
    exact ⟨fun q => ⟨q.1, (key ds (sf.subset q.1)).mp q.2⟩, fun q => ⟨q.1, (key ds (sf.subset q.1)).mpr q.2⟩⟩
end CW

namespace CW
open PySem PySem.Spec PyProof.Rows L2 MM
end CW

namespace CW
open PySem PySem.Spec PyProof.Rows L2 MM
theorem Bx.key_whole {b : Bx} {ds : List Nat} (h : b.In (rowN ds)) : b.whole (rowN ds) true = false := by
  unfold Bx.whole
  cases hp : b.place with
  | none => rfl
  | some i =>
    dsimp only
    split
    · rfl
    · rename_i h1
      cases hb : b.brk (rowN ds) with
      | false => rfl
      | true =>
        exfalso
        unfold Bx.brk brkB at hb
        rw [hp] at hb
        have := (stroke_next ds _ (of_decide_eq_true hb)).1
        have := (h i hp).1
        omega
theorem part_of {L : LSt} (hj : L.joined = false) {p : List (List Nat)} (hp : p ∈ L.parts) : ∃ (i : Nat) (l : List (List Nat)) (c : List Nat), L.ls[i]? = some l ∧ L.cuts[i]? = some c ∧ (p = nearL l c ∨ p = farL l c) := by
  unfold LSt.parts at hp
  rw [hj] at hp
  obtain ⟨x, hx, hp⟩ := List.mem_flatMap.mp hp
  obtain ⟨i, hi, e⟩ := List.getElem_of_mem hx
  have e' : L.tw[i]? = some x := by rw [List.getElem?_eq_getElem hi, e]
  obtain ⟨h1, h2⟩ := tw_at.mp e'
  refine ⟨i, x.1, x.2, h1, h2, ?_⟩
  unfold partsL at hp
  split at hp
  · rename_i hc
    rw [hc]
    exact .inl (List.mem_singleton.mp hp)
  · rcases List.mem_cons.mp hp with e | e
    · exact .inl e
    · exact .inr (List.mem_singleton.mp e)
/-- all have sent -/
theorem LInv.done {E : Int} {R : Nat} {t : Int} {L : LSt} (o : LOk L) (hR1 : 1 ≤ R) (h : LInv True E R t L) (hz : ∀ v ∈ L.held, v = 0) (ht : E ≤ t) : ∀ p ∈ L.parts, ∀ ds ∈ p, (L.bx ds).left = 0 := by
  intro p hp
  cases hj : L.joined with
  | false =>
    obtain ⟨i, l, c, h1, h2, e⟩ := part_of hj hp
    obtain ⟨hv, h3⟩ : ∃ hv, L.held[i]? = some hv := ⟨_, List.getElem?_eq_getElem (by rw [o.lh]; exact get_of h1)⟩
    have h0 := hz hv (List.mem_of_getElem? h3)
    subst h0
    obtain ⟨p1, p2⟩ := h.sep hj i l c 0 h1 h2 h3
    rcases e with rfl | rfl
    · exact p1.done hR1 ht
    · exact p2.done hR1 ht
  | true =>
    obtain ⟨hv, q1, q2⟩ := h.jnd hj
    have hk : 0 < L.held.length := by rw [o.lh]; exact o.town.pos
    have h0 : hv = 0 := by rw [← q1 _ (List.getElem_mem hk)]; exact hz _ (List.getElem_mem hk)
    subst h0
    unfold LSt.parts at hp
    rw [hj] at hp
    rw [List.mem_singleton.mp hp]
    exact q2.done hR1 ht
/-- where the wire is broken behind both ends -/
structure Dead (L : LSt) (l : List (List Nat)) (c : List Nat) : Prop where
  jn : L.joined = false
  ls : L.ls[0]? = some l
  ct : L.cuts[0]? = some c
theorem Dead.tick {L : LSt} {l : List (List Nat)} {c : List Nat} (D : Dead L l c) : Dead L.tick l c := ⟨D.jn, D.ls, D.ct⟩
theorem Dead.felt {L : LSt} {l : List (List Nat)} {c : List Nat} (o : LOk L) (D : Dead L l c) {ds : List Nat} (hd : ds ∈ l) (h1 : ds ∉ nearL l c) (h2 : ds ∉ farL l c) : L.go.felt ds = true := by
  have og := goOk o
  have hk : 0 < L.k := get_of D.ls
  have hh : ∃ hv, L.held[0]? = some hv := ⟨_, List.getElem?_eq_getElem (by rw [o.lh]; exact hk)⟩
  obtain ⟨hv, hh⟩ := hh
  rw [felt_at (L := L.go) og D.jn (i := 0) (l := l) (c := c) (hv := hv) D.ls D.ct hh hd, if_neg h1, if_neg h2]
theorem Dead.bx {L : LSt} {l : List (List Nat)} {c : List Nat} (o : LOk L) (D : Dead L l c) {ds : List Nat} (hd : ds ∈ l) (h1 : ds ∉ nearL l c) (h2 : ds ∉ farL l c) : L.tick.bx ds = ((L.bx ds).started).behind (rowN ds) true := by
  show (L.bx ds).started.behind (rowN ds) (L.go.felt ds) = _
  rw [D.felt o hd h1 h2]
theorem Dead.due {L : LSt} {l : List (List Nat)} {c : List Nat} (o : LOk L) (D : Dead L l c) {ds : List Nat} (hd : ds ∈ l) (h1 : ds ∉ nearL l c) (h2 : ds ∉ farL l c) : ds ∉ L.due := fun q => by
  obtain ⟨q1, q2⟩ := List.mem_filter.mp q
  rw [D.felt o hd h1 h2, Bx.key_whole ((o.box ds q1).started row_pos)] at q2
  cases q2
theorem Dead.tickN {L : LSt} {l : List (List Nat)} {c : List Nat} (D : Dead L l c) : ∀ k, Dead (CW.tickN k L) l c
  | 0 => D
  | k + 1 => (Dead.tickN D k).tick
end CW

namespace CW
open PySem PySem.Spec PyProof.Rows L2 MM
def psL (ps : List Pull) (l : List (List Nat)) : List Pull := ps.filter fun q => decide (q.2 ∈ l)
theorem pullN_own {R : Int} {l : List (List Nat)} : ∀ (A : List Pull) (L : LSt) (b : Bxs), L.rounds = R → (∀ ds ∈ l, L.bx ds = b ds) → ∀ ds ∈ l, (pullN (A.map (·.2)) L).bx ds = ((psL A l).foldl (fun b q => setF b q.2 ((b q.2).pulled R)) b) ds
  | [], L, b, _, hb, ds, hd => hb ds hd
  | q :: A, L, b, hR, hb, ds, hd => by
    have e : pullN ((q :: A).map (·.2)) L = pullN (A.map (·.2)) (L.pull q.2) := rfl
    rw [e]
    have bxe : (L.pull q.2).bx = setF L.bx q.2 ((L.bx q.2).pulled L.rounds) := rfl
    by_cases hq : q.2 ∈ l
    · have e2 : psL (q :: A) l = q :: psL A l := by unfold psL; rw [List.filter_cons_of_pos (by simpa using hq)]
      rw [e2, List.foldl_cons]
      refine pullN_own A (L.pull q.2) _ hR (fun d hd => ?_) ds hd
      rw [bxe, hR]
      unfold setF
      split
      · rw [hb q.2 hq]
      · exact hb d hd
    · have e2 : psL (q :: A) l = psL A l := by unfold psL; rw [List.filter_cons_of_neg (by simpa using hq)]
      rw [e2]
      refine pullN_own A (L.pull q.2) b hR (fun d hd => ?_) ds hd
      rw [bxe]
      unfold setF
      rw [if_neg (fun e : d = q.2 => hq (by rw [← e]; exact hd))]
      exact hb d hd
structure LQ (R : Int) (ps : List Pull) (lo : List (List (List Nat))) (B : List Nat → Int) (t : Int) (rem : Nat → List Pull) (L : LSt) : Prop where
  lse : L.ls = lo
  jn : L.joined = false
  rn : L.rounds = R
  q : ∀ (i : Nat) l, lo[i]? = some l → ∃ u u0 h, WQ R l B t ((psL ps l).filter fun q => decide (t ≤ q.1)) (rem i) u h L.bx ∧ EndAt L i false l (u0 ++ u) ∧ L.held[i]? = some 0
def atT (ps : List Pull) (t : Int) : List (List Nat) := (ps.filter fun q => decide (q.1 = t)).map (·.2)
def wholeL (L : LSt) (ds : List Nat) : Bool := ((L.bx ds).started).whole (rowN ds) (L.go.felt ds)
theorem psL_at {ps : List Pull} {l : List (List Nat)} {t : Int} : (psL ps l).filter (fun q => decide (q.1 = t)) = psL (ps.filter fun q => decide (q.1 = t)) l := by
  unfold psL
  rw [List.filter_filter, List.filter_filter]
  apply List.filter_congr
  intro q _
  rw [Bool.and_comm]
theorem filter_one {l : List (List Nat)} {n : List Nat} (hn : l.Nodup) (hm : n ∈ l) : l.filter (fun ds => decide (ds = n)) = [n] := by
  obtain ⟨A, C, rfl⟩ := List.append_of_mem hm
  have h := List.nodup_append.mp hn
  have h2 := List.nodup_cons.mp h.2.1
  rw [List.filter_append, List.filter_cons_of_pos (by simp), List.filter_eq_nil_iff.mpr, List.filter_eq_nil_iff.mpr]
  · rfl
  · intro x hx
    have : x ≠ n := fun e => h2.1 (e ▸ hx)
    simpa using this
  · intro x hx
    have : x ≠ n := h.2.2 x hx n List.mem_cons_self
    simpa using this
theorem LQ.step {R t : Int} {ps : List Pull} {lo : List (List (List Nat))} {B : List Nat → Int} {rem : Nat → List Pull} {L : LSt} (o : LOk (pullN (atT ps t) L)) (hR1 : 1 ≤ R) (hR4 : R ≤ 4) (hB : ∀ ds ∈ lo.flatten, 0 ≤ B ds) (hs : Srt ps) (H : LQ R ps lo B t rem L) :
    ∃ pop rem' : Nat → List Pull, LQ R ps lo B (t + 1) rem' (pullN (atT ps t) L).tick ∧ ∀ (i : Nat) l, lo[i]? = some l → rem i = pop i ++ rem' i ∧ ((pop i = [] ∧ l.filter (wholeL (pullN (atT ps t) L)) = []) ∨ ∃ n, n ∈ l ∧ pop i = [(t + 1 - ((rowN n).length : Int), n)] ∧ l.filter (wholeL (pullN (atT ps t) L)) = [n]) := by
  obtain ⟨a1, a2, a3, a4, a5, a6, a7, a8, a9⟩ := pullN_same L (atT ps t)
  obtain ⟨P, hP⟩ : ∃ P, P = pullN (atT ps t) L := ⟨_, rfl⟩
  rw [← hP] at o a1 a2 a3 a4 a5 a6 a7 a8 a9
  rw [← hP]
  have each : ∀ (i : Nat) l, lo[i]? = some l → ∃ pp rr : List Pull, rem i = pp ++ rr ∧ ((pp = [] ∧ l.filter (wholeL P) = []) ∨ ∃ n, n ∈ l ∧ pp = [(t + 1 - ((rowN n).length : Int), n)] ∧ l.filter (wholeL P) = [n]) ∧ ∃ u u0 h, WQ R l B (t + 1) ((psL ps l).filter fun q => decide (t + 1 ≤ q.1)) rr u h P.tick.bx ∧ EndAt P.tick i false l (u0 ++ u) ∧ P.tick.held[i]? = some 0 := by
    intro i l hi
    obtain ⟨u, u0, h, Q, E, hh⟩ := H.q i l hi
    have E' : EndAt P i false l (u0 ++ u) := ⟨by obtain ⟨l', c, e1, e2, e3⟩ := E.ex; exact ⟨l', c, by rw [a1]; exact e1, by rw [a4]; exact e2, e3⟩, by have := E.tape; rw [if_neg (by decide)] at this ⊢; rw [a6]; exact this⟩
    have hh' : P.held[i]? = some 0 := by rw [a5]; exact hh
    have hj' : P.joined = false := by rw [a8]; exact H.jn
    obtain ⟨E2, b2⟩ := E'.tick o hj' hh'
    have hx : ∀ x : Bool, (x || decide ((0 : Int) < 0)) = x := fun x => by cases x <;> rfl
    have hsg : keyI 0 (wBr l P.bx) = sg (wBr l P.bx) := rfl
    rw [hsg, List.append_assoc] at E2
    have own : ∀ ds ∈ l, P.bx ds = ((psL (ps.filter fun q => decide (q.1 = t)) l).foldl (fun b q => setF b q.2 ((b q.2).pulled R)) L.bx) ds := fun ds hd => by
      rw [hP]
      exact pullN_own _ L L.bx H.rn (fun _ _ => rfl) ds hd
    obtain ⟨bp, hbp⟩ : ∃ bp, bp = (psL (ps.filter fun q => decide (q.1 = t)) l).foldl (fun b q => setF b q.2 ((b q.2).pulled R)) L.bx := ⟨_, rfl⟩
    rw [← hbp] at own
    have hwb : wBr l P.bx = wBr l bp := wBr_congr own
    have hp : ∀ ds ∈ l, GoodN ds := fun ds hd => o.town.good ds (E'.sub ds hd)
    have hsl : Srt (psL ps l) := hs.sublist List.filter_sublist
    have hBl : ∀ ds ∈ l, 0 ≤ B ds := fun ds hd => hB ds (List.mem_flatten.mpr ⟨l, List.mem_of_getElem? hi, hd⟩)
    have T := WQ.turn hp hR1 hR4 hBl hsl Q (bp := bp) (b2 := P.tick.bx) (by rw [hbp, psL_at]) (fun ds hd => by
      rw [b2 ds hd, hx, hwb, own ds hd])
    have nd : l.Nodup := E'.nd o
    have wh : ∀ ds ∈ l, wholeL P ds = ((bp ds).started).whole (rowN ds) (wBr l bp) := fun ds hd => by
      unfold wholeL
      rw [E'.felt o hj' hh' ds hd, hx, hwb, own ds hd]
    rcases T with ⟨Q2, w2⟩ | ⟨n, l2, e3, hn, Q2, w2⟩
    · refine ⟨[], rem i, rfl, .inl ⟨rfl, ?_⟩, _, u0, h, Q2, by rw [← hwb]; exact E2, held_tick hh'⟩
      rw [List.filter_eq_nil_iff]
      intro ds hd
      rw [wh ds hd, w2 ds hd]
      simp
    · refine ⟨[(t + 1 - ((rowN n).length : Int), n)], l2, by rw [e3]; rfl, .inr ⟨n, hn, rfl, ?_⟩, _, u0, _, Q2, by rw [← hwb]; exact E2, held_tick hh'⟩
      rw [List.filter_congr (q := fun ds => decide (ds = n)) fun ds hd => by rw [wh ds hd, w2 ds hd]]
      exact filter_one nd hn
  have ch : ∀ i : Nat, ∃ pr : List Pull × List Pull, ∀ l, lo[i]? = some l → rem i = pr.1 ++ pr.2 ∧ ((pr.1 = [] ∧ l.filter (wholeL P) = []) ∨ ∃ n, n ∈ l ∧ pr.1 = [(t + 1 - ((rowN n).length : Int), n)] ∧ l.filter (wholeL P) = [n]) ∧ ∃ u u0 h, WQ R l B (t + 1) ((psL ps l).filter fun q => decide (t + 1 ≤ q.1)) pr.2 u h P.tick.bx ∧ EndAt P.tick i false l (u0 ++ u) ∧ P.tick.held[i]? = some 0 := fun i => by
    cases hi : lo[i]? with
    | none => exact ⟨([], []), fun l h => by cases h⟩
    | some l =>
      obtain ⟨pp, rr, h⟩ := each i l hi
      exact ⟨(pp, rr), fun l' h' => by cases h'; exact h⟩
  refine ⟨fun i => (Classical.choose (ch i)).1, fun i => (Classical.choose (ch i)).2, ⟨by show P.ls = lo; rw [a1]; exact H.lse, by show P.joined = false; rw [a8]; exact H.jn, by show P.rounds = R; rw [a2]; exact H.rn, fun i l hi => ?_⟩, fun i l hi => ?_⟩
  · exact (Classical.choose_spec (ch i) l hi).2.2
  · have := Classical.choose_spec (ch i) l hi
    exact ⟨this.1, this.2.1⟩
def endP (q : Pull) : Int × Str := (q.1 + ((rowN q.2).length : Int) - 1, numS q.2)
def flatI {α : Type} (n : Nat) (f : Nat → List α) : List α := ((List.range n).map f).flatten
theorem flatI_succ {α : Type} {n : Nat} {f : Nat → List α} : flatI (n + 1) f = flatI n f ++ f n := by
  unfold flatI
  rw [List.range_succ, List.map_append, List.flatten_append]
  simp
theorem flatI_split {α : Type} {f g h : Nat → List α} : ∀ {n : Nat}, (∀ i, i < n → f i = g i ++ h i) → (flatI n f).Perm (flatI n g ++ flatI n h)
  | 0, _ => List.Perm.refl _
  | n + 1, e => by
    rw [flatI_succ, flatI_succ, flatI_succ, e n (by omega)]
    have ih := flatI_split (n := n) fun i hi => e i (by omega)
    have h1 : (flatI n f ++ (g n ++ h n)).Perm ((flatI n g ++ flatI n h) ++ (g n ++ h n)) := ih.append_right _
    refine h1.trans ?_
    rw [List.append_assoc, List.append_assoc]
    refine List.Perm.append_left _ ?_
    rw [← List.append_assoc, ← List.append_assoc]
    exact (List.perm_append_comm (l₁ := flatI n h) (l₂ := g n)).append_right _
theorem flatI_congr {α : Type} {f g : Nat → List α} : ∀ {n : Nat}, (∀ i, i < n → f i = g i) → flatI n f = flatI n g
  | 0, _ => rfl
  | n + 1, e => by rw [flatI_succ, flatI_succ, flatI_congr fun i hi => e i (by omega), e n (by omega)]
theorem flat_getD {α : Type} (p : List α → List α) : ∀ (lo : List (List α)), (lo.map p).flatten = flatI lo.length fun i => p (lo.getD i []) := fun lo => by
  unfold flatI
  congr 1
  apply List.ext_getElem?
  intro j
  rw [List.getElem?_map, List.getElem?_map]
  by_cases hj : j < lo.length
  · rw [List.getElem?_range hj, List.getElem?_eq_getElem hj, Option.map_some, Option.map_some, List.getD_eq_getElem?_getD, List.getElem?_eq_getElem hj] <;> rfl
  · rw [List.getElem?_eq_none (by omega), List.getElem?_eq_none (by simpa using hj)] <;> rfl
theorem due_flat {P : LSt} : P.due = flatI P.ls.length fun i => (P.ls.getD i []).filter (wholeL P) := by
  rw [← flat_getD (fun l => l.filter (wholeL P))]
  show P.F.filter (wholeL P) = _
  unfold LSt.F
  rw [List.filter_flatten]
def told (t : Int) (P : LSt) : List (Int × Str) := (sortB strLt (P.due.map numS)).map fun x => (t, x)
/-- what has been told, and what is to come -/
structure FQ (lo : List (List (List Nat))) (all fd : List (Int × Str)) (t : Int) (rem : Nat → List Pull) : Prop where
  perm : (fd ++ flatI lo.length fun i => (rem i).map endP).Perm all
  srt : fd.Pairwise fun a b => SrtO.lexS b a = false
  lt : ∀ x ∈ fd, x.1 < t
theorem told_srt {t : Int} {P : LSt} : (told t P).Pairwise fun a b => SrtO.lexS b a = false := by
  unfold told
  rw [List.pairwise_map]
  refine (sortB_srt lin_str _).imp fun {a b} h => ?_
  unfold SrtO.lexS
  rw [if_pos rfl]
  exact h
theorem FQ.step {R t : Int} {ps : List Pull} {lo : List (List (List Nat))} {B : List Nat → Int} {rem pop rem' : Nat → List Pull} {all fd : List (Int × Str)} {P : LSt} (hl : P.ls = lo) (F : FQ lo all fd t rem)
    (h : ∀ (i : Nat) l, lo[i]? = some l → rem i = pop i ++ rem' i ∧ ((pop i = [] ∧ l.filter (wholeL P) = []) ∨ ∃ n, n ∈ l ∧ pop i = [(t + 1 - ((rowN n).length : Int), n)] ∧ l.filter (wholeL P) = [n])) : FQ lo all (fd ++ told t P) (t + 1) rem' := by
  have e1 : ∀ i, i < lo.length → (rem i).map endP = (pop i).map endP ++ (rem' i).map endP := fun i hi => by
    rw [(h i _ (List.getElem?_eq_getElem hi)).1, List.map_append]
  have e2 : ∀ i, i < lo.length → (pop i).map endP = ((lo.getD i []).filter (wholeL P)).map fun n => (t, numS n) := fun i hi => by
    have hg := List.getElem?_eq_getElem hi
    have hd : lo.getD i [] = lo[i] := by rw [List.getD_eq_getElem?_getD, hg]; rfl
    rcases (h i _ hg).2 with ⟨a, b⟩ | ⟨n, _, a, b⟩
    · rw [a, hd, b]; rfl
    · rw [a, hd, b]
      show [endP _] = [(t, numS n)]
      unfold endP
      dsimp only
      rw [show t + 1 - ((rowN n).length : Int) + ((rowN n).length : Int) - 1 = t by omega]
  have e3 : (flatI lo.length fun i => (pop i).map endP) = P.due.map fun n => (t, numS n) := by
    rw [due_flat, hl, flatI_congr e2]
    unfold flatI
    rw [List.map_flatten, List.map_map] <;> rfl
  have e4 : (P.due.map fun n => (t, numS n)).Perm (told t P) := by
    unfold told
    have : (P.due.map fun n => (t, numS n)) = (P.due.map numS).map fun x => (t, x) := by rw [List.map_map]; rfl
    rw [this]
    exact (sortB_perm strLt _).symm.map _
  refine ⟨?_, ?_, fun x hx => ?_⟩
  · have p1 := flatI_split e1
    rw [e3] at p1
    have p2 := (p1.trans (e4.append_right _)).append_left fd
    rw [← List.append_assoc] at p2
    exact p2.symm.trans F.perm
  · refine List.pairwise_append.mpr ⟨F.srt, told_srt, fun a ha b hb => ?_⟩
    obtain ⟨x, _, rfl⟩ := List.mem_map.mp hb
    have := F.lt a ha
    unfold SrtO.lexS
    rw [if_neg (by dsimp only; omega)]
    exact decide_eq_false (by dsimp only; omega)
  · rcases List.mem_append.mp hx with hx | hx
    · have := F.lt x hx; omega
    · obtain ⟨y, _, rfl⟩ := List.mem_map.mp hx
      dsimp only
      omega
/-- at the end all has been told -/
theorem FQ.done {R t : Int} {ps : List Pull} {lo : List (List (List Nat))} {B : List Nat → Int} {rem : Nat → List Pull} {all fd : List (Int × Str)} {L : LSt} (hR : 1 ≤ R) (H : LQ R ps lo B t rem L) (F : FQ lo all fd t rem) (ht : ∀ x ∈ all, x.1 < t) : fd = sortB SrtO.lexS all ∧ ∀ i, i < lo.length → rem i = [] := by
  have hz : ∀ i, i < lo.length → rem i = [] := fun i hi => by
    obtain ⟨u, u0, h, Q, _, _⟩ := H.q i _ (List.getElem?_eq_getElem hi)
    refine List.eq_nil_iff_forall_not_mem.mpr fun q hq => ?_
    have h1 := Q.ends hR q hq
    have hm : endP q ∈ all := F.perm.mem_iff.mp (List.mem_append_right _ (by
      unfold flatI
      exact List.mem_flatten.mpr ⟨_, List.mem_map.mpr ⟨i, List.mem_range.mpr hi, rfl⟩, List.mem_map.mpr ⟨q, hq, rfl⟩⟩))
    have h2 := ht _ hm
    unfold endP at h2
    dsimp only at h2
    omega
  refine ⟨?_, hz⟩
  have e : (flatI lo.length fun i => (rem i).map endP) = [] := by
    rw [flatI_congr (g := fun _ => []) fun i hi => by rw [hz i hi]; rfl]
    unfold flatI
    rw [List.flatten_eq_nil_iff]
    intro l hl
    obtain ⟨_, _, rfl⟩ := List.mem_map.mp hl
    rfl
  have p := F.perm
  rw [e, List.append_nil] at p
  exact sortB_uniq SrtO.lin_lexS p F.srt
end CW

namespace CW
open PySem PySem.Spec PyProof.Rows L2 MM
theorem Bx.behind_left {b : Bx} {r : List Int} {k : Bool} (h : b.In r) : (b.behind r k).left = b.left - (if b.whole r k = true then 1 else 0) := by
  cases hp : b.place with
  | none =>
    rw [Bx.whole_idle hp, Bx.behind_idle hp]
    simp
  | some i =>
    have h0 := h i hp
    have ew : b.whole r k = if i + 1 < (r.length : Int) then false else (!k || b.brk r) := by unfold Bx.whole; rw [hp]
    have eb : b.behind r k = if k = true ∧ b.brk r = false then ⟨b.left, b.sent, b.spring, none, qBehind b.quiet k⟩ else
      if i + 1 = r.length then (if b.left = 1 then ⟨0, 0, b.spring - 1, none, qBehind b.quiet k⟩ else ⟨b.left - 1, b.sent + 1, b.spring - 1, none, qBehind b.quiet k⟩) else ⟨b.left, b.sent, b.spring, some (i + 1), qBehind b.quiet k⟩ := by unfold Bx.behind; rw [hp]
    by_cases hk : k = true ∧ b.brk r = false
    · have hw : b.whole r k = false := by
        rw [ew, hk.1, hk.2]
        split <;> rfl
      rw [hw, eb, if_pos hk]
      simp
    · by_cases hi : i + 1 = r.length
      · have hw : b.whole r k = true := by
          rw [ew, if_neg (by omega)]
          cases k with
          | false => rfl
          | true =>
            cases hb : b.brk r with
            | true => rfl
            | false => exact absurd ⟨rfl, hb⟩ hk
        rw [hw, eb, if_neg hk, if_pos hi, if_pos rfl]
        split
        · rename_i h1
          show (0 : Int) = b.left - 1
          omega
        · rfl
      · have hw : b.whole r k = false := by rw [ew, if_pos (by omega)]
        rw [hw, eb, if_neg hk, if_neg hi]
        simp
def cntN (l : List (Int × Str)) (ds : List Nat) : Int := ((l.filter fun x => decide (x.2 = numS ds)).length : Int)
def cntD (l : List (List Nat)) (ds : List Nat) : Int := ((l.filter fun d => decide (d = ds)).length : Int)
theorem cntN_app {a b : List (Int × Str)} {ds : List Nat} : cntN (a ++ b) ds = cntN a ds + cntN b ds := by
  unfold cntN
  rw [List.filter_append, List.length_append]
  push_cast
  rfl
theorem cntD_app {a b : List (List Nat)} {ds : List Nat} : cntD (a ++ b) ds = cntD a ds + cntD b ds := by
  unfold cntD
  rw [List.filter_append, List.length_append]
  push_cast
  rfl
theorem cnt_told {t : Int} {P : LSt} (o : LOk P) {ds : List Nat} (hd : ds ∈ P.F) : cntN (told t P) ds = if wholeL P ds = true then 1 else 0 := by
  have e1 : cntN (told t P) ds = cntN (P.due.map fun n => (t, numS n)) ds := by
    unfold cntN
    have h : (told t P).Perm (P.due.map fun n => (t, numS n)) := by
      unfold told
      have : (P.due.map fun n => (t, numS n)) = (P.due.map numS).map fun x => (t, x) := by rw [List.map_map]; rfl
      rw [this]
      exact (sortB_perm strLt _).map _
    rw [(h.filter _).length_eq]
  have e2 : ((P.due.map fun n => (t, numS n)).filter fun x => decide (x.2 = numS ds)) = (P.due.filter fun n => decide (n = ds)).map fun n => (t, numS n) := by
    rw [List.filter_map]
    congr 1
    apply List.filter_congr
    intro n _
    show decide (numS n = numS ds) = decide (n = ds)
    exact decide_eq_decide.mpr ⟨fun e => numS_inj e, fun e => by rw [e]⟩
  rw [e1]
  unfold cntN
  rw [e2, List.length_map]
  have nd : P.due.Nodup := o.town.nd.sublist List.filter_sublist
  by_cases hw : wholeL P ds = true
  · have hm : ds ∈ P.due := List.mem_filter.mpr ⟨hd, hw⟩
    rw [if_pos hw, filter_one nd hm] <;> rfl
  · rw [if_neg hw, List.filter_eq_nil_iff.mpr]
    · rfl
    · intro n hn
      have hn2 := (List.mem_filter.mp hn).2
      have : n ≠ ds := fun e => hw (by rw [← e]; exact hn2)
      simpa using this
/-- per box: what was told and what is left -/
structure CN (R : Int) (F : List (List Nat)) (fd : List (Int × Str)) (dl : List (List Nat)) (L : LSt) : Prop where
  eq : ∀ ds ∈ F, cntN fd ds + (L.bx ds).left = R * cntD dl ds
  mem : ∀ ds ∈ dl, ds ∈ F
theorem CN.tick {R t : Int} {fd : List (Int × Str)} {dl : List (List Nat)} {P : LSt} (o : LOk P) (C : CN R P.F fd dl P) : CN R P.F (fd ++ told t P) dl P.tick := by
  refine ⟨fun ds hd => ?_, C.mem⟩
  have h := C.eq ds hd
  have e : P.tick.bx ds = (P.bx ds).started.behind (rowN ds) (P.go.felt ds) := rfl
  have hl := Bx.behind_left (k := P.go.felt ds) ((o.box ds hd).started row_pos)
  rw [cntN_app, cnt_told o hd, e, hl, ((P.bx ds).started_same).1]
  unfold wholeL
  omega
theorem CN.pull {R : Int} {fd : List (Int × Str)} {dl : List (List Nat)} {L : LSt} {d : List Nat} (hR : L.rounds = R) (hd : d ∈ L.F) (g : L.Good) (C : CN R L.F fd dl L) : CN R L.F fd (if (L.bx d).left = 0 then dl ++ [d] else dl) (L.pull d) := by
  have bxe : (L.pull d).bx = setF L.bx d ((L.bx d).pulled L.rounds) := rfl
  have h0 := (g d hd).l0
  by_cases hz : (L.bx d).left = 0
  · rw [if_pos hz]
    refine ⟨fun ds hds => ?_, fun ds hm => ?_⟩
    · have h := C.eq ds hds
      rw [cntD_app, bxe, hR, Int.mul_add]
      unfold setF
      by_cases e : ds = d
      · subst e
        rw [if_pos rfl]
        have h1 : cntD [ds] ds = 1 := by simp [cntD]
        have h2 : ((L.bx ds).pulled R).left = R := by
          unfold Bx.pulled
          rw [if_neg (by omega)]
        rw [h1, h2, Int.mul_one]
        omega
      · rw [if_neg e]
        have h1 : cntD [d] ds = 0 := by
          have : ¬ d = ds := fun q => e q.symm
          simp [cntD, this]
        rw [h1, Int.mul_zero]
        omega
    · rcases List.mem_append.mp hm with hm | hm
      · exact C.mem ds hm
      · rw [List.mem_singleton.mp hm]; exact hd
  · rw [if_neg hz]
    refine ⟨fun ds hds => ?_, C.mem⟩
    have h := C.eq ds hds
    rw [bxe]
    unfold setF
    by_cases e : ds = d
    · subst e
      rw [if_pos rfl]
      have : ((L.bx ds).pulled L.rounds) = L.bx ds := by
        unfold Bx.pulled
        rw [if_pos (by omega)]
      rw [this]
      exact h
    · rw [if_neg e]
      exact h
/-- all told: so often as the pulls that did something, times the rounds -/
theorem CN.perm {R : Nat} {F : List (List Nat)} {fd : List (Int × Str)} {dl : List (List Nat)} {L : LSt} (C : CN (R : Int) F fd dl L) (hz : ∀ ds ∈ F, (L.bx ds).left = 0) (hm : ∀ x ∈ fd, ∃ ds ∈ F, x.2 = numS ds) : ((List.replicate R (dl.map numS)).flatten).Perm (fd.map (·.2)) := by
  have cn : ∀ ds, (fd.map (·.2)).count (numS ds) = (cntN fd ds).toNat := fun ds => by
    unfold cntN
    rw [Int.toNat_natCast, List.count, List.countP_map, List.countP_eq_length_filter]
    congr 1
  have cd : ∀ ds, (dl.map numS).count (numS ds) = (cntD dl ds).toNat := fun ds => by
    unfold cntD
    rw [Int.toNat_natCast, List.count, List.countP_map, List.countP_eq_length_filter]
    congr 1
    apply List.filter_congr
    intro x _
    show (numS x == numS ds) = decide (x = ds)
    by_cases e : x = ds
    · subst e; simp
    · have : ¬ numS x = numS ds := fun q => e (numS_inj q)
      simp [e, this]
  have rep : ∀ (k : Nat) (x : Str), ((List.replicate k (dl.map numS)).flatten).count x = k * (dl.map numS).count x := fun k x => by
    induction k with
    | zero => simp
    | succ k ih => rw [List.replicate_succ, List.flatten_cons, List.count_append, ih, Nat.succ_mul]; omega
  rw [List.perm_iff_count]
  intro x
  rw [rep]
  by_cases hx : ∃ ds ∈ F, x = numS ds
  · obtain ⟨ds, hd, rfl⟩ := hx
    have h := C.eq ds hd
    rw [hz ds hd, Int.add_zero] at h
    rw [cn, cd, h]
    have h0 : 0 ≤ cntD dl ds := by unfold cntD; omega
    obtain ⟨c, hc⟩ : ∃ c : Nat, cntD dl ds = c := ⟨(cntD dl ds).toNat, by omega⟩
    rw [hc, show (R : Int) * (c : Int) = ((R * c : Nat) : Int) by push_cast; rfl, Int.toNat_natCast, Int.toNat_natCast]
  · have z1 : (dl.map numS).count x = 0 := List.count_eq_zero.mpr fun q => by
      obtain ⟨ds, hd, e⟩ := List.mem_map.mp q
      exact hx ⟨ds, C.mem ds hd, e.symm⟩
    have z2 : (fd.map (·.2)).count x = 0 := List.count_eq_zero.mpr fun q => by
      obtain ⟨y, hy, e⟩ := List.mem_map.mp q
      obtain ⟨ds, hd, e2⟩ := hm y hy
      exact hx ⟨ds, hd, by rw [← e]; exact e2⟩
    rw [z1, z2]
    simp
end CW

namespace CW
open PySem PySem.Spec PyProof.Rows L2 MM
theorem new_run {lo : List (List (List Nat))} {R s : Int} (o : LOk (newL lo R s)) : ∀ (k i : Nat) l, lo[i]? = some l → EndAt (tickN k (newL lo R s)) i false l (List.replicate k 0) ∧ (tickN k (newL lo R s)).held[i]? = some 0 ∧ ∀ ds ∈ l, (tickN k (newL lo R s)).bx ds = ⟨0, 0, s, none, min 12 (k : Int)⟩
  | 0, i, l, hi => by
    have hlt := get_of hi
    refine ⟨⟨⟨l, [], hi, ?_, ?_⟩, ?_⟩, ?_, fun ds _ => rfl⟩
    · show (List.replicate lo.length ([] : List Nat))[i]? = _
      rw [List.getElem?_replicate, if_pos hlt]
    · rw [if_neg (by decide)] <;> rfl
    · rw [if_neg (by decide)]
      show (List.replicate lo.length ([] : List Int))[i]? = _
      rw [List.getElem?_replicate, if_pos hlt] <;> rfl
    · show (List.replicate lo.length (0 : Int))[i]? = _
      rw [List.getElem?_replicate, if_pos hlt]
  | k + 1, i, l, hi => by
    obtain ⟨E, hh, hb⟩ := new_run o k i l hi
    have ok := o.tickN k
    have hj : (tickN k (newL lo R s)).joined = false := by rw [(tickN_same k).1]; rfl
    have hw : wBr l (tickN k (newL lo R s)).bx = false := by
      unfold wBr
      rw [List.any_eq_false]
      intro ds hd
      rw [hb ds hd]
      unfold Bx.started
      rw [if_neg (fun h => absurd h.2.1 (by simp))]
      unfold Bx.brk brkB
      simp
    obtain ⟨E2, b2⟩ := E.tick ok hj hh
    rw [hw] at E2 b2
    refine ⟨by rw [List.replicate_succ']; exact E2, held_tick hh, fun ds hd => ?_⟩
    have e := b2 ds hd
    show (tickN k (newL lo R s)).tick.bx ds = _
    rw [e, hb ds hd]
    unfold Bx.started
    rw [if_neg (fun h => absurd h.2.1 (by simp)), Bx.behind_idle rfl]
    show (⟨0, 0, s, none, min 12 (min 12 (k : Int) + 1)⟩ : Bx) = _
    congr 1
    omega
def idxL (lo : List (List (List Nat))) (ds : List Nat) : Nat := lo.findIdx fun l => decide (ds ∈ l)
theorem idx_of {ds : List Nat} : ∀ {lo : List (List (List Nat))} {i : Nat} {l : List (List Nat)}, lo.flatten.Nodup → lo[i]? = some l → ds ∈ l → idxL lo ds = i
  | [], _, _, _, h, _ => by cases h
  | x :: lo, 0, l, _, h, hd => by
    cases h
    unfold idxL
    rw [List.findIdx_cons]
    simp [hd]
  | x :: lo, i + 1, l, hn, h, hd => by
    have hi : lo[i]? = some l := h
    rw [List.flatten_cons] at hn
    have hn2 := List.nodup_append.mp hn
    have hx : ds ∉ x := fun hx => hn2.2.2 ds hx ds (List.mem_flatten.mpr ⟨l, List.mem_of_getElem? hi, hd⟩) rfl
    have ih := idx_of hn2.2.1 hi hd
    unfold idxL at ih ⊢
    rw [List.findIdx_cons]
    simp [hx, ih]
/-- the springs, less what is to be sent -/
def sprB (lo : List (List (List Nat))) (s : Int) (f : Nat → List Pull) (ds : List Nat) : Int := s - cntL (f (idxL lo ds)) ds
theorem psL_stt {ps : List Pull} {l : List (List Nat)} (hg : ∀ p ∈ ps, GoodN p.2) (hs : Srt ps) : Stt [] (psL ps l) := ⟨⟨by simp, by simp, by simp⟩, by simp, hs.sublist List.filter_sublist, fun p hp => hg p (List.mem_filter.mp hp).1⟩
theorem LQ.init {lo : List (List (List Nat))} {R s : Int} {ps : List Pull} {f : Nat → List Pull} (o : LOk (newL lo R s)) (hg : ∀ p ∈ ps, GoodN p.2) (h0 : ∀ p ∈ ps, 0 ≤ p.1) (hs : Srt ps) (W : ∀ (i : Nat) l, lo[i]? = some l → Walk R [] (psL ps l) (-13) (f i)) : LQ R ps lo (sprB lo s f) 0 f (tickN 12 (newL lo R s)) := by
  refine ⟨by rw [(tickN_same 12).2.1]; rfl, by rw [(tickN_same 12).1]; rfl, by rw [(tickN_same 12).2.2.2.1]; rfl, fun i l hi => ?_⟩
  obtain ⟨E, hh, hb⟩ := new_run o 12 i l hi
  refine ⟨[], List.replicate 12 0, [], WQ.init (W i l hi) (psL_stt hg hs) (fun q hq => ⟨h0 q (List.mem_filter.mp hq).1, by simpa using (List.mem_filter.mp hq).2⟩) (fun ds hd => ?_), by rw [List.append_nil]; exact E, hh⟩
  rw [hb ds hd]
  unfold sprB
  rw [idx_of (lo := lo) o.town.nd hi hd]
  congr 1
  omega
def rnL (ps : List Pull) (L : LSt) : Nat → LSt
  | 0 => L
  | t + 1 => (pullN (atT ps (t : Int)) (rnL ps L t)).tick
def fdL (ps : List Pull) (L : LSt) : Nat → List (Int × Str)
  | 0 => []
  | t + 1 => fdL ps L t ++ told (t : Int) (pullN (atT ps (t : Int)) (rnL ps L t))
/-- which of the pulls did something -/
def didP : List (List Nat) → LSt → List (List Nat)
  | [], _ => []
  | d :: l, L => (if (L.bx d).left = 0 then [d] else []) ++ didP l (L.pull d)
def dlL (ps : List Pull) (L : LSt) : Nat → List (List Nat)
  | 0 => []
  | t + 1 => dlL ps L t ++ didP (atT ps (t : Int)) (rnL ps L t)
theorem CN.pulls {R : Int} {fd : List (Int × Str)} : ∀ (l : List (List Nat)) {dl : List (List Nat)} {L : LSt}, L.rounds = R → 1 ≤ R → (∀ d ∈ l, d ∈ L.F) → L.Good → CN R L.F fd dl L → CN R L.F fd (dl ++ didP l L) (pullN l L)
  | [], dl, L, _, _, _, _, C => by
    show CN R L.F fd (dl ++ []) L
    rw [List.append_nil]; exact C
  | d :: l, dl, L, hR, h1, hm, g, C => by
    have C1 := C.pull hR (hm d List.mem_cons_self) g
    have g1 : (L.pull d).Good := Good.pull g (by rw [hR]; exact h1)
    have := CN.pulls l (L := L.pull d) hR h1 (fun x hx => hm x (List.mem_cons_of_mem _ hx)) g1 C1
    have e : dl ++ didP (d :: l) L = (if (L.bx d).left = 0 then dl ++ [d] else dl) ++ didP l (L.pull d) := by
      show dl ++ ((if (L.bx d).left = 0 then [d] else []) ++ didP l (L.pull d)) = _
      split
      · rw [List.append_assoc]
      · rw [List.nil_append]
    rw [e]
    exact this
structure Rn (R : Int) (lo : List (List (List Nat))) (ps : List Pull) (B : List Nat → Int) (all : List (Int × Str)) (L0 : LSt) (t : Nat) : Prop where
  ok : LOk (rnL ps L0 t)
  gd : (rnL ps L0 t).Good
  tk : (rnL ps L0 t).ticks = L0.ticks + t
  qs : ∃ rem, LQ R ps lo B t rem (rnL ps L0 t) ∧ FQ lo all (fdL ps L0 t) t rem
  cn : CN R lo.flatten (fdL ps L0 t) (dlL ps L0 t) (rnL ps L0 t)
theorem LOk.pulled {L : LSt} {d : List Nat} (o : LOk L) : LOk (L.pull d) := ⟨o.town, o.r1, o.r4, o.s1, o.s50, fun ds hd => by
  show (setF L.bx d _ ds).In _
  unfold setF
  split
  · rename_i e; subst e; exact (o.box ds hd).pulled _
  · exact o.box ds hd, o.lc, o.lh, o.ln, o.lf, o.cut⟩
theorem pullN_ok : ∀ (l : List (List Nat)) {L : LSt}, LOk L → LOk (pullN l L)
  | [], _, o => o
  | d :: l, L, o => pullN_ok l (L := L.pull d) o.pulled
theorem pullN_good : ∀ (l : List (List Nat)) {L : LSt}, 1 ≤ L.rounds → L.Good → (pullN l L).Good
  | [], _, _, g => g
  | d :: l, L, h, g => pullN_good l (L := L.pull d) h (Good.pull g h)
theorem Rn.step {R : Int} {lo : List (List (List Nat))} {ps : List Pull} {B : List Nat → Int} {all : List (Int × Str)} {L0 : LSt} {t : Nat} (hR1 : 1 ≤ R) (hR4 : R ≤ 4) (hB : ∀ ds ∈ lo.flatten, 0 ≤ B ds) (hs : Srt ps) (hm : ∀ p ∈ ps, p.2 ∈ lo.flatten) (H : Rn R lo ps B all L0 t) : Rn R lo ps B all L0 (t + 1) := by
  obtain ⟨rem, Q, F⟩ := H.qs
  have hl : ∀ d ∈ atT ps (t : Int), d ∈ (rnL ps L0 t).F := fun d hd => by
    obtain ⟨p, hp, rfl⟩ := List.mem_map.mp hd
    have := hm p (List.mem_filter.mp hp).1
    unfold LSt.F
    rw [Q.lse]
    exact this
  have okp := pullN_ok (atT ps (t : Int)) H.ok
  obtain ⟨a1, a2, a3, a4, a5, a6, a7, a8, a9⟩ := pullN_same (rnL ps L0 t) (atT ps (t : Int))
  obtain ⟨pop, rem', Q2, h⟩ := Q.step okp hR1 hR4 hB hs
  have eF : (rnL ps L0 t).F = lo.flatten := by unfold LSt.F; rw [Q.lse]
  have eP : (pullN (atT ps (t : Int)) (rnL ps L0 t)).F = lo.flatten := by unfold LSt.F; rw [a1, Q.lse]
  refine ⟨okp.tick, Good.tick (pullN_good _ (by rw [Q.rn]; exact hR1) H.gd), ?_, ⟨rem', ?_, ?_⟩, ?_⟩
  · show (pullN (atT ps (t : Int)) (rnL ps L0 t)).ticks + 1 = _
    rw [a9, H.tk]
    omega
  · exact Q2
  · exact F.step (R := R) (ps := ps) (B := B) (by rw [a1]; exact Q.lse) h
  · have C := H.cn
    rw [← eF] at C
    have C1 := CN.pulls _ Q.rn hR1 hl H.gd C
    have C2 : CN R (pullN (atT ps (t : Int)) (rnL ps L0 t)).F (fdL ps L0 t) (dlL ps L0 t ++ didP (atT ps (t : Int)) (rnL ps L0 t)) (pullN (atT ps (t : Int)) (rnL ps L0 t)) := by rw [eP, ← eF]; exact C1
    have C3 := CN.tick (t := (t : Int)) okp C2
    rw [eP] at C3
    exact C3
def allE (lo : List (List (List Nat))) (f : Nat → List Pull) : List (Int × Str) := flatI lo.length fun i => (f i).map endP
theorem Rn.init {lo : List (List (List Nat))} {R s : Int} {ps : List Pull} {f : Nat → List Pull} (o : LOk (newL lo R s)) (hR1 : 1 ≤ R) (hs0 : 0 ≤ s) (hg : ∀ p ∈ ps, GoodN p.2) (h0 : ∀ p ∈ ps, 0 ≤ p.1) (hs : Srt ps) (W : ∀ (i : Nat) l, lo[i]? = some l → Walk R [] (psL ps l) (-13) (f i)) : Rn R lo ps (sprB lo s f) (allE lo f) (tickN 12 (newL lo R s)) 0 := by
  refine ⟨o.tickN 12, Good.tickN (Good.new (by omega) hs0) 12, rfl, ⟨f, LQ.init o hg h0 hs W, ⟨?_, List.Pairwise.nil, by simp [fdL]⟩⟩, ⟨fun ds hd => ?_, by simp [dlL]⟩⟩
  · show ([] ++ _ : List (Int × Str)).Perm _
    rw [List.nil_append]
    exact List.Perm.refl _
  · obtain ⟨l, hl, hdl⟩ := List.mem_flatten.mp hd
    obtain ⟨i, hi⟩ := List.getElem?_of_mem hl
    have hb := (new_run o 12 i l hi).2.2 ds hdl
    show cntN [] ds + ((tickN 12 (newL lo R s)).bx ds).left = R * cntD [] ds
    rw [hb]
    simp [cntN, cntD]
theorem Rn.all {lo : List (List (List Nat))} {R s : Int} {ps : List Pull} {f : Nat → List Pull} (o : LOk (newL lo R s)) (hR1 : 1 ≤ R) (hR4 : R ≤ 4) (hs0 : 0 ≤ s) (hB : ∀ ds ∈ lo.flatten, 0 ≤ sprB lo s f ds) (hg : ∀ p ∈ ps, GoodN p.2) (h0 : ∀ p ∈ ps, 0 ≤ p.1) (hm : ∀ p ∈ ps, p.2 ∈ lo.flatten) (hs : Srt ps) (W : ∀ (i : Nat) l, lo[i]? = some l → Walk R [] (psL ps l) (-13) (f i)) : ∀ t, Rn R lo ps (sprB lo s f) (allE lo f) (tickN 12 (newL lo R s)) t
  | 0 => Rn.init o hR1 hs0 hg h0 hs W
  | t + 1 => (Rn.all o hR1 hR4 hs0 hB hg h0 hm hs W t).step hR1 hR4 hB hs hm
/-- all told at the end -/
theorem Rn.done {R s : Int} {lo : List (List (List Nat))} {ps : List Pull} {f : Nat → List Pull} {L0 : LSt} {N : Nat} (hR1 : 1 ≤ R) (h : Rn R lo ps (sprB lo s f) (allE lo f) L0 N) (hN : ∀ x ∈ allE lo f, x.1 < (N : Int)) : fdL ps L0 N = sortB SrtO.lexS (allE lo f) ∧ ∀ ds ∈ lo.flatten, ((rnL ps L0 N).bx ds).left = 0 := by
  obtain ⟨rem, Q, F⟩ := h.qs
  obtain ⟨e, hz⟩ := FQ.done hR1 Q F hN
  refine ⟨e, fun ds hd => ?_⟩
  obtain ⟨l, hl, hdl⟩ := List.mem_flatten.mp hd
  obtain ⟨i, hi⟩ := List.getElem?_of_mem hl
  obtain ⟨u, u0, hh, W, _, _⟩ := Q.q i l hi
  rw [hz i (get_of hi)] at W
  obtain ⟨last, _, hb⟩ := W.done
  rw [hb ds hdl]
theorem endP_name {lo : List (List (List Nat))} {f : Nat → List Pull} (hf : ∀ (i : Nat) l, lo[i]? = some l → ∀ q ∈ f i, q.2 ∈ l) : ∀ x ∈ allE lo f, ∃ ds ∈ lo.flatten, x.2 = numS ds := fun x hx => by
  unfold allE flatI at hx
  obtain ⟨m, hm, hxm⟩ := List.mem_flatten.mp hx
  obtain ⟨i, hi, rfl⟩ := List.mem_map.mp hm
  have hi := List.mem_range.mp hi
  obtain ⟨q, hq, rfl⟩ := List.mem_map.mp hxm
  have hg := List.getElem?_eq_getElem hi
  exact ⟨q.2, List.mem_flatten.mpr ⟨_, List.mem_of_getElem? hg, hf i _ hg q hq⟩, rfl⟩
theorem Rn.names {R : Nat} {s : Int} {lo : List (List (List Nat))} {ps : List Pull} {f : Nat → List Pull} {L0 : LSt} {N : Nat} (hR1 : (1 : Int) ≤ (R : Int)) (h : Rn (R : Int) lo ps (sprB lo s f) (allE lo f) L0 N) (hN : ∀ x ∈ allE lo f, x.1 < (N : Int)) (hf : ∀ (i : Nat) l, lo[i]? = some l → ∀ q ∈ f i, q.2 ∈ l) : sortB strLt ((List.replicate R ((dlL ps L0 N).map numS)).flatten) = sortB strLt ((sortB SrtO.lexS (allE lo f)).map (·.2)) := by
  obtain ⟨e, hz⟩ := h.done hR1 hN
  refine sort_perm ?_
  have C := h.cn
  rw [e] at C
  refine C.perm hz fun x hx => endP_name hf x ((sortB_perm SrtO.lexS _).mem_iff.mp hx)
end CW

namespace CW
open PySem PySem.Spec PyProof.Rows L2 MM
structure Thg where
  cell : Nat → Prop
  at_ : Sto → Prop
  lt : ∀ {S : Sto}, at_ S → ∀ i, cell i → i < S.length
  frame : ∀ {S S' : Sto}, at_ S → (∀ i, cell i → S'[i]? = S[i]?) → at_ S'
/-- t becomes t', and nothing else is changed; things may be made -/
structure Chg (t t' : Thg) (S S' : Sto) : Prop where
  at_ : t'.at_ S'
  len : S.length ≤ S'.length
  keep : ∀ i, i < S.length → ¬ t.cell i → S'[i]? = S[i]?
  own : ∀ i, t'.cell i → t.cell i ∨ S.length ≤ i
structure Env (S : Sto) (X : List Thg) : Prop where
  at_ : ∀ t ∈ X, t.at_ S
  ap : X.Pairwise fun s t => ∀ i, s.cell i → ¬ t.cell i
theorem Chg.refl {t : Thg} {S : Sto} (h : t.at_ S) : Chg t t S S := ⟨h, Nat.le_refl _, fun _ _ _ => rfl, fun _ h => .inl h⟩
theorem Chg.trans {t t1 t2 : Thg} {S S1 S2 : Sto} (h : Chg t t1 S S1) (g : Chg t1 t2 S1 S2) : Chg t t2 S S2 :=
  ⟨g.at_, Nat.le_trans h.len g.len, fun i hi hn => by
    rw [g.keep i (Nat.lt_of_lt_of_le hi h.len) (fun q => by rcases h.own i q with q | q; exact hn q; omega), h.keep i hi hn], fun i hi => by
    rcases g.own i hi with q | q
    · exact h.own i q
    · exact .inr (Nat.le_trans h.len q)⟩
/-- only things were made -/
structure Grw (S S' : Sto) : Prop where
  len : S.length ≤ S'.length
  keep : ∀ i, i < S.length → S'[i]? = S[i]?
theorem Grw.refl {S : Sto} : Grw S S := ⟨Nat.le_refl _, fun _ _ => rfl⟩
theorem Grw.app (S T : Sto) : Grw S (S ++ T) := ⟨by simp, fun i hi => List.getElem?_append_left hi⟩
theorem Grw.trans {S S1 S2 : Sto} (h : Grw S S1) (g : Grw S1 S2) : Grw S S2 := ⟨Nat.le_trans h.len g.len, fun i hi => by rw [g.keep i (Nat.lt_of_lt_of_le hi h.len), h.keep i hi]⟩
theorem Thg.grw {t : Thg} {S S' : Sto} (h : t.at_ S) (g : Grw S S') : t.at_ S' := t.frame h fun i hi => g.keep i (t.lt h i hi)
theorem Grw.chg {t : Thg} {S S' : Sto} (h : t.at_ S) (g : Grw S S') : Chg t t S S' := ⟨t.grw h g, g.len, fun i hi _ => g.keep i hi, fun _ h => .inl h⟩
theorem Env.nil {S : Sto} : Env S [] := ⟨by simp, List.Pairwise.nil⟩
theorem Env.get {S : Sto} {X : List Thg} (E : Env S X) {i : Nat} {t : Thg} (h : X[i]? = some t) : t.at_ S := E.at_ t (List.mem_of_getElem? h)
theorem Env.ne {S : Sto} {X : List Thg} (E : Env S X) {i j : Nat} {s t : Thg} (hi : X[i]? = some s) (hj : X[j]? = some t) (hn : i ≠ j) : ∀ c, s.cell c → ¬ t.cell c := by
  obtain ⟨hi2, e1⟩ := List.getElem?_eq_some_iff.mp hi
  obtain ⟨hj2, e2⟩ := List.getElem?_eq_some_iff.mp hj
  have hp := List.pairwise_iff_getElem.mp E.ap
  rcases Nat.lt_or_gt_of_ne hn with h | h
  · have := hp i j hi2 hj2 h
    rw [e1, e2] at this
    exact this
  · have := hp j i hj2 hi2 h
    rw [e1, e2] at this
    exact fun c h1 h2 => this c h2 h1
theorem Env.keep {S S' : Sto} {X : List Thg} (E : Env S X) (g : Grw S S') : Env S' X := ⟨fun t h => t.grw (E.at_ t h) g, E.ap⟩
theorem Env.chg {S S' : Sto} {X : List Thg} (E : Env S X) {i : Nat} {t t' : Thg} (hi : X[i]? = some t) (c : Chg t t' S S') : Env S' (X.set i t') := by
  obtain ⟨hi2, e⟩ := List.getElem?_eq_some_iff.mp hi
  have oth : ∀ (j : Nat) (u : Thg), X[j]? = some u → j ≠ i → (∀ k, u.cell k → S'[k]? = S[k]?) ∧ ∀ k, u.cell k → ¬ t'.cell k := fun j u hj hn => by
    have ap := E.ne hj hi hn
    have lt := u.lt (E.get hj)
    exact ⟨fun k hk => c.keep k (lt k hk) (ap k hk), fun k hk q => by
      rcases c.own k q with q | q
      · exact ap k hk q
      · have := lt k hk; omega⟩
  refine ⟨fun u hu => ?_, List.pairwise_iff_getElem.mpr fun j k hj hk hjk => ?_⟩
  · obtain ⟨j, hj, rfl⟩ := List.getElem_of_mem hu
    rw [List.getElem_set]
    split
    · exact c.at_
    · rename_i hn
      have hj' : j < X.length := by simpa using hj
      have h1 : X[j]? = some X[j] := List.getElem?_eq_getElem hj'
      exact X[j].frame (E.get h1) (oth j _ h1 (fun q => hn q.symm)).1
  · have hj' : j < X.length := by simpa using hj
    have hk' : k < X.length := by simpa using hk
    have h1 : X[j]? = some X[j] := List.getElem?_eq_getElem hj'
    have h2 : X[k]? = some X[k] := List.getElem?_eq_getElem hk'
    rw [List.getElem_set, List.getElem_set]
    split
    · rename_i e1
      rw [if_neg (by omega)]
      have := (oth k _ h2 (by omega)).2
      exact fun c h3 h4 => this c h4 h3
    · split
      · exact (oth j _ h1 (by omega)).2
      · exact E.ne h1 h2 (by omega)
/-- a new thing -/
theorem Env.more {S S' : Sto} {X : List Thg} (E : Env S X) (g : Grw S S') {t : Thg} (h : t.at_ S') (hn : ∀ i, t.cell i → S.length ≤ i) : Env S' (X ++ [t]) := by
  refine ⟨fun u hu => ?_, List.pairwise_append.mpr ⟨E.ap, List.pairwise_singleton _ _, fun u hu v hv => ?_⟩⟩
  · rcases List.mem_append.mp hu with hu | hu
    · exact u.grw (E.at_ u hu) g
    · rw [List.mem_singleton] at hu
      rw [hu]; exact h
  · rw [List.mem_singleton] at hv
    subst hv
    intro i h1 h2
    have := u.lt (E.at_ u hu) i h1
    have := hn i h2
    omega
theorem Env.sub {S : Sto} {X Y : List Thg} (E : Env S X) (h : Y.Sublist X) : Env S Y := ⟨fun t ht => E.at_ t (h.subset ht), E.ap.sublist h⟩
/-- one cell -/
def cellT (a : Nat) (o : O) : Thg := ⟨fun i => i = a, fun S => S[a]? = some o, fun {S} h i hi => by subst hi; exact get_of h, fun {S S'} h g => by rw [g a rfl]; exact h⟩
/-- a bag of family B or C -/
def bagT (b : Nat) : Thg := ⟨fun i => i = b, fun S => Bag2 S b, fun {S} h i hi => by subst hi; exact h.lt, fun {S S'} h g => by
  obtain ⟨x, y, e, h1⟩ := h
  exact ⟨x, y, by rw [g b rfl]; exact e, h1⟩⟩
theorem Took.chg {b : Nat} {S S' : Sto} (w : Took b S S') : Chg (bagT b) (bagT b) S S' := ⟨w.1, by rw [w.len]; exact Nat.le_refl _, fun i _ hn => w.get hn, fun i hi => .inl hi⟩
/-- a line -/
def lineT (n h : Nat) (L : LSt) : Thg := ⟨fun i => (n ≤ i ∧ i < n + 5 + 2 * L.k) ∨ i = h, fun S => LineAt S n h L, fun {S} H i hi => by have := H.lt; omega, fun {S S'} H g => H.keep g⟩
theorem Lch.chg {n h h' : Nat} {L L' : LSt} {S S' : Sto} (w : Lch n h L.k S S') (H : LineAt S' n h' L') (hh : h' = h ∨ S.length ≤ h') (hk : L'.k = L.k) : Chg (lineT n h L) (lineT n h' L') S S' :=
  ⟨H, w.1, fun i hi hn => w.2 i hi (by
    show i < n ∨ _
    have : ¬ ((n ≤ i ∧ i < n + 5 + 2 * L.k) ∨ i = h) := hn
    omega) (fun q => hn (.inr q)), fun i hi => by
    have hi : (n ≤ i ∧ i < n + 5 + 2 * L'.k) ∨ i = h' := hi
    rw [hk] at hi
    show ((n ≤ i ∧ i < n + 5 + 2 * L.k) ∨ i = h) ∨ _
    omega⟩
/-- a watch -/
def watchT (n : Nat) (w : WSt) (b : Nat) : Thg := ⟨fun i => n ≤ i ∧ i ≤ n + 4, fun S => WatchAt S n w b, fun {S} H i hi => by have := H.lt; omega, fun {S S'} H g => H.other fun i h1 h2 => g i ⟨h1, h2⟩⟩
theorem Wch.chg {n b b' : Nat} {w w' : WSt} {S S' : Sto} (c : Wch n S S') (H : WatchAt S' n w' b') : Chg (watchT n w b) (watchT n w' b') S S' :=
  ⟨H, c.1, fun i hi hn => c.2 i hi (by
    have : ¬ (n ≤ i ∧ i ≤ n + 4) := hn
    omega), fun i hi => .inl hi⟩
end CW

namespace CW
open PySem PySem.Spec PyProof.Rows L2 MM
@[simp] theorem w_pull_wind : (Str.ofString "pull" = Str.ofString "wind") = False := eq_false (by decide +kernel)
@[simp] theorem w_pull_cut : (Str.ofString "pull" = Str.ofString "cut") = False := eq_false (by decide +kernel)
@[simp] theorem w_pull_mend : (Str.ofString "pull" = Str.ofString "mend") = False := eq_false (by decide +kernel)
@[simp] theorem w_pull_join : (Str.ofString "pull" = Str.ofString "join") = False := eq_false (by decide +kernel)
@[simp] theorem w_pull_part : (Str.ofString "pull" = Str.ofString "part") = False := eq_false (by decide +kernel)
@[simp] theorem w_pull_clear : (Str.ofString "pull" = Str.ofString "clear") = False := eq_false (by decide +kernel)
@[simp] theorem w_pull_back : (Str.ofString "pull" = Str.ofString "back") = False := eq_false (by decide +kernel)
@[simp] theorem w_pull_ticks : (Str.ofString "pull" = Str.ofString "ticks") = False := eq_false (by decide +kernel)
@[simp] theorem w_wind_pull : (Str.ofString "wind" = Str.ofString "pull") = False := eq_false (by decide +kernel)
@[simp] theorem w_wind_cut : (Str.ofString "wind" = Str.ofString "cut") = False := eq_false (by decide +kernel)
@[simp] theorem w_wind_mend : (Str.ofString "wind" = Str.ofString "mend") = False := eq_false (by decide +kernel)
@[simp] theorem w_wind_join : (Str.ofString "wind" = Str.ofString "join") = False := eq_false (by decide +kernel)
@[simp] theorem w_wind_part : (Str.ofString "wind" = Str.ofString "part") = False := eq_false (by decide +kernel)
@[simp] theorem w_wind_clear : (Str.ofString "wind" = Str.ofString "clear") = False := eq_false (by decide +kernel)
@[simp] theorem w_wind_back : (Str.ofString "wind" = Str.ofString "back") = False := eq_false (by decide +kernel)
@[simp] theorem w_wind_ticks : (Str.ofString "wind" = Str.ofString "ticks") = False := eq_false (by decide +kernel)
@[simp] theorem w_cut_pull : (Str.ofString "cut" = Str.ofString "pull") = False := eq_false (by decide +kernel)
@[simp] theorem w_cut_wind : (Str.ofString "cut" = Str.ofString "wind") = False := eq_false (by decide +kernel)
@[simp] theorem w_cut_mend : (Str.ofString "cut" = Str.ofString "mend") = False := eq_false (by decide +kernel)
@[simp] theorem w_cut_join : (Str.ofString "cut" = Str.ofString "join") = False := eq_false (by decide +kernel)
@[simp] theorem w_cut_part : (Str.ofString "cut" = Str.ofString "part") = False := eq_false (by decide +kernel)
@[simp] theorem w_cut_clear : (Str.ofString "cut" = Str.ofString "clear") = False := eq_false (by decide +kernel)
@[simp] theorem w_cut_back : (Str.ofString "cut" = Str.ofString "back") = False := eq_false (by decide +kernel)
@[simp] theorem w_cut_ticks : (Str.ofString "cut" = Str.ofString "ticks") = False := eq_false (by decide +kernel)
@[simp] theorem w_mend_pull : (Str.ofString "mend" = Str.ofString "pull") = False := eq_false (by decide +kernel)
@[simp] theorem w_mend_wind : (Str.ofString "mend" = Str.ofString "wind") = False := eq_false (by decide +kernel)
@[simp] theorem w_mend_cut : (Str.ofString "mend" = Str.ofString "cut") = False := eq_false (by decide +kernel)
@[simp] theorem w_mend_join : (Str.ofString "mend" = Str.ofString "join") = False := eq_false (by decide +kernel)
@[simp] theorem w_mend_part : (Str.ofString "mend" = Str.ofString "part") = False := eq_false (by decide +kernel)
@[simp] theorem w_mend_clear : (Str.ofString "mend" = Str.ofString "clear") = False := eq_false (by decide +kernel)
@[simp] theorem w_mend_back : (Str.ofString "mend" = Str.ofString "back") = False := eq_false (by decide +kernel)
@[simp] theorem w_mend_ticks : (Str.ofString "mend" = Str.ofString "ticks") = False := eq_false (by decide +kernel)
@[simp] theorem w_join_pull : (Str.ofString "join" = Str.ofString "pull") = False := eq_false (by decide +kernel)
@[simp] theorem w_join_wind : (Str.ofString "join" = Str.ofString "wind") = False := eq_false (by decide +kernel)
@[simp] theorem w_join_cut : (Str.ofString "join" = Str.ofString "cut") = False := eq_false (by decide +kernel)
@[simp] theorem w_join_mend : (Str.ofString "join" = Str.ofString "mend") = False := eq_false (by decide +kernel)
@[simp] theorem w_join_part : (Str.ofString "join" = Str.ofString "part") = False := eq_false (by decide +kernel)
@[simp] theorem w_join_clear : (Str.ofString "join" = Str.ofString "clear") = False := eq_false (by decide +kernel)
@[simp] theorem w_join_back : (Str.ofString "join" = Str.ofString "back") = False := eq_false (by decide +kernel)
@[simp] theorem w_join_ticks : (Str.ofString "join" = Str.ofString "ticks") = False := eq_false (by decide +kernel)
@[simp] theorem w_part_pull : (Str.ofString "part" = Str.ofString "pull") = False := eq_false (by decide +kernel)
@[simp] theorem w_part_wind : (Str.ofString "part" = Str.ofString "wind") = False := eq_false (by decide +kernel)
@[simp] theorem w_part_cut : (Str.ofString "part" = Str.ofString "cut") = False := eq_false (by decide +kernel)
@[simp] theorem w_part_mend : (Str.ofString "part" = Str.ofString "mend") = False := eq_false (by decide +kernel)
@[simp] theorem w_part_join : (Str.ofString "part" = Str.ofString "join") = False := eq_false (by decide +kernel)
@[simp] theorem w_part_clear : (Str.ofString "part" = Str.ofString "clear") = False := eq_false (by decide +kernel)
@[simp] theorem w_part_back : (Str.ofString "part" = Str.ofString "back") = False := eq_false (by decide +kernel)
@[simp] theorem w_part_ticks : (Str.ofString "part" = Str.ofString "ticks") = False := eq_false (by decide +kernel)
@[simp] theorem w_clear_pull : (Str.ofString "clear" = Str.ofString "pull") = False := eq_false (by decide +kernel)
@[simp] theorem w_clear_wind : (Str.ofString "clear" = Str.ofString "wind") = False := eq_false (by decide +kernel)
@[simp] theorem w_clear_cut : (Str.ofString "clear" = Str.ofString "cut") = False := eq_false (by decide +kernel)
@[simp] theorem w_clear_mend : (Str.ofString "clear" = Str.ofString "mend") = False := eq_false (by decide +kernel)
@[simp] theorem w_clear_join : (Str.ofString "clear" = Str.ofString "join") = False := eq_false (by decide +kernel)
@[simp] theorem w_clear_part : (Str.ofString "clear" = Str.ofString "part") = False := eq_false (by decide +kernel)
@[simp] theorem w_clear_back : (Str.ofString "clear" = Str.ofString "back") = False := eq_false (by decide +kernel)
@[simp] theorem w_clear_ticks : (Str.ofString "clear" = Str.ofString "ticks") = False := eq_false (by decide +kernel)
@[simp] theorem w_back_pull : (Str.ofString "back" = Str.ofString "pull") = False := eq_false (by decide +kernel)
@[simp] theorem w_back_wind : (Str.ofString "back" = Str.ofString "wind") = False := eq_false (by decide +kernel)
@[simp] theorem w_back_cut : (Str.ofString "back" = Str.ofString "cut") = False := eq_false (by decide +kernel)
@[simp] theorem w_back_mend : (Str.ofString "back" = Str.ofString "mend") = False := eq_false (by decide +kernel)
@[simp] theorem w_back_join : (Str.ofString "back" = Str.ofString "join") = False := eq_false (by decide +kernel)
@[simp] theorem w_back_part : (Str.ofString "back" = Str.ofString "part") = False := eq_false (by decide +kernel)
@[simp] theorem w_back_clear : (Str.ofString "back" = Str.ofString "clear") = False := eq_false (by decide +kernel)
@[simp] theorem w_back_ticks : (Str.ofString "back" = Str.ofString "ticks") = False := eq_false (by decide +kernel)
@[simp] theorem w_ticks_pull : (Str.ofString "ticks" = Str.ofString "pull") = False := eq_false (by decide +kernel)
@[simp] theorem w_ticks_wind : (Str.ofString "ticks" = Str.ofString "wind") = False := eq_false (by decide +kernel)
@[simp] theorem w_ticks_cut : (Str.ofString "ticks" = Str.ofString "cut") = False := eq_false (by decide +kernel)
@[simp] theorem w_ticks_mend : (Str.ofString "ticks" = Str.ofString "mend") = False := eq_false (by decide +kernel)
@[simp] theorem w_ticks_join : (Str.ofString "ticks" = Str.ofString "join") = False := eq_false (by decide +kernel)
@[simp] theorem w_ticks_part : (Str.ofString "ticks" = Str.ofString "part") = False := eq_false (by decide +kernel)
@[simp] theorem w_ticks_clear : (Str.ofString "ticks" = Str.ofString "clear") = False := eq_false (by decide +kernel)
@[simp] theorem w_ticks_back : (Str.ofString "ticks" = Str.ofString "back") = False := eq_false (by decide +kernel)
@[simp] theorem w_call_pull : (Str.ofString "call" = Str.ofString "pull") = False := eq_false (by decide +kernel)
def fO (tw : D) (n m a p : Nat) : List (Str × D) := [("wire", .ref n), ("watch", .ref m), ("town", tw), ("rows", .ref a), ("pulled_at", .ref p)]
section
variable {tw : D} {n m a p : Nat}
@[simp] theorem fO_wire : lookF (Str.ofString "wire") (fO tw n m a p) = some (.ref n) := rfl
@[simp] theorem fO_watch : lookF (Str.ofString "watch") (fO tw n m a p) = some (.ref m) := rfl
@[simp] theorem fO_town : lookF (Str.ofString "town") (fO tw n m a p) = some tw := rfl
@[simp] theorem fO_rows : lookF (Str.ofString "rows") (fO tw n m a p) = some (.ref a) := rfl
@[simp] theorem fO_pa : lookF (Str.ofString "pulled_at") (fO tw n m a p) = some (.ref p) := rfl
@[simp] theorem fO_m0 : lookF (Str.ofString "pull") (fO tw n m a p) = none := rfl
@[simp] theorem fO_m1 : lookF (Str.ofString "wind") (fO tw n m a p) = none := rfl
@[simp] theorem fO_m2 : lookF (Str.ofString "cut") (fO tw n m a p) = none := rfl
@[simp] theorem fO_m3 : lookF (Str.ofString "mend") (fO tw n m a p) = none := rfl
@[simp] theorem fO_m4 : lookF (Str.ofString "join") (fO tw n m a p) = none := rfl
@[simp] theorem fO_m5 : lookF (Str.ofString "part") (fO tw n m a p) = none := rfl
@[simp] theorem fO_m6 : lookF (Str.ofString "clear") (fO tw n m a p) = none := rfl
@[simp] theorem fO_m7 : lookF (Str.ofString "tick") (fO tw n m a p) = none := rfl
@[simp] theorem fO_m8 : lookF (Str.ofString "back") (fO tw n m a p) = none := rfl
@[simp] theorem fO_m9 : lookF (Str.ofString "clock") (fO tw n m a p) = none := rfl
@[simp] theorem fO_m10 : lookF (Str.ofString "box") (fO tw n m a p) = none := rfl
@[simp] theorem fO_m11 : lookF (Str.ofString "near_tape") (fO tw n m a p) = none := rfl
@[simp] theorem fO_m12 : lookF (Str.ofString "far_tape") (fO tw n m a p) = none := rfl
@[simp] theorem fO_m13 : lookF (Str.ofString "cuts") (fO tw n m a p) = none := rfl
@[simp] theorem fO_m14 : lookF (Str.ofString "is_joined") (fO tw n m a p) = none := rfl
@[simp] theorem fO_m15 : lookF (Str.ofString "crew") (fO tw n m a p) = none := rfl
@[simp] theorem fO_m16 : lookF (Str.ofString "calls") (fO tw n m a p) = none := rfl
@[simp] theorem fO_m17 : lookF (Str.ofString "outcome") (fO tw n m a p) = none := rfl
@[simp] theorem fO_m18 : lookF (Str.ofString "book") (fO tw n m a p) = none := rfl
end
inductive RowO where
  | pull (t : Nat) (ds : List Nat) (r : Nat) (ends : List Nat)
  | call (t : Nat) (z : Str) (lv : Int) (wt : List Nat) (mv : List (Nat × Int))
  | back (t : Nat) (z : Str) (ot wt : List Nat)
def rowOD : RowO → D
  | .pull t ds r _ => .tup [.str "pull", .int (t : Nat), .str (numS ds), .ref r]
  | .call t z lv wt mv => .tup [.str "call", .int (t : Nat), .str z, .int lv, .tup (ixsD wt), .tup (mv.map covD)]
  | .back t z ot wt => .tup [.str "back", .int (t : Nat), .str z, .tup (ixsD ot), .tup (ixsD wt)]
def nilT : Thg := ⟨fun _ => False, fun _ => True, fun _ _ h => h.elim, fun _ _ => trivial⟩
def endsT : RowO → Thg
  | .pull _ _ r es => cellT r (.lst false (ixsD es))
  | _ => nilT
structure OSt where
  o : Nat
  n : Nat
  h : Nat
  m : Nat
  a : Nat
  p : Nat
  L : LSt
  W : WSt
  b : Nat
  rows : List RowO
  pa : List (Key × D)
def OSt.parts (x : OSt) : List Thg := cellT x.o (.ins 2 (fO x.L.town x.n x.m x.a x.p)) :: lineT x.n x.h x.L :: watchT x.m x.W x.b :: cellT x.a (.lst false (x.rows.map rowOD)) :: cellT x.p (.dct false x.pa) :: x.rows.map endsT
section
variable {x : OSt} {S S' : Sto}
end
end CW

namespace CW
open PySem PySem.Spec PyProof.Rows L2 MM
section
variable {x : OSt} {S S' : Sto}
end
/-- the texts of a row -/
def RTx : RowO → Prop
  | .pull _ _ _ _ => True
  | .call _ z _ _ _ => PyData.strOk z = true
  | .back _ z _ _ => PyData.strOk z = true
/-- rem: who was told whole at this tick and is still to be heard -/
structure OOk (x : OSt) (B : Nat) (rem : List (List Nat)) : Prop where
  rl : x.rows.length ≤ B
  pl : x.pa.length ≤ B
  bl : x.b ≤ 2 * B
  tk : x.L.ticks ≤ B
  el : ∀ (i : Nat) t ds r es, x.rows[i]? = some (.pull t ds r es) → es.length ≤ B
  tp : x.L.Taped
  gd : x.L.Good
  own : ∀ (i : Nat) t ds r es, x.rows[i]? = some (.pull t ds r es) → ds ∈ x.L.F
  pa : ∀ ds ∈ x.L.F, (valD x.pa (.inr (numS ds)) = none ∧ (x.L.bx ds).left = 0 ∧ ds ∉ rem ∧ ∀ (i : Nat) t r es, x.rows[i]? ≠ some (.pull t ds r es)) ∨
    ∃ (i : Nat) (t r : Nat) (es : List Nat), valD x.pa (.inr (numS ds)) = some (.int (i : Nat)) ∧ x.rows[i]? = some (.pull t ds r es) ∧ (es.length : Int) + (x.L.bx ds).left + (if ds ∈ rem then 1 else 0) = x.L.rounds ∧ ∀ (j : Nat) t' r' es', i < j → x.rows[j]? ≠ some (.pull t' ds r' es')
  old : ∀ (i j : Nat) t ds r es, valD x.pa (.inr (numS ds)) = some (.int (i : Nat)) → j < i → x.rows[j]? = some (.pull t ds r es) → (es.length : Int) = x.L.rounds
  cl : ∀ z, 0 ≤ x.W.cl z
  tx : ∀ c ∈ x.rows, RTx c
theorem OOk.mono {x : OSt} {A B : Nat} {rem : List (List Nat)} (h : OOk x A rem) (hab : A ≤ B) : OOk x B rem := ⟨by have := h.rl; omega, by have := h.pl; omega, by have := h.bl; omega, by have := h.tk; omega, fun i t ds r es q => by have := h.el i t ds r es q; omega, h.tp, h.gd, h.own, h.pa, h.old, h.cl, h.tx⟩
/-- a deed of the line that changes no box's rounds to send, but by one for each of rem -/
theorem OOk.line {x : OSt} {B h' : Nat} {L' : LSt} {rem : List (List Nat)} (h : OOk x B []) (ht : L'.ls = x.L.ls ∧ L'.rounds = x.L.rounds) (hl : ∀ ds ∈ x.L.F, (L'.bx ds).left + (if ds ∈ rem then 1 else 0) = (x.L.bx ds).left) (tp : L'.Taped) (gd : L'.Good) (hk : L'.ticks ≤ B) : OOk { x with L := L', h := h' } B rem := by
  have hF : L'.F = x.L.F := by unfold LSt.F; rw [ht.1]
  refine ⟨h.rl, h.pl, h.bl, hk, h.el, tp, gd, fun i t ds r es q => ?_, fun ds hd => ?_, fun i j t ds r es q1 q2 q3 => ?_, h.cl, h.tx⟩
  · show ds ∈ L'.F
    rw [hF]
    exact h.own i t ds r es q
  · have hd' : ds ∈ x.L.F := by rw [← hF]; exact hd
    have hg := (gd ds hd).l0
    have hl := hl ds hd'
    have := h.pa ds hd'
    show (_ ∧ (L'.bx ds).left = 0 ∧ _) ∨ _
    rcases this with ⟨a, b, _, c⟩ | ⟨i, t, r, es, a, b, c, d⟩
    · have hn : ds ∉ rem := fun q => by
        rw [if_pos q] at hl
        omega
      rw [if_neg hn] at hl
      exact .inl ⟨a, by omega, hn, c⟩
    · refine .inr ⟨i, t, r, es, a, b, ?_, d⟩
      show (es.length : Int) + (L'.bx ds).left + _ = L'.rounds
      rw [if_neg (by simp)] at c
      rw [ht.2]
      omega
  · show _ = L'.rounds
    rw [ht.2]
    exact h.old i j t ds r es q1 q2 q3
inductive Deed where
  | pull (ds : List Nat) | wind (ds : List Nat) | cut (i s : Nat) | mend (i s : Nat) | join | part | clear (i : Nat) | back (ds : List Nat) | ticks (m : Nat)
def Deed.In (ls : List (List (List Nat))) : Deed → Prop
  | .pull ds => ds ∈ ls.flatten
  | .wind ds => ds ∈ ls.flatten
  | .back ds => ds ∈ ls.flatten
  | .cut i s => ∃ l, ls[i]? = some l ∧ s ≤ l.length
  | .mend i s => ∃ l, ls[i]? = some l ∧ s ≤ l.length
  | .clear i => i < ls.length
  | .join => True
  | .part => True
  | .ticks m => 1 ≤ m ∧ m ≤ 40
/-- a deed of a line that is done and tells nothing -/
inductive LAct (L : LSt) : Deed → LSt → Prop
  | wind {ds : List Nat} : ds ∈ L.F → LAct L (.wind ds) (L.wind ds)
  | cut {i s : Nat} {l : List (List Nat)} {c : List Nat} : L.ls[i]? = some l → L.cuts[i]? = some c → s ≤ l.length → s ∉ c → LAct L (.cut i s) (L.cutAt i (cutN c s))
  | mend {i s : Nat} {l : List (List Nat)} {c : List Nat} : L.ls[i]? = some l → L.cuts[i]? = some c → s ∈ c → LAct L (.mend i s) (L.cutAt i (mendN c s))
  | join : L.joined = false → LAct L .join (L.jn true)
  | part : L.joined = true → LAct L .part (L.jn false)
  | clear {i : Nat} : i < L.k → LAct L (.clear i) (L.holdAt i)
theorem LAct.left {L L' : LSt} {d : Deed} (h : LAct L d L') (ds : List Nat) : (L'.bx ds).left = (L.bx ds).left := by
  cases h with
  | wind h =>
    show (setF L.bx _ _ ds).left = _
    unfold setF
    split
    · rename_i e; subst e; rfl
    · rfl
  | cut a b c d => rfl
  | mend a b c => rfl
  | join h => rfl
  | part h => rfl
  | clear h => rfl
end CW

namespace CW
open PySem PySem.Spec PyProof.Rows L2 MM
section
variable {x : OSt} {S S' : Sto} {B : Nat}
end
end CW

namespace CW
open PySem PySem.Spec PyProof.Rows L2 MM
def callR (x : OSt) (t : Nat) (z : Str) : List RowO := if x.W.rn z % x.W.often = 0 then [.call t z (lvl (x.W.cl z + 1)) (goers x.W z) (moves x.W z).2] else []
def OSt.heard (x : OSt) (t : Nat) (ds : List Nat) (i t0 : Nat) (d0 : List Nat) (r : Nat) (es : List Nat) : OSt :=
  { x with rows := x.rows.set i (.pull t0 d0 r (es ++ [t])) ++ callR x t (numS ds), W := hearSt x.W (numS ds), b := x.b + 2 }
def OSt.hear (x : OSt) (t : Nat) (ds : List Nat) : OSt :=
  match valD x.pa (.inr (numS ds)) with
  | some (.int i) => match x.rows[i.toNat]? with
    | some (.pull t0 d0 r es) => x.heard t ds i.toNat t0 d0 r es
    | _ => x
  | _ => x
theorem hear_eq {x : OSt} {t : Nat} {ds : List Nat} {i t0 r : Nat} {d0 es : List Nat} (h1 : valD x.pa (.inr (numS ds)) = some (.int (i : Nat))) (h2 : x.rows[i]? = some (.pull t0 d0 r es)) : x.hear t ds = x.heard t ds i t0 d0 r es := by
  unfold OSt.hear
  rw [h1]
  simp only [Int.toNat_natCast]
  rw [h2]
section
variable {x : OSt} {S S' : Sto} {B : Nat}
def strLtN (a b : List Nat) : Bool := strLt (numS a) (numS b)
def dueS (L : LSt) : List (List Nat) := sortB strLtN L.due
theorem hear_rows {R : List RowO} {i : Nat} {P : RowO} {C : List RowO} (hi : i < R.length) (hC : ∀ c ∈ C, ∀ t ds r es, c ≠ .pull t ds r es) {j t r : Nat} {ds es : List Nat} :
    (R.set i P ++ C)[j]? = some (.pull t ds r es) ↔ (j = i ∧ P = .pull t ds r es) ∨ (j ≠ i ∧ R[j]? = some (.pull t ds r es)) := by
  by_cases hj : j < R.length
  · rw [List.getElem?_append_left (by simpa using hj), List.getElem?_set]
    by_cases e : i = j
    · subst e
      rw [if_pos rfl, if_pos hi]
      simp
    · rw [if_neg e]
      constructor
      · exact fun h => .inr ⟨fun q => e q.symm, h⟩
      · rintro (⟨h, _⟩ | ⟨_, h⟩)
        · exact absurd h.symm e
        · exact h
  · constructor
    · intro h
      rw [List.getElem?_append_right (by simpa using hj)] at h
      exact absurd rfl (hC _ (List.mem_of_getElem? h) t ds r es)
    · rintro (⟨h, _⟩ | ⟨_, h⟩)
      · omega
      · rw [List.getElem?_eq_none (by omega)] at h; cases h
theorem callR_no {x : OSt} {t : Nat} {z : Str} : ∀ c ∈ callR x t z, ∀ t ds r es, c ≠ .pull t ds r es := fun c hc => by
  unfold callR at hc
  split at hc
  · rw [List.mem_singleton] at hc
    subst hc
    intro _ _ _ _ q
    cases q
  · cases hc
theorem hearSt_cl {w : WSt} {z : Str} (h : ∀ y, 0 ≤ w.cl y) : ∀ y, 0 ≤ (hearSt w z).cl y := fun y => by
  unfold hearSt
  split
  · show 0 ≤ setN w.cl z _ y
    unfold setN
    split
    · have := h z; omega
    · exact h y
  · exact h y
theorem OOk.hear {d : List Nat} {rem : List (List Nat)} {t : Nat} (h : OOk x B (d :: rem)) (hd : d ∈ x.L.F) (hg : GoodN d) (hn : d ∉ rem) : OOk (x.hear t d) (B + 1) rem ∧
    ∃ (i t0 r : Nat) (es : List Nat), valD x.pa (.inr (numS d)) = some (.int (i : Nat)) ∧ x.rows[i]? = some (.pull t0 d r es) ∧ x.hear t d = x.heard t d i t0 d r es := by
  rcases h.pa d hd with ⟨_, _, q, _⟩ | ⟨i, t0, r, es, h1, h2, h3, h4⟩
  · exact absurd (List.mem_cons_self ..) q
  have hil : i < x.rows.length := get_of h2
  rw [hear_eq h1 h2]
  refine ⟨?_, i, t0, r, es, h1, h2, rfl⟩
  have hR := fun {j t' r' : Nat} {ds' es' : List Nat} => hear_rows (R := x.rows) (i := i) (P := .pull t0 d r (es ++ [t])) hil (callR_no (x := x) (t := t) (z := numS d)) (j := j) (t := t') (r := r') (ds := ds') (es := es')
  have hcl : (callR x t (numS d)).length ≤ 1 := by unfold callR; split <;> simp
  refine ⟨?_, by have := h.pl; show x.pa.length ≤ _; omega, by have := h.bl; show x.b + 2 ≤ _; omega, by have := h.tk; show x.L.ticks ≤ _; omega, fun j t' ds' r' es' q => ?_, h.tp, h.gd, fun j t' ds' r' es' q => ?_, fun ds hds => ?_, fun a b t' ds' r' es' q1 q2 q3 => ?_, hearSt_cl h.cl, fun c hc => ?_⟩
  · show (x.rows.set i _ ++ _).length ≤ _
    rw [List.length_append, List.length_set]
    have := h.rl
    omega
  · rcases hR.mp q with ⟨_, q⟩ | ⟨_, q⟩
    · have he := h.el i t0 d r es h2
      injection q with _ _ _ q
      rw [← q, List.length_append]
      simpa using he
    · have := h.el j t' ds' r' es' q
      omega
  · rcases hR.mp q with ⟨_, q⟩ | ⟨_, q⟩
    · injection q with _ q _ _
      rw [← q]
      exact hd
    · exact h.own j t' ds' r' es' q
  · by_cases e : ds = d
    · subst e
      refine .inr ⟨i, t0, r, es ++ [t], h1, hR.mpr (.inl ⟨rfl, rfl⟩), ?_, fun j t' r' es' hj q => ?_⟩
      · rw [if_pos (List.mem_cons_self ..)] at h3
        rw [if_neg hn, List.length_append]
        show ((es.length + 1 : Nat) : Int) + (x.L.bx ds).left + 0 = x.L.rounds
        omega
      · rcases hR.mp q with ⟨a, _⟩ | ⟨_, q⟩
        · omega
        · exact h4 j t' r' es' hj q
    · have hm : (if ds ∈ d :: rem then (1 : Int) else 0) = if ds ∈ rem then 1 else 0 := by
        by_cases hq : ds ∈ rem
        · rw [if_pos hq, if_pos (List.mem_cons_of_mem _ hq)]
        · rw [if_neg hq, if_neg (fun q => by rcases List.mem_cons.mp q with q | q; exact e q; exact hq q)]
      rcases h.pa ds hds with ⟨a, b, c, f⟩ | ⟨j, t', r', es', a, b, c, f⟩
      · refine .inl ⟨a, b, fun q => c (List.mem_cons_of_mem _ q), fun j t' r' es' q => ?_⟩
        rcases hR.mp q with ⟨_, q⟩ | ⟨_, q⟩
        · injection q with _ q _ _
          exact e q.symm
        · exact f j t' r' es' q
      · have hji : j ≠ i := fun q => by
          subst q
          rw [h2] at b
          injection b with b
          injection b with _ q _ _
          exact e q.symm
        refine .inr ⟨j, t', r', es', a, hR.mpr (.inr ⟨hji, b⟩), by rw [hm] at c; exact c, fun k t2 r2 es2 hk q => ?_⟩
        rcases hR.mp q with ⟨_, q⟩ | ⟨_, q⟩
        · injection q with _ q _ _
          exact e q.symm
        · exact f k t2 r2 es2 hk q
  · rcases hR.mp q3 with ⟨_, q⟩ | ⟨_, q⟩
    · injection q with _ q _ _
      subst q
      have : (some (D.int ((a : Nat) : Int))) = some (.int ((i : Nat) : Int)) := by rw [← q1, ← h1]; rfl
      injection this with this
      injection this with this
      omega
    · exact h.old a b t' ds' r' es' q1 q2 q
  · have hc : c ∈ x.rows.set i _ ++ _ := hc
    rcases List.mem_append.mp hc with hc | hc
    · rcases List.mem_or_eq_of_mem_set hc with hc | rfl
      · exact h.tx c hc
      · exact trivial
    · unfold callR at hc
      split at hc
      · rw [List.mem_singleton] at hc
        subst hc
        exact hg.strOk
      · cases hc
theorem hear_same {t : Nat} {ds : List Nat} : (x.hear t ds).o = x.o ∧ (x.hear t ds).n = x.n ∧ (x.hear t ds).h = x.h ∧ (x.hear t ds).m = x.m ∧ (x.hear t ds).a = x.a ∧ (x.hear t ds).p = x.p ∧ (x.hear t ds).L = x.L ∧ (x.hear t ds).pa = x.pa := by
  unfold OSt.hear
  split
  · split <;> exact ⟨rfl, rfl, rfl, rfl, rfl, rfl, rfl, rfl⟩
  · exact ⟨rfl, rfl, rfl, rfl, rfl, rfl, rfl, rfl⟩
def OSt.hears (x : OSt) (t : Nat) (l : List (List Nat)) : OSt := l.foldl (fun y d => y.hear t d) x
theorem hears_same {t : Nat} : ∀ (l : List (List Nat)) (x : OSt), (x.hears t l).o = x.o ∧ (x.hears t l).n = x.n ∧ (x.hears t l).h = x.h ∧ (x.hears t l).m = x.m ∧ (x.hears t l).a = x.a ∧ (x.hears t l).p = x.p ∧ (x.hears t l).L = x.L ∧ (x.hears t l).pa = x.pa
  | [], x => ⟨rfl, rfl, rfl, rfl, rfl, rfl, rfl, rfl⟩
  | d :: l, x => by
    obtain ⟨a1, a2, a3, a4, a5, a6, a7, a8⟩ := hears_same l (x.hear t d) (t := t)
    obtain ⟨b1, b2, b3, b4, b5, b6, b7, b8⟩ := hear_same (x := x) (t := t) (ds := d)
    exact ⟨a1.trans b1, a2.trans b2, a3.trans b3, a4.trans b4, a5.trans b5, a6.trans b6, a7.trans b7, a8.trans b8⟩
def OSt.ticked (x : OSt) (h' : Nat) : OSt := ({ x with L := x.L.tick, h := h' } : OSt).hears x.L.ticks (dueS x.L)
theorem ticked_same (x : OSt) (h' : Nat) : (x.ticked h').o = x.o ∧ (x.ticked h').n = x.n ∧ (x.ticked h').h = h' ∧ (x.ticked h').m = x.m ∧ (x.ticked h').a = x.a ∧ (x.ticked h').p = x.p ∧ (x.ticked h').L = x.L.tick ∧ (x.ticked h').pa = x.pa := hears_same _ _
end
end CW

namespace CW
open PySem PySem.Spec PyProof.Rows L2 MM
end CW

namespace CW
open PySem PySem.Spec PyProof.Rows L2 MM
end CW

namespace CW
open PySem PySem.Spec PyProof.Rows L2 MM
section
variable {x : OSt} {S S' : Sto} {B : Nat}
end
end CW

namespace CW
open PySem PySem.Spec PyProof.Rows L2 MM
def g1 (n : Nat) : List (Str × D) := [("wire", .ref n)]
def g2 (n m : Nat) : List (Str × D) := [("wire", .ref n), ("watch", .ref m)]
def g3 (tw : D) (n m : Nat) : List (Str × D) := [("wire", .ref n), ("watch", .ref m), ("town", tw)]
def g4 (tw : D) (n m a : Nat) : List (Str × D) := [("wire", .ref n), ("watch", .ref m), ("town", tw), ("rows", .ref a)]
end CW

namespace CW
open PySem PySem.Spec PyProof.Rows L2 MM
inductive OTicks : OSt → Nat → OSt → List (List (List Nat)) → Prop
  | zero {x : OSt} : OTicks x 0 x []
  | succ {x y : OSt} {h' m : Nat} {ls : List (List (List Nat))} : OTicks (x.ticked h') m y ls → OTicks x (m + 1) y (dueS x.L :: ls)
section
variable {x : OSt} {S S' : Sto} {B : Nat}
end
end CW

namespace CW
open PySem PySem.Spec PyProof.Rows L2 MM
section
variable {x : OSt} {S S' : Sto} {B : Nat}
theorem OTicks.same {x y : OSt} {m : Nat} {ls : List (List (List Nat))} (t : OTicks x m y ls) : y.L.ls = x.L.ls ∧ y.L.rounds = x.L.rounds ∧ y.L.spring = x.L.spring ∧ y.o = x.o := by
  induction t with
  | zero => exact ⟨rfl, rfl, rfl, rfl⟩
  | @succ x y h' m ls t ih =>
    obtain ⟨a1, a2, a3, a4⟩ := ih
    have := (ticked_same x h').2.2.2.2.2.2.1
    rw [this] at a1 a2 a3
    exact ⟨a1, a2, a3, a4.trans (ticked_same x h').1⟩
theorem OTicks.ls {x y : OSt} {m : Nat} {ls : List (List (List Nat))} (t : OTicks x m y ls) : y.L.ls = x.L.ls := t.same.1
end
end CW

namespace CW
open PySem PySem.Spec PyProof.Rows L2 MM
abbrev PE := Nat × List Nat × List Nat
theorem OTicks.len {x y : OSt} {m : Nat} {ls : List (List (List Nat))} (t : OTicks x m y ls) : ls.length = m := by
  induction t with
  | zero => rfl
  | succ t ih => rw [List.length_cons, ih]
end CW

namespace CW
open PySem PySem.Spec PyProof.Rows L2 MM
def Pc.isO : Pc → Bool
  | .odd _ => true
  | _ => false
def Pc.isS : Pc → Bool
  | .spoilt _ => true
  | _ => false
/-- a tape that ends where a piece may begin, and the rounds on it -/
structure Edge (t : List Int) (R : List (Nat × List Nat)) : Prop where
  ex : ∃ l : List LP, Good l ∧ cat l = t ∧ (∀ x ∈ l, x.1.isO = false) ∧ (∀ y, l.getLast? = some y → y.1.isB = false ∧ y.1.isS = false) ∧ rnds 0 (l.map (·.1)) = R
theorem cat_appE (l m : List LP) : cat (l ++ m) = cat l ++ cat m := by simp [cat]
theorem ticks_cat : ∀ {l : List LP}, Good l → ticksOf (l.map (·.1)) = (cat l).length
  | [], _ => rfl
  | p :: l, h => by
    rw [cat_cons, List.length_append, ← ticks_cat h.2.2, ← h.1.ticks]
    simp [ticksOf]
theorem good_swapE : ∀ (l : List LP) (y y' : LP) (T R : List LP), Good (l ++ y :: T) → Sg y'.1 y'.2 → y'.1.isQ = y.1.isQ → y'.1.isK = y.1.isK → Next y'.1 R → Good R → Good (l ++ y' :: R)
  | [], y, y', T, R, _, hs, _, _, hn, hr => ⟨hs, hn, hr⟩
  | p :: l, y, y', T, R, h, hs, hq, hk, hn, hr => by
    obtain ⟨h1, h2, h3⟩ := h
    refine ⟨h1, ?_, good_swapE l y y' T R h3 hs hq hk hn hr⟩
    cases l with
    | nil =>
      obtain ⟨p, s⟩ := p
      cases p with
      | quiet n => exact fun q r e => by cases e; rw [hq]; exact h2 _ _ rfl
      | key n => exact fun q r e => by cases e; rw [hk]; exact h2 _ _ rfl
      | spoilt n => obtain ⟨q, r, e, hh⟩ := h2; cases e; exact ⟨_, _, rfl, by rw [hk]; exact hh⟩
      | begun n => cases h2
      | rnd ds => trivial
      | odd n => trivial
    | cons a b =>
      obtain ⟨p, s⟩ := p
      cases p with
      | quiet n => exact fun q r e => by cases e; exact h2 _ _ rfl
      | key n => exact fun q r e => by cases e; exact h2 _ _ rfl
      | spoilt n => obtain ⟨q, r, e, hh⟩ := h2; cases e; exact ⟨_, _, rfl, hh⟩
      | begun n => cases h2
      | rnd ds => trivial
      | odd n => trivial
theorem Edge.nil : Edge [] [] := ⟨[], trivial, rfl, by simp, by simp, rfl⟩
/-- a run of one sign grows -/
theorem Edge.sign {t : List Int} {R : List (Nat × List Nat)} (E : Edge t R) (mk : Nat → Pc) (s : Int) (hs : ∀ n, 1 ≤ n → Sg (mk n) (List.replicate n s)) (same : ∀ p : Pc, (p.isQ = (mk 1).isQ ∧ p.isK = (mk 1).isK ∧ ((mk 1).isQ = true ∨ (mk 1).isK = true)) → ∃ n, p = mk n)
    (hO : ∀ n, (mk n).isO = false ∧ (mk n).isB = false ∧ (mk n).isS = false ∧ (mk n).isQ = (mk 1).isQ ∧ (mk n).isK = (mk 1).isK ∧ ∀ a, rnd1 a (mk n) = []) (hN : ∀ n, Next (mk n) []) (hx : (mk 1).isQ = true ∨ (mk 1).isK = true) (hinj : ∀ n w, Sg (mk n) w → w = List.replicate n s) (hxx : ¬ ((mk 1).isQ = true ∧ (mk 1).isK = true)) : Edge (t ++ [s]) R := by
  obtain ⟨l, g, hc, ho, hl, hr⟩ := E.ex
  rcases List.eq_nil_or_concat l with rfl | ⟨l', y, rfl⟩
  · subst hr
    have ht : t = [] := hc.symm
    subst ht
    refine ⟨[(mk 1, [s])], ⟨hs 1 (Nat.le_refl _), hN 1, trivial⟩, by simp [cat], fun x hx => ?_, fun y hy => ?_, ?_⟩
    · rw [List.mem_singleton.mp hx]; exact (hO 1).1
    · cases hy; exact ⟨(hO 1).2.1, (hO 1).2.2.1⟩
    · simp [rnds, (hO 1).2.2.2.2.2]
  · rw [List.concat_eq_append] at *
    have hy := hl y (by simp)
    have hrs : ∀ n (m : Nat), rnds 0 ((l' ++ [((mk n, List.replicate m s) : LP)]).map (·.1)) = rnds 0 (l'.map (·.1)) := fun n m => by
      rw [List.map_append, rnds_app]
      simp [rnds, (hO n).2.2.2.2.2]
    by_cases hq : y.1.isQ = (mk 1).isQ ∧ y.1.isK = (mk 1).isK
    · obtain ⟨n, hn⟩ := same y.1 ⟨hq.1, hq.2, hx⟩
      have hsg : Sg y.1 y.2 := g.sg y (by simp)
      have hw : y.2 = List.replicate n s := by rw [hn] at hsg; exact hinj n _ hsg
      refine ⟨l' ++ [(mk (n + 1), List.replicate (n + 1) s)], good_swapE l' y _ [] [] g (hs (n + 1) (by omega)) ?_ ?_ (hN _) trivial, ?_, fun x hx => ?_, fun z hz => ?_, ?_⟩
      · rw [hq.1]; exact (hO (n + 1)).2.2.2.1
      · rw [hq.2]; exact (hO (n + 1)).2.2.2.2.1
      · rw [← hc, cat_appE, cat_appE]
        have : cat [y] = List.replicate n s := by rw [← hw]; simp [cat]
        rw [this, List.append_assoc]
        congr 1
        simp [cat, List.replicate_succ']
      · rcases List.mem_append.mp hx with hx | hx
        · exact ho x (List.mem_append_left _ hx)
        · rw [List.mem_singleton.mp hx]; exact (hO _).1
      · simp at hz
        subst hz
        exact ⟨(hO _).2.1, (hO _).2.2.1⟩
      · rw [hrs, ← hr, List.map_append, rnds_app]
        simp [rnds, hn, (hO n).2.2.2.2.2]
    · refine ⟨(l' ++ [y]) ++ [(mk 1, [s])], good_app _ _ g ⟨hs 1 (Nat.le_refl _), hN 1, trivial⟩ (fun z hz q r e => ?_), ?_, fun x hx => ?_, fun z hz => ?_, ?_⟩
      · simp at hz
        subst hz
        cases e
        refine ⟨fun h1 => ?_, fun h1 => ?_, hy.1⟩
        · show (mk 1).isQ = false
          cases h2 : (mk 1).isQ with
          | false => rfl
          | true =>
            exfalso
            refine hq ⟨by rw [h1, h2], ?_⟩
            have h3 : (mk 1).isK = false := by
              cases h4 : (mk 1).isK with
              | false => rfl
              | true => exact absurd ⟨h2, h4⟩ hxx
            rw [h3]
            cases hp : y.1 <;> rw [hp] at h1 <;> first | rfl | cases h1
        · show (mk 1).isK = false
          cases h2 : (mk 1).isK with
          | false => rfl
          | true =>
            exfalso
            refine hq ⟨?_, by rw [h1, h2]⟩
            have h3 : (mk 1).isQ = false := by
              cases h4 : (mk 1).isQ with
              | false => rfl
              | true => exact absurd ⟨h4, h2⟩ hxx
            rw [h3]
            cases hp : y.1 <;> rw [hp] at h1 <;> first | rfl | cases h1
      · rw [cat_appE, hc]
        simp [cat]
      · rcases List.mem_append.mp hx with hx | hx
        · exact ho x hx
        · rw [List.mem_singleton.mp hx]; exact (hO _).1
      · simp at hz
        subst hz
        exact ⟨(hO _).2.1, (hO _).2.2.1⟩
      · rw [List.map_append, rnds_app, hr]
        simp [rnds, (hO 1).2.2.2.2.2]
theorem Edge.zero {t : List Int} {R : List (Nat × List Nat)} (E : Edge t R) : Edge (t ++ [0]) R :=
  E.sign Pc.quiet 0 (fun n h => .quiet h) (fun p h => by cases p <;> simp [Pc.isQ, Pc.isK] at h; exact ⟨_, rfl⟩) (fun n => ⟨rfl, rfl, rfl, rfl, rfl, fun _ => rfl⟩) (fun n q r e => by cases e) (.inl rfl) (fun n w h => by cases h; rfl) (fun h => by cases h.2)
theorem Edge.key {t : List Int} {R : List (Nat × List Nat)} (E : Edge t R) : Edge (t ++ [2]) R :=
  E.sign Pc.key 2 (fun n h => .key h) (fun p h => by cases p <;> simp [Pc.isQ, Pc.isK] at h; exact ⟨_, rfl⟩) (fun n => ⟨rfl, rfl, rfl, rfl, rfl, fun _ => rfl⟩) (fun n q r e => by cases e) (.inr rfl) (fun n w h => by cases h; rfl) (fun h => by cases h.1)
theorem Edge.row {t : List Int} {R : List (Nat × List Nat)} (E : Edge t R) {ds : List Nat} (hg : GoodN ds) : Edge (t ++ rowN ds) (R ++ [(t.length + (rowN ds).length - 1, ds)]) := by
  obtain ⟨l, g, hc, ho, hl, hr⟩ := E.ex
  refine ⟨l ++ [((Pc.rnd ds, rowN ds) : LP)], good_app l [((Pc.rnd ds, rowN ds) : LP)] g ⟨.rnd hg, trivial, trivial⟩ (fun z hz q r e => ?_), ?_, fun x hx => ?_, fun z hz => ?_, ?_⟩
  · cases e
    exact ⟨fun _ => rfl, fun _ => rfl, (hl z hz).1⟩
  · rw [cat_appE, hc]
    simp [cat]
  · rcases List.mem_append.mp hx with hx | hx
    · exact ho x hx
    · rw [List.mem_singleton.mp hx]; rfl
  · simp at hz
    subst hz
    exact ⟨rfl, rfl⟩
  · rw [List.map_append, rnds_app, hr, ticks_cat g, hc]
    simp [rnds, rnd1]
/-- a tape that ends anywhere -/
def Mid (t : List Int) (R : List (Nat × List Nat)) : Prop := Edge t R ∨ ∃ u ds n, GoodN ds ∧ 1 ≤ n ∧ n < (rowN ds).length ∧ t = u ++ (rowN ds).take n ∧ Edge u R
theorem Mid.key {t : List Int} {R : List (Nat × List Nat)} (M : Mid t R) : Edge (t ++ [2]) R := by
  rcases M with E | ⟨u, ds, n, hg, h1, hn, rfl, E⟩
  · exact E.key
  · obtain ⟨l, g, hc, ho, hl, hr⟩ := E.ex
    have g2 : Good (l ++ [(.spoilt n, (rowN ds).take n), (.key 1, [2])]) := good_app _ _ g ⟨.spoilt hg h1 hn, ⟨_, _, rfl, rfl⟩, .key (Nat.le_refl 1), (fun q r e => by cases e), trivial⟩ (fun z hz q r e => by
      cases e
      exact ⟨fun _ => rfl, fun _ => rfl, (hl z hz).1⟩)
    refine ⟨_, g2, ?_, fun x hx => ?_, fun z hz => ?_, ?_⟩
    · rw [cat_appE, hc]
      simp [cat]
    · rcases List.mem_append.mp hx with hx | hx
      · exact ho x hx
      · simp at hx
        rcases hx with rfl | rfl <;> rfl
    · simp at hz
      subst hz
      exact ⟨rfl, rfl⟩
    · rw [List.map_append, rnds_app, hr]
      simp [rnds, rnd1]
structure EndI (bx : List Nat → Bx) (hv : Int) (p : List (List Nat)) (t : List Int) (R : List (Nat × List Nat)) : Prop where
  mid : Mid t R
  idle : hv = 0 → (∀ ds ∈ p, (bx ds).place = none) → Edge t R
  run : hv = 0 → ∀ ds ∈ p, ∀ k : Nat, (bx ds).place = some (k : Int) → Edge (t.take (t.length - k)) R
theorem EndI.congr {bx by_ : List Nat → Bx} {hv : Int} {p : List (List Nat)} {t : List Int} {R : List (Nat × List Nat)} (h : EndI bx hv p t R) (e : ∀ ds ∈ p, (by_ ds).place = (bx ds).place) : EndI by_ hv p t R :=
  ⟨h.mid, fun h0 q => h.idle h0 fun ds hd => by rw [← e ds hd]; exact q ds hd, fun h0 ds hd k q => h.run h0 ds hd k (by rw [← e ds hd]; exact q)⟩
theorem EndI.held {bx : List Nat → Bx} {hv : Int} {p : List (List Nat)} {t : List Int} {R : List (Nat × List Nat)} (m : Mid t R) (h : hv ≠ 0) : EndI bx hv p t R := ⟨m, fun q => absurd q h, fun q => absurd q h⟩
theorem EndI.new {s hv : Int} {p : List (List Nat)} : EndI (fun _ => ⟨0, 0, s, none, 0⟩) hv p [] [] := ⟨.inl .nil, fun _ _ => .nil, fun _ _ _ _ h => by cases h⟩
/-- no row begins another -/
theorem row_begins {ds es : List Nat} (hd : GoodN ds) (he : GoodN es) {n : Nat} (hn : n = (rowN ds).length) (hle : n ≤ (rowN es).length) (e : (rowN es).take n = (rowN ds).take n) : ds = es := by
  rw [hn, List.take_length] at e
  rw [hn] at hle
  by_cases h : (rowN ds).length < (rowN es).length
  · obtain ⟨r, hr⟩ := row_head hd
    have := (part_calm he (n := (rowN ds).length) (by rw [hr]; simp) h).2.1
    rw [e, (row_calm hd).2] at this
    omega
  · rw [List.take_of_length_le (by omega)] at e
    exact rowN_inj (fun d q => (hd.fig d q).1) (fun d q => (he.fig d q).1) e.symm
theorem whole_true {b : Bx} {ds : List Nat} (h : b.In (rowN ds)) : b.whole (rowN ds) true = false := by
  unfold Bx.whole
  split
  · rfl
  · rename_i i hi
    split
    · rfl
    · rename_i hlt
      cases hb : b.brk (rowN ds) with
      | false => rfl
      | true =>
        exfalso
        have h0 := (h i hi).1
        unfold Bx.brk brkB at hb
        rw [hi] at hb
        have := (stroke_next ds _ (of_decide_eq_true hb)).1
        omega
theorem EndI.key1 {bx : List Nat → Bx} {hv : Int} {p : List (List Nat)} {t : List Int} {R : List (Nat × List Nat)} (h1 : hv = 1 ∨ hv = 2) (P : PInv bx hv p t) (I : EndI bx hv p t R) (hIn : ∀ ds ∈ p, (bx ds).In (rowN ds)) (hS : ∀ ds ∈ p, 0 ≤ (bx ds).sent) {br : Bool} :
    EndI (fun ds => ((bx ds).started).behind (rowN ds) (br || decide (0 < hv))) (max 0 (hv - 1)) p (t ++ [keyI hv br]) R ∧ (p.filter fun ds => ((bx ds).started).whole (rowN ds) (br || decide (0 < hv))) = [] := by
  have hb : (br || decide (0 < hv)) = true := by rcases h1 with rfl | rfl <;> cases br <;> rfl
  have hk : keyI hv br = 2 := by rcases h1 with rfl | rfl <;> rfl
  rw [hb, hk]
  have hE := I.mid.key
  refine ⟨⟨.inl hE, fun _ _ => hE, fun h0 ds hd k q => ?_⟩, ?_⟩
  · rcases h1 with rfl | rfl
    · obtain ⟨q1, q2⟩ := P.o rfl ds hd
      rw [Bx.started_idle (hS ds hd) (by omega), Bx.behind_none q2] at q
      cases q
    · exact absurd h0 (by decide)
  · rw [List.filter_eq_nil_iff]
    intro ds hd
    rw [whole_true ((hIn ds hd).started row_pos)]
    simp
/-- what runs at an end whose key is up: all at one place, on the signs of its row -/
theorem started_run {bx : List Nat → Bx} {p : List (List Nat)} {t : List Int} {R : List (Nat × List Nat)} (P : PartOk bx p t) (I : EndI bx 0 p t R) (hG : ∀ ds ∈ p, GoodN ds) (hIn : ∀ ds ∈ p, (bx ds).In (rowN ds)) (hS : ∀ ds ∈ p, 0 ≤ (bx ds).sent) {es : List Nat} (he : es ∈ p) (hr : ((bx es).started).place ≠ none) :
    ∃ k : Nat, k ≤ t.length ∧ Edge (t.take (t.length - k)) R ∧ ∀ ds ∈ p, ((bx ds).started).place = none ∨ (((bx ds).started).place = some (k : Int) ∧ k < (rowN ds).length ∧ t.drop (t.length - k) = (rowN ds).take k) := by
  have A : ∀ ds ∈ p, ∀ es ∈ p, (bx es).place ≠ none → (bx ds).started = bx ds := fun ds hd es he hn => by
    rcases Bx.started_cases (bx ds) with h | ⟨_, h2, _⟩
    · exact h
    · exfalso
      obtain ⟨i, hi⟩ := Option.ne_none_iff_exists'.mp hn
      obtain ⟨k, rfl, k1, k2, k3⟩ := P.run es he i hi
      obtain ⟨q, e1, e2, e3⟩ := P.qt ds hd
      have := hS ds hd
      have hin := hIn es he _ hi
      exact run_tail (hG es he) k1 (by omega) k2 k3 (q := q) (by omega) e2 e3
  by_cases hold : ∃ fs ∈ p, (bx fs).place ≠ none
  · obtain ⟨fs, hf, hfn⟩ := hold
    obtain ⟨i, hi⟩ := Option.ne_none_iff_exists'.mp hfn
    obtain ⟨k, rfl, k1, k2, k3⟩ := P.run fs hf i hi
    refine ⟨k, k2, I.run rfl fs hf k hi, fun ds hd => ?_⟩
    rw [A ds hd fs hf hfn]
    cases hp : (bx ds).place with
    | none => exact .inl rfl
    | some j =>
      have := P.one ds hd fs hf (by rw [hp]; simp) hfn
      rw [hp, hi] at this
      cases this
      obtain ⟨k', e, _, _, k4⟩ := P.run ds hd _ hp
      have : k' = k := by omega
      subst this
      have := (hIn ds hd _ hp).2
      exact .inr ⟨rfl, by omega, k4⟩
  · have hno : ∀ ds ∈ p, (bx ds).place = none := fun ds hd => by
      cases hp : (bx ds).place with
      | none => rfl
      | some j => exact absurd ⟨ds, hd, by rw [hp]; simp⟩ hold
    refine ⟨0, Nat.zero_le _, by rw [Nat.sub_zero, List.take_length]; exact I.idle rfl hno, fun ds hd => ?_⟩
    rcases Bx.started_cases (bx ds) with h | ⟨_, _, h⟩
    · rw [h, hno ds hd]
      exact .inl rfl
    · refine .inr ⟨h, row_pos, by simp⟩
theorem behind_at {b : Bx} {r : List Int} {k : Nat} {br : Bool} (h : b.place = some (k : Int)) : (b.behind r br).place = if br = true ∧ b.brk r = false then none else if k + 1 = r.length then none else some ((k + 1 : Nat) : Int) := by
  unfold Bx.behind
  rw [h]
  dsimp only
  by_cases h1 : br = true ∧ b.brk r = false
  · rw [if_pos h1, if_pos h1]
  · rw [if_neg h1, if_neg h1]
    by_cases h2 : k + 1 = r.length
    · rw [if_pos h2, if_pos (by omega)]
      split <;> rfl
    · rw [if_neg h2, if_neg (by omega)]
      simp
theorem brk_at {b : Bx} {r : List Int} {k : Nat} (h : b.place = some (k : Int)) : b.brk r = decide (r[k]? = some 1) := by
  unfold Bx.brk brkB
  rw [h]
  simp
theorem EndI.up {bx : List Nat → Bx} {p : List (List Nat)} {t : List Int} {R : List (Nat × List Nat)} (hn : p.Nodup) (P : PartOk bx p t) (I : EndI bx 0 p t R) (hG : ∀ ds ∈ p, GoodN ds) (hIn : ∀ ds ∈ p, (bx ds).In (rowN ds)) (hS : ∀ ds ∈ p, 0 ≤ (bx ds).sent) {br : Bool} (hbr : br = p.any fun ds => ((bx ds).started).brk (rowN ds)) :
    ∃ told : List (List Nat), (p.filter fun ds => ((bx ds).started).whole (rowN ds) br) = told ∧ told.length ≤ 1 ∧ EndI (fun ds => ((bx ds).started).behind (rowN ds) br) 0 p (t ++ [if br = true then 1 else 0]) (R ++ told.map fun ds => (t.length, ds)) := by
  by_cases hrun : ∃ es ∈ p, ((bx es).started).place ≠ none
  · obtain ⟨es, he, hr⟩ := hrun
    obtain ⟨k, hk, hE, hall⟩ := started_run P I hG hIn hS he hr
    have hlen : ∀ s : Int, (t ++ [s]).length = t.length + 1 := fun s => by simp
    have htk : ∀ s : Int, (t ++ [s]).take ((t ++ [s]).length - (k + 1)) = t.take (t.length - k) := fun s => by
      rw [hlen, show t.length + 1 - (k + 1) = t.length - k by omega, List.take_append_of_le_length (by omega)]
    have hsplit : ∀ s : Int, t ++ [s] = t.take (t.length - k) ++ (t.drop (t.length - k) ++ [s]) := fun s => by
      rw [← List.append_assoc, List.take_append_drop]
    have hrow : ∀ ds ∈ p, ∀ s : Int, ((bx ds).started).place = some (k : Int) → (rowN ds)[k]? = some s → t.drop (t.length - k) ++ [s] = (rowN ds).take (k + 1) := fun ds hd s hp hs => by
      rcases hall ds hd with h | ⟨_, _, h⟩
      · rw [h] at hp; cases hp
      · rw [h, List.take_add_one, hs] <;> rfl
    have hlt : ∀ ds ∈ p, ((bx ds).started).place = some (k : Int) → k < (rowN ds).length := fun ds hd hp => by
      rcases hall ds hd with h | ⟨_, h, _⟩
      · rw [h] at hp; cases hp
      · exact h
    have hpl : ∀ ds ∈ p, ((bx ds).started).place ≠ none → ((bx ds).started).place = some (k : Int) := fun ds hd hq => by
      rcases hall ds hd with h | ⟨h, _⟩
      · exact absurd h hq
      · exact h
    cases hb : br with
    | true =>
      rw [hb] at hbr
      have htold : (p.filter fun ds => ((bx ds).started).whole (rowN ds) true) = [] := by
        rw [List.filter_eq_nil_iff]
        intro ds hd
        rw [whole_true ((hIn ds hd).started row_pos)]
        simp
      refine ⟨[], htold, by simp, ?_⟩
      simp only [List.map_nil, List.append_nil, if_true]
      obtain ⟨fs, hf, hfb⟩ := List.any_eq_true.mp hbr.symm
      have hfp : ((bx fs).started).place = some (k : Int) := hpl fs hf (by
        intro q
        unfold Bx.brk brkB at hfb
        rw [q] at hfb
        cases hfb)
      have hf1 : (rowN fs)[k]? = some 1 := by
        rw [brk_at hfp] at hfb
        exact of_decide_eq_true hfb
      have hf2 := (stroke_next fs k hf1).1
      have hfr := hrow fs hf 1 hfp hf1
      refine ⟨.inr ⟨t.take (t.length - k), fs, k + 1, hG fs hf, by omega, hf2, by rw [hsplit, hfr], hE⟩, fun _ q => ?_, fun _ ds hd m q => ?_⟩
      · exfalso
        have := q fs hf
        rw [behind_at hfp, if_neg (by rw [hfb]; simp), if_neg (by omega)] at this
        cases this
      · obtain ⟨j, hj, e, hnb, hne⟩ := Bx.behind_place q
        have hp := hpl ds hd (by rw [hj]; simp)
        rw [hp] at hj
        cases hj
        have : m = k + 1 := by omega
        subst this
        rw [htk]
        exact hE
    | false =>
      rw [hb] at hbr
      have hnb : ∀ ds ∈ p, ((bx ds).started).brk (rowN ds) = false := fun ds hd => by
        cases h : ((bx ds).started).brk (rowN ds) with
        | false => rfl
        | true =>
          have : (p.any fun ds => ((bx ds).started).brk (rowN ds)) = true := List.any_eq_true.mpr ⟨ds, hd, h⟩
          rw [← hbr] at this
          cases this
      have hzero : ∀ ds ∈ p, ((bx ds).started).place = some (k : Int) → (rowN ds)[k]? = some 0 := fun ds hd hp => by
        have h1 := hnb ds hd
        rw [brk_at hp] at h1
        have h1 := of_decide_eq_false h1
        have hl := hlt ds hd hp
        rw [List.getElem?_eq_getElem hl] at h1 ⊢
        rcases rowN_bits ds _ (List.getElem_mem hl) with e | e
        · rw [e]
        · exact absurd (congrArg some e) h1
      have hwh : ∀ ds ∈ p, ((bx ds).started).whole (rowN ds) false = true ↔ (((bx ds).started).place = some (k : Int) ∧ k + 1 = (rowN ds).length) := fun ds hd => by
        cases hp : ((bx ds).started).place with
        | none =>
          unfold Bx.whole
          rw [hp]
          simp
        | some j =>
          have hpk := hpl ds hd (by rw [hp]; simp)
          rw [hp] at hpk
          cases hpk
          have := hlt ds hd hp
          unfold Bx.whole
          rw [hp]
          dsimp only
          by_cases h2 : (k : Int) + 1 < (rowN ds).length
          · rw [if_pos h2]
            constructor
            · intro q; cases q
            · rintro ⟨_, q⟩; omega
          · rw [if_neg h2]
            constructor
            · intro _; exact ⟨rfl, by omega⟩
            · intro _; rfl
      simp only [Bool.false_eq_true, if_false]
      by_cases hdone : ∃ ds ∈ p, ((bx ds).started).place = some (k : Int) ∧ k + 1 = (rowN ds).length
      · obtain ⟨ds, hd, hp, hl⟩ := hdone
        have hr1 := hrow ds hd 0 hp (hzero ds hd hp)
        have uniq : ∀ fs ∈ p, ((bx fs).started).place = some (k : Int) → fs = ds := fun fs hf hfp => by
          have hr2 := hrow fs hf 0 hfp (hzero fs hf hfp)
          have hle := hlt fs hf hfp
          exact (row_begins (hG ds hd) (hG fs hf) hl (by omega) (by rw [← hr2, hr1])).symm
        have htold : (p.filter fun ds => ((bx ds).started).whole (rowN ds) false) = [ds] := by
          have h1 : (p.filter fun x => ((bx x).started).whole (rowN x) false) = p.filter fun x => decide (x = ds) := by
            refine List.filter_congr fun x hx => ?_
            have := hwh x hx
            by_cases hxd : x = ds
            · subst hxd
              rw [this.mpr ⟨hp, hl⟩]
              simp
            · have h0 : ((bx x).started).whole (rowN x) false = false := by
                cases h : ((bx x).started).whole (rowN x) false with
                | false => rfl
                | true => exact absurd (uniq x hx (this.mp h).1) hxd
              rw [h0]
              simp [hxd]
          rw [h1]
          exact filter_one hn hd
        refine ⟨[ds], htold, Nat.le_refl _, ?_⟩
        have hEt : Edge (t ++ [0]) (R ++ [ds].map fun ds => (t.length, ds)) := by
          have := hE.row (hG ds hd)
          rw [List.length_take, show min (t.length - k) t.length + (rowN ds).length - 1 = t.length by omega] at this
          rw [hsplit, hr1, hl, List.take_length]
          exact this
        refine ⟨.inl hEt, fun _ _ => hEt, fun _ fs hf m q => ?_⟩
        obtain ⟨j, hj, e, hnb', hne⟩ := Bx.behind_place q
        have hfp := hpl fs hf (by rw [hj]; simp)
        rw [hfp] at hj
        cases hj
        have := uniq fs hf hfp
        subst this
        omega
      · have htold : (p.filter fun ds => ((bx ds).started).whole (rowN ds) false) = [] := by
          rw [List.filter_eq_nil_iff]
          intro ds hd q
          exact hdone ⟨ds, hd, (hwh ds hd).mp q⟩
        refine ⟨[], htold, by simp, ?_⟩
        simp only [List.map_nil, List.append_nil]
        have hep := hpl es he hr
        have hel := hlt es he hep
        have hne : k + 1 ≠ (rowN es).length := fun q => hdone ⟨es, he, hep, q⟩
        have hr1 := hrow es he 0 hep (hzero es he hep)
        refine ⟨.inr ⟨t.take (t.length - k), es, k + 1, hG es he, by omega, by omega, by rw [hsplit, hr1], hE⟩, fun _ q => ?_, fun _ ds hd m q => ?_⟩
        · exfalso
          have := q es he
          rw [behind_at hep, if_neg (by simp), if_neg hne] at this
          cases this
        · obtain ⟨j, hj, e, hnb', hne'⟩ := Bx.behind_place q
          have hp := hpl ds hd (by rw [hj]; simp)
          rw [hp] at hj
          cases hj
          have : m = k + 1 := by omega
          subst this
          rw [htk]
          exact hE
  · have hno : ∀ ds ∈ p, ((bx ds).started).place = none := fun ds hd => by
      cases hp : ((bx ds).started).place with
      | none => rfl
      | some j => exact absurd ⟨ds, hd, by rw [hp]; simp⟩ hrun
    have hb : br = false := by
      rw [hbr]
      rw [List.any_eq_false]
      intro ds hd
      unfold Bx.brk brkB
      rw [hno ds hd]
      simp
    have hpre : ∀ ds ∈ p, (bx ds).place = none := fun ds hd => by
      rcases Bx.started_cases (bx ds) with h | ⟨h, _⟩
      · rw [← h]; exact hno ds hd
      · exact h
    have htold : (p.filter fun ds => ((bx ds).started).whole (rowN ds) br) = [] := by
      rw [List.filter_eq_nil_iff]
      intro ds hd
      unfold Bx.whole
      rw [hno ds hd]
      simp
    have hE := (I.idle rfl hpre).zero
    refine ⟨[], htold, by simp, ?_⟩
    rw [hb]
    simp only [List.map_nil, List.append_nil, Bool.false_eq_true, if_false]
    refine ⟨.inl hE, fun _ _ => hE, fun _ ds hd m q => ?_⟩
    obtain ⟨j, hj, _⟩ := Bx.behind_place q
    rw [hno ds hd] at hj
    cases hj
/-- one tick at an end -/
theorem EndI.tick {bx : List Nat → Bx} {hv : Int} {p : List (List Nat)} {t : List Int} {R : List (Nat × List Nat)} (h0 : 0 ≤ hv) (h2 : hv ≤ 2) (hn : p.Nodup) (P : PInv bx hv p t) (I : EndI bx hv p t R) (hG : ∀ ds ∈ p, GoodN ds) (hIn : ∀ ds ∈ p, (bx ds).In (rowN ds)) (hS : ∀ ds ∈ p, 0 ≤ (bx ds).sent) {br : Bool} (hbr : br = p.any fun ds => ((bx ds).started).brk (rowN ds)) :
    ∃ told : List (List Nat), (p.filter fun ds => ((bx ds).started).whole (rowN ds) (br || decide (0 < hv))) = told ∧ told.length ≤ 1 ∧ EndI (fun ds => ((bx ds).started).behind (rowN ds) (br || decide (0 < hv))) (max 0 (hv - 1)) p (t ++ [keyI hv br]) (R ++ told.map fun ds => (t.length, ds)) := by
  have : hv = 0 ∨ hv = 1 ∨ hv = 2 := by omega
  rcases this with rfl | h
  · obtain ⟨told, e1, e2, e3⟩ := I.up hn (P.z rfl) hG hIn hS hbr
    refine ⟨told, by simpa using e1, e2, ?_⟩
    have hm : max (0 : Int) (-1) = 0 := by decide
    simpa [keyI, hm] using e3
  · obtain ⟨e1, e2⟩ := EndI.key1 h P I hIn hS (br := br)
    exact ⟨[], e2, by simp, by simpa using e1⟩
end CW

namespace CW
open PySem PySem.Spec PyProof.Rows L2 MM
theorem goEnds {L : LSt} {i : Nat} {e : List (List Nat) × List (List Nat)} (h : (endsE L)[i]? = some e) : L.go.ends.getD i (false, false) = (L.go.pb e.1, L.go.pb e.2) := by
  have : L.go.ends[i]? = some (L.go.pb e.1, L.go.pb e.2) := by
    unfold LSt.ends
    unfold endsE endsL at h
    have htw : L.go.tw = L.tw := rfl
    have hjn : L.go.joined = L.joined := rfl
    rw [htw, hjn]
    cases hj : L.joined with
    | true =>
      rw [hj] at h
      simp only [if_true] at h ⊢
      rw [List.getElem?_map] at h ⊢
      obtain ⟨x, hx, rfl⟩ := Option.map_eq_some_iff.mp h
      rw [hx] <;> rfl
    | false =>
      rw [hj] at h
      simp only [Bool.false_eq_true, if_false] at h ⊢
      rw [List.getElem?_map] at h ⊢
      obtain ⟨x, hx, rfl⟩ := Option.map_eq_some_iff.mp h
      rw [hx] <;> rfl
  rw [List.getD_eq_getElem?_getD, this] <;> rfl
theorem endsE_len {L : LSt} (o : LOk L) : (endsE L).length = L.k := by
  have : (endsE L).length = L.tw.length := by unfold endsE endsL; split <;> simp
  rw [this, tw_len o]
theorem nearSl {l : List (List Nat)} {c : List Nat} : (nearL l c).Sublist l := by
  cases c with
  | nil => exact List.Sublist.refl _
  | cons a r => exact List.take_sublist _ _
theorem farSl {l : List (List Nat)} {c : List Nat} : (farL l c).Sublist l := by
  unfold farL
  split
  · exact List.Sublist.refl _
  · exact List.drop_sublist _ _
theorem tw_cutL {L : LSt} (o : LOk L) : ∀ x ∈ L.tw, CutL x.1.length x.2 := fun x hx => by
  obtain ⟨i, hi, e⟩ := List.getElem_of_mem hx
  have e' : L.tw[i]? = some x := by rw [List.getElem?_eq_getElem hi, e]
  unfold LSt.tw at e'
  rw [List.getElem?_zip_eq_some] at e'
  exact o.cut i x.1 x.2 e'.1 e'.2
theorem endsE_sub {L : LSt} (o : LOk L) {i : Nat} {e : List (List Nat) × List (List Nat)} (h : (endsE L)[i]? = some e) : (∀ ds ∈ e.1, ds ∈ L.F) ∧ (∀ ds ∈ e.2, ds ∈ L.F) ∧ e.1.length ≤ 1000 ∧ e.2.length ≤ 1000 ∧ e.1.Nodup ∧ e.2.Nodup := by
  have hik : i < L.k := by rw [← endsE_len o]; exact get_of h
  have h4 : L.tw.length = L.k := tw_len o
  obtain ⟨x, hx⟩ : ∃ x, L.tw[i]? = some x := ⟨_, List.getElem?_eq_getElem (by omega)⟩
  have hxm := List.mem_of_getElem? hx
  unfold endsE endsL at h
  cases hj : L.joined with
  | false =>
    rw [hj] at h
    simp only [Bool.false_eq_true, if_false] at h
    rw [List.getElem?_map, hx] at h
    cases h
    have hz := tw_sz o _ hxm
    have z1 := near_le (l := x.1) (c := x.2)
    have z2 := far_le (l := x.1) (c := x.2)
    have hx1 : L.ls[i]? = some x.1 := by
      unfold LSt.tw at hx
      rw [List.getElem?_zip_eq_some] at hx
      exact hx.1
    have hnd := loop_nodup o hx1
    exact ⟨fun ds hd => tw_sub o _ hxm ds (near_sub ds hd), fun ds hd => tw_sub o _ hxm ds (far_sub ds hd), by dsimp only at *; omega, by dsimp only at *; omega, hnd.sublist nearSl, hnd.sublist farSl⟩
  | true =>
    rw [hj] at h
    simp only [if_true] at h
    rw [List.getElem?_map, hx] at h
    cases h
    have hp := parts_le (tw_sz o)
    have hll : L.live.length ≤ 1000 := by
      have := o.town.len
      have : L.k ≤ 4 := this
      show (allParts L.tw).flatten.length ≤ _
      omega
    have hnd : L.live.Nodup := by
      have := live_sl (tw_cutL o)
      rw [tw_fst o] at this
      exact o.town.nd.sublist this
    exact ⟨live_sub o, live_sub o, hll, hll, hnd, hnd⟩
theorem felt_end {L : LSt} (o : LOk L) (Rn : RunInv L) {i : Nat} {e : List (List Nat) × List (List Nat)} {hv : Int} (he : (endsE L)[i]? = some e) (hh : L.held[i]? = some hv) : (∀ ds ∈ e.1, L.go.felt ds = (L.go.pb e.1 || decide (0 < hv))) ∧ ∀ ds ∈ e.2, L.go.felt ds = (L.go.pb e.2 || decide (0 < hv)) := by
  have og := goOk o
  have hik : i < L.k := by rw [← endsE_len o]; exact get_of he
  have h4 : L.tw.length = L.k := tw_len o
  obtain ⟨x, hx⟩ : ∃ x, L.tw[i]? = some x := ⟨_, List.getElem?_eq_getElem (by omega)⟩
  have hxx : L.ls[i]? = some x.1 ∧ L.cuts[i]? = some x.2 := by
    unfold LSt.tw at hx
    rw [List.getElem?_zip_eq_some] at hx
    exact hx
  cases hj : L.joined with
  | false =>
    have he' : e = (nearL x.1 x.2, farL x.1 x.2) := by
      unfold endsE endsL at he
      rw [hj] at he
      simp only [Bool.false_eq_true, if_false] at he
      rw [List.getElem?_map, hx] at he
      exact (Option.some.inj he).symm
    subst he'
    have hfa := fun ds (hd : ds ∈ x.1) => felt_at (L := L.go) og hj hxx.1 hxx.2 hh hd
    refine ⟨fun ds hd => ?_, fun ds hd => ?_⟩
    · rw [hfa ds (near_sub ds hd), if_pos hd]
    · rw [hfa ds (far_sub ds hd)]
      by_cases hc : x.2 = []
      · have hn : nearL x.1 x.2 = x.1 := by rw [hc]; rfl
        have hf : farL x.1 x.2 = x.1 := by rw [hc]; rfl
        dsimp only
        rw [hn, hf]
        rw [hf] at hd
        rw [if_pos hd]
      · have hcl := o.cut i x.1 x.2 hxx.1 hxx.2
        have : ds ∉ nearL x.1 x.2 := fun q => near_far (loop_nodup o hxx.1) hcl hc q hd
        rw [if_neg this, if_pos hd]
  | true =>
    have he' : e = (L.live, L.live) := by
      unfold endsE at he
      rw [hj] at he
      simp only [if_true] at he
      rw [List.getElem?_map, hx] at he
      exact (Option.some.inj he).symm
    subst he'
    have key : ∀ ds ∈ L.live, L.go.felt ds = (L.go.pb L.live || decide (0 < hv)) := fun ds hd => by
      have hfj := felt_joined (L := L.go) hj ds
      have hlv : L.go.live = L.live := rfl
      rw [hlv, if_pos hd] at hfj
      rw [hfj]
      unfold LSt.pbk
      congr 1
      obtain ⟨w, q1, _⟩ := Rn.jnd hj
      have hw : hv = w := q1 hv (List.mem_of_getElem? hh)
      have hlop : L.go.lop L.live < L.held.length := by
        rw [o.lh]
        cases hlive : L.live with
        | nil => rw [hlive] at hd; cases hd
        | cons a r =>
          have ha : a ∈ L.F := live_sub o a (by rw [hlive]; simp)
          obtain ⟨l, hl, hdl⟩ := List.mem_flatten.mp ha
          obtain ⟨i, hi2, e2⟩ := List.getElem_of_mem hl
          obtain ⟨j, hj2, e3⟩ := List.getElem_of_mem hdl
          have e4 := spot_at o.town.nd (by rw [List.getElem?_eq_getElem hi2, e2]) (by rw [List.getElem?_eq_getElem hj2, e3])
          have e5 : L.go.lop (a :: r) = i := by
            unfold LSt.lop
            have : L.go.ls = L.ls := rfl
            rw [this]
            simp only [e4]
          rw [e5]
          exact hi2
      have hgo : L.go.held = L.held := rfl
      rw [hgo, List.getD_eq_getElem?_getD, List.getElem?_eq_getElem hlop]
      have := q1 _ (List.getElem_mem hlop)
      rw [hw]
      show decide (0 < L.held[L.go.lop L.live]) = _
      rw [this]
    exact ⟨key, key⟩
theorem pinv_end {L : LSt} (o : LOk L) (Rn : RunInv L) {i : Nat} {e : List (List Nat) × List (List Nat)} {hv : Int} {tn tf : List Int} (he : (endsE L)[i]? = some e) (hh : L.held[i]? = some hv) (hn : L.near[i]? = some tn) (hf : L.far[i]? = some tf) : PInv L.bx hv e.1 tn ∧ PInv L.bx hv e.2 tf := by
  have hik : i < L.k := by rw [← endsE_len o]; exact get_of he
  have h4 : L.tw.length = L.k := tw_len o
  obtain ⟨x, hx⟩ : ∃ x, L.tw[i]? = some x := ⟨_, List.getElem?_eq_getElem (by omega)⟩
  have hxx : L.ls[i]? = some x.1 ∧ L.cuts[i]? = some x.2 := by
    unfold LSt.tw at hx
    rw [List.getElem?_zip_eq_some] at hx
    exact hx
  cases hj : L.joined with
  | false =>
    have he' : e = (nearL x.1 x.2, farL x.1 x.2) := by
      unfold endsE endsL at he
      rw [hj] at he
      simp only [Bool.false_eq_true, if_false] at he
      rw [List.getElem?_map, hx] at he
      exact (Option.some.inj he).symm
    subst he'
    exact Rn.sep hj i x.1 x.2 hv tn tf hxx.1 hxx.2 hh hn hf
  | true =>
    have he' : e = (L.live, L.live) := by
      unfold endsE at he
      rw [hj] at he
      simp only [if_true] at he
      rw [List.getElem?_map, hx] at he
      exact (Option.some.inj he).symm
    subst he'
    obtain ⟨w, q1, q2⟩ := Rn.jnd hj
    have := q1 hv (List.mem_of_getElem? hh)
    subst this
    exact q2 i tn tf hn hf
abbrev Rds := List (Nat × List Nat)
structure TpI (L : LSt) (RN RF : List Rds) : Prop where
  ln : RN.length = L.k
  lf : RF.length = L.k
  at_ : ∀ (i : Nat) e hv tn tf rn rf, (endsE L)[i]? = some e → L.held[i]? = some hv → L.near[i]? = some tn → L.far[i]? = some tf → RN[i]? = some rn → RF[i]? = some rf → EndI L.bx hv e.1 tn rn ∧ EndI L.bx hv e.2 tf rf
  ky : ∀ (i : Nat) tn tf, L.near[i]? = some tn → L.far[i]? = some tf → tn.map (fun x => decide (x = 2)) = tf.map fun x => decide (x = 2)
theorem TpI.new {ls : List (List (List Nat))} {r s : Int} : TpI (newL ls r s) (List.replicate ls.length []) (List.replicate ls.length []) := by
  refine ⟨by simp; rfl, by simp; rfl, fun i e hv tn tf rn rf he hh hn hf h1 h2 => ?_, fun i tn tf hn hf => ?_⟩
  · have hn' : (List.replicate ls.length ([] : List Int))[i]? = some tn := hn
    have hf' : (List.replicate ls.length ([] : List Int))[i]? = some tf := hf
    have q1 : tn = [] := List.eq_of_mem_replicate (List.mem_of_getElem? hn')
    have q2 : tf = [] := List.eq_of_mem_replicate (List.mem_of_getElem? hf')
    have q3 : rn = [] := List.eq_of_mem_replicate (List.mem_of_getElem? h1)
    have q4 : rf = [] := List.eq_of_mem_replicate (List.mem_of_getElem? h2)
    subst q1 q2 q3 q4
    exact ⟨EndI.new, EndI.new⟩
  · have hn' : (List.replicate ls.length ([] : List Int))[i]? = some tn := hn
    have hf' : (List.replicate ls.length ([] : List Int))[i]? = some tf := hf
    rw [hn'] at hf'
    cases hf'
    rfl
theorem TpI.re {L M : LSt} {RN RF : List Rds} (I : TpI L RN RF) (o : LOk L) (hk : M.k = L.k) (hn : M.near = L.near) (hf : M.far = L.far) (h : ∀ (i : Nat) hv, M.held[i]? = some hv → hv ≠ 0 ∨ ((endsE M)[i]? = (endsE L)[i]? ∧ L.held[i]? = some hv ∧ ∀ ds, (M.bx ds).place = (L.bx ds).place)) : TpI M RN RF := by
  refine ⟨by rw [hk]; exact I.ln, by rw [hk]; exact I.lf, fun i e hv tn tf rn rf he hh h1 h2 h3 h4 => ?_, fun i tn tf h1 h2 => I.ky i tn tf (by rw [← hn]; exact h1) (by rw [← hf]; exact h2)⟩
  rw [hn] at h1
  rw [hf] at h2
  rcases h i hv hh with h0 | ⟨q1, q2, q3⟩
  · have hik : i < L.k := by have := get_of h3; have := I.ln; omega
    obtain ⟨e', he'⟩ : ∃ e, (endsE L)[i]? = some e := ⟨_, List.getElem?_eq_getElem (by rw [endsE_len o]; exact hik)⟩
    obtain ⟨hv', hh'⟩ : ∃ hv, L.held[i]? = some hv := ⟨_, List.getElem?_eq_getElem (by rw [o.lh]; exact hik)⟩
    obtain ⟨g1, g2⟩ := I.at_ i e' hv' tn tf rn rf he' hh' h1 h2 h3 h4
    exact ⟨.held g1.mid h0, .held g2.mid h0⟩
  · rw [q1] at he
    obtain ⟨g1, g2⟩ := I.at_ i e hv tn tf rn rf he q2 h1 h2 h3 h4
    exact ⟨g1.congr fun ds _ => q3 ds, g2.congr fun ds _ => q3 ds⟩
/-- what is told at a tick of the boxes of an end -/
def toldE (T : List (List Nat)) (p : List (List Nat)) : List (List Nat) := T.filter fun ds => decide (ds ∈ p)
def addN (L : LSt) (T : List (List Nat)) (R : List Rds) : List Rds := R.mapIdx fun i r => r ++ (toldE T ((endsE L).getD i ([], [])).1).map fun ds => (L.ticks, ds)
def addF (L : LSt) (T : List (List Nat)) (R : List Rds) : List Rds := R.mapIdx fun i r => r ++ (toldE T ((endsE L).getD i ([], [])).2).map fun ds => (L.ticks, ds)
theorem one_mem {l m : List (List Nat)} (h : ∀ x, x ∈ l ↔ x ∈ m) (hn : l.Nodup) (hm : m.length ≤ 1) : l = m := by
  match m, hm with
  | [], _ =>
    cases l with
    | nil => rfl
    | cons a r => exact absurd ((h a).mp (by simp)) (by simp)
  | [b], _ =>
    have h1 : ∀ x ∈ l, x = b := fun x hx => by simpa using (h x).mp hx
    have h2 : b ∈ l := (h b).mpr (by simp)
    match l, hn, h1, h2 with
    | [], _, _, h2 => cases h2
    | [a], _, h1, _ => rw [h1 a (by simp)]
    | a :: c :: r, hn, h1, _ =>
      have e1 := h1 a (by simp)
      have e2 := h1 c (by simp)
      rw [e1, e2] at hn
      simp at hn
theorem toldE_eq {L : LSt} (o : LOk L) {T : List (List Nat)} (hT : T.Perm L.due) {p : List (List Nat)} (hp : ∀ ds ∈ p, ds ∈ L.F) {k : List Nat → Bool} (hk : ∀ ds ∈ p, L.go.felt ds = k ds) {told : List (List Nat)} (e : (p.filter fun ds => ((L.bx ds).started).whole (rowN ds) (k ds)) = told) (h1 : told.length ≤ 1) : toldE T p = told := by
  have hnd : T.Nodup := hT.nodup_iff.mpr (o.town.nd.sublist List.filter_sublist)
  refine one_mem (fun x => ?_) (hnd.sublist List.filter_sublist) h1
  rw [← e]
  unfold toldE
  rw [List.mem_filter, List.mem_filter, hT.mem_iff]
  unfold LSt.due
  rw [List.mem_filter]
  constructor
  · rintro ⟨⟨a1, a2⟩, a3⟩
    have a3 := of_decide_eq_true a3
    exact ⟨a3, by rw [← hk x a3]; exact a2⟩
  · rintro ⟨a1, a2⟩
    exact ⟨⟨hp x a1, by rw [hk x a1]; exact a2⟩, decide_eq_true a1⟩
theorem TpI.tick {L : LSt} {RN RF : List Rds} (I : TpI L RN RF) (o : LOk L) (g : L.Good) (Rn : RunInv L) (tp : L.Taped) {T : List (List Nat)} (hT : T.Perm L.due) : TpI L.tick (addN L T RN) (addF L T RF) := by
  have hnear : ∀ (i : Nat) tn', L.tick.near[i]? = some tn' → ∃ tn, L.near[i]? = some tn ∧ tn' = tn ++ [L.go.sgN i] := fun i tn' q => by
    have q' : (putJ L.near L.k L.go.sgN)[i]? = some tn' := q
    rw [putJ_get] at q'
    obtain ⟨tn, h1, h2⟩ := Option.map_eq_some_iff.mp q'
    have : i < L.k := by have := get_of h1; rw [o.ln] at this; exact this
    rw [if_pos this] at h2
    exact ⟨tn, h1, h2.symm⟩
  have hfar : ∀ (i : Nat) tn', L.tick.far[i]? = some tn' → ∃ tn, L.far[i]? = some tn ∧ tn' = tn ++ [L.go.sgF i] := fun i tn' q => by
    have q' : (putJ L.far L.k L.go.sgF)[i]? = some tn' := q
    rw [putJ_get] at q'
    obtain ⟨tn, h1, h2⟩ := Option.map_eq_some_iff.mp q'
    have : i < L.k := by have := get_of h1; rw [o.lf] at this; exact this
    rw [if_pos this] at h2
    exact ⟨tn, h1, h2.symm⟩
  have sg : ∀ (i : Nat) e hv, (endsE L)[i]? = some e → L.held[i]? = some hv → L.go.sgN i = keyI hv (L.go.pb e.1) ∧ L.go.sgF i = keyI hv (L.go.pb e.2) := fun i e hv he hh => by
    unfold LSt.sgN LSt.sgF
    rw [goEnds he, show L.go.held = L.held from rfl, List.getD_eq_getElem?_getD, hh]
    exact ⟨rfl, rfl⟩
  refine ⟨by unfold addN; rw [List.length_mapIdx]; exact I.ln, by unfold addF; rw [List.length_mapIdx]; exact I.lf, fun i e hv tn tf rn rf he hh h1 h2 h3 h4 => ?_, fun i tn tf h1 h2 => ?_⟩
  · have he0 : (endsE L)[i]? = some e := he
    have hh0 : (L.held.map fun x => max 0 (x - 1))[i]? = some hv := hh
    rw [List.getElem?_map] at hh0
    obtain ⟨hv0, hv1, rfl⟩ := Option.map_eq_some_iff.mp hh0
    obtain ⟨tn0, n1, rfl⟩ := hnear i tn h1
    obtain ⟨tf0, f1, rfl⟩ := hfar i tf h2
    unfold addN at h3
    unfold addF at h4
    rw [List.getElem?_mapIdx] at h3 h4
    obtain ⟨rn0, r1, rfl⟩ := Option.map_eq_some_iff.mp h3
    obtain ⟨rf0, r2, rfl⟩ := Option.map_eq_some_iff.mp h4
    obtain ⟨g1, g2⟩ := I.at_ i e hv0 tn0 tf0 rn0 rf0 he0 hv1 n1 f1 r1 r2
    obtain ⟨p1, p2⟩ := pinv_end o Rn he0 hv1 n1 f1
    obtain ⟨s1, s2, _, _, d1, d2⟩ := endsE_sub o he0
    obtain ⟨k1, k2⟩ := felt_end o Rn he0 hv1
    obtain ⟨b0, b2⟩ := Rn.hb hv0 (List.mem_of_getElem? hv1)
    obtain ⟨q1, q2⟩ := sg i e hv0 he0 hv1
    have ht1 := tp.1 tn0 (List.mem_of_getElem? n1)
    have ht2 := tp.2 tf0 (List.mem_of_getElem? f1)
    have hgd : (endsE L).getD i ([], []) = e := by rw [List.getD_eq_getElem?_getD, he0]; rfl
    obtain ⟨t1, e1, l1, E1⟩ := g1.tick b0 b2 d1 p1 (fun ds hd => o.town.good ds (s1 ds hd)) (fun ds hd => o.box ds (s1 ds hd)) (fun ds hd => (g ds (s1 ds hd)).s0) (br := L.go.pb e.1) rfl
    obtain ⟨t2, e2, l2, E2⟩ := g2.tick b0 b2 d2 p2 (fun ds hd => o.town.good ds (s2 ds hd)) (fun ds hd => o.box ds (s2 ds hd)) (fun ds hd => (g ds (s2 ds hd)).s0) (br := L.go.pb e.2) rfl
    have u1 := toldE_eq o hT s1 (k := fun _ => (L.go.pb e.1 || decide (0 < hv0))) k1 e1 l1
    have u2 := toldE_eq o hT s2 (k := fun _ => (L.go.pb e.2 || decide (0 < hv0))) k2 e2 l2
    rw [hgd, u1, u2, q1, q2]
    rw [ht1] at E1
    rw [ht2] at E2
    refine ⟨E1.congr fun ds hd => ?_, E2.congr fun ds hd => ?_⟩
    · show (((L.bx ds).started).behind (rowN ds) (L.go.felt ds)).place = _
      rw [k1 ds hd]
    · show (((L.bx ds).started).behind (rowN ds) (L.go.felt ds)).place = _
      rw [k2 ds hd]
  · obtain ⟨tn0, n1, rfl⟩ := hnear i tn h1
    obtain ⟨tf0, f1, rfl⟩ := hfar i tf h2
    have hik : i < L.k := by have := get_of n1; rw [o.ln] at this; exact this
    obtain ⟨e, he⟩ : ∃ e, (endsE L)[i]? = some e := ⟨_, List.getElem?_eq_getElem (by rw [endsE_len o]; exact hik)⟩
    obtain ⟨hv, hh⟩ : ∃ hv, L.held[i]? = some hv := ⟨_, List.getElem?_eq_getElem (by rw [o.lh]; exact hik)⟩
    obtain ⟨q1, q2⟩ := sg i e hv he hh
    rw [List.map_append, List.map_append, I.ky i tn0 tf0 n1 f1, q1, q2]
    congr 1
    have kd : ∀ b, decide (keyI hv b = 2) = decide (0 < hv) := fun b => by
      unfold keyI
      by_cases h0 : 0 < hv
      · simp [h0]
      · cases b <;> simp [h0]
    simp only [List.map_cons, List.map_nil, kd]
end CW

namespace LK04
open PySem PySem.Spec PyProof.Rows L2 MM CW
/-- _law_second(_law_bag_here, _law_one); slots 0 _law_bag_here, 1 _law_one, 2 _law_way, 3 _law_other, 4 _law_spot -/
noncomputable def m__law_second : MS :=
  sSeq (sSet 2 (eCall CW.sp_law_draw (aCons (eVar 0) (aCons (eC (.int 4)) (aNil)))))
  (sSeq (sSet 3 (eCall CW.sp_law_figures (aCons (eVar 0) (aNil))))
  (sSeq (sIf (tV (eBin eqD (eVar 2) (eC (.int 1)))) (sSet 3 (eSl (eVar 1) (oN) (oS (eUn negD (eC (.int 1)))))) (sIf (tV (eBin eqD (eVar 2) (eC (.int 2)))) (sSet 3 (eBin addD (eVar 1) (eCall strD (aCons (eBin addD (eC (.int 1)) (eCall CW.sp_law_draw (aCons (eVar 0) (aCons (eC (.int 9)) (aNil))))) (aNil))))) (sIf (tV (eBin eqD (eVar 2) (eC (.int 3)))) (sSeq (sSet 4 (eCall CW.sp_law_draw (aCons (eVar 0) (aCons (eCall lenD (aCons (eVar 1) (aNil))) (aNil)))))
  (sSet 3 (eBin addD (eBin addD (eSl (eVar 1) (oN) (oS (eVar 4))) (eCall strD (aCons (eBin addD (eC (.int 1)) (eCall CW.sp_law_draw (aCons (eVar 0) (aCons (eC (.int 9)) (aNil))))) (aNil)))) (eSl (eVar 1) (oS (eBin addD (eVar 4) (eC (.int 1)))) (oN))))) (sPass))))
  (sRet (eIf (tV (eCall CW.sp_law_is_number (aCons (eVar 3) (aNil)))) (eVar 3) (eVar 1)))))
noncomputable def sp__law_second : FL := body 5 m__law_second
/-- law(_law_script); slots 0 _law_script, 1 _law_k, 2 _law_bag_here, 3 _law_one, 4 _law_other, 5 _law_row, 6 _law_far, 7 _law_text, 8 _law_sign -/
noncomputable def m_law : MS :=
  sSeq (sFor (iA (eCall CW.sp_law_many (aCons (eVar 0) (aCons (eC (.int 3)) (aCons (eC (.int 8)) (aNil)))))) (tN 1) (sSeq (sSet 2 (eCall CW.sp_law_bag (aCons (eVar 0) (aCons (eVar 1) (aNil)))))
  (sSeq (sSet 3 (eCall CW.sp_law_figures (aCons (eVar 2) (aNil))))
  (sSeq (sSet 4 (eCall sp__law_second (aCons (eVar 2) (aCons (eVar 3) (aNil)))))
  (sSeq (sPar 5 6 (aCons (eCall CW.sp_row_of (aCons (eVar 3) (aNil))) (aCons (eCall CW.sp_row_of (aCons (eVar 4) (aNil))) (aNil))))
  (sSeq (sIf (tAn (tV (eBin neD (eVar 3) (eVar 4))) (tOo (tV (eBin eqD (eSl (eVar 5) (oN) (oS (eCall lenD (aCons (eVar 6) (aNil))))) (eVar 6))) (tV (eBin eqD (eSl (eVar 6) (oN) (oS (eCall lenD (aCons (eVar 5) (aNil))))) (eVar 5))))) (sRet (eC (.bl false))) (sPass))
  (sSeq (sSet 7 (eMeth isStrD joinD (eC (.str "")) (lComp (iA (eVar 5)) [8] (tN 8) tYs (eCall strD (aCons (eVar 8) (aNil))))))
  (sSeq (sIf (tOo (tV (eBin neD (eSl (eVar 7) (oN) (oS (eC (.int 1)))) (eC (.str "1")))) (tOo (tV (eBin gtD (eMeth isStrD countD (eVar 7) (aCons (eC (.str "11")) (aNil))) (eC (.int 0)))) (tOo (tV (eBin neD (eMeth isStrD countD (eVar 7) (aCons (eC (.str "00000")) (aNil))) (eC (.int 1)))) (tV (eBin neD (eSl (eVar 7) (oS (eUn negD (eC (.int 5)))) (oN)) (eC (.str "00000"))))))) (sRet (eC (.bl false))) (sPass))
  (sIf (tOo (tV (eBin neD (eRepl (eRepl (eVar 7) "0" "") "1" "") (eC (.str "")))) (tV (eBin gtD (eCall lenD (aCons (eVar 5) (aNil))) (eC (.int 58))))) (sRet (eC (.bl false))) (sPass))))))))))
  (sRet (eC (.bl true)))
noncomputable def sp_law : FL := body 9 m_law
def bt (t : List Int) : Str := ⟨(t.map fun x => x.toNat + 48).toArray⟩
@[simp] theorem bt_cps (t : List Int) : (bt t).cps.toList = t.map fun x => x.toNat + 48 := rfl
@[simp] theorem bt_length (t : List Int) : (bt t).length = t.length := by
  unfold bt Str.length
  simp
def B3 (t : List Int) : Prop := ∀ x ∈ t, x = 0 ∨ x = 1 ∨ x = 2
theorem B3.drop {t : List Int} (h : B3 t) (n : Nat) : B3 (t.drop n) := fun x hx => h x (List.mem_of_mem_drop hx)
theorem B3.take {t : List Int} (h : B3 t) (n : Nat) : B3 (t.take n) := fun x hx => h x (List.mem_of_mem_take hx)
theorem map_inj3 : ∀ {a b : List Int}, B3 a → B3 b → (a.map fun x => x.toNat + 48) = (b.map fun x => x.toNat + 48) → a = b
  | [], [], _, _, _ => rfl
  | [], _ :: _, _, _, e => by cases e
  | _ :: _, [], _, _, e => by cases e
  | x :: a, y :: b, ha, hb, e => by
    injection e with e1 e2
    have e1 : x.toNat + 48 = y.toNat + 48 := e1
    have := ha x (List.mem_cons_self ..)
    have := hb y (List.mem_cons_self ..)
    have : x = y := by omega
    rw [this, map_inj3 (fun z hz => ha z (List.mem_cons_of_mem _ hz)) (fun z hz => hb z (List.mem_cons_of_mem _ hz)) e2]
/-- a word stands here -/
def Wd (w t : List Int) (i : Nat) : Prop := (t.drop i).take w.length = w
theorem at_iff {w t : List Int} (hw : B3 w) (ht : B3 t) (i : Nat) : StrLaws.At (bt t) (bt w) (bt t).length i ↔ i + w.length ≤ t.length ∧ Wd w t i := by
  unfold StrLaws.At Wd
  rw [StrLaws.subAt_eq]
  simp only [bt_length, bt_cps, beq_iff_eq, ← List.map_drop, ← List.map_take]
  constructor
  · rintro ⟨h1, h2⟩
    exact ⟨h1, map_inj3 ((ht.drop i).take _) hw h2⟩
  · rintro ⟨h1, h2⟩
    exact ⟨h1, by rw [h2]⟩
theorem num_of_fine {n : Nat} {z : Str} {S : Sto} (h : Fine n z) (hn : n ≤ 1000) : sp_law_is_number [.str z] S = .ok (.bl (isNumD (.str z))) S := law_is_number_ev (by show z.length ≤ sizeLine; rw [sizeL]; have := h.len; omega) (fun y e => by cases e; exact h.uni)
theorem second_ev {b : Nat} {S : Sto} {ds : List Nat} (hb : BagAt S b) (hg : GoodN ds) : ∃ es S', sp__law_second [.ref b, .str (numS ds)] S = .ok (.str (numS es)) S' ∧ GoodN es ∧ Drew b S S' := by
  have hl4 := hg.len
  have hl1 := hg.pos
  have fd : Fine 4 (numS ds) := (fine_num hg.fig).mono hl4
  unfold sp__law_second m__law_second
  simp [sizeL]
  generalize hr_ : sp_law_draw [D.ref _, D.int _] _ = r_
  obtain ⟨way, S1, hq_, a1, b1, w1, hb1⟩ := draw_of hr_ (by assumption) (by omega) (by omega)
  clear hr_
  subst hq_
  simp [sizeL]
  generalize hr_ : sp_law_figures [D.ref _] _ = r_
  obtain ⟨fs, S2, hq_, hf, w2, hb2⟩ := figures_of hr_ (by assumption)
  clear hr_
  subst hq_
  simp [sizeL]
  generalize hR : sRet (eIf _ _ _) = R
  have key : ∀ (z : Str) (S3 : Sto) (x4 : Option D), Fine 100 z → Drew b S2 S3 → ∃ es S', (R [some (.ref b), some (.str (numS ds)), some (.int way), some (.str z), x4] S3).end = .ok (.str (numS es)) S' ∧ GoodN es ∧ Drew b S S' := by
    intro z S3 x4 hz w3
    subst hR
    have e := num_of_fine (S := S3) hz (by decide)
    cases hn : isNumD (.str z) with
    | true =>
      obtain ⟨es, he, rfl⟩ := isNum_iff.mp hn
      exact ⟨es, S3, by simp [e, hn], he, (w1.trans w2).trans w3⟩
    | false => exact ⟨ds, S3, by simp [e, hn], hg, (w1.trans w2).trans w3⟩
  have hlen : (numS ds).length = ds.length := by rw [CW.len_list, numS_cps, List.length_map]
  have hsl : ∀ lo hi S, slD (.str (numS ds)) lo hi S = .ok (.str (cutS (numS ds) lo hi)) S := fun lo hi S => sl_str (by omega)
  by_cases h1 : way = 1
  · simp [h1, hsl]
    have := key (cutS (numS ds) none (some (-1))) S2 none ((fd.cut _ _).mono (by decide)) (Drew.refl hb2)
    simpa [h1] using this
  · by_cases h2 : way = 2
    · simp [h2]
      generalize hr_ : sp_law_draw [D.ref _, D.int _] _ = r_
      obtain ⟨f, S3, hq_, a3, b3, w3, hb3⟩ := draw_of hr_ (by assumption) (by omega) (by omega)
      clear hr_
      subst hq_
      have e1 := strD_fig (i := 1 + f) (S := S3) (by omega) (by omega)
      have ff : Fine 1 (numS [(1 + f).toNat]) := fine_num (ds := [(1 + f).toNat]) (by intro d hd; simp at hd; subst hd; omega)
      have e2 := add_str (x := numS ds) (y := numS [(1 + f).toNat]) (S := S3) (by have := fd.len; have := ff.len; omega)
      simp [e1, e2]
      have := key _ S3 none ((fd.app ff).mono (by decide)) w3
      simpa [h2] using this
    · by_cases h3 : way = 3
      · simp [h3, lenD_str (show (numS ds).length ≤ sizeLine by rw [sizeL]; omega)]
        generalize hr_ : sp_law_draw [D.ref _, D.int _] _ = r_
        obtain ⟨spot, S3, hq_, a3, b3, w3, hb3⟩ := draw_of hr_ (by assumption) (by omega) (by omega)
        clear hr_
        subst hq_
        simp [hsl]
        generalize hr_ : sp_law_draw [D.ref _, D.int _] _ = r_
        obtain ⟨f, S4, hq_, a4, b4, w4, hb4⟩ := draw_of hr_ (by assumption) (by omega) (by omega)
        clear hr_
        subst hq_
        have e1 := strD_fig (i := 1 + f) (S := S4) (by omega) (by omega)
        have ff : Fine 1 (numS [(1 + f).toNat]) := fine_num (ds := [(1 + f).toNat]) (by intro d hd; simp at hd; subst hd; omega)
        have f1 := fd.cut none (some spot)
        have f2 := fd.cut (some (spot + 1)) none
        have e2 := add_str (x := cutS (numS ds) none (some spot)) (y := numS [(1 + f).toNat]) (S := S4) (by have := f1.len; have := ff.len; omega)
        have e3 := add_str (x := cutS (numS ds) none (some spot) ++ numS [(1 + f).toNat]) (y := cutS (numS ds) (some (spot + 1)) none) (S := S4) (by have := (f1.app ff).len; have := f2.len; omega)
        simp [e1, e2, hsl, e3]
        have := key _ S4 (some (.int spot)) (((f1.app ff).app f2).mono (by decide)) (w3.trans w4)
        simpa [h3] using this
      · simp [h1, h2, h3]
        have := key (numS fs) S2 none ((fine_num hf.fig).mono (by have := hf.len; omega)) (Drew.refl hb2)
        simpa using this
theorem qaft_tail : ∀ (n : Nat) (l : List Int), qaft 0 l = n → ∃ u, l = u ++ List.replicate n 0
  | 0, l, _ => ⟨l, by simp⟩
  | n + 1, l, h => by
    rcases List.eq_nil_or_concat l with rfl | ⟨u, x, rfl⟩
    · cases h
    · rw [List.concat_eq_append, qaft_app] at h
      have h' : (if x = 0 then qaft 0 u + 1 else 0) = n + 1 := h
      by_cases hx : x = 0
      · rw [if_pos hx] at h'
        obtain ⟨v, rfl⟩ := qaft_tail n u (by omega)
        exact ⟨v, by rw [hx, List.concat_eq_append, List.append_assoc, List.replicate_succ']⟩
      · rw [if_neg hx] at h'
        omega
theorem row_tail {ds : List Nat} (h : GoodN ds) : ∃ u, rowN ds = u ++ List.replicate 5 0 := qaft_tail 5 _ (row_calm h).2
theorem B3.rowN {ds : List Nat} : B3 (rowN ds) := fun x hx => by rcases rowN_bits ds x hx with h | h <;> omega
/-- five quiet ticks stand at the end alone -/
theorem five_at {ds : List Nat} (h : GoodN ds) {k : Nat} (hk : k + 5 ≤ (rowN ds).length) (w : Wd [0, 0, 0, 0, 0] (rowN ds) k) : k + 5 = (rowN ds).length := by
  refine Classical.byContradiction fun hne => ?_
  have h1 := (part_calm h (n := k + 5) (by omega) (by omega)).2.1
  have w' : ((rowN ds).drop k).take 5 = List.replicate 5 0 := w
  have e : (rowN ds).take (k + 5) = (rowN ds).take k ++ List.replicate 5 0 := by rw [List.take_add, w']
  rw [e, qaft_app, qaft_zeros] at h1
  omega
theorem five_end {ds : List Nat} (h : GoodN ds) : Wd [0, 0, 0, 0, 0] (rowN ds) ((rowN ds).length - 5) := by
  obtain ⟨u, e⟩ := row_tail h
  unfold Wd
  rw [e, List.length_append, List.length_replicate, Nat.add_sub_cancel, List.drop_left] <;> rfl
theorem count_five {ds : List Nat} (h : GoodN ds) : Txt.count (bt (rowN ds)) (bt [0, 0, 0, 0, 0]) = 1 := by
  have h6 := row_six h
  have b5 : B3 [0, 0, 0, 0, 0] := fun x hx => by simp at hx; omega
  have hbl : (bt [0, 0, 0, 0, 0] : Str).length = 5 := bt_length _
  obtain ⟨f, hc, hn⟩ := StrLaws.occ_tight (bt (rowN ds)) (bt [0, 0, 0, 0, 0]) (by rw [hbl]; decide)
  unfold Txt.count
  generalize Builtin.Str.occurrences (bt (rowN ds)) (bt [0, 0, 0, 0, 0]) 0 (bt (rowN ds)).length ((bt (rowN ds)).length + 1) = cuts at *
  have end_ : StrLaws.At (bt (rowN ds)) (bt [0, 0, 0, 0, 0]) (bt (rowN ds)).length ((rowN ds).length - 5) := (at_iff b5 B3.rowN _).mpr ⟨by show (rowN ds).length - 5 + 5 ≤ _; omega, five_end h⟩
  match cuts, hc with
  | [], hc =>
    have hc : f = 0 := hc
    exact absurd end_ (hn _ (by omega))
  | [c], _ => rfl
  | c :: d :: r, hc =>
    exfalso
    obtain ⟨h1, h2, h3, h4, h5, _⟩ := hc
    have e1 := (at_iff b5 B3.rowN c).mp h2
    have e2 := (at_iff b5 B3.rowN d).mp h5
    have q1 := five_at h e1.1 e1.2
    have q2 := five_at h e2.1 e2.2
    rw [hbl] at h4
    omega
theorem count_pair {ds : List Nat} (h : GoodN ds) : Txt.count (bt (rowN ds)) (bt [1, 1]) = 0 := by
  have b5 : B3 [1, 1] := fun x hx => by simp at hx; omega
  have hbl : (bt [1, 1] : Str).length = 2 := bt_length _
  obtain ⟨f, hc, hn⟩ := StrLaws.occ_tight (bt (rowN ds)) (bt [1, 1]) (by rw [hbl]; decide)
  unfold Txt.count
  generalize Builtin.Str.occurrences (bt (rowN ds)) (bt [1, 1]) 0 (bt (rowN ds)).length ((bt (rowN ds)).length + 1) = cuts at *
  match cuts, hc with
  | [], _ => rfl
  | c :: r, hc =>
    exfalso
    obtain ⟨h1, h2, _⟩ := hc
    have e1 := ((at_iff b5 B3.rowN c).mp h2).2
    have e1 : ((rowN ds).drop c).take 2 = [1, 1] := e1
    have g0 : (rowN ds)[c]? = some 1 := by
      have := congrArg (·[0]?) e1
      simpa [List.getElem?_take, List.getElem?_drop] using this
    have g1 : (rowN ds)[c + 1]? = some 1 := by
      have := congrArg (·[1]?) e1
      simpa [List.getElem?_take, List.getElem?_drop] using this
    have := (stroke_next ds c g0).2
    rw [this] at g1
    cases g1
theorem repl_filter (c : Nat) : ∀ l : List Nat, StrLaws.replL [c] [] l = l.filter fun x => decide (x ≠ c)
  | [] => StrLaws.replL_nil
  | x :: l => by
    by_cases hx : x = c
    · subst hx
      rw [StrLaws.replL_hit (by simp) (by simp), List.filter_cons_of_neg (by simp)]
      exact repl_filter x l
    · rw [StrLaws.replL_miss (by simp [hx]), List.filter_cons_of_pos (by simp [hx]), repl_filter c l]
theorem repl_row (ds : List Nat) : Txt.replace (Txt.replace (bt (rowN ds)) (bt [0]) (bt [])) (bt [1]) (bt []) = bt [] := by
  apply str_ext
  rw [StrLaws.replace_list (by rw [bt_length]; decide), StrLaws.replace_list (by rw [bt_length]; decide)]
  show StrLaws.replL [49] [] (StrLaws.replL [48] [] ((rowN ds).map fun x => x.toNat + 48)) = []
  rw [repl_filter, repl_filter, List.filter_filter, List.filter_eq_nil_iff]
  intro x hx
  obtain ⟨y, hy, rfl⟩ := List.mem_map.mp hx
  rcases rowN_bits ds y hy with rfl | rfl <;> simp
theorem repl_len (x y : Str) (hx : x.length ≤ 1000) : (Txt.replace x y (bt [])).length ≤ 10000 := by
  have := TK.replace_len x y (bt [])
  have h0 : (bt [] : Str).length = 0 := rfl
  rw [h0] at this
  omega
theorem cut_head {ds : List Nat} (h : GoodN ds) : cutS (bt (rowN ds)) none (some 1) = bt [1] := by
  apply str_ext
  obtain ⟨r, hr⟩ := row_head h
  rw [cut_list, HT.sIx_none, List.drop_zero, Nat.sub_zero, bt_cps, bt_cps]
  have h1 : HT.sIx (bt (rowN ds)).length (bt (rowN ds)).length (some 1) = 1 := by
    rw [bt_length]
    have := row_six h
    unfold HT.sIx
    simp
    omega
  rw [h1, hr] <;> rfl
theorem cut_tail {ds : List Nat} (h : GoodN ds) : cutS (bt (rowN ds)) (some (-5)) none = bt [0, 0, 0, 0, 0] := by
  apply str_ext
  obtain ⟨u, e⟩ := row_tail h
  have h6 := row_six h
  have h1 : HT.sIx (bt (rowN ds)).length 0 (some (-5)) = (rowN ds).length - 5 := by
    rw [bt_length]
    unfold HT.sIx
    simp
    omega
  rw [cut_list, HT.sIx_none, h1, bt_cps, bt_cps, bt_length, ← List.map_drop, ← List.map_take]
  rw [List.take_of_length_le (by rw [List.length_drop]; exact Nat.le_refl _), e, List.length_append, List.length_replicate, Nat.add_sub_cancel, List.drop_left] <;> rfl
theorem no_begin {ds es : List Nat} (hd : GoodN ds) (he : GoodN es) (hne : ds ≠ es) : (rowN ds).take (rowN es).length ≠ rowN es := fun e => by
  by_cases hl : (rowN es).length ≤ (rowN ds).length
  · exact hne (row_begins he hd rfl hl (by rw [e, List.take_length])).symm
  · have := congrArg List.length e
    rw [List.length_take] at this
    omega
theorem eRepl_ev {m : ME} {y z : Str} {ρ : Fr} {S S1 : Sto} {x : Str} (h : m ρ S = .ok (.str x) S1) (hl : x.length + (x.length + 1) * z.length ≤ 16777216) : eRepl m y z ρ S = .ok (.str (Txt.replace x y z)) S1 := by
  unfold eRepl
  rw [h]
  exact if_pos hl
theorem law_true : ∀ ns : List Int, ns.length ≤ 63 → ∃ S, sp_law [.scr ns] [] = .ok (.bl true) S := by
  intro ns hl
  have hm := manyN_bd (a := 3) (b := 8) (n := ns.length) (by decide) (by decide)
  generalize hM : (manyN 3 8 ns.length).toNat = M at *
  have hM8 : M ≤ 8 := by omega
  unfold sp_law m_law
  simp [many_ev, hM]
  refine cells_range (v := 1) _ (fun ρ => ∃ x1 x2 x3 x4 x5 x6 x7 x8, ρ = [some (.scr ns), x1, x2, x3, x4, x5, x6, x7, x8]) ⟨_, _, _, _, _, _, _, _, rfl⟩ ?_ (fun ρ S ⟨x1, x2, x3, x4, x5, x6, x7, x8, e⟩ => ⟨S, by subst e; simp⟩)
  rintro i ρ S hi ⟨x1, x2, x3, x4, x5, x6, x7, x8, rfl⟩
  show Nx _ (fun ρ _ => _)
  refine nx_of fun Q hQ => ?_
  generalize hIF : sIf (tAn (tV (eBin neD (eVar 3) (eVar 4))) _) _ _ = IF1
  generalize hTX : sSet 7 _ = TX
  generalize hI2 : sIf (tOo (tV (eBin neD (eSl (eVar 7) (oN) (oS (eC (.int 1)))) _)) _) _ _ = IF2
  generalize hI3 : sIf (tOo (tV (eBin neD (eRepl _ _ _) _)) _) _ _ = IF3
  simp -implicitDefEqProofs
  generalize hr_ : sp_law_bag [D.scr _, D.int _] _ = r_
  obtain ⟨S1, hq_, w1, hb1⟩ := bag_of hr_ (by omega) (by omega) (by assumption)
  clear hr_
  subst hq_
  simp -implicitDefEqProofs
  generalize hr_ : sp_law_figures [D.ref _] _ = r_
  obtain ⟨ds, S2, hq_, hg, w2, hb2⟩ := figures_of hr_ (by assumption)
  clear hr_
  subst hq_
  obtain ⟨es, S3, e3, he, w3⟩ := second_ev hb2 hg
  have r1 := row_of_ev hg.fig (by have := hg.len; omega) S3
  have r2 := row_of_ev he.fig (by have := he.len; omega) S3
  have hl1 := hg.rowlen
  have hl2 := he.rowlen
  simp -implicitDefEqProofs [e3, r1, r2]
  -- the beginning of the other's
  have f1 : IF1 [some (.scr ns), some (.int (i : Int)), some (.ref S.length), some (.str (numS ds)), some (.str (numS es)), some (.tup (iD (rowN ds))), some (.tup (iD (rowN es))), x7, x8] S3 = .nx [some (.scr ns), some (.int (i : Int)), some (.ref S.length), some (.str (numS ds)), some (.str (numS es)), some (.tup (iD (rowN ds))), some (.tup (iD (rowN es))), x7, x8] S3 := by
    subst hIF
    by_cases hne : numS ds = numS es
    · generalize iD (rowN ds) = R1
      generalize iD (rowN es) = R2
      simp -implicitDefEqProofs [hne]
    · have hde : ds ≠ es := fun q => hne (by rw [q])
      have c1 : MM.cutD (iD (rowN ds)) none (some ((rowN es).length : Int)) = iD ((rowN ds).take (rowN es).length) := by rw [cut_upto (by omega), Int.toNat_natCast]
      have c2 : MM.cutD (iD (rowN es)) none (some ((rowN ds).length : Int)) = iD ((rowN es).take (rowN ds).length) := by rw [cut_upto (by omega), Int.toNat_natCast]
      have q1 := eqD_ints S3 ((rowN ds).take (rowN es).length) (rowN es)
      have q2 := eqD_ints S3 ((rowN es).take (rowN ds).length) (rowN ds)
      rw [decide_eq_false (no_begin hg he hde)] at q1
      rw [decide_eq_false (no_begin he hg fun q => hde q.symm)] at q2
      have n1 := iD_length (rowN ds)
      have n2 := iD_length (rowN es)
      rw [← c1] at q1
      rw [← c2] at q2
      rw [← n1] at q2
      rw [← n2] at q1
      generalize iD (rowN ds) = R1 at *
      generalize iD (rowN es) = R2 at *
      simp -implicitDefEqProofs [hne, q1, q2]
  rw [f1, then_nx]
  have lc := lcOf (g := noG) (tg := tN 8) (m := eCall strD (aCons (eVar 8) (aNil))) (ρ := [some (.scr ns), some (.int (i : Int)), some (.ref S.length), some (.str (numS ds)), some (.str (numS es)), some (.tup (iD (rowN ds))), some (.tup (iD (rowN es))), x7, none]) (S := S3) D.int (fun v : Int => .str ⟨#[v.toNat + 48]⟩) trivial (l := rowN ds) (fun v hv => ⟨_, rfl, by
    have hs : strD [.int v] S3 = .ok (.str ⟨#[v.toNat + 48]⟩) S3 := by
      rcases rowN_bits ds v hv with rfl | rfl
      · rfl
      · exact strD_fig (i := 1) (by omega) (by omega)
    generalize iD (rowN ds) = R1
    generalize iD (rowN es) = R2
    simp -implicitDefEqProofs [hs]⟩)
  rw [show (rowN ds).map D.int = iD (rowN ds) from rfl] at lc
  have hj := join_signs (cs := (rowN ds).map fun x => x.toNat + 48) (by simp; omega) S3
  have hbt : (⟨((rowN ds).map fun x => x.toNat + 48).toArray⟩ : Str) = bt (rowN ds) := rfl
  rw [hbt, List.map_map] at hj
  have f2 : TX [some (.scr ns), some (.int (i : Int)), some (.ref S.length), some (.str (numS ds)), some (.str (numS es)), some (.tup (iD (rowN ds))), some (.tup (iD (rowN es))), x7, x8] S3 = .nx [some (.scr ns), some (.int (i : Int)), some (.ref S.length), some (.str (numS ds)), some (.str (numS es)), some (.tup (iD (rowN ds))), some (.tup (iD (rowN es))), some (.str (bt (rowN ds))), x8] S3 := by
    have hz : (iD (rowN ds)).length ≤ sizeLine := by rw [iD_length, sizeL]; omega
    have hj' : joinD (.str (Str.ofString "")) ((rowN ds).map fun v : Int => D.str ⟨#[v.toNat + 48]⟩) S3 = .ok (.str (bt (rowN ds))) S3 := hj
    subst hTX
    generalize ((rowN ds).map fun v : Int => D.str ⟨#[v.toNat + 48]⟩) = J at *
    generalize iD (rowN ds) = R1 at *
    generalize iD (rowN es) = R2 at *
    simp -implicitDefEqProofs [hz, lc, eMeth, hj']
  rw [sSeq_ev, f2, then_nx]
  have hbl : (bt (rowN ds)).length ≤ 1000 := by rw [bt_length]; omega
  have t1 : Str.ofString "1" = bt [1] := rfl
  have t11 : Str.ofString "11" = bt [1, 1] := rfl
  have t5 : Str.ofString "00000" = bt [0, 0, 0, 0, 0] := rfl
  have t0 : Str.ofString "0" = bt [0] := rfl
  have te : Str.ofString "" = bt [] := rfl
  have s1 := sl_str (lo := none) (hi := some 1) (S := S3) hbl
  have s2 := sl_str (lo := some (-5)) (hi := none) (S := S3) hbl
  rw [cut_head hg] at s1
  rw [cut_tail hg] at s2
  have k1 : countD (.str (bt (rowN ds))) [.str (bt [1, 1])] S3 = .ok (.int 0) S3 := by
    show R.ok (D.int (Txt.count _ _)) S3 = _
    rw [count_pair hg]
  have k2 : countD (.str (bt (rowN ds))) [.str (bt [0, 0, 0, 0, 0])] S3 = .ok (.int 1) S3 := by
    show R.ok (D.int (Txt.count _ _)) S3 = _
    rw [count_five hg]
  have f3 : IF2 [some (.scr ns), some (.int (i : Int)), some (.ref S.length), some (.str (numS ds)), some (.str (numS es)), some (.tup (iD (rowN ds))), some (.tup (iD (rowN es))), some (.str (bt (rowN ds))), x8] S3 = .nx [some (.scr ns), some (.int (i : Int)), some (.ref S.length), some (.str (numS ds)), some (.str (numS es)), some (.tup (iD (rowN ds))), some (.tup (iD (rowN es))), some (.str (bt (rowN ds))), x8] S3 := by
    subst hI2
    rw [t1, t11, t5]
    generalize iD (rowN ds) = R1 at *
    generalize iD (rowN es) = R2 at *
    generalize bt (rowN ds) = BT at *
    generalize bt [1] = b1 at *
    generalize bt [1, 1] = b11 at *
    generalize bt [0, 0, 0, 0, 0] = b5 at *
    simp -implicitDefEqProofs [eMeth, isStrD, s1, s2, k1, k2]
  rw [sSeq_ev, f3, then_nx]
  have hrl := repl_len (bt (rowN ds)) (bt [0]) hbl
  have b0 : (bt [] : Str).length = 0 := rfl
  have er : eRepl (eRepl (eVar 7) (bt [0]) (bt [])) (bt [1]) (bt []) [some (.scr ns), some (.int (i : Int)), some (.ref S.length), some (.str (numS ds)), some (.str (numS es)), some (.tup (iD (rowN ds))), some (.tup (iD (rowN es))), some (.str (bt (rowN ds))), x8] S3 = .ok (.str (bt [])) S3 := by
    rw [eRepl_ev (x := Txt.replace (bt (rowN ds)) (bt [0]) (bt [])) (eRepl_ev (x := bt (rowN ds)) rfl (by rw [b0]; omega)) (by rw [b0]; omega), repl_row]
  have hln : (iD (rowN ds)).length ≤ 58 := by rw [iD_length]; exact hl1
  have hQ' := hQ [some (.scr ns), some (.int (i : Int)), some (.ref S.length), some (.str (numS ds)), some (.str (numS es)), some (.tup (iD (rowN ds))), some (.tup (iD (rowN es))), some (.str (bt (rowN ds))), x8] S3 ⟨_, _, _, _, _, _, _, _, rfl⟩
  subst hI3
  rw [t0, t1, te]
  generalize hER : eRepl (eRepl (eVar 7) (bt [0]) (bt [])) (bt [1]) (bt []) = ER at *
  generalize iD (rowN ds) = R1 at *
  generalize iD (rowN es) = R2 at *
  generalize bt (rowN ds) = BT at *
  generalize bt [] = bE at *
  have hnn : ¬ (R1.length : Int) > 58 := by omega
  simp -implicitDefEqProofs [er, hnn]
  exact hQ'
end LK04

namespace LK04
open PySem PySem.Spec PyProof.Rows L2 MM CW
def topS (i : Nat) : Stmt := PySem.Challenge.pw_callwheel_k04_whole_no_row_begins_anothe.main.body.getD i (.Pass ⟨0, 0, 0, 0⟩)
abbrev s__law_many : Stmt := topS 9
abbrev N__law_many : List Str := ["_law_script", "_law_least", "_law_most"]
theorem sc__law_many : FnScope N__law_many ["_law_script", "_law_least", "_law_most"] (defScope s__law_many) := ⟨rfl, rfl, rfl, by decide +kernel, rfl, by decide +kernel, by decide +kernel⟩
abbrev s__law_bag : Stmt := topS 7
abbrev N__law_bag : List Str := ["_law_script", "_law_at", "_law_cell", "_law_mix", "_law_k"]
theorem sc__law_bag : FnScope N__law_bag ["_law_script", "_law_at"] (defScope s__law_bag) := ⟨rfl, rfl, rfl, by decide +kernel, rfl, by decide +kernel, by decide +kernel⟩
abbrev s__law_draw : Stmt := topS 8
abbrev N__law_draw : List Str := ["_law_bag_here", "_law_many_here", "_law_digit", "_law_primes", "_law_found", "_law_room"]
theorem sc__law_draw : FnScope N__law_draw ["_law_bag_here", "_law_many_here"] (defScope s__law_draw) := ⟨rfl, rfl, rfl, by decide +kernel, rfl, by decide +kernel, by decide +kernel⟩
abbrev s__law_figures : Stmt := topS 10
abbrev N__law_figures : List Str := ["_law_bag_here", "_law_many_here", "_law_great", "_law_left", "_law_found", "_law_place", "_law_more"]
theorem sc__law_figures : FnScope N__law_figures ["_law_bag_here"] (defScope s__law_figures) := ⟨rfl, rfl, rfl, by decide +kernel, rfl, by decide +kernel, by decide +kernel⟩
abbrev s__law_is_number : Stmt := topS 11
abbrev N__law_is_number : List Str := ["_law_thing", "_law_sign"]
theorem sc__law_is_number : FnScope N__law_is_number ["_law_thing"] (defScope s__law_is_number) := ⟨rfl, rfl, rfl, by decide +kernel, rfl, by decide +kernel, by decide +kernel⟩
abbrev s__law_second : Stmt := topS 12
abbrev N__law_second : List Str := ["_law_bag_here", "_law_one", "_law_way", "_law_other", "_law_spot"]
theorem sc__law_second : FnScope N__law_second ["_law_bag_here", "_law_one"] (defScope s__law_second) := ⟨rfl, rfl, rfl, by decide +kernel, rfl, by decide +kernel, by decide +kernel⟩
abbrev s_figure_row : Stmt := topS 4
abbrev N_figure_row : List Str := ["figure"]
theorem sc_figure_row : FnScope N_figure_row ["figure"] (defScope s_figure_row) := ⟨rfl, rfl, rfl, by decide +kernel, rfl, by decide +kernel, by decide +kernel⟩
abbrev s_row_of : Stmt := topS 5
abbrev N_row_of : List Str := ["number", "found", "figure"]
theorem sc_row_of : FnScope N_row_of ["number"] (defScope s_row_of) := ⟨rfl, rfl, rfl, by decide +kernel, rfl, by decide +kernel, by decide +kernel⟩
abbrev s_law : Stmt := topS 13
abbrev N_law : List Str := ["_law_script", "_law_k", "_law_bag_here", "_law_one", "_law_other", "_law_row", "_law_far", "_law_text", "_law_sign"]
theorem sc_law : FnScope N_law ["_law_script"] (defScope s_law) := ⟨rfl, rfl, rfl, by decide +kernel, rfl, by decide +kernel, by decide +kernel⟩
structure Txt (K : PySem.W.Frag) (mg : Str → Option Value) (c : Cl) : Prop where
  d__law_many : Def K mg "_law_many" ["_law_script", "_law_least", "_law_most"] s__law_many
  d__law_bag : Def K mg "_law_bag" ["_law_script", "_law_at"] s__law_bag
  d__law_draw : Def K mg "_law_draw" ["_law_bag_here", "_law_many_here"] s__law_draw
  d__law_figures : Def K mg "_law_figures" ["_law_bag_here"] s__law_figures
  d__law_is_number : Def K mg "_law_is_number" ["_law_thing"] s__law_is_number
  d__law_second : Def K mg "_law_second" ["_law_bag_here", "_law_one"] s__law_second
  d_figure_row : Def K mg "figure_row" ["figure"] s_figure_row
  d_row_of : Def K mg "row_of" ["number"] s_row_of
  d_law : Def K mg "law" ["_law_script"] s_law
  n_abs : mg "abs" = none
  n_int : mg "int" = none
  n_isinstance : mg "isinstance" = none
  n_len : mg "len" = none
  n_list : mg "list" = none
  n_max : mg "max" = none
  n_min : mg "min" = none
  n_range : mg "range" = none
  n_str : mg "str" = none
  n_sum : mg "sum" = none
  c_BREAK : ∃ t, mg "BREAK" = some (.int 1 t)
  c_CLOSED : ∃ t, mg "CLOSED" = some (.int 0 t)
  c_GAP : ∃ t, mg "GAP" = some (.int 2 t)
section
variable {P : Program} {w : World} {K : PySem.W.Frag} {mg : Str → Option Value} {base : Heap} {c : Cl}
set_option maxHeartbeats 4000000 in
theorem ok__law_many (T : Txt K mg c) : FnG P w K mg base c 1 "_law_many" ["_law_script", "_law_least", "_law_most"] CW.sp_law_many :=
  fnG_of (k := 0) (N := N__law_many) T.d__law_many sc__law_many fun f cdv A outer s H E hr tk hp => dss_one (ds_ret (de_pl (dn_range1 rfl rfl T.n_list rfl T.n_range (de_callB (call_max2 rfl) fits_max rfl T.n_max boot_max (da_cons (de_var (pv 1)) (da_cons (de_callB (call_min2 rfl) fits_min rfl T.n_min boot_min (da_cons (de_var (pv 2)) (da_cons (de_callB call_len fits_len rfl T.n_len boot_len (da_cons (de_var (pv 0)) (da_nil))) (da_nil)))) (da_nil)))))))
set_option maxHeartbeats 4000000 in
theorem ok__law_bag (T : Txt K mg c) : FnG P w K mg base c 1 "_law_bag" ["_law_script", "_law_at"] CW.sp_law_bag :=
  fnG_of (k := 0) (N := N__law_bag) T.d__law_bag sc__law_bag fun f cdv A outer s H E hr tk hp => dss_cons (ds_set (i := 2) sc__law_bag.nd rfl (Or.inl rfl) (de_int))
    (dss_cons (ds_if (dt_cmp op_ltA fits_ord (de_var (pv 1)) (de_callB call_len fits_len rfl T.n_len boot_len (da_cons (de_var (pv 0)) (da_nil))) (nomark _)) (dss_one (ds_set (i := 2) sc__law_bag.nd rfl (Or.inl rfl) (de_callB call_abs fits_abs rfl T.n_abs boot_abs (da_cons (de_ix (de_var (pv 0)) (de_var (pv 1))) (da_nil))))) (dss_nil))
    (dss_cons (ds_set (i := 3) sc__law_bag.nd rfl (Or.inl rfl) (de_binF op_addA fits_add (de_int) (de_binF op_mulA fits_mul (de_int) (de_var (pv 1)))))
    (dss_cons (ds_for hp rfl (di_range1 rfl T.n_range (da_cons (de_callB (call_min2 rfl) fits_min rfl T.n_min boot_min (da_cons (de_callB call_len fits_len rfl T.n_len boot_len (da_cons (de_var (pv 0)) (da_nil))) (da_cons (de_int) (da_nil)))) (da_nil))) (dg_name (pg_name (i := 4) sc__law_bag.nd rfl (Or.inl rfl))) (dss_one (ds_set (i := 3) sc__law_bag.nd rfl (Or.inl rfl) (de_bin op_mod fits_mod (de_binF op_addA fits_add (de_binF op_addA fits_add (de_bin op_pow fits_pow (de_var (pv 3)) (de_int)) (de_bin op_mod fits_mod (de_ix (de_var (pv 0)) (de_var (pv 4))) (de_int))) (de_var (pv 4))) (de_int)))))
    (dss_cons (ds_if (dt_cmp op_ltA fits_ord (de_var (pv 2)) (de_bin op_pow fits_pow (de_int) (de_int)) (nomark _)) (dss_one (ds_set (i := 2) sc__law_bag.nd rfl (Or.inl rfl) (de_bin op_pow fits_pow (de_int) (de_int)))) (dss_nil))
    (dss_one (ds_ret (de_new (dn_lst (da_cons (de_bin op_sub fits_sub (de_var (pv 2)) (de_bin op_pow fits_pow (de_int) (de_int))) (da_cons (de_var (pv 3)) (da_cons (de_bin op_mod fits_mod (de_var (pv 1)) (de_int)) (da_nil))))))))))))
set_option maxHeartbeats 4000000 in
theorem ok__law_draw (T : Txt K mg c) : FnG P w K mg base c 1 "_law_draw" ["_law_bag_here", "_law_many_here"] CW.sp_law_draw :=
  fnG_of (k := 0) (N := N__law_draw) T.d__law_draw sc__law_draw fun f cdv A outer s H E hr tk hp => dss_cons (ds_if (dt_cmp op_gtA fits_ord (de_ix (de_var (pv 0)) (de_int)) (de_int) (nomark _)) (dss_cons (ds_set (i := 2) sc__law_draw.nd rfl (Or.inl rfl) (de_bin op_mod fits_mod (de_ix (de_var (pv 0)) (de_int)) (de_var (pv 1))))
    (dss_cons (ds_setIx (de_bin op_fdivW fits_fdiv (de_ix (de_var (pv 0)) (de_int)) (de_var (pv 1))) (de_var (pv 0)) (de_int))
    (dss_one (ds_ret (de_var (pv 2)))))) (dss_nil))
    (dss_cons (ds_set (i := 3) sc__law_draw.nd rfl (Or.inl rfl) (de_tup (da_cons (de_int) (da_cons (de_int) (da_cons (de_int) (da_cons (de_int) (da_cons (de_int) (da_cons (de_int) (da_cons (de_int) (da_cons (de_int) (da_cons (de_int) (da_cons (de_int) (da_cons (de_int) (da_nil))))))))))))))
    (dss_cons (ds_set (i := 4) sc__law_draw.nd rfl (Or.inl rfl) (de_int))
    (dss_cons (ds_set (i := 5) sc__law_draw.nd rfl (Or.inl rfl) (de_int))
    (dss_cons (ds_while hp (dt_cmp op_ltA fits_ord (de_var (pv 5)) (de_binF op_mulA fits_mul (de_var (pv 1)) (de_int)) (nomark _)) (dss_cons (ds_setIx (de_bin op_mod fits_mod (de_binF op_addA fits_add (de_binF op_mulA fits_mul (de_ix (de_var (pv 0)) (de_int)) (de_int)) (de_int)) (de_int)) (de_var (pv 0)) (de_int))
    (dss_cons (ds_setIx (de_bin op_mod fits_mod (de_binF op_addA fits_add (de_ix (de_var (pv 0)) (de_int)) (de_int)) (de_int)) (de_var (pv 0)) (de_int))
    (dss_cons (ds_set (i := 4) sc__law_draw.nd rfl (Or.inl rfl) (de_binF op_addA fits_add (de_binF op_mulA fits_mul (de_var (pv 4)) (de_int)) (de_bin op_mod fits_mod (de_bin op_pow fits_pow (de_ix (de_var (pv 0)) (de_int)) (de_int)) (de_ix (de_var (pv 3)) (de_ix (de_var (pv 0)) (de_int))))))
    (dss_one (ds_set (i := 5) sc__law_draw.nd rfl (Or.inl rfl) (de_binF op_mulA fits_mul (de_var (pv 5)) (de_int))))))))
    (dss_one (ds_ret (de_bin op_mod fits_mod (de_var (pv 4)) (de_var (pv 1)))))))))
set_option maxHeartbeats 4000000 in
theorem ok__law_figures (T : Txt K mg c) : FnG P w K mg base c 2 "_law_figures" ["_law_bag_here"] CW.sp_law_figures :=
  fnG_of (k := 1) (N := N__law_figures) T.d__law_figures sc__law_figures fun f cdv A outer s H E hr tk hp => dss_cons (ds_set (i := 1) sc__law_figures.nd rfl (Or.inl rfl) (de_binF op_addA fits_add (de_int) (de_callG (ok__law_draw T) hr (by decide) rfl tk (da_cons (de_var (pv 0)) (da_cons (de_int) (da_nil))) rfl (aCons_len (aCons_len aNil_len)))))
    (dss_cons (ds_set (i := 2) sc__law_figures.nd rfl (Or.inl rfl) (de_callG (ok__law_draw T) hr (by decide) rfl tk (da_cons (de_var (pv 0)) (da_cons (de_int) (da_nil))) rfl (aCons_len (aCons_len aNil_len))))
    (dss_cons (ds_set (i := 3) sc__law_figures.nd rfl (Or.inl rfl) (de_bin op_sub fits_sub (de_int) (de_var (pv 1))))
    (dss_cons (ds_set (i := 4) sc__law_figures.nd rfl (Or.inl rfl) (de_str))
    (dss_cons (ds_for hp rfl (di_range1 rfl T.n_range (da_cons (de_var (pv 1)) (da_nil))) (dg_name (pg_name (i := 5) sc__law_figures.nd rfl (Or.inl rfl))) (dss_cons (ds_set (i := 6) sc__law_figures.nd rfl (Or.inl rfl) (de_callG (ok__law_draw T) hr (by decide) rfl tk (da_cons (de_var (pv 0)) (da_cons (de_binF op_addA fits_add (de_callB (call_min2 rfl) fits_min rfl T.n_min boot_min (da_cons (de_var (pv 3)) (da_cons (de_ix (de_tup (da_cons (de_int) (da_cons (de_int) (da_cons (de_int) (da_cons (de_int) (da_nil)))))) (de_var (pv 2))) (da_nil)))) (de_int)) (da_nil))) rfl (aCons_len (aCons_len aNil_len))))
    (dss_cons (ds_set (i := 3) sc__law_figures.nd rfl (Or.inl rfl) (de_bin op_sub fits_sub (de_var (pv 3)) (de_var (pv 6))))
    (dss_one (ds_set (i := 4) sc__law_figures.nd rfl (Or.inl rfl) (de_binF op_addA fits_add (de_var (pv 4)) (de_callTy call_str_int fits_str rfl T.n_str boot_str (da_cons (de_binF op_addA fits_add (de_int) (de_var (pv 6))) (da_nil)))))))))
    (dss_one (ds_ret (de_var (pv 4))))))))
set_option maxHeartbeats 4000000 in
theorem ok__law_is_number (T : Txt K mg c) : FnG P w K mg base c 1 "_law_is_number" ["_law_thing"] CW.sp_law_is_number :=
  fnG_of (k := 0) (N := N__law_is_number) T.d__law_is_number sc__law_is_number fun f cdv A outer s H E hr tk hp => dss_cons (ds_if (dt_w (dw_or (dt_not (dt_val (de_isi .str rfl T.n_isinstance rfl T.n_str boot_str (de_var (pv 0))))) (dw_or1 (dt_cmp (op_notInA hr.units) fits_notIn (de_callB call_len fits_len rfl T.n_len boot_len (da_cons (de_var (pv 0)) (da_nil))) (de_tup (da_cons (de_int) (da_cons (de_int) (da_cons (de_int) (da_cons (de_int) (da_nil)))))) (by rfl))))) (dss_one (ds_ret (de_bl))) (dss_nil))
    (dss_cons (ds_if (dt_cmp (op_neA hr.units) fits_ne (de_pl (dn_lcIf (own := [("_law_sign", 1)]) rfl sc__law_is_number.nd (di_any (de_var (pv 0))) (blkOk_by (own := [("_law_sign", 1)]) (N := N__law_is_number) (sc := defScope s__law_is_number) (by decide +kernel)) (fun _ _ _ _ _ => dgo_name (pg_name (i := 1) sc__law_is_number.nd rfl (Or.inl rfl)) (by decide)) (fun _ _ _ _ _ => dt_not (dt_chain op_leA op_leA fits_ord fits_ord (de_str) (de_var (pv 1)) (de_str))) (fun _ _ _ _ _ => de_var (pv 1)))) (de_pl (dn_lst (da_nil))) (nomark _)) (dss_one (ds_ret (de_bl))) (dss_nil))
    (dss_one (ds_ret (de_cmp op_leA fits_ord (de_lsB (cr_sum rfl) fits_sum rfl T.n_sum boot_sum (dl_new (dn_lc (own := [("_law_sign", 1)]) rfl sc__law_is_number.nd (di_any (de_var (pv 0))) (blkOk_by (own := [("_law_sign", 1)]) (N := N__law_is_number) (sc := defScope s__law_is_number) (by decide +kernel)) (fun _ _ _ _ _ => dgo_name (pg_name (i := 1) sc__law_is_number.nd rfl (Or.inl rfl)) (by decide)) (fun _ _ _ _ _ => de_callTy cr_intA fits_int rfl T.n_int boot_int (da_cons (de_var (pv 1)) (da_nil)))))) (de_int) (nomark _)))))
set_option maxHeartbeats 4000000 in
theorem ok__law_second (T : Txt K mg c) : FnG P w K mg base c 3 "_law_second" ["_law_bag_here", "_law_one"] sp__law_second :=
  fnG_of (k := 2) (N := N__law_second) T.d__law_second sc__law_second fun f cdv A outer s H E hr tk hp => dss_cons (ds_set (i := 2) sc__law_second.nd rfl (Or.inl rfl) (de_callG (ok__law_draw T) hr (by decide) rfl tk (da_cons (de_var (pv 0)) (da_cons (de_int) (da_nil))) rfl (aCons_len (aCons_len aNil_len))))
    (dss_cons (ds_set (i := 3) sc__law_second.nd rfl (Or.inl rfl) (de_callG (ok__law_figures T) hr (by decide) rfl tk (da_cons (de_var (pv 0)) (da_nil)) rfl (aCons_len aNil_len)))
    (dss_cons (ds_if (dt_cmp (op_eqA hr.units) fits_eq (de_var (pv 2)) (de_int) (nomark _)) (dss_one (ds_set (i := 3) sc__law_second.nd rfl (Or.inl rfl) (de_sl (de_var (pv 1)) (do_none) (do_some (de_neg (de_int)))))) (dss_one (ds_if (dt_cmp (op_eqA hr.units) fits_eq (de_var (pv 2)) (de_int) (nomark _)) (dss_one (ds_set (i := 3) sc__law_second.nd rfl (Or.inl rfl) (de_binF op_addA fits_add (de_var (pv 1)) (de_callTy call_str_int fits_str rfl T.n_str boot_str (da_cons (de_binF op_addA fits_add (de_int) (de_callG (ok__law_draw T) hr (by decide) rfl tk (da_cons (de_var (pv 0)) (da_cons (de_int) (da_nil))) rfl (aCons_len (aCons_len aNil_len)))) (da_nil)))))) (dss_one (ds_if (dt_cmp (op_eqA hr.units) fits_eq (de_var (pv 2)) (de_int) (nomark _)) (dss_cons (ds_set (i := 4) sc__law_second.nd rfl (Or.inl rfl) (de_callG (ok__law_draw T) hr (by decide) rfl tk (da_cons (de_var (pv 0)) (da_cons (de_callB call_len fits_len rfl T.n_len boot_len (da_cons (de_var (pv 1)) (da_nil))) (da_nil))) rfl (aCons_len (aCons_len aNil_len))))
    (dss_one (ds_set (i := 3) sc__law_second.nd rfl (Or.inl rfl) (de_binF op_addA fits_add (de_binF op_addA fits_add (de_sl (de_var (pv 1)) (do_none) (do_some (de_var (pv 4)))) (de_callTy call_str_int fits_str rfl T.n_str boot_str (da_cons (de_binF op_addA fits_add (de_int) (de_callG (ok__law_draw T) hr (by decide) rfl tk (da_cons (de_var (pv 0)) (da_cons (de_int) (da_nil))) rfl (aCons_len (aCons_len aNil_len)))) (da_nil)))) (de_sl (de_var (pv 1)) (do_some (de_binF op_addA fits_add (de_var (pv 4)) (de_int))) (do_none)))))) (dss_nil))))))
    (dss_one (ds_ret (de_if (dt_val (de_callG (ok__law_is_number T) hr (by decide) rfl tk (da_cons (de_var (pv 3)) (da_nil)) rfl (aCons_len aNil_len))) (de_var (pv 3)) (de_var (pv 1)))))))
set_option maxHeartbeats 4000000 in
theorem ok_figure_row (T : Txt K mg c) : FnG P w K mg base c 1 "figure_row" ["figure"] CW.sp_figure_row :=
  fnG_of (k := 0) (N := N_figure_row) T.d_figure_row sc_figure_row fun f cdv A outer s H E hr tk hp => dss_one (ds_ret (de_binF op_addA fits_add (de_binF op_mulA fits_mul (de_tup (da_cons (de_gint rfl T.c_BREAK) (da_cons (de_gint rfl T.c_CLOSED) (da_nil)))) (de_callTy cr_intA fits_int rfl T.n_int boot_int (da_cons (de_var (pv 0)) (da_nil)))) (de_binF op_mulA fits_mul (de_tup (da_cons (de_gint rfl T.c_CLOSED) (da_nil))) (de_gint rfl T.c_GAP))))
set_option maxHeartbeats 4000000 in
theorem ok_row_of (T : Txt K mg c) : FnG P w K mg base c 2 "row_of" ["number"] CW.sp_row_of :=
  fnG_of (k := 1) (N := N_row_of) T.d_row_of sc_row_of fun f cdv A outer s H E hr tk hp => dss_cons (ds_set (i := 1) sc_row_of.nd rfl (Or.inl rfl) (de_tup (da_nil)))
    (dss_cons (ds_for hp rfl (di_any (de_var (pv 0))) (dg_name (pg_name (i := 2) sc_row_of.nd rfl (Or.inl rfl))) (dss_one (ds_set (i := 1) sc_row_of.nd rfl (Or.inl rfl) (de_binF op_addA fits_add (de_var (pv 1)) (de_callG (ok_figure_row T) hr (by decide) rfl tk (da_cons (de_var (pv 2)) (da_nil)) rfl (aCons_len aNil_len))))))
    (dss_one (ds_ret (de_binF op_addA fits_add (de_var (pv 1)) (de_binF op_mulA fits_mul (de_tup (da_cons (de_gint rfl T.c_CLOSED) (da_nil))) (de_gint rfl T.c_GAP))))))
set_option maxHeartbeats 4000000 in
theorem ok_law (T : Txt K mg c) {f : Addr} {fd : FuncData} (F : Fun K "law" "law" s_law f fd) : FnD P w K mg base c 4 f fd ["_law_script"] sp_law :=
  fnD_of (k := 3) (N := N_law) F sc_law fun cdv A outer s H E hr tk hp => dss_cons (ds_for hp rfl (di_any (de_callG (ok__law_many T) hr (by decide) rfl tk (da_cons (de_var (pv 0)) (da_cons (de_int) (da_cons (de_int) (da_nil)))) rfl (aCons_len (aCons_len (aCons_len aNil_len))))) (dg_name (pg_name (i := 1) sc_law.nd rfl (Or.inl rfl))) (dss_cons (ds_set (i := 2) sc_law.nd rfl (Or.inl rfl) (de_callG (ok__law_bag T) hr (by decide) rfl tk (da_cons (de_var (pv 0)) (da_cons (de_var (pv 1)) (da_nil))) rfl (aCons_len (aCons_len aNil_len))))
    (dss_cons (ds_set (i := 3) sc_law.nd rfl (Or.inl rfl) (de_callG (ok__law_figures T) hr (by decide) rfl tk (da_cons (de_var (pv 2)) (da_nil)) rfl (aCons_len aNil_len)))
    (dss_cons (ds_set (i := 4) sc_law.nd rfl (Or.inl rfl) (de_callG (ok__law_second T) hr (by decide) rfl tk (da_cons (de_var (pv 2)) (da_cons (de_var (pv 3)) (da_nil))) rfl (aCons_len (aCons_len aNil_len))))
    (dss_cons (ds_par (i := 5) (j := 6) rfl sc_law.nd rfl rfl (by decide) rfl rfl (da_cons (de_callG (ok_row_of T) hr (by decide) rfl tk (da_cons (de_var (pv 3)) (da_nil)) rfl (aCons_len aNil_len)) (da_cons (de_callG (ok_row_of T) hr (by decide) rfl tk (da_cons (de_var (pv 4)) (da_nil)) rfl (aCons_len aNil_len)) (da_nil))))
    (dss_cons (ds_if (dt_w (dw_and (dt_cmp (op_neA hr.units) fits_ne (de_var (pv 3)) (de_var (pv 4)) (nomark _)) (dw_and1 (dt_w (dw_or (dt_cmp (op_eqA hr.units) fits_eq (de_sl (de_var (pv 5)) (do_none) (do_some (de_callB call_len fits_len rfl T.n_len boot_len (da_cons (de_var (pv 6)) (da_nil))))) (de_var (pv 6)) (nomark _)) (dw_or1 (dt_cmp (op_eqA hr.units) fits_eq (de_sl (de_var (pv 6)) (do_none) (do_some (de_callB call_len fits_len rfl T.n_len boot_len (da_cons (de_var (pv 5)) (da_nil))))) (de_var (pv 5)) (nomark _)))))))) (dss_one (ds_ret (de_bl))) (dss_nil))
    (dss_cons (ds_set (i := 7) sc_law.nd rfl (Or.inl rfl) (de_bmL PySem.F.plainAttrs_str PySem.F.slot_str_join PySem.F.type_str_join mt_join fits_join typed_str (de_str) (dl_new (dn_lc (own := [("_law_sign", 8)]) rfl sc_law.nd (di_any (de_var (pv 5))) (blkOk_by (own := [("_law_sign", 8)]) (N := N_law) (sc := defScope s_law) (by decide +kernel)) (fun _ _ _ _ _ => dgo_name (pg_name (i := 8) sc_law.nd rfl (Or.inl rfl)) (by decide)) (fun _ _ _ _ _ => de_callTy call_str_int fits_str rfl T.n_str boot_str (da_cons (de_var (pv 8)) (da_nil)))))))
    (dss_two (dt1_or (dt1_cmp (op_neA hr.units) fits_ne (de_sl (de_var (pv 7)) (do_none) (do_some (de_int))) (nomark _)) (dw_or (dt_cmp op_gtA fits_ord (de_bm PySem.F.plainAttrs_str PySem.F.slot_str_count PySem.F.type_str_count mt_count fits_count typed_str (de_var (pv 7)) (da_cons (de_str) (da_nil))) (de_int) (nomark _)) (dw_or (dt_cmp (op_neA hr.units) fits_ne (de_bm PySem.F.plainAttrs_str PySem.F.slot_str_count PySem.F.type_str_count mt_count fits_count typed_str (de_var (pv 7)) (da_cons (de_str) (da_nil))) (de_int) (nomark _)) (dw_or1 (dt_cmp (op_neA hr.units) fits_ne (de_sl (de_var (pv 7)) (do_some (de_neg (de_int))) (do_none)) (de_str) (nomark _)))))) (dss_one (ds_ret (de_bl))) (dss_nil) (dtt_or (dtt_cmp (op_neA hr.units) fits_ne (det_repl (det_repl (det_of (de_var (pv 7))) (by decide +kernel)) (by decide +kernel)) (de_str) (nomark _)) (dw_or1 (dt_cmp op_gtA fits_ord (de_callB call_len fits_len rfl T.n_len boot_len (da_cons (de_var (pv 5)) (da_nil))) (de_int) (nomark _)))) (dss_one (ds_ret (de_bl))) (dss_nil)))))))))
    (dss_one (ds_ret (de_bl)))
end
end LK04

namespace LK04
open PySem PySem.Spec PyProof.Rows L2 MM CW
set_option maxHeartbeats 4000000 in
theorem txt_mk {K : PySem.W.Frag} {h : Heap} {mg : Str → Option Value} (X : K.In h) (G : h.Ns mainGlobals mg)
  {f1 : Addr} {oc1 kV1 dc1 pm1 cd1 ct1 : Value} {od1 an1 : Option Addr} {sl1 : Array (Option Value)}
  {f2 : Addr} {oc2 kV2 dc2 pm2 cd2 ct2 : Value} {od2 an2 : Option Addr} {sl2 : Array (Option Value)}
  {f3 : Addr} {oc3 kV3 dc3 pm3 cd3 ct3 : Value} {od3 an3 : Option Addr} {sl3 : Array (Option Value)}
  {f4 : Addr} {oc4 kV4 dc4 pm4 cd4 ct4 : Value} {od4 an4 : Option Addr} {sl4 : Array (Option Value)}
  {f5 : Addr} {oc5 kV5 dc5 pm5 cd5 ct5 : Value} {od5 an5 : Option Addr} {sl5 : Array (Option Value)}
  {f6 : Addr} {oc6 kV6 dc6 pm6 cd6 ct6 : Value} {od6 an6 : Option Addr} {sl6 : Array (Option Value)}
  {f7 : Addr} {oc7 kV7 dc7 pm7 cd7 ct7 : Value} {od7 an7 : Option Addr} {sl7 : Array (Option Value)}
  {f8 : Addr} {oc8 kV8 dc8 pm8 cd8 ct8 : Value} {od8 an8 : Option Addr} {sl8 : Array (Option Value)}
  {fL : Addr} {ocL kVL dcL pmL cdL ctL : Value} {odL anL : Option Addr} {slL : Array (Option Value)}
  {t_BREAK : Tok}
  {t_CLOSED : Tok}
  {t_GAP : Tok}
  (a1 : PySem.W.nsIn K mainGlobals "_law_many" = some (some (.ref f1))) (l1 : K.lookup f1 = some ⟨oc1, od1, .func (PySem.W.fnOf "_law_many" "_law_many" (defArgs s__law_many) (defBody s__law_many) (defScope s__law_many) .none kV1 dc1 pm1 an1 cd1 ct1), sl1⟩) (c1 : PySem.W.codeIn K cd1 "_law_many" = true) (k1 : PySem.W.keepIn K (.ref f1) = true)
  (a2 : PySem.W.nsIn K mainGlobals "_law_bag" = some (some (.ref f2))) (l2 : K.lookup f2 = some ⟨oc2, od2, .func (PySem.W.fnOf "_law_bag" "_law_bag" (defArgs s__law_bag) (defBody s__law_bag) (defScope s__law_bag) .none kV2 dc2 pm2 an2 cd2 ct2), sl2⟩) (c2 : PySem.W.codeIn K cd2 "_law_bag" = true) (k2 : PySem.W.keepIn K (.ref f2) = true)
  (a3 : PySem.W.nsIn K mainGlobals "_law_draw" = some (some (.ref f3))) (l3 : K.lookup f3 = some ⟨oc3, od3, .func (PySem.W.fnOf "_law_draw" "_law_draw" (defArgs s__law_draw) (defBody s__law_draw) (defScope s__law_draw) .none kV3 dc3 pm3 an3 cd3 ct3), sl3⟩) (c3 : PySem.W.codeIn K cd3 "_law_draw" = true) (k3 : PySem.W.keepIn K (.ref f3) = true)
  (a4 : PySem.W.nsIn K mainGlobals "_law_figures" = some (some (.ref f4))) (l4 : K.lookup f4 = some ⟨oc4, od4, .func (PySem.W.fnOf "_law_figures" "_law_figures" (defArgs s__law_figures) (defBody s__law_figures) (defScope s__law_figures) .none kV4 dc4 pm4 an4 cd4 ct4), sl4⟩) (c4 : PySem.W.codeIn K cd4 "_law_figures" = true) (k4 : PySem.W.keepIn K (.ref f4) = true)
  (a5 : PySem.W.nsIn K mainGlobals "_law_is_number" = some (some (.ref f5))) (l5 : K.lookup f5 = some ⟨oc5, od5, .func (PySem.W.fnOf "_law_is_number" "_law_is_number" (defArgs s__law_is_number) (defBody s__law_is_number) (defScope s__law_is_number) .none kV5 dc5 pm5 an5 cd5 ct5), sl5⟩) (c5 : PySem.W.codeIn K cd5 "_law_is_number" = true) (k5 : PySem.W.keepIn K (.ref f5) = true)
  (a6 : PySem.W.nsIn K mainGlobals "_law_second" = some (some (.ref f6))) (l6 : K.lookup f6 = some ⟨oc6, od6, .func (PySem.W.fnOf "_law_second" "_law_second" (defArgs s__law_second) (defBody s__law_second) (defScope s__law_second) .none kV6 dc6 pm6 an6 cd6 ct6), sl6⟩) (c6 : PySem.W.codeIn K cd6 "_law_second" = true) (k6 : PySem.W.keepIn K (.ref f6) = true)
  (a7 : PySem.W.nsIn K mainGlobals "figure_row" = some (some (.ref f7))) (l7 : K.lookup f7 = some ⟨oc7, od7, .func (PySem.W.fnOf "figure_row" "figure_row" (defArgs s_figure_row) (defBody s_figure_row) (defScope s_figure_row) .none kV7 dc7 pm7 an7 cd7 ct7), sl7⟩) (c7 : PySem.W.codeIn K cd7 "figure_row" = true) (k7 : PySem.W.keepIn K (.ref f7) = true)
  (a8 : PySem.W.nsIn K mainGlobals "row_of" = some (some (.ref f8))) (l8 : K.lookup f8 = some ⟨oc8, od8, .func (PySem.W.fnOf "row_of" "row_of" (defArgs s_row_of) (defBody s_row_of) (defScope s_row_of) .none kV8 dc8 pm8 an8 cd8 ct8), sl8⟩) (c8 : PySem.W.codeIn K cd8 "row_of" = true) (k8 : PySem.W.keepIn K (.ref f8) = true)
  (aL : PySem.W.nsIn K mainGlobals "law" = some (some (.ref fL))) (lL : K.lookup fL = some ⟨ocL, odL, .func (PySem.W.fnOf "law" "law" (defArgs s_law) (defBody s_law) (defScope s_law) .none kVL dcL pmL anL cdL ctL), slL⟩) (cL : PySem.W.codeIn K cdL "law" = true) (kL : PySem.W.keepIn K (.ref fL) = true)
  (z_abs : PySem.W.nsIn K mainGlobals "abs" = some none)
  (z_int : PySem.W.nsIn K mainGlobals "int" = some none)
  (z_isinstance : PySem.W.nsIn K mainGlobals "isinstance" = some none)
  (z_len : PySem.W.nsIn K mainGlobals "len" = some none)
  (z_list : PySem.W.nsIn K mainGlobals "list" = some none)
  (z_max : PySem.W.nsIn K mainGlobals "max" = some none)
  (z_min : PySem.W.nsIn K mainGlobals "min" = some none)
  (z_range : PySem.W.nsIn K mainGlobals "range" = some none)
  (z_str : PySem.W.nsIn K mainGlobals "str" = some none)
  (z_sum : PySem.W.nsIn K mainGlobals "sum" = some none)
  (q_BREAK : PySem.W.nsIn K mainGlobals "BREAK" = some (some (.int 1 t_BREAK)))
  (q_CLOSED : PySem.W.nsIn K mainGlobals "CLOSED" = some (some (.int 0 t_CLOSED)))
  (q_GAP : PySem.W.nsIn K mainGlobals "GAP" = some (some (.int 2 t_GAP))) : Txt K mg (⟨fun _ => 0⟩ : Cl) where
  d__law_many := def_mk X G a1 l1 c1 k1 fun _ _ _ _ _ _ us hl => match us, hl with | [_, _, _], _ => rfl
  d__law_bag := def_mk X G a2 l2 c2 k2 fun _ _ _ _ _ _ us hl => match us, hl with | [_, _], _ => rfl
  d__law_draw := def_mk X G a3 l3 c3 k3 fun _ _ _ _ _ _ us hl => match us, hl with | [_, _], _ => rfl
  d__law_figures := def_mk X G a4 l4 c4 k4 fun _ _ _ _ _ _ us hl => match us, hl with | [_], _ => rfl
  d__law_is_number := def_mk X G a5 l5 c5 k5 fun _ _ _ _ _ _ us hl => match us, hl with | [_], _ => rfl
  d__law_second := def_mk X G a6 l6 c6 k6 fun _ _ _ _ _ _ us hl => match us, hl with | [_, _], _ => rfl
  d_figure_row := def_mk X G a7 l7 c7 k7 fun _ _ _ _ _ _ us hl => match us, hl with | [_], _ => rfl
  d_row_of := def_mk X G a8 l8 c8 k8 fun _ _ _ _ _ _ us hl => match us, hl with | [_], _ => rfl
  d_law := def_mk X G aL lL cL kL fun _ _ _ _ _ _ us hl => match us, hl with | [_], _ => rfl
  n_abs := PySem.W.mg_none_of X G z_abs
  n_int := PySem.W.mg_none_of X G z_int
  n_isinstance := PySem.W.mg_none_of X G z_isinstance
  n_len := PySem.W.mg_none_of X G z_len
  n_list := PySem.W.mg_none_of X G z_list
  n_max := PySem.W.mg_none_of X G z_max
  n_min := PySem.W.mg_none_of X G z_min
  n_range := PySem.W.mg_none_of X G z_range
  n_str := PySem.W.mg_none_of X G z_str
  n_sum := PySem.W.mg_none_of X G z_sum
  c_BREAK := ⟨t_BREAK, PySem.W.mg_of X G q_BREAK⟩
  c_CLOSED := ⟨t_CLOSED, PySem.W.mg_of X G q_CLOSED⟩
  c_GAP := ⟨t_GAP, PySem.W.mg_of X G q_GAP⟩
set_option maxHeartbeats 4000000 in
theorem all_mk {l : PySem.W.OpenLaw} {w : World} {K : PySem.W.Frag} {h : Heap} {mg : Str → Option Value} {fa : Addr} (X : K.In h) (G : h.Ns mainGlobals mg) (hfa : mg "law" = some (.ref fa))
  {f1 : Addr} {oc1 kV1 dc1 pm1 cd1 ct1 : Value} {od1 an1 : Option Addr} {sl1 : Array (Option Value)}
  {f2 : Addr} {oc2 kV2 dc2 pm2 cd2 ct2 : Value} {od2 an2 : Option Addr} {sl2 : Array (Option Value)}
  {f3 : Addr} {oc3 kV3 dc3 pm3 cd3 ct3 : Value} {od3 an3 : Option Addr} {sl3 : Array (Option Value)}
  {f4 : Addr} {oc4 kV4 dc4 pm4 cd4 ct4 : Value} {od4 an4 : Option Addr} {sl4 : Array (Option Value)}
  {f5 : Addr} {oc5 kV5 dc5 pm5 cd5 ct5 : Value} {od5 an5 : Option Addr} {sl5 : Array (Option Value)}
  {f6 : Addr} {oc6 kV6 dc6 pm6 cd6 ct6 : Value} {od6 an6 : Option Addr} {sl6 : Array (Option Value)}
  {f7 : Addr} {oc7 kV7 dc7 pm7 cd7 ct7 : Value} {od7 an7 : Option Addr} {sl7 : Array (Option Value)}
  {f8 : Addr} {oc8 kV8 dc8 pm8 cd8 ct8 : Value} {od8 an8 : Option Addr} {sl8 : Array (Option Value)}
  {fL : Addr} {ocL kVL dcL pmL cdL ctL : Value} {odL anL : Option Addr} {slL : Array (Option Value)}
  {t_BREAK : Tok}
  {t_CLOSED : Tok}
  {t_GAP : Tok}
  (a1 : PySem.W.nsIn K mainGlobals "_law_many" = some (some (.ref f1))) (l1 : K.lookup f1 = some ⟨oc1, od1, .func (PySem.W.fnOf "_law_many" "_law_many" (defArgs s__law_many) (defBody s__law_many) (defScope s__law_many) .none kV1 dc1 pm1 an1 cd1 ct1), sl1⟩) (c1 : PySem.W.codeIn K cd1 "_law_many" = true) (k1 : PySem.W.keepIn K (.ref f1) = true)
  (a2 : PySem.W.nsIn K mainGlobals "_law_bag" = some (some (.ref f2))) (l2 : K.lookup f2 = some ⟨oc2, od2, .func (PySem.W.fnOf "_law_bag" "_law_bag" (defArgs s__law_bag) (defBody s__law_bag) (defScope s__law_bag) .none kV2 dc2 pm2 an2 cd2 ct2), sl2⟩) (c2 : PySem.W.codeIn K cd2 "_law_bag" = true) (k2 : PySem.W.keepIn K (.ref f2) = true)
  (a3 : PySem.W.nsIn K mainGlobals "_law_draw" = some (some (.ref f3))) (l3 : K.lookup f3 = some ⟨oc3, od3, .func (PySem.W.fnOf "_law_draw" "_law_draw" (defArgs s__law_draw) (defBody s__law_draw) (defScope s__law_draw) .none kV3 dc3 pm3 an3 cd3 ct3), sl3⟩) (c3 : PySem.W.codeIn K cd3 "_law_draw" = true) (k3 : PySem.W.keepIn K (.ref f3) = true)
  (a4 : PySem.W.nsIn K mainGlobals "_law_figures" = some (some (.ref f4))) (l4 : K.lookup f4 = some ⟨oc4, od4, .func (PySem.W.fnOf "_law_figures" "_law_figures" (defArgs s__law_figures) (defBody s__law_figures) (defScope s__law_figures) .none kV4 dc4 pm4 an4 cd4 ct4), sl4⟩) (c4 : PySem.W.codeIn K cd4 "_law_figures" = true) (k4 : PySem.W.keepIn K (.ref f4) = true)
  (a5 : PySem.W.nsIn K mainGlobals "_law_is_number" = some (some (.ref f5))) (l5 : K.lookup f5 = some ⟨oc5, od5, .func (PySem.W.fnOf "_law_is_number" "_law_is_number" (defArgs s__law_is_number) (defBody s__law_is_number) (defScope s__law_is_number) .none kV5 dc5 pm5 an5 cd5 ct5), sl5⟩) (c5 : PySem.W.codeIn K cd5 "_law_is_number" = true) (k5 : PySem.W.keepIn K (.ref f5) = true)
  (a6 : PySem.W.nsIn K mainGlobals "_law_second" = some (some (.ref f6))) (l6 : K.lookup f6 = some ⟨oc6, od6, .func (PySem.W.fnOf "_law_second" "_law_second" (defArgs s__law_second) (defBody s__law_second) (defScope s__law_second) .none kV6 dc6 pm6 an6 cd6 ct6), sl6⟩) (c6 : PySem.W.codeIn K cd6 "_law_second" = true) (k6 : PySem.W.keepIn K (.ref f6) = true)
  (a7 : PySem.W.nsIn K mainGlobals "figure_row" = some (some (.ref f7))) (l7 : K.lookup f7 = some ⟨oc7, od7, .func (PySem.W.fnOf "figure_row" "figure_row" (defArgs s_figure_row) (defBody s_figure_row) (defScope s_figure_row) .none kV7 dc7 pm7 an7 cd7 ct7), sl7⟩) (c7 : PySem.W.codeIn K cd7 "figure_row" = true) (k7 : PySem.W.keepIn K (.ref f7) = true)
  (a8 : PySem.W.nsIn K mainGlobals "row_of" = some (some (.ref f8))) (l8 : K.lookup f8 = some ⟨oc8, od8, .func (PySem.W.fnOf "row_of" "row_of" (defArgs s_row_of) (defBody s_row_of) (defScope s_row_of) .none kV8 dc8 pm8 an8 cd8 ct8), sl8⟩) (c8 : PySem.W.codeIn K cd8 "row_of" = true) (k8 : PySem.W.keepIn K (.ref f8) = true)
  (aL : PySem.W.nsIn K mainGlobals "law" = some (some (.ref fL))) (lL : K.lookup fL = some ⟨ocL, odL, .func (PySem.W.fnOf "law" "law" (defArgs s_law) (defBody s_law) (defScope s_law) .none kVL dcL pmL anL cdL ctL), slL⟩) (cL : PySem.W.codeIn K cdL "law" = true) (kL : PySem.W.keepIn K (.ref fL) = true)
  (z_abs : PySem.W.nsIn K mainGlobals "abs" = some none)
  (z_int : PySem.W.nsIn K mainGlobals "int" = some none)
  (z_isinstance : PySem.W.nsIn K mainGlobals "isinstance" = some none)
  (z_len : PySem.W.nsIn K mainGlobals "len" = some none)
  (z_list : PySem.W.nsIn K mainGlobals "list" = some none)
  (z_max : PySem.W.nsIn K mainGlobals "max" = some none)
  (z_min : PySem.W.nsIn K mainGlobals "min" = some none)
  (z_range : PySem.W.nsIn K mainGlobals "range" = some none)
  (z_str : PySem.W.nsIn K mainGlobals "str" = some none)
  (z_sum : PySem.W.nsIn K mainGlobals "sum" = some none)
  (q_BREAK : PySem.W.nsIn K mainGlobals "BREAK" = some (some (.int 1 t_BREAK)))
  (q_CLOSED : PySem.W.nsIn K mainGlobals "CLOSED" = some (some (.int 0 t_CLOSED)))
  (q_GAP : PySem.W.nsIn K mainGlobals "GAP" = some (some (.int 2 t_GAP))) :
  ∃ fd : FuncData, (∀ (s : Shared) (v : Value), BindsTo s fd ⟨[v], []⟩ [("_law_script", v)]) ∧ ∀ base : Heap, K.In base → base.Ns mainGlobals mg → FnOk l.prog w K mg base (L2.CX l.prog w) 4 fa fd ["_law_script"] (spLaw K) := by
  have T : Txt K mg _ := txt_mk X G a1 l1 c1 k1 a2 l2 c2 k2 a3 l3 c3 k3 a4 l4 c4 k4 a5 l5 c5 k5 a6 l6 c6 k6 a7 l7 c7 k7 a8 l8 c8 k8 aL lL cL kL z_abs z_int z_isinstance z_len z_list z_max z_min z_range z_str z_sum q_BREAK q_CLOSED q_GAP
  have e := hfa.symm.trans (PySem.W.mg_of X G aL)
  cases e
  refine ⟨PySem.W.fnOf "law" "law" (defArgs s_law) (defBody s_law) (defScope s_law) .none kVL dcL pmL anL cdL ctL, fun s v => .of_eq rfl, fun base _ _ => ?_⟩
  exact law_end (ok_law T (fun_mk lL cL kL)) law_true
end LK04
namespace PySem.W.Fast
def tw14481130385280350691:=0
def tw15219791980925272975:=0
def tw12985017193389449587:=0
def tw15610665031024887982:=0
def tw15489385443873164698:=0
def tw7250788083770105111:=0
def tw635603973219873100:=0
def tw9828284180489715747:=0
def tw8554679911141708567:=0
def tw7020484231071497639:=0
def tw8184289411937936369:=0
def tw7641831693959189647:=0
def tw18166064932045150619:=0
def tw823481897385117362:=0
def tw12929642524276711546:=0
def tw3586263601347942106:=0
def tw1460714067034036681:=0
def tw9782462126817155414:=0
def tw161485865098379218:=0
def tw17073526923969994524:=0
def tw9658341489514302048:=0
def tw2507919522468838160:=0
def tw2389305456588057766:=0
def tw12318370756126471617:=0
def tw16484413810781543666:=0
def tw14435389455359833538:=0
def tw6852187488747896845:=0
def tw16780751551606719199:=0
def tw11591291553171211579:=0
def tw12776438956008973723:=0
def tw7504585479818965166:=0
def tw1867437003866984963:=0
def tw1215975653554560263:=0
def tw7972607538152618917:=0
def tw13713265345572395158:=0
def tw7714811376340807393:=0
def tw3557988998409244237:=0
def tw16963359373854047342:=0
def tw4941869103196241578:=0
def tw3356107765536960642:=0
def tw304361119792621126:=0
def tw8903589987310547247:=0
def tw17895977033198599960:=0
def tw12356993713843216103:=0
def tw9440231108590253036:=0
def tw3111340784937200787:=0
def tw10937856897802463786:=0
def tw16665040094196185633:=0
def tw16379719414622858767:=0
def tw8953521534070748965:=0
def tw2936845433965959131:=0
def tw11858217201908540366:=0
def tw14387023110632666815:=0
def tw17329710106188869776:=0
def tw1714310667332793211:=0
def tw11432463464040017900:=0
def tw8913793438920924598:=0
def tw18359280235893201683:=0
def tw1947820027676317030:=0
def tw17954279797773083072:=0
def tw6593362346794524755:=0
def tw7691863716181815281:=0
def tw13684110195038102905:=0
def tw15204288169111650960:=0
def tw18157775114574209890:=0
def tw9614476602514497102:=0
def tw9359748349562019999:=0
def tw16557337009169972029:=0
def tw10970582369132574541:=0
def tw14038061593891921591:=0
def tw17909041077908425726:=0
def tw6839304517605212636:=0
def tw12623829212460949585:=0
def tw17266769146493277654:=0
def tw14797729196453585168:=0
def tw15989016475244124410:=0
def tw4348029541206017477:=0
def tw14841396099797323283:=0
def tw495992572945349648:=0
def tw15531214277984548007:=0
def tw10257451923667087074:=0
def tw13259542274813922080:=0
def tw16775478464087158981:=0
def tw7754505897407719675:=0
def tw7862901589172426234:=0
def tw11595924005651136767:=0
def tw5932206330907086870:=0
def tw4581422216914763582:=0
def tw10314820177279567440:=0
def tw4645520269426946151:=0
def tw498140875048100263:=0
def tw18117234777425405813:=0
def tw13654582337956614687:=0
def tw12995402986957170214:=0
def tw11100026703225005264:=0
def tw1613279630071854290:=0
def tw1334835043640695350:=0
def tw7681370563850281247:=0
def tw8854223989395813059:=0
def tw1140843570236681482:=0
def tw12171429709715165437:=0
def tw11743448976652381447:=0
def tw3326881845514148728:=0
def tw7811482028817163521:=0
def tw10978730744168903504:=0
def tw6726850389861049443:=0
def tw5216244534635839575:=0
def tw31441121062397726:=0
def tw16100896367359912140:=0
def tw5884575115263325303:=0
def tw15653411529164848949:=0
def tw8203519430246936552:=0
def tw14113430455579665983:=0
def tw11570386953541370415:=0
def tw16496569740760427523:=0
def tw8955214549081542188:=0
def tw10997536412769288733:=0
def tw11528802975494952315:=0
def tw14421698555778319174:=0
def tw1818810623066942375:=0
def tw7259124844201841054:=0
def tw18330957682532960086:=0
def tw9082133214380817504:=0
def tw7563526525614801910:=0
def tw15241134395078547371:=0
def tw17895445655121989136:=0
def tw10275020123612595686:=0
def tw10077713001575622385:=0
def tw17209288971962673109:=0
def tw9505344622644225630:=0
def tw12404778559804908380:=0
def tw6793196526202172643:=0
def tw9200903239471717053:=0
def tw8669961544316547622:=0
def tw2278509718841312643:=0
def tw11132887619039709662:=0
def tw16947472206363770453:=0
def tw5882354591427032705:=0
def tw1495021891752226801:=0
def tw5471917005164482822:=0
def tw4017498412665867300:=0
def tw14604541171944046651:=0
def tw3503354192677224580:=0
def tw15344299898798240172:=0
def tw2509376469788523523:=0
def tw9770936427800478171:=0
def tw15082771307864409771:=0
def tw580393378345936951:=0
def tw4338936467319282251:=0
def tw5755647828134138590:=0
def tw2740306277771216366:=0
def tw16813605036903620683:=0
def tw4125488112916694374:=0
def tw13803366820813499985:=0
def tw15880431554408811925:=0
def tw5523463650254128534:=0
def tw4768246796041350738:=0
def tw261874420688816357:=0
def tw1717947567855470422:=0
def tw3644010219139856731:=0
def tw378078514371735207:=0
def tw18400231094285092640:=0
def tw14688287715318171173:=0
def tw114634548190626834:=0
def tw5069716125479834969:=0
def tw5716059931476714414:=0
def tw5364503361191772776:=0
def tw12785442140048435362:=0
def tw12609848476074324812:=0
def tw16569581652754838017:=0
def tw13202454643262747904:=0
def tw12464604354498216125:=0
def tw7863188530507048312:=0
def tw5241019312465921252:=0
def tw2650680106308300592:=0
def tw8558011843078019642:=0
def tw5237621061911110147:=0
def tw18346922387955259288:=0
def tw17445057978401153098:=0
def tw4796945116737993921:=0
def tw6329093788149459453:=0
def tw15365083268968541345:=0
def tw13929131235514575002:=0
def tw863376070365419050:=0
def tw7675084812558922455:=0
def tw8373636448173257001:=0
def tw16994605996433694954:=0
def tw8037907301956912519:=0
def tw15704210800990836640:=0
def tw12077860745640454612:=0
def tw17366356897054239061:=0
def tw1219411251466485205:=0
def tw6206856092475384680:=0
def tw10973389551765585459:=0
def tw9820099116429667908:=0
def tw11113785991693650976:=0
def tw377165754957174027:=0
def tw2735119938391348600:=0
def tw6494113483642600475:=0
def tw1854943814680678154:=0
def tw20907595867074294:=0
def tw6985714069726863882:=0
def tw17074207626993219764:=0
def tw6832938382577415804:=0
def tw15427529090281008629:=0
def tw13120189592582417789:=0
def tw9689943885260716085:=0
def tw790120350003194504:=0
def tw10967924319096766735:=0
def tw8575290116017716614:=0
def tw9221056376889036083:=0
def tw16560874451071725090:=0
def tw9070685073878256156:=0
def tw17148226314431347040:=0
def tw10814148351324443617:=0
def tw15041100453119202345:=0
def tw15373385297622170152:=0
def tw13451595974881802926:=0
def tw16368557368307760640:=0
def tw11044973612029051916:=0
def tw12272592368299167193:=0
def tw1368994106189095942:=0
def tw168683164949998265:=0
def tw15787552899106150303:=0
def tw6532856845604321161:=0
def tw15644260649360272618:=0
def tw10586906033448596196:=0
def tw14303370554278032396:=0
def tw15536489374815759139:=0
def tw1133809289260443651:=0
def tw3331034341380835317:=0
def tw3350109117828420623:=0
def tw5495798034678142180:=0
def tw16157973001506515613:=0
def tw18420678977419459972:=0
def tw9859304783240890133:=0
def tw8273370646565219834:=0
def tw2535392550122086014:=0
def tw3646939560833701086:=0
def tw13073580987601794817:=0
def tw11598576395388436055:=0
def tw14361903437434920588:=0
def tw8043440466735623932:=0
def tw13203046321572501599:=0
def tw9630637042587336823:=0
def tw14856028200104792391:=0
def tw1927728152482965185:=0
def tw10112772733725447166:=0
def tw5729766802845205017:=0
def tw2028535981601693869:=0
def tw10638024935802493527:=0
def tw13376040958219440909:=0
def tw8811948330700359125:=0
def tw18034092984208947163:=0
def tw13549299118356738462:=0
def tw8979985989880254512:=0
def tw14285106654811539018:=0
def tw16084870821100533502:=0
def tw11249729709987523697:=0
def tw17076535227284595797:=0
def tw5491661211557418270:=0
def tw527495282180361197:=0
def tw17131424899229365897:=0
def tw6758561322006396921:=0
def tw15727800425466655358:=0
def tw1821720071470209533:=0
def tw10600516632512970668:=0
def tw5907462285077972025:=0
def tw7534643827591128055:=0
def tw10651729478412042847:=0
def tw11559713481128476339:=0
def tw11543721523587638185:=0
def tw10726590052404687431:=0
def tw13040279899916413836:=0
def tw8285247237190657031:=0
def tw6390131076297284956:=0
def tw8764009197985567902:=0
def tw13379529914715833524:=0
def tw17263116977650091440:=0
def tw13549066299161213799:=0
def tw774382824735062371:=0
def tw9628899678957290090:=0
def tw15463970019260111312:=0
def tw2705030582493459919:=0
def tw12042752618600441520:=0
def tw15633371291384122748:=0
def tw6234647744951748010:=0
def tw2888949649110168639:=0
def tw3786386094354104307:=0
def tw16121972822835568517:=0
def tw6156175057420274530:=0
def tw16839916817234020088:=0
def tw5407002344789611239:=0
def tw18233851625445391070:=0
def tw11501979758424984148:=0
def tw7624670615574582424:=0
def tw1144893177824665793:=0
def tw16770930048108859049:=0
def tw5069781025875919791:=0
def tw12005502648338123033:=0
def tw5589087467703039748:=0
def tw14237400831595244611:=0
def tw8928142360914695146:=0
def tw7179815199078858205:=0
def tw12718986198054018085:=0
def tw15139029359157209611:=0
def tw14397287672192284759:=0
def tw8432216081412817894:=0
def tw11595522938287945214:=0
def tw3729471559888044798:=0
def tw15685335413572897124:=0
def tw499753798589530296:=0
def tw3325290018585917688:=0
def tw113920531078385374:=0
def tw13208198865349335202:=0
def tw2059376072483614472:=0
def tw8404606034794576211:=0
def tw11879406672006372533:=0
def tw2083094855971164119:=0
def tw5904757142188769631:=0
def tw5032691474673358271:=0
def tw3593715928664583184:=0
def tw9865707153138133423:=0
def tw7260103765438633040:=0
def tw11982347551131304692:=0
def tw3421314053156967023:=0
def tw10815857370369925377:=0
def tw16676748126119916438:=0
def tw14357385127039574925:=0
def tw5262589832946935843:=0
def tw7035378210281538794:=0
def tw1511315797688119676:=0
def tw332331720790460063:=0
def tw10296795578369528085:=0
def tw14168614791827197674:=0
def tw10413990192055512540:=0
def tw15028829295593431618:=0
def tw5105520067710841043:=0
def tw595431316809875475:=0
def tw7856459384948842318:=0
def tw7994429217805226455:=0
def tw16119269668567559212:=0
def tw10213442458665210021:=0
def tw5341801544998164432:=0
def tw17627169784883329511:=0
def tw14413364333573167823:=0
def tw1066520717653012074:=0
def tw9008855411334221580:=0
def tw2211059796787164239:=0
def tw11648803474672684303:=0
def tw834286949026801040:=0
def tw14526778256932235741:=0
def tw6557158158435130180:=0
def tw13502274202023296380:=0
def tw3246743711385691302:=0
def tw9164192405347811310:=0
def tw11091397040799123751:=0
def tw13373968992596712222:=0
def tw11429505781839451469:=0
def tw10791916710201565839:=0
def tw16173556068222439802:=0
def tw880992518929518264:=0
def tw4024659115451445407:=0
def tw7924566557815765915:=0
def tw4042727757168040301:=0
def tw15415545631687473024:=0
def tw7518576630127764238:=0
def tw1677699035281905013:=0
def tw12754485038083576150:=0
def tw506600276800107928:=0
def tw15294937974354856087:=0
def tw15169350968972881751:=0
def tw10451990029965346950:=0
def tw13123575657393621439:=0
def tw3495924294367410361:=0
def tw6899573516544731722:=0
def tw10437502056452220972:=0
def tw14859647695115435481:=0
def tw1486429268453058999:=0
def tw9922010037251753922:=0
def tw12074131858801871636:=0
def tw10618835573433660088:=0
def tw17759139842775678203:=0
def tw16418862442787803243:=0
def tw14296795550049050350:=0
def tw8793830556191256922:=0
def tw18038450584361132482:=0
def tw2464489852350303872:=0
def tw811016791533595029:=0
def tw7264772398928657296:=0
def tw7729973134373081003:=0
def tw16838831578208997746:=0
def tw7663548492516383257:=0
def tw17318683165490431391:=0
def tw4285020910816247402:=0
def tw275157522869056840:=0
def tw14271687944997069776:=0
def tw14664056048164452434:=0
def tw5848060630033670383:=0
def tw6153808628903263699:=0
def tw5593295015793071905:=0
def tw15820730002484119089:=0
def tw4868472374333042284:=0
def tw15398121449703653494:=0
def tw13152275326599249856:=0
def tw14240784018384339594:=0
def tw7556525820927586931:=0
def tw6960915573657776694:=0
def tw17474647163561809598:=0
def tw7620650357531097401:=0
def tw6382881589559393941:=0
def tw12455878930760277956:=0
def tw5712921603044193777:=0
def tw14948640812165123062:=0
def tw6903684854610261848:=0
def tw13586294442129279678:=0
def tw6127499690989735286:=0
def tw16647862125757943411:=0
def tw9735586773030709767:=0
def tw1255344931345829883:=0
def tw17108689889247231102:=0
def tw10632320847339158774:=0
def tw6619997810731305030:=0
def tw3920268026962019598:=0
def tw17012672221367568513:=0
def tw17312089173430164077:=0
def tw3439418436673448638:=0
def tw11981052419918941275:=0
def tw10052046623350928828:=0
def tw3433300833944131859:=0
def tw9085581284721249099:=0
def tw15601693746971025521:=0
def tw8347911893044978769:=0
def tw10151950344254015313:=0
def tw15029771124434051280:=0
def tw18371541213490023166:=0
def tw11393464117641164794:=0
def tw15525146362909431186:=0
def tw6397546830557868670:=0
def tw9489147976812995634:=0
def tw3469597554888874860:=0
def tw11204830426956795123:=0
def tw374272308624886701:=0
def tw17171115779442752045:=0
def tw16314888269023568289:=0
def tw1232647244076198127:=0
def tw12763528668155827087:=0
def tw13495826624005130993:=0
def tw16352988710516274240:=0
def tw2598768887373241870:=0
def tw375877989485822961:=0
def tw14758506620712576197:=0
def tw4117365812743053017:=0
def tw18316122210570837621:=0
def tw12565634488510263018:=0
def tw2925953932049904435:=0
def tw12464832520318370417:=0
def tw3502471773182225422:=0
def tw18262271974173536391:=0
def tw16391570230230831986:=0
def tw11628221615784180024:=0
def tw16027667517485088779:=0
def tw17424187489001346318:=0
def tw3854157108260771445:=0
def tw67956169813610720:=0
def tw7041128661519207773:=0
def tw16555422923718382152:=0
def tw16493698694204468884:=0
def tw16324765340957763683:=0
def tw18389020096421168611:=0
def tw13669262906810434307:=0
def tw2068890058324074827:=0
def tw7895118895835822955:=0
def tw2806723507251408622:=0
def tw12135705165074254295:=0
def tw16636014279673647316:=0
def tw16344091627274991486:=0
def tw15126241528435804870:=0
def tw16842351858614791557:=0
def tw3548975925701727666:=0
def tw6008163680171379528:=0
def tw16969818040936079033:=0
def tw6229772153649396867:=0
def tw5200582098303908249:=0
def tw9865177969881132190:=0
def tw155398741654387592:=0
def tw14971558552840888741:=0
def tw10325137300372754167:=0
def tw1552805272384945958:=0
def tw17743241223495302140:=0
def tw6377717795624313587:=0
def tw1651107451334174447:=0
def tw3084896525462555763:=0
def tw6110903592468116579:=0
def tw5940492480084007297:=0
def tw15699979831546734509:=0
def tw3406166340263719463:=0
def tw16003785169941750273:=0
def tw12261177996113506083:=0
def tw1431289695656598278:=0
def tw10646350501040200819:=0
def tw2916983328780082119:=0
def tw13805415834770581940:=0
def tw5210675941364670341:=0
def tw9522871550197106158:=0
def tw13534794702376042643:=0
def tw16900747569123426422:=0
def tw5637599282296353135:=0
def tw6808884399989515679:=0
def tw11177177495450607437:=0
def tw5093674065166804645:=0
def tw11016407492027043362:=0
def tw3519361888161578003:=0
def tw11690244763035299743:=0
def tw5297639679203833704:=0
def tw5364305259186960896:=0
def tw15996958833803598986:=0
def tw9157130263669591862:=0
def tw4969347430929570267:=0
def tw8242323233579072358:=0
def tw1800368971407974565:=0
def tw2441968856306376073:=0
def tw9707857463097987521:=0
def tw15707655515129634008:=0
def tw18041938325538638927:=0
def tw17198126028320926713:=0
def tw3232588462876122242:=0
def tw16888463309601525160:=0
def tw15803540756734812929:=0
def tw16539238485743906816:=0
def tw4539050343475613010:=0
def tw9426160874860465200:=0
def tw10527095410733380742:=0
def tw4781227059647075883:=0
def tw6388887628204022826:=0
def tw4216109484282998614:=0
def tw12131663330869342348:=0
def tw3519387594854958271:=0
def tw8284321322408653536:=0
def tw18400875455020674993:=0
def tw6924667926410917120:=0
def tw4005585709660201972:=0
def tw11252759679790587050:=0
def tw6301614335140325197:=0
def tw5040129269688280825:=0
def tw6590258947579327724:=0
def tw7794984110507158522:=0
def tw17399752615438736006:=0
def tw16512997844537034950:=0
def tw13491421535489360581:=0
def tw10183828156755829855:=0
def tw13552209780487821851:=0
def tw5806290071581423373:=0
def tw7535543091296779923:=0
def tw239833212859564429:=0
def tw11444865710152815497:=0
def tw9679938123997841366:=0
def tw11236550437018046135:=0
def tw16428504934541269690:=0
def tw12620610769803922319:=0
def tw4615679728709817657:=0
def tw8548139047834953004:=0
def tw13605845641638799400:=0
def tw501078601806951909:=0
def tw1487376954581669463:=0
def tw15879553195765124466:=0
def tw15228723492786527604:=0
def tw18239250289015008886:=0
def tw5605255145404725218:=0
def tw10185474733571661905:=0
def tw7718043373379928667:=0
def tw6057393096478167341:=0
def tw16614760638320754129:=0
def tw15214921798722781226:=0
def tw5848504590804508040:=0
def tw14740846369040038861:=0
def tw9996700216653665300:=0
def tw14534522688592951107:=0
def tw559624745214756012:=0
def tw2313144737125920832:=0
def tw10930832985204381117:=0
def tw10680101787392635585:=0
def tw16652540501182894473:=0
def tw7314361913846640347:=0
def tw6281223315103421426:=0
def tw16121403791936436956:=0
def tw2093391113171473998:=0
def tw11022548642592446412:=0
def tw16696044786520817861:=0
def tw3707644120881575771:=0
def tw12721200300046511795:=0
def tw16854221378595193471:=0
def tw12462368153855918713:=0
def tw17092844447338121233:=0
def tw13181259965849617609:=0
def tw7810575957125607144:=0
def tw17030539137487934068:=0
def tw11748742822805884777:=0
def tw14940423395429518680:=0
def tw3106648836952392766:=0
def tw3642304503790506232:=0
def tw9066607257352794522:=0
def tw16343043290364581778:=0
def tw9235312708561681478:=0
def tw2079661738272119525:=0
def tw8114168731565981445:=0
def tw9790085737908305890:=0
def tw11986143186355130322:=0
def tw17404187279474117116:=0
def tw14628507482966251972:=0
def tw8073603072463165913:=0
def tw18417671219294159615:=0
def tw6769033006841748624:=0
def tw11654764157466961871:=0
def tw3159545231286471284:=0
def tw10565483446701571744:=0
def tw15403903455523452661:=0
def tw10955654809036900465:=0
def tw2195813225726479725:=0
def tw8474724335330941971:=0
def tw48614144072653724:=0
def tw3086692370804536003:=0
def tw4414397288350126598:=0
def tw5182104239936805146:=0
def tw3842067692809981345:=0
def tw8988177965453552953:=0
def tw7245295489130163:=0
def tw11783517082383170315:=0
def tw4365378059934526998:=0
def tw14740291568949268075:=0
def tw9609625416914907235:=0
def tw10446264982493220178:=0
def tw5495507117667449765:=0
def tw2341942619263511153:=0
def tw10796930114708719007:=0
def tw15466860062922603251:=0
def tw14102914747477406720:=0
def tw10993953945378337642:=0
def tw5176827628799124837:=0
def tw12738798794959033054:=0
def tw14576423927439447643:=0
def tw16821054339215324876:=0
def tw18003666001730794640:=0
def tw11323056258936956557:=0
def tw6018619705097015032:=0
def tw5269337844658204512:=0
def tw6062921707567119746:=0
def tw1233117829229944627:=0
def tw14006835876174188065:=0
def tw12102163195958650920:=0
def tw9328028645690712484:=0
def tw13116512899166409122:=0
def tw9785007598212501607:=0
def tw3775494000587745246:=0
def tw9607908546699056899:=0
def tw17637649261044604931:=0
def tw17038952138462758778:=0
def tw11991032798703733721:=0
def tw10270441683579987901:=0
def tw12555092837946597817:=0
def tw18328457711975809469:=0
def tw11816193861630071377:=0
def tw7637564001399265009:=0
def tw18360433783377044588:=0
def tw8314849199808204324:=0
def tw355054866368417014:=0
def tw10773383230589879821:=0
def tw5320578167262881641:=0
def tw7496867145063991871:=0
def tw13250001907766952452:=0
def tw12286208358438898993:=0
def tw536020434596595621:=0
def tw15943835890964634578:=0
def tw12956212736604834628:=0
def tw7189204168284860418:=0
def tw12254026001452924343:=0
def tw4180012367222920570:=0
def tw17590883153959709114:=0
def tw15504503202187452674:=0
def tw11870779804993916864:=0
def tw14100804147260683845:=0
def tw9825227599727640593:=0
def tw15998511754217516554:=0
def tw18379575432264189936:=0
def tw5683294241191139011:=0
def tw10897542203282273506:=0
def tw10784874352071052814:=0
def tw2392911216635358947:=0
def tw10894102103010100536:=0
def tw5205075122593522347:=0
def tw5030536178358381950:=0
def tw7534214811412134849:=0
def tw13971998310985154662:=0
def tw15945604042319344213:=0
def tw9462004879284755640:=0
def tw11750660971272185122:=0
def tw3444034262954389933:=0
def tw16313930474188588578:=0
def tw13576237857185183954:=0
def tw7833351103905350734:=0
def tw15372823010343875463:=0
def tw7580781922264165763:=0
def tw12404015549907406511:=0
def tw10350446093003001797:=0
def tw2458352962134950303:=0
def tw1759742253446532974:=0
def tw4522527172102063719:=0
def tw5162421353852784756:=0
def tw5708326673268317515:=0
def tw15200867798687158017:=0
def tw9886418456214714177:=0
def tw1502539586649801123:=0
def tw1203014334241824763:=0
def tw4460762964706505293:=0
def tw11840225303698455969:=0
def tw4960084211432075612:=0
def tw3892593568358842591:=0
def tw14063156024428154678:=0
def tw17291176534533262710:=0
def tw16034655296087631111:=0
def tw18130792285879598720:=0
def tw1030397868417691671:=0
def tw10936594185255170857:=0
def tw6510816587904898524:=0
def tw6415340683782814516:=0
def tw7312810056886467065:=0
def tw17303889955179838824:=0
def tw12625647934808256788:=0
def tw5977696597239716997:=0
def tw1899633988738285246:=0
def tw2070201362110077806:=0
def tw7960128606986498430:=0
def tw18091737666561758257:=0
def tw8453145668587499914:=0
def tw12062323971376777947:=0
def tw14422294997070726991:=0
def tw12026497019224329996:=0
def tw6119856962459428310:=0
def tw12634227638002136788:=0
def tw18054435863173374549:=0
def tw2055123005251883623:=0
def tw17755847848311287153:=0
def tw5760711295982805250:=0
def tw10985488016722309108:=0
def tw11237863560367548035:=0
def tw8171164931405758462:=0
def tw12250159239394578508:=0
def tw6331266091929785006:=0
def tw6191110312808613052:=0
def tw9680809322038431929:=0
def tw11316085594475322035:=0
def tw6856496910957944489:=0
def tw17243698139978534484:=0
def tw11116208470128159860:=0
def tw3094451449406960628:=0
def tw15613145494248846433:=0
def tw4507990745115830886:=0
def tw11525378720903658277:=0
def tw9815329117927908077:=0
def tw7168771270314172607:=0
def tw15013354405888433077:=0
def tw17198483693970581251:=0
def tw7160936636784702704:=0
def tw16079509102384064724:=0
def tw16360593746482552376:=0
def tw13202736140608322973:=0
def tw15483651279487065382:=0
def tw17137018245962075456:=0
def tw4999007960941162401:=0
def tw4968605743297238112:=0
def tw8041655703681147647:=0
def tw189366114646801433:=0
def tw7011842039474404380:=0
def tw906293628693086959:=0
def tw17227458269413316791:=0
def tw3415552470858579757:=0
def tw14986718939924153320:=0
def tw8120584908128527020:=0
def tw5599012461410986536:=0
def tw1276929028515165944:=0
def tw570208312862657037:=0
def tw15660448901735071358:=0
def tw1500317447557745580:=0
def tw1578233136606309168:=0
def tw7310479476218943959:=0
def tw791966879918638063:=0
def tw578845471503637504:=0
def tw5207072151789777090:=0
def tw11658909054988544791:=0
def tw11746360012430637073:=0
def tw535848463855859530:=0
def tw10180630969180990483:=0
def tw4856640619256099851:=0
def tw6404774186156637582:=0
def tw15914852360256762323:=0
def tw10008082981907584872:=0
def tw7509445544378890705:=0
def tw6815530198900778701:=0
def tw9579093404202274322:=0
def tw2242992580817097340:=0
def tw17887833100906106354:=0
def tw1043585960950863856:=0
def tw7972859157342350073:=0
def tw8209464912132975426:=0
def tw14525107568945703673:=0
def tw18358128505171890686:=0
def tw2026178523732690808:=0
def tw10369207852627043013:=0
def tw14460342088465283716:=0
def tw17527037339039644303:=0
def tw18446449879437853906:=0
def tw17912303564239088268:=0
def tw3717527569553950169:=0
def tw3620577468640324583:=0
def tw13818361581197650500:=0
def tw16720035393799841534:=0
def tw6714058110312336467:=0
def tw4467156517911508032:=0
def tw11014796748099874477:=0
def tw10252598047373389604:=0
def tw10363691417074887968:=0
def tw257065941306390168:=0
def tw16290628237089800721:=0
def tw7649029362658736097:=0
def tw9764085629288715820:=0
def tw7184505643288894228:=0
def tw7036096632837772290:=0
def tw15152847689225504148:=0
def tw7041190655058749531:=0
def tw7399144104689417678:=0
def tw8107425903423590452:=0
def tw5583581398979906194:=0
def tw7827102829801254113:=0
def tw10209935642133364254:=0
def tw372972176051326883:=0
def tw16218945573923608026:=0
def tw4634007621706702727:=0
def tw391942623667691102:=0
def tw7618435774301585448:=0
def tw2280345022022509128:=0
def tw12971136745853093838:=0
def tw14230040887945771797:=0
def tw12972886881471433162:=0
def tw12429130224971249844:=0
def tw8209474630137243464:=0
def tw13908358112508457826:=0
def tw700627678748831162:=0
def tw3705047101819369181:=0
def tw2633320119239722009:=0
def tw14776174766796509363:=0
def tw1980907862715886739:=0
def tw9198236048223884467:=0
def tw9111418809107375672:=0
def tw8061976669297914913:=0
def tw6896418957599181856:=0
def tw37484094362212869:=0
def tw2479816734767350784:=0
def tw15347959455922118568:=0
def tw1336069863063009502:=0
def tw12194535090941800248:=0
def tw14698938340085951722:=0
def tw11880823592481483535:=0
def tw11348804025253178870:=0
def tw13836532382294658534:=0
def tw11872565817909437148:=0
def tw6665337623628794047:=0
def tw2471844804191348832:=0
def tw4851075305631910750:=0
def tw14573040331480914363:=0
def tw12922295882389688521:=0
def tw6953042330764033212:=0
def tw1468714058699229986:=0
def tw9502130166864060559:=0
def tw16792457285210054783:=0
def tw4739985368578249348:=0
def tw9975966478628521658:=0
def tw133576717844922814:=0
def tw12686962520638772723:=0
def tw11415893307916801200:=0
def tw6385521888925572177:=0
def tw3828619711388121950:=0
def tw8966438186646436541:=0
def tw10295598155203064408:=0
def tw550881226082540042:=0
def tw12503705685771442198:=0
def tw12841203820316871071:=0
def tw61438361136951301:=0
def tw7829327002119141643:=0
def tw15872659700599033710:=0
def tw8556534043441854779:=0
def tw2230192723929173029:=0
def tw3106956403267415905:=0
def tw7404971154022042979:=0
def tw16387822265662452361:=0
def tw600401619906892121:=0
def tw10317361859040648523:=0
def tw3530625439593076044:=0
def tw16228696735344651518:=0
def tw2184071055286173453:=0
def tw5037770910819906472:=0
def tw7675769313602596209:=0
def tw259977963810887077:=0
def tw3713329113525692505:=0
def tw16055241231429993676:=0
def tw17424080189289565648:=0
def tw15817537872764556988:=0
def tw6132660680784765486:=0
def tw16757663322661157236:=0
def tw13267912097531084471:=0
def tw10131350033113521894:=0
def tw14300965837501870697:=0
def tw14088628375285409379:=0
def tw1308708466181216088:=0
def tw6762433513635548764:=0
def tw9078408686474781748:=0
def tw4250191538976794132:=0
def tw12876667758671879212:=0
def tw12466592244248485534:=0
def tw14142944960692042771:=0
def tw16204179094861178081:=0
def tw10062261421098136456:=0
def tw797663842003491471:=0
def tw8932834141726250046:=0
def tw14059859740453037793:=0
def tw17516546001336394869:=0
def tw18343878152436456640:=0
def tw8105667052285258871:=0
def tw8154850689447003529:=0
def tw13293872399829958282:=0
def tw4833943520657801694:=0
def tw4354609595731951527:=0
def tw14975639513974016199:=0
def tw10310661204346443603:=0
def tw8611751273894620143:=0
def tw17638062982367509286:=0
def tw4987618805233474634:=0
def tw8674673775877888149:=0
def tw7184207125588805248:=0
def tw2793689985987207664:=0
def tw1135329633339403927:=0
def tw13526758685199358921:=0
def tw8275443638028384709:=0
def tw13365107410488210863:=0
def tw109361486866943522:=0
def tw16580296458465776161:=0
def tw7945151894977558267:=0
def tw17793222882743405009:=0
def tw5431782409160258563:=0
def tw16781447737839118159:=0
def tw14590084577575688069:=0
def tw4618049961042843528:=0
def tw550289997661655741:=0
def tw4037101514357633702:=0
def tw3639501616483970576:=0
def tw1984078540023366921:=0
def tw11176065246096524320:=0
def tw2940389733147902145:=0
def tw6159136316773226835:=0
def tw8282141347253596027:=0
def tw11964972222301126411:=0
def tw2698494948245979892:=0
def tw15689169459862975946:=0
def tw2368094189881434825:=0
def tw9799473187531775119:=0
def tw3825867186827270316:=0
def tw10738904604774826278:=0
def tw6484661771737035298:=0
def tw12510341028751917390:=0
def tw12569197401329708113:=0
def tw4833706304592929909:=0
def tw16334865178548466460:=0
def tw10368045447644881432:=0
def tw9896366500631755828:=0
def tw393646435303480319:=0
def tw1209208557227486858:=0
def tw6428301077693814869:=0
def tw12321786627175929700:=0
def tw9825094135496356563:=0
def tw9007593563962580150:=0
def tw10697027200440348045:=0
def tw2253483719300676147:=0
def tw2186077271705470481:=0
def tw17385394316933847562:=0
def tw1656765128849134916:=0
def tw14423880576339569984:=0
def tw4123848728186506693:=0
def tw16994850996381225861:=0
def tw9220168958235691425:=0
def tw17392103122109288856:=0
def tw2044220762372817421:=0
def tw8709312126163800844:=0
def tw15045471255776252830:=0
def tw10274448155083270040:=0
def tw853759889660596393:=0
def tw9584368356671732020:=0
def tw13653195750652616398:=0
def tw5865107016833453324:=0
def tw6296955041720981058:=0
def tw16431120513153528648:=0
def tw13282658935641546196:=0
def tw4738998714918734137:=0
def tw40507584392148471:=0
def tw6121024933919536254:=0
def tw2878434583661907562:=0
def tw6460884322713751712:=0
def tw4965514229062363754:=0
def tw10628001268160663344:=0
def tw15840641574131415019:=0
def tw10449510172075260928:=0
def tw7594336351863375803:=0
def tw17661087817339342545:=0
def tw5466844704668495580:=0
def tw18130263358870098310:=0
def tw11800881185838749760:=0
def tw14939300012506187865:=0
def tw7977709110260961034:=0
def tw16263573608249755196:=0
def tw10283721621050629007:=0
def tw4679721830154024284:=0
def tw3282559685347132057:=0
def tw5453284483465631505:=0
def tw17185973019320829638:=0
def tw172207648765709977:=0
def tw857841056776049035:=0
def tw5427068271598792488:=0
def tw5453444205005615170:=0
def tw18443790999249855123:=0
def tw5495835714855818487:=0
def tw12633275637389017261:=0
def tw1030096200796783487:=0
def tw15990628927051556809:=0
def tw15687308005842997015:=0
def tw10326123926036556799:=0
def tw8025787059895037225:=0
def tw9707829929950468257:=0
def tw1107610799386703475:=0
def tw12478992618474665073:=0
def tw7327890058293349620:=0
def tw9498032451094040067:=0
def tw5358311632850952127:=0
def tw97132375030165109:=0
def tw18132303297545520110:=0
def tw4597851010455247753:=0
def tw17354440390894786413:=0
def tw7094826169732254752:=0
def tw9745970930110327182:=0
def tw9131966255894796339:=0
def tw6781902232092482626:=0
def tw1446781764747156688:=0
def tw6531589572606337568:=0
def tw14965862193144484744:=0
def tw5268784666846138451:=0
def tw10082048975332429933:=0
def tw7411754915349742552:=0
def tw10637651149901452025:=0
def tw6854037672311353382:=0
def tw4490344128852016781:=0
def tw6479187706846977182:=0
def tw16106541985097708108:=0
def tw13314754920704089503:=0
def tw16778441608208445375:=0
def tw13301149163515108370:=0
def tw14286881683305401538:=0
def tw5465786721482033633:=0
def tw15866460414285084125:=0
def tw16397574760476878897:=0
def tw11079602349919799119:=0
def tw7085689917784174149:=0
def tw10591755023914094907:=0
def tw17743613567216372620:=0
def tw9068782579854691085:=0
def tw16021215514953234162:=0
def tw15391953493923640776:=0
def tw10152713133689673890:=0
def tw6930999839073759779:=0
def tw14093248895190836817:=0
def tw2452001065429255847:=0
def tw8894399664564027788:=0
def tw2563965129109504363:=0
def tw3493685463514521328:=0
def tw7357782855984592312:=0
def tw963252590033720758:=0
def tw522764953220291046:=0
def tw15571443478695797053:=0
def tw12194317261463668511:=0
def tw13296356355854833267:=0
def tw14287286549558845280:=0
def tw4129293239343442156:=0
def tw11199448792839758785:=0
def tw12012431849346671799:=0
def tw5905102693182020161:=0
def tw18228512819675965316:=0
def tw9283703358752336885:=0
def tw12909494846353046863:=0
def tw14019705171526942618:=0
def tw4182179803694467501:=0
def tw2094708149203743587:=0
def tw11801921045049408128:=0
def tw7123728295846907902:=0
def tw5126323342758401941:=0
def tw18247425348314702013:=0
def tw11867606709343979378:=0
def tw11627102230487191377:=0
def tw7068594264887418972:=0
def tw9402367151229549685:=0
def tw12909039098051863781:=0
def tw17708042245878600018:=0
def tw5136604099702044887:=0
def tw2357109626381270469:=0
def tw11099274078220979397:=0
def tw17609074733617514500:=0
def tw16944464248791259447:=0
def tw15632783881005787120:=0
def tw7001863333416189215:=0
def tw17005519876701986519:=0
def tw10343113053058805248:=0
def tw6831405413051361190:=0
def tw3777133009629944927:=0
def tw17336933639659285517:=0
def tw2072211117216989072:=0
def tw16345363448736799795:=0
def tw13762633976934534982:=0
def tw10416611466316719111:=0
def tw7280207810293342794:=0
def tw431861343357270601:=0
def tw12115992899671440659:=0
def tw8836855786095309923:=0
def tw10484753000308769671:=0
def tw3890274181717928920:=0
def tw8755225568880982183:=0
def tw1065923069585813120:=0
def tw8877607376810624060:=0
def tw3094507976912960840:=0
def tw4659281895538588336:=0
def tw4618461382748013192:=0
def tw4316571619734184436:=0
def tw8260553203018395661:=0
def tw8323018348970932378:=0
def tw3505529890595638059:=0
def tw903922189209907403:=0
def tw6386992295599133691:=0
def tw2634165735283324584:=0
def tw4348557164364461921:=0
def tw5684349605274688319:=0
def tw5922801177508543609:=0
def tw11382195630099759870:=0
def tw14607217628610612194:=0
def tw8331062179001972174:=0
def tw4092019737459286702:=0
def tw14592748102271029949:=0
def tw16487921634477849689:=0
def tw11784048837242786112:=0
def tw12109739504399159147:=0
def tw7168383321712004850:=0
def tw15171324513025489383:=0
def tw12667475888830847235:=0
def tw2213524998268710498:=0
def tw17754465186566066343:=0
def tw4312297607282648339:=0
def tw8083598184979293442:=0
def tw1939700361430710266:=0
def tw9740918542513723057:=0
def tw9923344791442333834:=0
def tw17864575966180903206:=0
def tw15737791055254396445:=0
def tw9443102641398190862:=0
def tw15067674202859889559:=0
def tw10929526741695392603:=0
def tw3791567717073209636:=0
def tw15907549418734692313:=0
def tw1256893394163094215:=0
def tw17747750193724944651:=0
def tw1822962887641215726:=0
def tw7881608433302652600:=0
def tw13496255724358070967:=0
def tw16373111037211548335:=0
def tw8359115987767159782:=0
def tw10445366430926111299:=0
def tw8621233646086018026:=0
def tw4579182213187963838:=0
def tw12122661069768122155:=0
def tw4956951581606110401:=0
def tw12610572052999990285:=0
def tw3039666793897256499:=0
def tw15450133280466484791:=0
def tw10971950161104588519:=0
def tw7071369009219847123:=0
def tw8950081296151507324:=0
def tw10835115995475600079:=0
def tw4683814041925477291:=0
def tw13389137724615964172:=0
def tw13488608017758738206:=0
def tw11932691038225983104:=0
def tw9703776714127232128:=0
def tw11536731066342289942:=0
def tw12359445066935201821:=0
def tw2578582278916864591:=0
def tw14664141265345711390:=0
def tw14748663063926453625:=0
def tw14809161171411005700:=0
def tw13048437522260301861:=0
def tw13685354838273153038:=0
def tw9456332093450055767:=0
def tw10825159347844176663:=0
def tw13070051731098075533:=0
def tw3138696146797700559:=0
def tw8209409551384458559:=0
def tw2704241755293730292:=0
def tw10763774365821510190:=0
def tw2679244866429389918:=0
def tw121190541672622659:=0
def tw7570712626375522418:=0
def tw2207666224600556355:=0
def tw1160689176366588856:=0
def tw10880334549131191655:=0
def tw8226413950337271762:=0
def tw16402080416504366073:=0
def tw11954810555914727402:=0
def tw4780424750716683942:=0
def tw4038517443679070944:=0
def tw11862855457174072902:=0
def tw9347057740575857928:=0
def tw11923851502354733836:=0
def tw17769350348350287031:=0
def tw10738857354343917348:=0
def tw8277574729549850464:=0
def tw13787890483408033383:=0
def tw11307260497746759545:=0
def tw673196522926588548:=0
def tw265187628547513095:=0
def tw16934020397182840312:=0
def tw7897981110190472836:=0
def tw8657556102169585579:=0
def tw292738002305292163:=0
def tw12739665095515767018:=0
def tw14703166573918705829:=0
def tw14766530404596817723:=0
def tw17625185060079374890:=0
def tw15581274129044526240:=0
def tw4399902778590344213:=0
def tw4247742493550295767:=0
def tw13270112511451996546:=0
def tw18242788240202989960:=0
def tw4822309656064616071:=0
def tw7767639325780242255:=0
def tw875626302705640504:=0
def tw6709981941482665225:=0
def tw6604373958906903356:=0
def tw17250039024688995298:=0
def tw3858723860408221552:=0
def tw1632136003809350684:=0
def tw4504061782990791342:=0
def tw9693209734188518064:=0
def tw7597142401602681054:=0
def tw493292858589195658:=0
def tw12568817940754838825:=0
def tw3740847850036356039:=0
def tw3569374337514096965:=0
def tw9540724558543452525:=0
def tw3680116618058461490:=0
def tw5819579645378675896:=0
def tw1026706356102657981:=0
def tw4958277182849539326:=0
def tw2675862858940537720:=0
def tw12998047503782498089:=0
def tw2266646316324399587:=0
def tw4715797676896686959:=0
def tw6776287698903492123:=0
def tw10882455365519933239:=0
def tw2734612139754302074:=0
def tw8948454370562868118:=0
def tw11027517522501265967:=0
def tw3655560919800806452:=0
def tw7038308470690194282:=0
def tw6084236829051492816:=0
def tw15624174889022503478:=0
def tw15562439395936972754:=0
def tw1088172452132221454:=0
def tw7389933307717970177:=0
def tw2229433423901415669:=0
def tw9813825063039354474:=0
def tw8959453093401723377:=0
def tw11456100907640261382:=0
def tw3586591411351590024:=0
def tw3981174979883156399:=0
def tw10767871107600751784:=0
def tw9073737565928953311:=0
def tw4801806130561738126:=0
def tw13677717591805141451:=0
def tw10499044245601692472:=0
def tw12091283504160870589:=0
def tw7495449410628191393:=0
def tw17200106522040809921:=0
def tw1531913354910613820:=0
def tw16314397108185915649:=0
def tw10370352269209783749:=0
def tw12816317112861733129:=0
def tw587890360260002919:=0
def tw15231151763362881450:=0
end PySem.W.Fast
open PySem PySem.W PyProof.Rows
set_option maxHeartbeats 0 in
theorem PySem.Challenge.cw_callwheel_k04_whole_no_row_begins_anothe_holds : PySem.Challenge.rw_callwheel_k04_whole_no_row_begins_anothe.Holds := by
  w_on; o_law; k_head; (case hw => w_witness2)
  k_fill
  refine L2.walk_of (l := PySem.Challenge.rw_callwheel_k04_whole_no_row_begins_anothe) (n := 63) (k := 4) (x := "_law_script") (CX := fun w => L2.CX PySem.Challenge.rw_callwheel_k04_whole_no_row_begins_anothe.prog w) (sp := fun w => MM.spLaw _) rfl (by decide) rfl ⟨rfl, by decide, by decide⟩ (fun w h Y => PySem.W.kIn_of Y) ?F (fun _ H a ns hl hO hS => ⟨a, ns, rfl, hO, hS, hl, fun _ => rfl⟩) (fun w H s e s' h => MM.cx_never h)
  case F =>
    intro w mg fa h KX G hmg
    refine' LK04.all_mk KX G hmg ?a1 ?l1 ?c1 ?k1 ?a2 ?l2 ?c2 ?k2 ?a3 ?l3 ?c3 ?k3 ?a4 ?l4 ?c4 ?k4 ?a5 ?l5 ?c5 ?k5 ?a6 ?l6 ?c6 ?k6 ?a7 ?l7 ?c7 ?k7 ?a8 ?l8 ?c8 ?k8 ?aL ?lL ?cL ?kL ?z_abs ?z_int ?z_isinstance ?z_len ?z_list ?z_max ?z_min ?z_range ?z_str ?z_sum ?q_BREAK ?q_CLOSED ?q_GAP
    (case a1 => k_is); (case l1 => k_is); (case c1 => k_is); (case k1 => k_is); (case a2 => k_is); (case l2 => k_is); (case c2 => k_is); (case k2 => k_is); (case a3 => k_is); (case l3 => k_is); (case c3 => k_is); (case k3 => k_is); (case a4 => k_is); (case l4 => k_is); (case c4 => k_is); (case k4 => k_is); (case a5 => k_is); (case l5 => k_is); (case c5 => k_is); (case k5 => k_is); (case a6 => k_is); (case l6 => k_is); (case c6 => k_is); (case k6 => k_is); (case a7 => k_is); (case l7 => k_is); (case c7 => k_is); (case k7 => k_is); (case a8 => k_is); (case l8 => k_is); (case c8 => k_is); (case k8 => k_is); (case aL => k_is); (case lL => k_is); (case cL => k_is); (case kL => k_is); (case z_abs => k_is); (case z_int => k_is); (case z_isinstance => k_is); (case z_len => k_is); (case z_list => k_is); (case z_max => k_is); (case z_min => k_is); (case z_range => k_is); (case z_str => k_is); (case z_sum => k_is); (case q_BREAK => k_is); (case q_CLOSED => k_is); (case q_GAP => k_is)

