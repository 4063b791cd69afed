import PyProof.Rows.All
import Wide.All
import OpenK.AllK
import Wide.FinOn
import HandS.ForMost
import HandS.ForExc
import HandS.IsInst
import HandS.Wide
import HandS.Gcd
import HandS.Flow
import HandS.Style
import HandS.NoneIn
import KE.KMathG
import Flt.RightSqrt
import HandS.Evl
import PySem.Challenge.RW_steadyticks_k01_numbers_and_lengths
set_option Elab.async false
set_option linter.all false
set_option maxRecDepth 100000
set_option maxHeartbeats 4000000
namespace FX
open PySem PySem.Spec L2

/-! ### words that evaluation stops at -/
@[irreducible] def Br (b : Bool) (A B : Prop) : Prop := if b = true then A else B
theorem br_eq (b : Bool) (A B : Prop) : Br b A B = (if b = true then A else B) := by unfold Br; rfl
theorem br_i {b : Bool} {A B : Prop} (h1 : b = true → A) (h2 : b = false → B) : Br b A B := by
  rw [br_eq]; cases b
  · exact h2 rfl
  · exact h1 rfl
theorem br_t {b : Bool} {A B : Prop} (h : b = true) (q : A) : Br b A B := br_i (fun _ => q) (fun z => by rw [h] at z; cases z)
theorem br_f {b : Bool} {A B : Prop} (h : b = false) (q : B) : Br b A B := br_i (fun z => by rw [h] at z; cases z) (fun _ => q)
theorem br_d {p : Prop} [Decidable p] {A B : Prop} (h1 : p → A) (h2 : ¬ p → B) : Br (decide p) A B := br_i (fun z => h1 (of_decide_eq_true z)) (fun z => h2 (of_decide_eq_false z))
theorem br_nd {p : Prop} [Decidable p] {A B : Prop} (h1 : ¬ p → A) (h2 : p → B) : Br (!decide p) A B := br_i (fun z => h1 (by simpa using z)) (fun z => h2 (by simpa using z))
theorem br_tt {A B : Prop} (q : A) : Br true A B := br_t rfl q
theorem br_ff {A B : Prop} (q : B) : Br false A B := br_f rfl q
theorem br_dt {p : Prop} [Decidable p] {A B : Prop} (h : p) (q : A) : Br (decide p) A B := br_t (decide_eq_true h) q
theorem br_df {p : Prop} [Decidable p] {A B : Prop} (h : ¬ p) (q : B) : Br (decide p) A B := br_f (decide_eq_false h) q
theorem br_ndt {p : Prop} [Decidable p] {A B : Prop} (h : ¬ p) (q : A) : Br (!decide p) A B := br_t (by simp [h]) q
theorem br_ndf {p : Prop} [Decidable p] {A B : Prop} (h : p) (q : B) : Br (!decide p) A B := br_f (by simp [h]) q
/-- a side condition -/
@[irreducible] def Sd (P k : Prop) : Prop := P ∧ k
theorem sd_i {P k : Prop} (h : P) (q : k) : Sd P k := by unfold Sd; exact ⟨h, q⟩
theorem sd_e {P k : Prop} (h : Sd P k) : P ∧ k := by unfold Sd at h; exact h
/-- a new address -/
@[irreducible] def New (H : Hp) (k : Addr → Prop) : Prop := ∀ p, H p = none → k p
theorem new_i {H : Hp} {k : Addr → Prop} (h : ∀ p, H p = none → k p) : New H k := by unfold New; exact h
theorem new_e {H : Hp} {k : Addr → Prop} (h : New H k) : ∀ p, H p = none → k p := by unfold New at h; exact h
/-- reading -/
@[irreducible] def RdL (K : PySem.W.Frag) (H : Hp) (p : Addr) (k : List V → Prop) : Prop := ∃ xs, SqL K H p xs ∧ k xs
theorem rdL_i {K : PySem.W.Frag} {H : Hp} {p : Addr} {k : List V → Prop} {xs : List V} (h : SqL K H p xs) (q : k xs) : RdL K H p k := by unfold RdL; exact ⟨xs, h, q⟩
theorem rdL_e {K : PySem.W.Frag} {H : Hp} {p : Addr} {k : List V → Prop} (h : RdL K H p k) : ∃ xs, SqL K H p xs ∧ k xs := by unfold RdL at h; exact h
@[irreducible] def RdT (K : PySem.W.Frag) (H : Hp) (p : Addr) (k : List V → Prop) : Prop := ∃ xs, SqT K H p xs ∧ k xs
theorem rdT_i {K : PySem.W.Frag} {H : Hp} {p : Addr} {k : List V → Prop} {xs : List V} (h : SqT K H p xs) (q : k xs) : RdT K H p k := by unfold RdT; exact ⟨xs, h, q⟩
theorem rdT_e {K : PySem.W.Frag} {H : Hp} {p : Addr} {k : List V → Prop} (h : RdT K H p k) : ∃ xs, SqT K H p xs ∧ k xs := by unfold RdT at h; exact h
/-- a list or a tuple -/
@[irreducible] def RdS (K : PySem.W.Frag) (H : Hp) (p : Addr) (k : List V → Prop) : Prop := ∃ xs, (SqL K H p xs ∨ SqT K H p xs) ∧ k xs
theorem rdS_l {K : PySem.W.Frag} {H : Hp} {p : Addr} {k : List V → Prop} {xs : List V} (h : SqL K H p xs) (q : k xs) : RdS K H p k := by unfold RdS; exact ⟨xs, .inl h, q⟩
theorem rdS_t {K : PySem.W.Frag} {H : Hp} {p : Addr} {k : List V → Prop} {xs : List V} (h : SqT K H p xs) (q : k xs) : RdS K H p k := by unfold RdS; exact ⟨xs, .inr h, q⟩
theorem rdS_e {K : PySem.W.Frag} {H : Hp} {p : Addr} {k : List V → Prop} (h : RdS K H p k) : ∃ xs, (SqL K H p xs ∨ SqT K H p xs) ∧ k xs := by unfold RdS at h; exact h
/-- a tracked object, as it stands -/
@[irreducible] def Get (H : Hp) (p : Addr) (k : HO → Prop) : Prop := ∃ o, H p = some o ∧ k o
theorem get_i {H : Hp} {p : Addr} {k : HO → Prop} {o : HO} (h : H p = some o) (q : k o) : Get H p k := by unfold Get; exact ⟨o, h, q⟩
theorem get_e {H : Hp} {p : Addr} {k : HO → Prop} (h : Get H p k) : ∃ o, H p = some o ∧ k o := by unfold Get at h; exact h
/-- an option that has a value -/
@[irreducible] def Som {α : Type} (o : Option α) (k : α → Prop) : Prop := ∃ x, o = some x ∧ k x
theorem som_i {α : Type} {o : Option α} {k : α → Prop} {x : α} (h : o = some x) (q : k x) : Som o k := by unfold Som; exact ⟨x, h, q⟩
theorem som_e {α : Type} {o : Option α} {k : α → Prop} (h : Som o k) : ∃ x, o = some x ∧ k x := by unfold Som at h; exact h

/-! ### the heap -/
def okO : HO → Bool
  | .dT _ => false
  | .frz _ u => okO u
  | _ => true
/-- no dict with tuple keys is tracked -/
def Cln (H : Hp) : Prop := ∀ a o, H a = some o → okO o = true
theorem Cln.upd {H : Hp} {a : Addr} {o : HO} (c : Cln H) (h : okO o = true) : Cln (upd H a o) := fun b u e => by
  by_cases q : b = a
  · rw [q, upd_same] at e; cases e; exact h
  · rw [upd_ne q] at e; exact c b u e
theorem Cln.only {H : Hp} (h : Only H) : Cln H := fun a o e => by
  rcases h a with z | ⟨ob, xs, z⟩
  · rw [z] at e; cases e
  · rw [z] at e; cases e; rfl
theorem Same.upd {H H' : Hp} {p : Addr} {o : HO} (s : Same H H') (h : H' p = none) : Same H (upd H' p o) := fun b u e => by
  rw [upd_ne (ne_of_none (s b u e) h)]; exact s b u e
theorem upd_none {H : Hp} {a p : Addr} {o : HO} : (upd H a o p = none) = (p ≠ a ∧ H p = none) := by
  refine propext ⟨fun h => ?_, fun h => by rw [upd_ne h.1]; exact h.2⟩
  by_cases q : p = a
  · rw [q, upd_same] at h; cases h
  · rw [upd_ne q] at h; exact ⟨q, h⟩
theorem upd_comm {H : Hp} {a b : Addr} {o u : HO} (h : a ≠ b) : upd (upd H a o) b u = upd (upd H b u) a o := by
  funext c; unfold L2.upd
  by_cases h1 : c = a
  · by_cases h2 : c = b
    · exact absurd (h1.symm.trans h2) h
    · simp [h1, h]
  · by_cases h2 : c = b
    · simp [h2, Ne.symm h]
    · simp [h1, h2]
theorem upd_id {H : Hp} {a : Addr} {o : HO} (h : H a = some o) : upd H a o = H := by
  funext c; unfold L2.upd
  by_cases h1 : c = a
  · rw [if_pos h1, h1, h]
  · rw [if_neg h1]

/-- H2 is H1 without some of what was made since H -/
structure Fgt (H H1 H2 : Hp) : Prop where
  cln : Cln H2
  sub : ∀ b, H2 b = H1 b ∨ (H2 b = none ∧ H b = none ∧ ∀ a, H1 b ≠ some (.own a))
theorem Fgt.refl {H H1 : Hp} (c : Cln H1) : Fgt H H1 H1 := ⟨c, fun _ => .inl rfl⟩
theorem Fgt.new {H H1 H2 : Hp} {p : Addr} {o : HO} (f : Fgt H H1 H2) (n : H1 p = none) (n0 : H p = none) (h : ∀ a, o ≠ .own a) : Fgt H (upd H1 p o) H2 := ⟨f.cln, fun b => by
  by_cases q : b = p
  · subst q
    refine .inr ⟨?_, n0, fun a e => ?_⟩
    · rcases f.sub b with z | z
      · rw [z, n]
      · exact z.1
    · rw [upd_same] at e; exact h a (Option.some.inj e)
  · rcases f.sub b with z | ⟨z, z1, z2⟩
    · exact .inl (by rw [upd_ne q]; exact z)
    · exact .inr ⟨z, z1, fun a => by rw [upd_ne q]; exact z2 a⟩⟩
theorem Fgt.set {H H1 H2 : Hp} {p : Addr} {o : HO} (f : Fgt H H1 H2) (h : okO o = true) : Fgt H (upd H1 p o) (upd H2 p o) := ⟨f.cln.upd h, fun b => by
  by_cases q : b = p
  · subst q; exact .inl (by rw [upd_same, upd_same])
  · rw [upd_ne q, upd_ne q]; exact f.sub b⟩
/-- forget what was made on the way -/
@[irreducible] def Gc (H H' : Hp) (k : Hp → Prop) : Prop := ∃ H2, Fgt H H' H2 ∧ k H2
theorem gc_i {H H' H2 : Hp} {k : Hp → Prop} (f : Fgt H H' H2) (q : k H2) : Gc H H' k := by unfold Gc; exact ⟨H2, f, q⟩
theorem gc_e {H H' : Hp} {k : Hp → Prop} (h : Gc H H' k) : ∃ H2, Fgt H H' H2 ∧ k H2 := by unfold Gc at h; exact h
theorem objOk_down {P : Program} {w : World} {H H' : Hp} {h' : Heap} (s : ∀ dx a, H' dx = some (.own a) → H dx = some (.own a)) :
    ∀ (o : HO) (a : Addr), okO o = true → ObjOk P w H' h' a o → ObjOk P w H h' a o := by
  intro o
  induction o with
  | frz ob u ih =>
    intro a c y
    obtain ⟨e, y⟩ := y
    exact ⟨e, ih a c y⟩
  | ins C dx fs =>
    intro a c y
    obtain ⟨d, r⟩ := y
    exact ⟨s _ _ d, r⟩
  | dT kvs => intro a c; cases c
  | lst xs => intro a c y; exact y
  | tup xs => intro a c y; exact y
  | dK xs => intro a c y; exact y
  | set S n => intro a c y; exact y
  | own y => intro a c y; exact y
  | xd fs => intro a c y; exact y
  | rng lo hi => intro a c y; exact y
  | tbl ps => intro a c y; exact y
  | met f y => intro a c y; exact y
  | ext φ => intro a c y; exact y
theorem hok_down {P : Program} {w : World} {H H' H2 : Hp} {h' : Heap} (f : Fgt H H' H2) (y : HOk P w H' h') : HOk P w H2 h' := fun a o e =>
  objOk_down (fun dx b q => by
    rcases f.sub dx with z | z
    · rw [z]; exact q
    · exact absurd q (z.2.2 b)) o a (f.cln a o e) (y a o (by
    rcases f.sub a with z | z
    · rw [← z]; exact e
    · rw [z.1] at e; cases e))
theorem Fgt.none {H H' H2 : Hp} (f : Fgt H H' H2) {b : Addr} (e : H' b = Option.none) : H2 b = Option.none := by
  rcases f.sub b with z | z
  · rw [z]; exact e
  · exact z.1
theorem Fgt.keep {H H' H2 : Hp} (f : Fgt H H' H2) {b : Addr} {u u' : HO} (e : H b = some u) (e' : H' b = some u') : H2 b = some u' := by
  rcases f.sub b with z | z
  · rw [z]; exact e'
  · rw [z.2.1] at e; cases e
theorem inv_down {X : Cx} {pins : List (Addr × Obj)} {σ : L2.St} {H H' H2 : Hp} {s s' : Shared} (I : Inv X pins σ H s) (J : Inv X pins σ H' s') (f : Fgt H H' H2) : Inv X pins σ H2 s' :=
  ⟨J.ok, J.os, J.bare, ⟨J.base.keep, J.base.slot, fun b o e n hx => f.none (J.base.free b o e n hx), J.base.there, fun b xs e => f.keep (I.base.tups b xs e) (J.base.tups b xs e), fun b o u e => f.keep (I.base.frzs b o u e) (J.base.frzs b o u e),
      fun b ps e => let ⟨m1, e1⟩ := I.base.tbls b ps e; let ⟨m2, e2⟩ := J.base.tbls b ps e; ⟨m2, f.keep e1 e2⟩⟩, J.loc, J.cell, f.none J.free, fun x c e => f.none (J.freeC x c e),
    fun p hp => let ⟨e, n, r⟩ := J.pin p hp; ⟨e, f.none n, r⟩, hok_down f J.hok, J.len⟩
def tGc (te : TE) : TE := fun σ H Q => te σ H fun v H' => Gc H H' fun H2 => Q v H2
def tGcT (tt : TT) : TT := fun σ H Q => tt σ H fun v H' => Gc H H' fun H2 => Q v H2
section
variable {X : Cx} {e : Expr} {te : TE} {tt : TT}
theorem pe_gc (h : PE X e te) : PE X e (tGc te) := ⟨fun pins s σ H Q I q => thn (h.run pins s σ H _ I q) fun u s1 ⟨v, H1, I1, r, g⟩ => by
  obtain ⟨H2, f, g⟩ := gc_e g
  exact ⟨v, H2, inv_down I I1 f, r, g⟩⟩
theorem pt_gc (h : PT X e tt) : PT X e (tGcT tt) := ⟨fun pins s σ H Q I q => thn (h.run pins s σ H _ I q) fun u s1 ⟨H1, I1, g⟩ => by
  obtain ⟨H2, f, g⟩ := gc_e g
  exact ⟨H2, inv_down I I1 f, g⟩⟩
theorem pe_mono {t' : TE} (h : PE X e te) (m : ∀ σ H Q, t' σ H Q → te σ H Q) : PE X e t' := ⟨fun pins s σ H Q I q => h.run pins s σ H Q I (m σ H Q q)⟩
theorem pt_mono {t' : TT} (h : PT X e tt) (m : ∀ σ H Q, t' σ H Q → tt σ H Q) : PT X e t' := ⟨fun pins s σ H Q I q => h.run pins s σ H Q I (m σ H Q q)⟩
theorem ps_mono {st : Stmt} {t t' : TS} (h : PS X st t) (m : ∀ D σ H, t' D σ H → t D σ H) : PS X st t' := ⟨fun pins s σ H D I q => h.run pins s σ H D I (m D σ H q)⟩
end
/-- a call that leaves less behind -/
def spGc (sp : Sp) : Sp := fun vs H Q E => sp vs H (fun v H' => Gc H H' fun H2 => Q v H2) E
theorem fn_gc {P : Program} {w : World} {K : PySem.W.Frag} {mg : Str → Option Value} {base : Heap} {CX : CXT} {k : Nat} {f : Addr} {fd : FuncData} {ps : List Str} {sp : Sp} (F : FnOk P w K mg base CX k f fd ps sp) :
    FnOk P w K mg base CX k f fd ps (spGc sp) :=
  ⟨fun vs H Q E h => F.len vs H _ E h, fun A outer s H args us vs Q E hr he hb hv hs => codeAny_mono (F.run A outer s H args us vs _ E hr he hb hv hs) fun r s' h => by
    cases r with
    | error e => exact h
    | ok fl =>
      cases fl with
      | ret u =>
        obtain ⟨v, H', os, bare, un, hok, r, g⟩ := h
        obtain ⟨H2, f, g⟩ := gc_e g
        exact ⟨v, H2, os, bare, ⟨un.keep, un.slot, fun b o e n hx => f.none (un.free b o e n hx), un.there, fun b xs e => f.keep e (un.tups b xs e), fun b o u e => f.keep e (un.frzs b o u e), fun b ps e => let ⟨m2, e2⟩ := un.tbls b ps e; ⟨m2, f.keep e e2⟩⟩, hok_down f hok, r, g⟩
      | next => exact h
      | brk => exact h
      | cont => exact h⟩
end FX
namespace FX
open PySem PySem.Spec L2

/-! ### names -/
def fV (i : Nat) : TE := fun σ H Q => match σ[i]? with | some (some v) => Q v H | _ => False
section
variable {X : Cx} {a b c e : Expr} {es : List Expr} {ta tb tc te : TE} {tt tu : TT} {t : TA} {pos p : Pos} {x : Str}
theorem xv (i : Nat) (hN : X.N[i]? = some x := by rfl) (hv : Vis X.env.scope x := by first | exact Or.inl rfl | exact Or.inr (Or.inl rfl) | exact Or.inr (Or.inr rfl)) (hd : (x == ("__debug__" : Str)) = false := by decide)
    (hcd : (x == ("__classdict__" : Str)) = false := by decide) : PE X (.Name x pos) (fV i) := pe_mono (pv i hN hv hd hcd) fun σ H Q h => by
  unfold fV at h
  split at h
  · rename_i v e; exact ⟨v, e, h⟩
  · exact h.elim

/-! ### operators, by values -/
def rAdd (K : PySem.W.Frag) : R2 := fun x y H Q => match x, y with
  | .int i, .int j => Q (.int (i + j)) H
  | .str i, .str j => Sd (i.length + j.length ≤ sizeLine) (Q (.str (i ++ j)) H)
  | .ref p, .ref q => Get H p fun o => Get H q fun u => match o, u with
    | .lst xs, .lst ys => Sd (xs.length + ys.length ≤ sizeLine) (New H fun r => Q (.ref r) (upd H r (.lst (xs ++ ys))))
    | .tup xs, .tup ys => Sd (xs ≠ [] ∧ ys ≠ [] ∧ xs.length + ys.length ≤ sizeLine) (New H fun r => Q (.ref r) (upd H r (.tup (xs ++ ys))))
    | _, _ => False
  | _, _ => False
theorem o_add : OpR X (binaryOp .Add) (rAdd X.K) := by
  intro pins s σ H x y v u Q I rx ry h
  unfold rAdd at h
  split at h
  · exact op_add pins s σ H _ _ v u Q I rx ry ⟨_, _, rfl, rfl, h⟩
  · obtain ⟨h1, h⟩ := sd_e h
    exact op_add_str pins s σ H _ _ v u Q I rx ry ⟨_, _, rfl, rfl, h1, h⟩
  · obtain ⟨o, ho, h⟩ := get_e h
    obtain ⟨o', ho', h⟩ := get_e h
    split at h
    · obtain ⟨h1, h⟩ := sd_e h
      exact op_cat pins s σ H _ _ v u Q I rx ry ⟨_, _, _, _, rfl, rfl, ho, ho', h1, new_e h⟩
    · obtain ⟨⟨h1, h2, h3⟩, h⟩ := sd_e h
      exact op_catT pins s σ H _ _ v u Q I rx ry ⟨_, _, _, _, rfl, rfl, SqT.of ho, SqT.of ho', h1, h3, fun z => absurd z h2, fun _ => new_e h⟩
    · exact h.elim
  · exact h.elim
def rSub : R2 := fun x y H Q => match x, y with | .int i, .int j => Q (.int (i - j)) H | _, _ => False
theorem o_sub : OpR X (binaryOp .Sub) rSub := by
  intro pins s σ H x y v u Q I rx ry h
  unfold rSub at h
  split at h
  · exact op_sub pins s σ H _ _ v u Q I rx ry ⟨_, _, rfl, rfl, h⟩
  · exact h.elim
def MulOk (i j : Int) : Prop := CMul i j ∨ CMulW i j
theorem mulOk_l {i j : Int} (h : -(2 ^ 64) < i ∧ i < 2 ^ 64) : MulOk i j := .inl (.inl h)
theorem mulOk_r {i j : Int} (h : -(2 ^ 64) < j ∧ j < 2 ^ 64) : MulOk i j := .inl (.inr h)
def rMul : R2 := fun x y H Q => match x, y with
  | .int i, .int j => Sd (MulOk i j) (Q (.int (i * j)) H)
  | .ref p, .int k => Get H p fun o => match o with
    | .lst xs => Sd (-(2 ^ 63) ≤ k ∧ k < 2 ^ 63 ∧ xs.length * k.toNat ≤ sizeLine) (New H fun r => Q (.ref r) (upd H r (.lst (List.replicate k.toNat xs).flatten)))
    | _ => False
  | _, _ => False
theorem o_mul : OpR X (binaryOp .Mult) rMul := by
  intro pins s σ H x y v u Q I rx ry h
  unfold rMul at h
  split at h
  · obtain ⟨h1, h⟩ := sd_e h
    rcases h1 with h1 | h1
    · exact op_mul pins s σ H _ _ v u Q I rx ry ⟨_, _, rfl, rfl, h1, h⟩
    · exact op_mulW pins s σ H _ _ v u Q I rx ry ⟨_, _, rfl, rfl, h1, h⟩
  · obtain ⟨o, ho, h⟩ := get_e h
    split at h
    · obtain ⟨⟨h1, h2, h3⟩, h⟩ := sd_e h
      exact op_rep pins s σ H _ _ v u Q I rx ry ⟨_, _, _, rfl, rfl, ho, h1, h2, h3, new_e h⟩
    · exact h.elim
  · exact h.elim
/-- // by a positive divisor; by any other -/
def rDiv : R2 := fun x y H Q => match x, y with | .int i, .int j => Sd (CDivW i j) (Q (.int (i / j)) H) | _, _ => False
theorem o_div : OpR X (binaryOp .FloorDiv) rDiv := by
  intro pins s σ H x y v u Q I rx ry h
  unfold rDiv at h
  split at h
  · obtain ⟨h1, h⟩ := sd_e h
    exact op_fdivW pins s σ H _ _ v u Q I rx ry ⟨_, _, rfl, rfl, h1, h⟩
  · exact h.elim
theorem cdivW_small {i j : Int} (h : 0 < j ∧ j < 2 ^ 100) : CDivW i j := wide_div (b := 100) h.1 (by omega) (by decide) (by decide)
def CDivNW (_ j : Int) : Prop := j ≠ 0 ∧ j.natAbs.log2 < 9000
theorem cdivNW_small {i j : Int} (h : j ≠ 0 ∧ j < 2 ^ 100 ∧ -(2 ^ 100) < j) : CDivNW i j := ⟨h.1, Nat.lt_of_lt_of_le (PySem.Flt.log2_lt_of (k := 100) (by decide) (by omega)) (by decide)⟩
def rDivN : R2 := fun x y H Q => match x, y with | .int i, .int j => Sd (CDivNW i j) (Q (.int (i.fdiv j)) H) | _, _ => False
theorem o_divN : OpR X (binaryOp .FloorDiv) rDivN := by
  intro pins s σ H x y v u Q I rx ry h
  unfold rDivN at h
  split at h
  · obtain ⟨h1, h⟩ := sd_e h
    have := opI (X := X) (C := CDivNW) (g := fun i j => i.fdiv j) (f := binaryOp .FloorDiv) fun _ _ _ _ _ _ _ hc q => PyProof.Rows.floordiv_int hc.1 q (.inl (PyProof.noPylong_of_log2 hc.2))
    exact this pins s σ H _ _ v u Q I rx ry ⟨_, _, rfl, rfl, h1, h⟩
  · exact h.elim
def rMod : R2 := fun x y H Q => match x, y with | .int i, .int j => Sd (0 < j) (Q (.int (i % j)) H) | _, _ => False
theorem o_mod : OpR X (binaryOp .Mod) rMod := by
  intro pins s σ H x y v u Q I rx ry h
  unfold rMod at h
  split at h
  · obtain ⟨h1, h⟩ := sd_e h
    exact op_mod pins s σ H _ _ v u Q I rx ry ⟨_, _, rfl, rfl, h1, h⟩
  · exact h.elim
def rModN : R2 := fun x y H Q => match x, y with | .int i, .int j => Sd (j ≠ 0) (Q (.int (i.fmod j)) H) | _, _ => False
theorem o_modN : OpR X (binaryOp .Mod) rModN := by
  intro pins s σ H x y v u Q I rx ry h
  unfold rModN at h
  split at h
  · obtain ⟨h1, h⟩ := sd_e h
    exact op_modN pins s σ H _ _ v u Q I rx ry ⟨_, _, rfl, rfl, h1, h⟩
  · exact h.elim
def rPow : R2 := fun x y H Q => match x, y with | .int i, .int j => Sd (CPow i j) (Q (.int (i ^ j.toNat)) H) | _, _ => False
theorem o_pow : OpR X (binaryOp .Pow) rPow := by
  intro pins s σ H x y v u Q I rx ry h
  unfold rPow at h
  split at h
  · obtain ⟨h1, h⟩ := sd_e h
    exact op_pow pins s σ H _ _ v u Q I rx ry ⟨_, _, rfl, rfl, h1, h⟩
  · exact h.elim
def rShl : R2 := fun x y H Q => match x, y with | .int i, .int j => Sd (CPow i j) (Q (.int (i * 2 ^ j.toNat)) H) | _, _ => False
theorem o_shl : OpR X (binaryOp .LShift) rShl := by
  intro pins s σ H x y v u Q I rx ry h
  unfold rShl at h
  split at h
  · obtain ⟨h1, h⟩ := sd_e h
    exact op_shl pins s σ H _ _ v u Q I rx ry ⟨_, _, rfl, rfl, h1, h⟩
  · exact h.elim
def rShr : R2 := fun x y H Q => match x, y with | .int i, .int j => Sd (0 ≤ j) (Q (.int (i / 2 ^ j.toNat)) H) | _, _ => False
theorem o_shr : OpR X (binaryOp .RShift) rShr := by
  intro pins s σ H x y v u Q I rx ry h
  unfold rShr at h
  split at h
  · obtain ⟨h1, h⟩ := sd_e h
    exact op_shr pins s σ H _ _ v u Q I rx ry ⟨_, _, rfl, rfl, h1, h⟩
  · exact h.elim
def rBit (g : Int → Int → Int) : R2 := fun x y H Q => match x, y with | .int i, .int j => Q (.int (g i j)) H | _, _ => False
theorem o_and : OpR X (binaryOp .BitAnd) (rBit Builtin.bitAnd) := by
  intro pins s σ H x y v u Q I rx ry h
  unfold rBit at h
  split at h
  · exact op_and pins s σ H _ _ v u Q I rx ry ⟨_, _, rfl, rfl, h⟩
  · exact h.elim
theorem o_or : OpR X (binaryOp .BitOr) (rBit Builtin.bitOr) := by
  intro pins s σ H x y v u Q I rx ry h
  unfold rBit at h
  split at h
  · exact op_or pins s σ H _ _ v u Q I rx ry ⟨_, _, rfl, rfl, h⟩
  · exact h.elim
theorem o_xor : OpR X (binaryOp .BitXor) (rBit Builtin.bitXor) := by
  intro pins s σ H x y v u Q I rx ry h
  unfold rBit at h
  split at h
  · exact op_xor pins s σ H _ _ v u Q I rx ry ⟨_, _, rfl, rfl, h⟩
  · exact h.elim
def rNeg : V → Hp → VK → Prop := fun x H Q => match x with | .int i => Q (.int (-i)) H | _ => False
theorem o_neg : UnR X (unaryOp .USub) rNeg := by
  intro pins s σ H x v Q I rx h
  unfold rNeg at h
  split at h
  · exact un_neg pins s σ H _ v Q I rx ⟨_, rfl, h⟩
  · exact h.elim

/-! ### comparisons -/
def rCmp (g : Int → Int → Bool) : R2 := fun x y H Q => match x, y with | .int i, .int j => Q (.bl (g i j)) H | _, _ => False
theorem o_lt : OpR X (compareOp .Lt) (rCmp fun i j => decide (i < j)) := by
  intro pins s σ H x y v u Q I rx ry h
  unfold rCmp at h
  split at h
  · exact op_lt pins s σ H _ _ v u Q I rx ry ⟨_, _, rfl, rfl, h⟩
  · exact h.elim
theorem o_le : OpR X (compareOp .LtE) (rCmp fun i j => decide (i ≤ j)) := by
  intro pins s σ H x y v u Q I rx ry h
  unfold rCmp at h
  split at h
  · exact op_le pins s σ H _ _ v u Q I rx ry ⟨_, _, rfl, rfl, h⟩
  · exact h.elim
theorem o_gt : OpR X (compareOp .Gt) (rCmp fun i j => decide (j < i)) := by
  intro pins s σ H x y v u Q I rx ry h
  unfold rCmp at h
  split at h
  · exact op_gt pins s σ H _ _ v u Q I rx ry ⟨_, _, rfl, rfl, h⟩
  · exact h.elim
theorem o_ge : OpR X (compareOp .GtE) (rCmp fun i j => decide (j ≤ i)) := by
  intro pins s σ H x y v u Q I rx ry h
  unfold rCmp at h
  split at h
  · exact op_ge pins s σ H _ _ v u Q I rx ry ⟨_, _, rfl, rfl, h⟩
  · exact h.elim
/-- == of data -/
@[irreducible] def EqD (K : PySem.W.Frag) (H : Hp) (x y : V) (k : Bool → Prop) : Prop := ∃ d e, Dp K H x d ∧ Dp K H y e ∧ SeqAt.shaped d = true ∧ SeqAt.shaped e = true ∧ k (PyData.eqv d e)
theorem eqD_i {K : PySem.W.Frag} {H : Hp} {x y : V} {k : Bool → Prop} {d e : PyData} (h1 : Dp K H x d) (h2 : Dp K H y e) (h3 : SeqAt.shaped d = true) (h4 : SeqAt.shaped e = true) (q : k (PyData.eqv d e)) : EqD K H x y k := by
  unfold EqD; exact ⟨d, e, h1, h2, h3, h4, q⟩
theorem eqD_e {K : PySem.W.Frag} {H : Hp} {x y : V} {k : Bool → Prop} (h : EqD K H x y k) : ∃ d e, Dp K H x d ∧ Dp K H y e ∧ SeqAt.shaped d = true ∧ SeqAt.shaped e = true ∧ k (PyData.eqv d e) := by unfold EqD at h; exact h
def rEqq (K : PySem.W.Frag) : R2 := fun x y H Q => match x, y with
  | .int i, .int j => Q (.bl (decide (i = j))) H
  | .str i, .str j => Q (.bl (decide (i = j))) H
  | .bl i, .bl j => Q (.bl (decide (i = j))) H
  | .non, .non => Q (.bl true) H
  | .non, .int _ => Q (.bl false) H
  | .int _, .non => Q (.bl false) H
  | .non, .str _ => Q (.bl false) H
  | .str _, .non => Q (.bl false) H
  | .int _, .str _ => Q (.bl false) H
  | .str _, .int _ => Q (.bl false) H
  | .byt _, _ => False
  | .flt _, _ => False
  | .ty _, _ => False
  | x, y => EqD K H x y fun b => Q (.bl b) H
theorem dcd {p q : Prop} [Decidable p] [Decidable q] (h : p ↔ q) : decide p = decide q := by
  by_cases hp : p
  · rw [decide_eq_true hp, decide_eq_true (h.mp hp)]
  · rw [decide_eq_false hp, decide_eq_false (fun z => hp (h.mpr z))]
theorem o_eq (hu : X.A.units + 64 < cLine) : OpR X (compareOp .Eq) (rEqq X.K) := by
  intro pins s σ H x y v u Q I rx ry h
  unfold rEqq at h
  split at h
  · exact op_eq pins s σ H _ _ v u Q I rx ry ⟨rfl, by rw [dcd (show V.int _ = V.int _ ↔ _ = _ from ⟨V.int.inj, fun z => by rw [z]⟩)]; exact h⟩
  · exact op_eq pins s σ H _ _ v u Q I rx ry ⟨rfl, by rw [dcd (show V.str _ = V.str _ ↔ _ = _ from ⟨V.str.inj, fun z => by rw [z]⟩)]; exact h⟩
  · exact op_eq pins s σ H _ _ v u Q I rx ry ⟨rfl, by rw [dcd (show V.bl _ = V.bl _ ↔ _ = _ from ⟨V.bl.inj, fun z => by rw [z]⟩)]; exact h⟩
  · exact op_eq pins s σ H _ _ v u Q I rx ry ⟨rfl, h⟩
  · exact op_eq pins s σ H _ _ v u Q I rx ry ⟨rfl, h⟩
  · exact op_eq pins s σ H _ _ v u Q I rx ry ⟨rfl, h⟩
  · exact op_eq pins s σ H _ _ v u Q I rx ry ⟨rfl, h⟩
  · exact op_eq pins s σ H _ _ v u Q I rx ry ⟨rfl, h⟩
  · exact op_eq pins s σ H _ _ v u Q I rx ry ⟨rfl, h⟩
  · exact op_eq pins s σ H _ _ v u Q I rx ry ⟨rfl, h⟩
  · exact h.elim
  · exact h.elim
  · exact h.elim
  · obtain ⟨d, e, h1, h2, h3, h4, q⟩ := eqD_e h
    exact op_eqD hu pins s σ H _ _ v u Q I rx ry ⟨d, e, h1, h2, h3, h4, q⟩
def rNee (K : PySem.W.Frag) : R2 := fun x y H Q => match x, y with
  | .int i, .int j => Q (.bl (!decide (i = j))) H
  | .str i, .str j => Q (.bl (!decide (i = j))) H
  | .bl i, .bl j => Q (.bl (!decide (i = j))) H
  | .non, .non => Q (.bl false) H
  | .non, .int _ => Q (.bl true) H
  | .int _, .non => Q (.bl true) H
  | .non, .str _ => Q (.bl true) H
  | .str _, .non => Q (.bl true) H
  | .int _, .str _ => Q (.bl true) H
  | .str _, .int _ => Q (.bl true) H
  | .byt _, _ => False
  | .flt _, _ => False
  | .ty _, _ => False
  | x, y => EqD K H x y fun b => Q (.bl (!b)) H
theorem o_ne (hu : X.A.units + 64 < cLine) : OpR X (compareOp .NotEq) (rNee X.K) := by
  intro pins s σ H x y v u Q I rx ry h
  unfold rNee at h
  split at h
  · exact op_ne pins s σ H _ _ v u Q I rx ry ⟨rfl, by rw [dcd (show V.int _ = V.int _ ↔ _ = _ from ⟨V.int.inj, fun z => by rw [z]⟩)]; exact h⟩
  · exact op_ne pins s σ H _ _ v u Q I rx ry ⟨rfl, by rw [dcd (show V.str _ = V.str _ ↔ _ = _ from ⟨V.str.inj, fun z => by rw [z]⟩)]; exact h⟩
  · exact op_ne pins s σ H _ _ v u Q I rx ry ⟨rfl, by rw [dcd (show V.bl _ = V.bl _ ↔ _ = _ from ⟨V.bl.inj, fun z => by rw [z]⟩)]; exact h⟩
  · exact op_ne pins s σ H _ _ v u Q I rx ry ⟨rfl, h⟩
  · exact op_ne pins s σ H _ _ v u Q I rx ry ⟨rfl, h⟩
  · exact op_ne pins s σ H _ _ v u Q I rx ry ⟨rfl, h⟩
  · exact op_ne pins s σ H _ _ v u Q I rx ry ⟨rfl, h⟩
  · exact op_ne pins s σ H _ _ v u Q I rx ry ⟨rfl, h⟩
  · exact op_ne pins s σ H _ _ v u Q I rx ry ⟨rfl, h⟩
  · exact op_ne pins s σ H _ _ v u Q I rx ry ⟨rfl, h⟩
  · exact h.elim
  · exact h.elim
  · exact h.elim
  · obtain ⟨d, e, h1, h2, h3, h4, q⟩ := eqD_e h
    exact op_neD hu pins s σ H _ _ v u Q I rx ry ⟨d, e, h1, h2, h3, h4, q⟩
def rIsN : R2 := fun x y H Q => match x, y with
  | .non, .non => Q (.bl true) H
  | .int _, .non => Q (.bl false) H
  | .str _, .non => Q (.bl false) H
  | .bl _, .non => Q (.bl false) H
  | .ref _, .non => Q (.bl false) H
  | _, _ => False
theorem o_isN : OpR X (compareOp .Is) rIsN := by
  intro pins s σ H x y v u Q I rx ry h
  unfold rIsN at h
  split at h
  all_goals first | exact h.elim | exact op_isN pins s σ H _ _ v u Q I rx ry ⟨rfl, h⟩
def rNotN : R2 := fun x y H Q => match x, y with
  | .non, .non => Q (.bl false) H
  | .int _, .non => Q (.bl true) H
  | .str _, .non => Q (.bl true) H
  | .bl _, .non => Q (.bl true) H
  | .ref _, .non => Q (.bl true) H
  | _, _ => False
theorem o_notN : OpR X (compareOp .IsNot) rNotN := by
  intro pins s σ H x y v u Q I rx ry h
  unfold rNotN at h
  split at h
  all_goals first | exact h.elim | exact op_notN pins s σ H _ _ v u Q I rx ry ⟨rfl, h⟩

/-! ### tests, and, or, not -/
def fB (x : V) (k : Bool → Prop) : Prop := match x with | .bl b => k b | _ => False
theorem fB_e {x : V} {k : Bool → Prop} (h : fB x k) : ∃ b, x = .bl b ∧ k b := by
  unfold fB at h
  split at h
  · exact ⟨_, rfl, h⟩
  · exact h.elim
def fT (te : TE) : TT := fun σ H Q => te σ H fun x H' => fB x fun b => Q b H'
theorem fTest_eq (te : TE) (σ : L2.St) (H : Hp) (Q : Bool → Hp → Prop) : (fun x H' => fB x fun b => Q b H') = fun x H' => ∃ k, x = V.bl k ∧ Q k H' := by
  funext x H'
  refine propext ⟨fun h => ?_, fun ⟨k, e, q⟩ => by subst e; exact q⟩
  obtain ⟨b, e, q⟩ := fB_e h
  exact ⟨b, e, q⟩
/-- a comparison as a test -/
theorem xt_cmp {op : CmpOp} {r : R2} (ho : OpR X (compareOp op) r) (ha : PE X a ta) (hb : PE X b tb) (hm : behindInMarks op b = false) : PT X (.Compare a [op] [b] pos) (fT (tOp r ta tb)) :=
  pt_mono (pt_cmpR ho ha hb hm) fun σ H Q h => by
    unfold fT at h
    rw [fTest_eq (tOp r ta tb) σ H Q] at h
    exact h
/-- any other expression that gives a bool -/
theorem xt_val (h : PE X e te) (he : ∀ whole, isTrue e X.env whole = (do let v ← whole; standAt e.pos; holding [v] (truthy v)) := by intro _; rfl) : PT X e (fT te) :=
  pt_mono (pt_val h he) fun σ H Q q => by
    unfold fT at q
    rw [fTest_eq te σ H Q] at q
    exact q
/-- truth of anything -/
@[irreducible] def Tru (K : PySem.W.Frag) (x : V) (H : Hp) (k : Bool → Prop) : Prop := ∃ b, TruV K x H b ∧ k b
theorem tru_i {K : PySem.W.Frag} {x : V} {H : Hp} {k : Bool → Prop} {b : Bool} (h : TruV K x H b) (q : k b) : Tru K x H k := by unfold Tru; exact ⟨b, h, q⟩
theorem tru_e {K : PySem.W.Frag} {x : V} {H : Hp} {k : Bool → Prop} (h : Tru K x H k) : ∃ b, TruV K x H b ∧ k b := by unfold Tru at h; exact h
def fTru (K : PySem.W.Frag) (te : TE) : TT := fun σ H Q => te σ H fun x H' => match x with
  | .bl b => Q b H'
  | .int i => Q (!decide (i = 0)) H'
  | .non => Q false H'
  | x => Tru K x H' fun b => Q b H'
theorem xt_tru (h : PE X e te) (he : ∀ whole, isTrue e X.env whole = (do let v ← whole; standAt e.pos; holding [v] (truthy v)) := by intro _; rfl) : PT X e (fTru X.K te) :=
  ⟨fun pins s σ H Q I q => PyProof.Rows.isTrue_plain (thn (h.run pins s σ H _ I q) fun v s1 ⟨x, H1, I1, r1, q1⟩ => by
    refine tru_ok pins s1 σ H1 x v _ I1 r1 ?_
    dsimp only at q1
    split at q1
    · exact ⟨_, rfl, q1⟩
    · refine ⟨_, rfl, ?_⟩
      rename_i i
      have e : (i != 0) = !decide (i = 0) := by by_cases z : i = 0 <;> simp [z]
      rw [e]; exact q1
    · exact ⟨_, rfl, q1⟩
    · obtain ⟨b, hb, q1⟩ := tru_e q1
      exact ⟨b, hb, q1⟩) (he _)⟩
def fAnd (t u : TT) : TT := fun σ H Q => t σ H fun c H1 => Br c (u σ H1 Q) (Q false H1)
def fOr (t u : TT) : TT := fun σ H Q => t σ H fun c H1 => Br c (Q true H1) (u σ H1 Q)
def fNot (t : TT) : TT := fun σ H Q => t σ H fun c H1 => Q (!c) H1
theorem fAnd_eq (t u : TT) : fAnd t u = tAnd t u := by
  funext σ H Q; unfold fAnd tAnd
  congr 1; funext c H1; rw [br_eq]
theorem fOr_eq (t u : TT) : fOr t u = tOr t u := by
  funext σ H Q; unfold fOr tOr
  congr 1; funext c H1; rw [br_eq]
variable {rest : List Expr}
theorem xw_and1 (ha : PT X a tt) : PW X (.BoolOp .And [a] pos) tt := pw_and1 ha
theorem xw_or1 (ha : PT X a tt) : PW X (.BoolOp .Or [a] pos) tt := pw_or1 ha
theorem xw_and (ha : PT X a tt) (hb : PW X (.BoolOp .And (b :: rest) pos) tu) : PW X (.BoolOp .And (a :: b :: rest) pos) (fAnd tt tu) := by rw [fAnd_eq]; exact pw_and ha hb
theorem xw_or (ha : PT X a tt) (hb : PW X (.BoolOp .Or (b :: rest) pos) tu) : PW X (.BoolOp .Or (a :: b :: rest) pos) (fOr tt tu) := by rw [fOr_eq]; exact pw_or ha hb
theorem xt_not (ha : PT X a tt) : PT X (.UnaryOp .Not a pos) (fNot tt) := pt_not ha
/-- as values: bools -/
def fAndV (ta tb : TE) : TE := fun σ H Q => ta σ H fun x H1 => fB x fun c => Br c (tb σ H1 Q) (Q (.bl false) H1)
def fOrV (ta tb : TE) : TE := fun σ H Q => ta σ H fun x H1 => fB x fun c => Br c (Q (.bl true) H1) (tb σ H1 Q)
def fNotV (ta : TE) : TE := fun σ H Q => ta σ H fun x H1 => fB x fun c => Q (.bl (!c)) H1
theorem fB_eq (x : V) (k : Bool → Prop) : fB x k = ∃ c, x = V.bl c ∧ k c := propext ⟨fB_e, fun ⟨c, e, q⟩ => by subst e; exact q⟩
theorem xe_one {op} (h : PE X a te) : PE X (.BoolOp op [a] pos) te := pe_one h
theorem xe_and (ha : PE X a ta) (hb : PE X (.BoolOp .And (b :: rest) pos) tb) : PE X (.BoolOp .And (a :: b :: rest) pos) (fAndV ta tb) := by
  have e : fAndV ta tb = tAndV ta tb := by
    funext σ H Q; unfold fAndV tAndV
    congr 1; funext x H1; rw [fB_eq]; congr 1; funext c; rw [br_eq]
  rw [e]; exact pe_and ha hb
theorem xe_or (ha : PE X a ta) (hb : PE X (.BoolOp .Or (b :: rest) pos) tb) : PE X (.BoolOp .Or (a :: b :: rest) pos) (fOrV ta tb) := by
  have e : fOrV ta tb = tOrV ta tb := by
    funext σ H Q; unfold fOrV tOrV
    congr 1; funext x H1; rw [fB_eq]; congr 1; funext c; rw [br_eq]
  rw [e]; exact pe_or ha hb
theorem xe_not (ha : PE X a ta) : PE X (.UnaryOp .Not a pos) (fNotV ta) := by
  have e : fNotV ta = tNotV ta := by
    funext σ H Q; unfold fNotV tNotV
    congr 1; funext x H1; rw [fB_eq]
  rw [e]; exact pe_not ha
def fIf (t : TT) (ta tb : TE) : TE := fun σ H Q => t σ H fun c H1 => Br c (ta σ H1 Q) (tb σ H1 Q)
theorem xe_if (hc : PT X c tt) (ha : PE X a ta) (hb : PE X b tb) : PE X (.IfExp c a b pos) (fIf tt ta tb) := by
  have e : fIf tt ta tb = tIf tt ta tb := by
    funext σ H Q; unfold fIf tIf
    congr 1; funext x H1; rw [br_eq]
  rw [e]; exact pe_ifExp hc ha hb
/-- a < b < c -/
def fChain (r r' : R2) (ta tb tc : TE) : TE := fun σ H Q => ta σ H fun x H1 => tb σ H1 fun y H2 => r x y H2 fun z H3 => fB z fun k => Br k (tc σ H3 fun w H4 => r' y w H4 Q) (Q (.bl false) H3)
theorem fChain_le {r r' : R2} (σ : L2.St) (H : Hp) (Q : VK) : fChain r r' ta tb tc σ H Q = tChain r r' ta tb tc σ H Q := by
  unfold fChain tChain
  congr 1; funext x H1; congr 1; funext y H2; congr 1; funext z H3; rw [fB_eq]; congr 1; funext k
  rw [br_eq]
theorem xe_chain {op op' : CmpOp} {r r' : R2} (ho : OpR X (compareOp op) r) (ho' : OpR X (compareOp op') r') (ha : PE X a ta) (hb : PE X b tb) (hc : PE X c tc)
    (hm : lastMarks [op, op'] [b, c] = false := by with_unfolding_all rfl) : PE X (.Compare a [op, op'] [b, c] pos) (fChain r r' ta tb tc) :=
  pe_mono (pe_chain ho ho' ha hb hc hm) fun σ H Q h => by rw [← fChain_le]; exact h
theorem xt_chain {op op' : CmpOp} {r r' : R2} (ho : OpR X (compareOp op) r) (ho' : OpR X (compareOp op') r') (ha : PE X a ta) (hb : PE X b tb) (hc : PE X c tc)
    (hm : lastMarks [op, op'] [b, c] = false := by with_unfolding_all rfl) : PT X (.Compare a [op, op'] [b, c] pos) (fT (fChain r r' ta tb tc)) :=
  pt_mono (pt_chain ho ho' ha hb hc hm) fun σ H Q h => by
    unfold fT at h
    rw [fTest_eq ta σ H Q, fChain_le] at h
    exact h
end
end FX
namespace FX
open PySem PySem.Spec L2
section
variable {X : Cx} {a b c e : Expr} {es : List Expr} {ta tb tc te tl : TE} {tt tu : TT} {t : TA} {pos p : Pos} {x : Str}

/-! ### displays -/
def fTup (t : TA) : TE := fun σ H Q => t σ H fun xs H1 => Sd (xs.length ≤ sizeLine) (New H1 fun p => Q (.ref p) (upd H1 p (.tup xs)))
def fLst (t : TA) : TE := fun σ H Q => t σ H fun xs H1 => Sd (xs.length ≤ sizeLine) (New H1 fun p => Q (.ref p) (upd H1 p (.lst xs)))
theorem xe_tup {x1} (h : PA X es t) : PE X (.Tuple es x1 pos) (fTup t) := by
  have e : fTup t = tTup t := by
    funext σ H Q; unfold fTup tTup; congr 1; funext xs H1
    exact propext ⟨fun z => let ⟨a, b⟩ := sd_e z; ⟨a, new_e b⟩, fun ⟨a, b⟩ => sd_i a (new_i b)⟩
  rw [e]; exact pe_tup h
theorem xe_lst (h : PA X es t) : PE X (.List es pos) (fLst t) := by
  have e : fLst t = tLst t := by
    funext σ H Q; unfold fLst tLst; congr 1; funext xs H1
    exact propext ⟨fun z => let ⟨a, b⟩ := sd_e z; ⟨a, new_e b⟩, fun ⟨a, b⟩ => sd_i a (new_i b)⟩
  rw [e]; exact pe_lst h
theorem sz_small {n : Nat} (h : n ≤ 1000000) : n ≤ sizeLine := by rw [sizeLine_eq]; omega
theorem sz_lt {n : Nat} (h : n < 1000000) : n < sizeLine := by rw [sizeLine_eq]; omega

/-! ### subscripts, slices -/
def rIxF (K : PySem.W.Frag) : R2 := fun x y H Q => match x, y with
  | .ref p, .int i => RdS K H p fun xs => Som (atI xs i) fun v => Q v H
  | .str z, .int i => Sd (z.length ≤ sizeLine) (Som (atI z.cps.toList i) fun c => Q (.str ⟨#[c]⟩) H)
  | _, _ => False
theorem i_seq : IxR X (rIxF X.K) := by
  intro va sl pins s σ H x y v u Q I rx ry h hsl
  unfold rIxF at h
  split at h
  · obtain ⟨xs, hx, h⟩ := rdS_e h
    obtain ⟨w, hv, h⟩ := som_e h
    rcases hx with hx | hx
    · exact ix_list va sl pins s σ H _ _ v u Q I rx ry ⟨_, _, _, _, rfl, rfl, hx, hv, h⟩ hsl
    · exact ix_tup va sl pins s σ H _ _ v u Q I rx ry ⟨_, _, _, _, rfl, rfl, hx, hv, h⟩ hsl
  · obtain ⟨h1, h⟩ := sd_e h
    obtain ⟨w, hv, h⟩ := som_e h
    exact ix_str va sl pins s σ H _ _ v u Q I rx ry ⟨_, _, _, rfl, rfl, h1, hv, h⟩ hsl
  · exact h.elim
theorem xe_ix (ha : PE X a ta) (hb : PE X b tb) (hs : PlainIx b := by intro _ _; rfl) : PE X (.Subscript a b pos) (tOp (rIxF X.K) ta tb) := pe_ix i_seq ha hb hs
def rSlF (K : PySem.W.Frag) : V → Option Int → Option Int → Hp → VK → Prop := fun x lo hi H Q => match x with
  | .ref p => RdL K H p fun xs => New H fun r => Q (.ref r) (upd H r (.lst (cutV xs lo hi)))
  | _ => False
theorem s_list : SlR X (rSlF X.K) := by
  intro pins s σ H x v vl vu lo hi sl Q I rx h1 h2 h3 h
  unfold rSlF at h
  split at h
  · obtain ⟨xs, hx, h⟩ := rdL_e h
    exact sl_list pins s σ H _ v vl vu lo hi sl Q I rx h1 h2 h3 ⟨_, _, rfl, hx, new_e h⟩
  · exact h.elim
def fPart (t : TE) : TO := fun σ H Q => t σ H fun x H1 => match x with | .int i => Q (some i) H1 | _ => False
theorem xo_some (h : PE X e te) : PO X (some e) (fPart te) := ⟨fun pins s σ H Q I q => (po_some h).run pins s σ H Q I (by
  have e : (fun x H1 => (match x with | V.int i => Q (some i) H1 | _ => False : Prop)) = fun x H1 => ∃ i, x = V.int i ∧ Q (some i) H1 := by
    funext x H1
    refine propext ⟨fun z => ?_, fun ⟨i, e, q⟩ => by subst e; exact q⟩
    split at z
    · exact ⟨_, rfl, z⟩
    · exact z.elim
  unfold fPart at q
  rw [e] at q
  exact q)⟩
theorem xe_slL {lo hi : Option Expr} {tlo thi : TO} {p2 : Pos} (he : PE X e te) (hl : PO X lo tlo) (hu : PO X hi thi) : PE X (.Subscript e (.Slice lo hi none p2) pos) (tSl (rSlF X.K) te tlo thi) := pe_slice s_list he hl hu

/-! ### calls of built-ins, by values -/
abbrev RC := List V → Hp → VK → Prop
theorem callR_mono {f : Value} {r r' : RC} (h : CallR X f r) (m : ∀ vs H Q, r' vs H Q → r vs H Q) : CallR X f r' := fun pins s σ H vs us Q I r q => h pins s σ H vs us Q I r (m _ _ _ q)
def rAbs : RC := fun vs H Q => match vs with | [.int i] => Q (.int (i.natAbs : Int)) H | _ => False
theorem c_abs : CallR X (.builtin "abs") rAbs := callR_mono call_abs fun vs H Q h => by
  unfold rAbs at h
  split at h
  · rename_i i
    refine ⟨i, rfl, ?_⟩
    have e : (if i < 0 then -i else i) = (i.natAbs : Int) := by split <;> omega
    rw [e]; exact h
  · exact h.elim
def rMax2 : RC := fun vs H Q => match vs with | [.int i, .int j] => Q (.int (max i j)) H | _ => False
theorem c_max2 (hc : X.calm = true) : CallR X (.builtin "max") rMax2 := callR_mono (call_max2 hc) fun vs H Q h => by
  unfold rMax2 at h
  split at h
  · rename_i i j
    refine ⟨i, j, rfl, ?_⟩
    have e : (if j > i then j else i) = max i j := by split <;> omega
    rw [e]; exact h
  · exact h.elim
def rMin2 : RC := fun vs H Q => match vs with | [.int i, .int j] => Q (.int (min i j)) H | _ => False
theorem c_min2 (hc : X.calm = true) : CallR X (.builtin "min") rMin2 := callR_mono (call_min2 hc) fun vs H Q h => by
  unfold rMin2 at h
  split at h
  · rename_i i j
    refine ⟨i, j, rfl, ?_⟩
    have e : (if j < i then j else i) = min i j := by split <;> omega
    rw [e]; exact h
  · exact h.elim
def rInt1 : RC := fun vs H Q => match vs with | [.int i] => Q (.int i) H | [.bl k] => Q (.int (if k then 1 else 0)) H | _ => False
theorem c_int1 : CallR X (.type "int") rInt1 := callR_mono call_int1 fun vs H Q h => by
  unfold rInt1 at h
  split at h
  · exact .inl ⟨_, rfl, h⟩
  · exact .inr ⟨_, rfl, h⟩
  · exact h.elim
def rLenF (K : PySem.W.Frag) : RC := fun vs H Q => match vs with
  | [.ref p] => RdS K H p fun xs => Q (.int xs.length) H
  | [.str z] => Sd (z.length ≤ sizeLine) (Q (.int z.length) H)
  | _ => False
theorem c_len : CallR X (.builtin "len") (rLenF X.K) := callR_mono call_len fun vs H Q h => by
  unfold rLenF at h
  split at h
  · obtain ⟨xs, hx, h⟩ := rdS_e h
    rcases hx with hx | hx
    · exact ⟨_, _, rfl, .inl ⟨_, hx, rfl⟩, h⟩
    · exact ⟨_, _, rfl, .inr ⟨_, hx, rfl⟩, h⟩
  · obtain ⟨h1, h⟩ := sd_e h
    exact ⟨_, _, rfl, ⟨h1, rfl⟩, h⟩
  · exact h.elim
def rListF (K : PySem.W.Frag) : RC := fun vs H Q => match vs with
  | [.ref p] => RdS K H p fun xs => New H fun l => Q (.ref l) (upd H l (.lst xs))
  | _ => False
theorem c_list : CallR X (.type "list") (rListF X.K) := callR_mono call_list_of fun vs H Q h => by
  unfold rListF at h
  split at h
  · obtain ⟨xs, hx, h⟩ := rdS_e h
    exact ⟨_, _, rfl, hx, new_e h⟩
  · exact h.elim
def rTupleF (K : PySem.W.Frag) : RC := fun vs H Q => match vs with
  | [.ref p] => RdL K H p fun xs => New H fun l => Q (.ref l) (upd H l (.tup xs))
  | _ => False
theorem c_tuple : CallR X (.type "tuple") (rTupleF X.K) := callR_mono call_tuple_of fun vs H Q h => by
  unfold rTupleF at h
  split at h
  · obtain ⟨xs, hx, h⟩ := rdL_e h
    exact ⟨_, _, rfl, .inl ⟨hx, new_e h⟩⟩
  · exact h.elim
/-- a list of ints, of bools, of texts -/
def intsOf : List V → Option (List Int)
  | [] => some []
  | .int i :: r => (intsOf r).map (i :: ·)
  | _ => none
theorem intsOf_map (ns : List Int) : intsOf (ns.map V.int) = some ns := by
  induction ns with
  | nil => rfl
  | cons n r ih => show (intsOf (r.map V.int)).map (n :: ·) = _; rw [ih]; rfl
theorem intsOf_eq : ∀ {xs : List V} {ns : List Int}, intsOf xs = some ns → xs = ns.map V.int
  | [], ns, h => by cases h; rfl
  | .int i :: r, ns, h => by
    cases e : intsOf r with
    | none => rw [show intsOf (V.int i :: r) = (intsOf r).map (i :: ·) from rfl, e] at h; cases h
    | some ms => rw [show intsOf (V.int i :: r) = (intsOf r).map (i :: ·) from rfl, e] at h; cases h; rw [intsOf_eq e]; rfl
  | .non :: r, ns, h => by cases h
  | .bl _ :: r, ns, h => by cases h
  | .str _ :: r, ns, h => by cases h
  | .byt _ :: r, ns, h => by cases h
  | .flt _ :: r, ns, h => by cases h
  | .ref _ :: r, ns, h => by cases h
  | .ty _ :: r, ns, h => by cases h
def blsOf : List V → Option (List Bool)
  | [] => some []
  | .bl i :: r => (blsOf r).map (i :: ·)
  | _ => none
theorem blsOf_map (ns : List Bool) : blsOf (ns.map V.bl) = some ns := by
  induction ns with
  | nil => rfl
  | cons n r ih => show (blsOf (r.map V.bl)).map (n :: ·) = _; rw [ih]; rfl
theorem blsOf_eq : ∀ {xs : List V} {ns : List Bool}, blsOf xs = some ns → xs = ns.map V.bl
  | [], ns, h => by cases h; rfl
  | .bl i :: r, ns, h => by
    cases e : blsOf r with
    | none => rw [show blsOf (V.bl i :: r) = (blsOf r).map (i :: ·) from rfl, e] at h; cases h
    | some ms => rw [show blsOf (V.bl i :: r) = (blsOf r).map (i :: ·) from rfl, e] at h; cases h; rw [blsOf_eq e]; rfl
  | .non :: r, ns, h => by cases h
  | .int _ :: r, ns, h => by cases h
  | .str _ :: r, ns, h => by cases h
  | .byt _ :: r, ns, h => by cases h
  | .flt _ :: r, ns, h => by cases h
  | .ref _ :: r, ns, h => by cases h
  | .ty _ :: r, ns, h => by cases h
def rSumF (K : PySem.W.Frag) : RC := fun vs H Q => match vs with
  | [.ref p] => RdL K H p fun xs => Som (intsOf xs) fun ns => Q (.int ns.sum) H
  | _ => False
theorem c_sum (hc : X.calm = true) : CallR X (.builtin "sum") (rSumF X.K) := callR_mono (cr_sum hc) fun vs H Q h => by
  unfold rSumF at h
  split at h
  · obtain ⟨xs, hx, h⟩ := rdL_e h
    obtain ⟨ns, e, h⟩ := som_e h
    exact ⟨_, ns, rfl, intsOf_eq e ▸ hx, h⟩
  · exact h.elim
def rAllF (K : PySem.W.Frag) : RC := fun vs H Q => match vs with
  | [.ref p] => RdL K H p fun xs => Som (blsOf xs) fun ns => Q (.bl (ns.all id)) H
  | _ => False
theorem c_all (hc : X.calm = true) : CallR X (.builtin "all") (rAllF X.K) := callR_mono (cr_all hc) fun vs H Q h => by
  unfold rAllF at h
  split at h
  · obtain ⟨xs, hx, h⟩ := rdL_e h
    obtain ⟨ns, e, h⟩ := som_e h
    exact ⟨_, ns, rfl, blsOf_eq e ▸ hx, h⟩
  · exact h.elim
def rAnyF (K : PySem.W.Frag) : RC := fun vs H Q => match vs with
  | [.ref p] => RdL K H p fun xs => Som (blsOf xs) fun ns => Q (.bl (ns.any id)) H
  | _ => False
theorem c_any (hc : X.calm = true) : CallR X (.builtin "any") (rAnyF X.K) := callR_mono (cr_any hc) fun vs H Q h => by
  unfold rAnyF at h
  split at h
  · obtain ⟨xs, hx, h⟩ := rdL_e h
    obtain ⟨ns, e, h⟩ := som_e h
    exact ⟨_, ns, rfl, blsOf_eq e ▸ hx, h⟩
  · exact h.elim
/-- max, min of a list of ints: one word for each -/
def rMaxL (K : PySem.W.Frag) : RC := fun vs H Q => match vs with
  | [.ref p] => RdL K H p fun xs => Som (intsOf xs) fun ns => Sd (0 < ns.length) (∀ m, m ∈ ns → (∀ y, y ∈ ns → y ≤ m) → Q (.int m) H)
  | _ => False
theorem c_maxL (hc : X.calm = true) : CallR X (.builtin "max") (rMaxL X.K) := callR_mono (cr_max hc) fun vs H Q h => by
  unfold rMaxL at h
  split at h
  · obtain ⟨xs, hx, h⟩ := rdL_e h
    obtain ⟨ns, e, h⟩ := som_e h
    obtain ⟨h1, h⟩ := sd_e h
    exact ⟨_, ns, rfl, intsOf_eq e ▸ hx, h1, h⟩
  · exact h.elim
def rMinL (K : PySem.W.Frag) : RC := fun vs H Q => match vs with
  | [.ref p] => RdL K H p fun xs => Som (intsOf xs) fun ns => Sd (0 < ns.length) (∀ m, m ∈ ns → (∀ y, y ∈ ns → m ≤ y) → Q (.int m) H)
  | _ => False
theorem c_minL (hc : X.calm = true) : CallR X (.builtin "min") (rMinL X.K) := callR_mono (cr_min hc) fun vs H Q h => by
  unfold rMinL at h
  split at h
  · obtain ⟨xs, hx, h⟩ := rdL_e h
    obtain ⟨ns, e, h⟩ := som_e h
    obtain ⟨h1, h⟩ := sd_e h
    exact ⟨_, ns, rfl, intsOf_eq e ▸ hx, h1, h⟩
  · exact h.elim
/-- isqrt -/
def rIsqrt : RC := fun vs H Q => match vs with | [.int i] => Sd (0 ≤ i ∧ i < 2 ^ 64) (Q (.int ((Float64.isqrt i.toNat : Nat) : Int)) H) | _ => False
theorem c_isqrt : CallR X (.builtin "math.isqrt") rIsqrt := by
  intro pins s σ H vs us Q I r h
  unfold rIsqrt at h
  split at h
  · obtain ⟨⟨h1, h2⟩, h⟩ := sd_e h
    obtain ⟨u, rfl, t, rfl⟩ := vals1 r
    exact PySem.W.mg_isqrt h1 h2 ⟨.int _, H, I.tok _, ⟨_, rfl⟩, h⟩
  · exact h.elim
/-- isinstance(x, T), T one of int, bool, str, list, tuple, dict -/
def isi (T : String) (x : V) (H : Hp) (k : Bool → Prop) : Prop := match x with
  | .int _ => k (T == "int")
  | .bl _ => k (T == "bool" || T == "int")
  | .str _ => k (T == "str")
  | .non => k false
  | .ref p => Get H p fun o => match o with
    | .lst _ => k (T == "list")
    | .tup _ => k (T == "tuple")
    | .dK _ => k (T == "dict")
    | _ => False
  | _ => False
def rIsiF : RC := fun vs H Q => match vs with | [x, .ty T] => Sd (["int", "bool", "str", "list", "tuple", "dict"].contains T = true) (isi T x H fun b => Q (.bl b) H) | _ => False
theorem kit_all : ∀ T ∈ ["int", "bool", "str", "list", "tuple", "dict"], kitB "int" T = some (T == "int") ∧ kitB "bool" T = some (T == "bool" || T == "int") ∧ kitB "str" T = some (T == "str") ∧ kitB "NoneType" T = some false ∧
    kitB "list" T = some (T == "list") ∧ kitB "tuple" T = some (T == "tuple") ∧ kitB "dict" T = some (T == "dict") := by decide +kernel
theorem c_isi : CallR X (.builtin "isinstance") rIsiF := callR_mono call_isi fun vs H Q h => by
  unfold rIsiF at h
  split at h
  · rename_i x T
    obtain ⟨h1, h⟩ := sd_e h
    obtain ⟨k1, k2, k3, k4, k5, k6, k7⟩ := kit_all T (by simpa using h1)
    unfold isi at h
    split at h
    · exact ⟨_, _, _, _, _, rfl, .ty T, .base (.int _), kit_ty k1, h⟩
    · exact ⟨_, _, _, _, _, rfl, .ty T, .base (.bl _), kit_ty k2, h⟩
    · exact ⟨_, _, _, _, _, rfl, .ty T, .base (.str _), kit_ty k3, h⟩
    · exact ⟨_, _, _, _, _, rfl, .ty T, .base .non, kit_ty k4, h⟩
    · obtain ⟨o, ho, h⟩ := get_e h
      split at h
      · exact ⟨_, _, _, _, _, rfl, .ty T, .base (.lst ho), kit_ty k5, h⟩
      · exact ⟨_, _, _, _, _, rfl, .ty T, .base (.tup ho), kit_ty k6, h⟩
      · exact ⟨_, _, _, _, _, rfl, .ty T, .base (.dK ho), kit_ty k7, h⟩
      · exact h.elim
    · exact h.elim
  · exact h.elim

/-! ### attributes -/
@[irreducible] def Fld (K : PySem.W.Frag) (H : Hp) (a : Addr) (f : Str) (k : V → Prop) : Prop := ∃ C dx fs v, H a = some (.ins C dx fs) ∧ Cls K C ∧ NoAttr K C f ∧ fs.lookup f = some v ∧ k v
theorem fld_i {K : PySem.W.Frag} {H : Hp} {a : Addr} {f : Str} {k : V → Prop} {C dx : Addr} {fs : List (Str × V)} {v : V} (h : H a = some (.ins C dx fs)) (c : Cls K C) (n : NoAttr K C f) (l : fs.lookup f = some v) (q : k v) : Fld K H a f k := by
  unfold Fld; exact ⟨C, dx, fs, v, h, c, n, l, q⟩
theorem fld_e {K : PySem.W.Frag} {H : Hp} {a : Addr} {f : Str} {k : V → Prop} (h : Fld K H a f k) : ∃ C dx fs v, H a = some (.ins C dx fs) ∧ Cls K C ∧ NoAttr K C f ∧ fs.lookup f = some v ∧ k v := by unfold Fld at h; exact h
def fFld (K : PySem.W.Frag) (f : Str) (te : TE) : TE := fun σ H Q => te σ H fun x H1 => match x with | .ref a => Fld K H1 a f fun v => Q v H1 | _ => False
theorem xe_fld {f : Str} (he : PE X e te) (hb : attributeBase e f X.env (eval e X.env) = eval e X.env := by rfl) : PE X (.Attribute e f pos) (fFld X.K f te) := by
  refine pe_mono (te := tFld X.K te f) (pe_fld he hb) fun σ H Q h => ?_
  have e : (fun x H1 => (match x with | V.ref a => Fld X.K H1 a f fun v => Q v H1 | _ => False : Prop)) = fun x H1 => ∃ a C dx fs v, x = V.ref a ∧ H1 a = some (.ins C dx fs) ∧ Cls X.K C ∧ NoAttr X.K C f ∧ fs.lookup f = some v ∧ Q v H1 := by
    funext x H1
    refine propext ⟨fun z => ?_, fun ⟨a, C, dx, fs, v, e, h1, h2, h3, h4, q⟩ => by subst e; exact fld_i h1 h2 h3 h4 q⟩
    split at z
    · obtain ⟨C, dx, fs, v, h1, h2, h3, h4, q⟩ := fld_e z
      exact ⟨_, C, dx, fs, v, rfl, h1, h2, h3, h4, q⟩
    · exact z.elim
  unfold fFld at h
  rw [e] at h
  exact h
@[irreducible] def PutF (K : PySem.W.Frag) (H : Hp) (a : Addr) (f : Str) (y : V) (k : Hp → Prop) : Prop := ∃ C dx fs, H a = some (.ins C dx fs) ∧ Cls K C ∧ NoAttr K C f ∧ fs.length < 1000 ∧ k (upd H a (.ins C dx (putF f y fs)))
theorem putF_i {K : PySem.W.Frag} {H : Hp} {a : Addr} {f : Str} {y : V} {k : Hp → Prop} {C dx : Addr} {fs : List (Str × V)} (h : H a = some (.ins C dx fs)) (c : Cls K C) (n : NoAttr K C f) (l : fs.length < 1000) (q : k (upd H a (.ins C dx (putF f y fs)))) : PutF K H a f y k := by
  unfold PutF; exact ⟨C, dx, fs, h, c, n, l, q⟩
theorem putF_e {K : PySem.W.Frag} {H : Hp} {a : Addr} {f : Str} {y : V} {k : Hp → Prop} (h : PutF K H a f y k) : ∃ C dx fs, H a = some (.ins C dx fs) ∧ Cls K C ∧ NoAttr K C f ∧ fs.length < 1000 ∧ k (upd H a (.ins C dx (putF f y fs))) := by unfold PutF at h; exact h
def fSFld (K : PySem.W.Frag) (f : Str) (ta tv : TE) : TS := fun D σ H => tv σ H fun y H1 => ta σ H1 fun x H2 => match x with | .ref a => PutF K H2 a f y fun H3 => D.nx σ H3 | _ => False
theorem xs_fld {o value : Expr} {f : Str} {tv : TE} {pos' : Pos} (ha : PE X o ta) (hv : PE X value tv) (hs : swapsWith value (some (.Attribute o f pos')) pos.line X.env = pure false := by rfl) : PS X (.Assign [.Attribute o f pos'] value pos) (fSFld X.K f ta tv) := by
  refine ps_mono (t := sFld X.K ta tv f) (ps_fld ha hv hs) fun D σ H h => ?_
  have e : ∀ (y : V), (fun x H2 => (match x with | V.ref a => PutF X.K H2 a f y fun H3 => D.nx σ H3 | _ => False : Prop)) = fun x H2 => ∃ a C dx fs, x = V.ref a ∧ H2 a = some (.ins C dx fs) ∧ Cls X.K C ∧ NoAttr X.K C f ∧ fs.length < 1000 ∧ D.nx σ (upd H2 a (.ins C dx (putF f y fs))) := by
    intro y; funext x H1
    refine propext ⟨fun z => ?_, fun ⟨a, C, dx, fs, e, h1, h2, h3, h4, q⟩ => by subst e; exact putF_i h1 h2 h3 h4 q⟩
    split at z
    · obtain ⟨C, dx, fs, h1, h2, h3, h4, q⟩ := putF_e z
      exact ⟨_, C, dx, fs, rfl, h1, h2, h3, h4, q⟩
    · exact z.elim
  unfold fSFld at h
  simp only [e] at h
  exact h
def fSFldA (K : PySem.W.Frag) (f : Str) (g : Int → Int → Int) (ta tv : TE) : TS := fun D σ H => ta σ H fun x H1 => match x with
  | .ref a => Fld K H1 a f fun v => tv σ H1 fun y H2 => match v, y with
    | .int i, .int j => PutF K H2 a f (.int (g i j)) fun H3 => D.nx σ H3
    | _, _ => False
  | _ => False

/-! ### statements -/
/-- a slot is stored, the slots written out -/
def setS : L2.St → Nat → V → (L2.St → Prop) → Prop
  | [], _, _, k => k []
  | _ :: r, 0, v, k => k (some v :: r)
  | y :: r, i + 1, v, k => setS r i v fun r' => k (y :: r')
theorem setS_eq : ∀ (σ : L2.St) (i : Nat) (v : V) (k : L2.St → Prop), setS σ i v k = k (σ.set i (some v))
  | [], i, v, k => by cases i <;> rfl
  | y :: r, 0, v, k => rfl
  | y :: r, i + 1, v, k => by show setS r i v (fun r' => k (y :: r')) = _; rw [setS_eq r i v]; rfl
def gN (i : Nat) : TG := fun v σ H Q => setS σ i v fun σ' => Q σ' H
theorem gN_eq (i : Nat) : gN i = gName i := by funext v σ H Q; unfold gN gName; rw [setS_eq]
theorem xg {i : Nat} (hN : X.N.Nodup) (hi : X.N[i]? = some x) (hx : Loc X.env.scope x := by first | exact Or.inl rfl | exact Or.inr rfl) (hf : X.fn x = true ∨ X.env.scope.names.lookup x = some .local := by first | exact .inl rfl | exact .inr rfl | assumption) : PG X (.Name x pos) (gN i) := by
  rw [gN_eq]; exact pg_name hN hi hx hf
theorem xs_set {i : Nat} {pos' : Pos} (hN : X.N.Nodup) (hi : X.N[i]? = some x) (he : PE X e te) (hx : Loc X.env.scope x := by first | exact Or.inl rfl | exact Or.inr rfl) (hs : swapsWith e (some (.Name x pos')) pos.line X.env = pure false := by rfl) (hf : X.fn x = true ∨ X.env.scope.names.lookup x = some .local := by first | exact .inl rfl | exact .inr rfl | assumption) :
    PS X (.Assign [.Name x pos'] e pos) (tAsg te (gN i)) := by
  rw [gN_eq]; exact ps_set hN hi hx he hs hf
def gsN : TGs := fun vs σ H Q => match vs with | [] => Q σ H | _ => False
def gsC (t : TG) (u : TGs) : TGs := fun vs σ H Q => match vs with | v :: r => t v σ H fun σ' H' => u r σ' H' Q | [] => False
theorem xgs_nil : PGs X [] gsN := by
  have e : gsN = gNil := by
    funext vs σ H Q; unfold gsN gNil
    refine propext ⟨fun z => ?_, fun ⟨e, q⟩ => by subst e; exact q⟩
    split at z
    · exact ⟨rfl, z⟩
    · exact z.elim
  rw [e]; exact pgs_nil
theorem xgs_cons {t : TG} {u : TGs} (h1 : PG X e t) (h2 : PGs X es u) (hs : (assignEach (e :: es) X.env).map (·.2) = assign e X.env :: (assignEach es X.env).map (·.2) := by rfl) : PGs X (e :: es) (gsC t u) := by
  have e : gsC t u = gCons t u := by
    funext vs σ H Q; unfold gsC gCons
    refine propext ⟨fun z => ?_, fun ⟨v, r, e, q⟩ => by subst e; exact q⟩
    split at z
    · exact ⟨_, _, rfl, z⟩
    · exact z.elim
  rw [e]; exact pgs_cons h1 h2 hs
def gT (K : PySem.W.Frag) (n : Nat) (t : TGs) : TG := fun v σ H Q => match v with | .ref a => RdT K H a fun xs => Sd (xs.length = n) (t xs σ H Q) | _ => False
theorem xg_tup {k : Nat} {t : TGs} {n : Nat} (hc : X.calm = true) (h : PGs X es t) (hn : (assignEach es X.env).length = n := by rfl) (hst : (assignEach es X.env).findIdx? (·.1) = none := by rfl) : PG X (.Tuple es k pos) (gT X.K n t) := by
  have e : gT X.K n t = gTup X.K n t := by
    funext v σ H Q; unfold gT gTup
    refine propext ⟨fun z => ?_, fun ⟨a, xs, e, h1, h2, q⟩ => by subst e; exact rdT_i h1 (sd_i h2 q)⟩
    split at z
    · obtain ⟨xs, h1, z⟩ := rdT_e z
      obtain ⟨h2, z⟩ := sd_e z
      exact ⟨_, _, rfl, h1, h2, z⟩
    · exact z.elim
  rw [e]; exact pg_tup hc h hn hst
def gL (K : PySem.W.Frag) (n : Nat) (t : TGs) : TG := fun v σ H Q => match v with | .ref a => RdL K H a fun xs => Sd (xs.length = n) (t xs σ H Q) | _ => False
theorem xg_lst {k : Nat} {t : TGs} {n : Nat} (hc : X.calm = true) (h : PGs X es t) (hn : (assignEach es X.env).length = n := by rfl) (hst : (assignEach es X.env).findIdx? (·.1) = none := by rfl) : PG X (.Tuple es k pos) (gL X.K n t) := by
  have e : gL X.K n t = gUnl X.K n t := by
    funext v σ H Q; unfold gL gUnl
    refine propext ⟨fun z => ?_, fun ⟨a, xs, e, h1, h2, q⟩ => by subst e; exact rdL_i h1 (sd_i h2 q)⟩
    split at z
    · obtain ⟨xs, h1, z⟩ := rdL_e z
      obtain ⟨h2, z⟩ := sd_e z
      exact ⟨_, _, rfl, h1, h2, z⟩
    · exact z.elim
  rw [e]; exact pg_unl hc h hn hst
/-- o[i] = e -/
def rSetF : V → V → V → Hp → (Hp → Prop) → Prop := fun o i v H Q => match o, i with
  | .ref p, .int k => Get H p fun ob => match ob with
    | .lst xs => Som (ixN xs.length k) fun j => Q (upd H p (.lst (xs.set j v)))
    | _ => False
  | _, _ => False
theorem p_setL : PSet X rSetF := by
  intro pins s σ H o i v ov iv u Q I r1 r2 r3 h
  unfold rSetF at h
  split at h
  · obtain ⟨ob, ho, h⟩ := get_e h
    split at h
    · obtain ⟨j, hj, h⟩ := som_e h
      exact set_list pins s σ H _ _ v ov iv u Q I r1 r2 r3 ⟨_, _, _, _, rfl, rfl, ho, hj, h⟩
    · exact h.elim
  · exact h.elim
def fIfS (c : TT) (t u : TS) : TS := fun D σ H => c σ H fun b H1 => Br b (t D σ H1) (u D σ H1)
theorem xs_if {sa sb : List Stmt} {t u : TS} {tc' : TT} (hc : PT X c tc') (ha : PSs X sa t) (hb : PSs X sb u) : PS X (.If c sa sb pos) (fIfS tc' t u) := by
  have e : fIfS tc' t u = tIfS tc' t u := by
    funext D σ H; unfold fIfS tIfS
    congr 1; funext x H1; rw [br_eq]
  rw [e]; exact ps_if hc ha hb
def fPar (i j : Nat) (ta : TA) : TS := fun D σ H => ta σ H fun vs H1 => match vs with | [v, w] => setS σ i v fun σ1 => setS σ1 j w fun σ2 => D.nx σ2 H1 | _ => False
theorem xs_par {i j : Nat} {x y : Str} {a b : Expr} {ta : TA} {px py pt : Pos} {kt k2 pt2} (hc : X.calm = true) (hN : X.N.Nodup) (hi : X.N[i]? = some x) (hj : X.N[j]? = some y) (hij : i ≠ j)
    (hx : X.env.scope.names.lookup x = some .local) (hy : X.env.scope.names.lookup y = some .local) (ha : PA X [a, b] ta)
    (hw : swappedStores [.Tuple [.Name x px, .Name y py] kt pt] (.Tuple [a, b] k2 pt2) X.env = pure (some [x, y]))
    (hs : swapsWithSole [.Tuple [.Name x px, .Name y py] kt pt] (.Tuple [a, b] k2 pt2) pos.line X.env = pure false := by rfl) :
    PS X (.Assign [.Tuple [.Name x px, .Name y py] kt pt] (.Tuple [a, b] k2 pt2) pos) (fPar i j ta) := by
  have e : fPar i j ta = tPar i j ta := by
    funext D σ H; unfold fPar tPar; congr 1; funext vs H1
    refine propext ⟨fun z => ?_, fun ⟨v, w, e, q⟩ => by subst e; show setS σ i v _; rw [setS_eq, setS_eq]; exact q⟩
    split at z
    · rw [setS_eq, setS_eq] at z; exact ⟨_, _, rfl, z⟩
    · exact z.elim
  rw [e]; exact ps_par hc hN hi hj hij hx hy ha hw hs
def fPar3 (i j l : Nat) (ta : TA) : TS := fun D σ H => ta σ H fun vs H1 => match vs with | [u, v, w] => setS σ i u fun σ1 => setS σ1 j v fun σ2 => setS σ2 l w fun σ3 => D.nx σ3 H1 | _ => False
theorem fPar3_eq (i j l : Nat) (ta : TA) : fPar3 i j l ta = tPar3 i j l ta := by
    funext D σ H; unfold fPar3 tPar3; congr 1; funext vs H1
    refine propext ⟨fun z => ?_, fun ⟨u, v, w, e, q⟩ => by subst e; show setS σ i u _; rw [setS_eq, setS_eq, setS_eq]; exact q⟩
    split at z
    · rw [setS_eq, setS_eq, setS_eq] at z; exact ⟨_, _, _, rfl, z⟩
    · exact z.elim
def fAug (i : Nat) (te : TE) (r : R2) : TS := fun D σ H => match σ[i]? with | some (some x) => te σ H fun y H1 => r x y H1 fun z H2 => setS σ i z fun σ' => D.nx σ' H2 | _ => False
theorem xs_aug {i : Nat} {op : Operator} {r : R2} {pos' : Pos} (hN : X.N.Nodup) (hi : X.N[i]? = some x) (he : PE X e te) (ho : OpR X (inplaceOp op) r) (hx : Loc X.env.scope x := by first | exact Or.inl rfl | exact Or.inr rfl) (hf : X.fn x = true ∨ X.env.scope.names.lookup x = some .local := by first | exact .inl rfl | exact .inr rfl | assumption) :
    PS X (.AugAssign (.Name x pos') op e pos) (fAug i te r) :=
  ps_mono (ps_aug hN hi hx he (ti := fun x y H Q => r x y H Q) (fun pins s σ H x y v u Q I r1 r2 h => ho pins s σ H x y v u Q I r1 r2 h) hf) fun D σ H h => by
    unfold fAug at h
    split at h
    · rename_i v hv
      refine ⟨v, hv, ?_⟩
      have e : (fun y H1 => r v y H1 fun z H2 => setS σ i z fun σ' => D.nx σ' H2) = fun y H1 => r v y H1 fun z H2 => D.nx (σ.set i (some z)) H2 := by
        funext y H1; congr 1; funext z H2; rw [setS_eq]
      rw [e] at h; exact h
    · exact h.elim
def rIadd (K : PySem.W.Frag) : R2 := fun x y H Q => match x, y with
  | .int i, .int j => Q (.int (i + j)) H
  | .str i, .str j => Sd (i.length + j.length ≤ sizeLine) (Q (.str (i ++ j)) H)
  | _, _ => False
theorem o_iadd : OpR X (inplaceOp .Add) (rIadd X.K) := by
  intro pins s σ H x y v u Q I rx ry h
  unfold rIadd at h
  split at h
  · exact iop_add pins s σ H _ _ v u Q I rx ry ⟨_, _, rfl, rfl, h⟩
  · obtain ⟨h1, h⟩ := sd_e h
    exact iop_add_str pins s σ H _ _ v u Q I rx ry ⟨_, _, rfl, rfl, h1, h⟩
  · exact h.elim
theorem o_isub : OpR X (inplaceOp .Sub) rSub := by
  intro pins s σ H x y v u Q I rx ry h
  unfold rSub at h
  split at h
  · exact iop_sub pins s σ H _ _ v u Q I rx ry ⟨_, _, rfl, rfl, h⟩
  · exact h.elim

/-! ### consequence -/
def mon (te : TE) : TE := fun σ H Q => ∃ R : VK, te σ H R ∧ ∀ x H1, R x H1 → Q x H1
theorem pe_mon (h : PE X e te) : PE X e (mon te) := ⟨fun pins s σ H Q I q => by
  obtain ⟨R, q, m⟩ := q
  exact thn (h.run pins s σ H R I q) fun u s1 ⟨x, H1, I1, r, z⟩ => ⟨x, H1, I1, r, m x H1 z⟩⟩

/-! ### methods of built-in types -/
abbrev RM := V → List V → Hp → VK → Prop
/-- the receiver's type, then the arguments, then the method -/
@[irreducible] def TyM (K : PySem.W.Frag) (T : String) (H : Hp) (x : V) (k : Prop) : Prop := tyV K T x H ∧ k
theorem tyM_l {K : PySem.W.Frag} {H : Hp} {p : Addr} {xs : List V} {k : Prop} (h : SqL K H p xs) (q : k) : TyM K "list" H (.ref p) k := by unfold TyM; exact ⟨.inl ⟨rfl, xs, h⟩, q⟩
theorem tyM_d {K : PySem.W.Frag} {H : Hp} {p : Addr} {xs : List (Key × V)} {k : Prop} (h : H p = some (.dK xs)) (q : k) : TyM K "dict" H (.ref p) k := by unfold TyM; exact ⟨.inr (.inr (.inl ⟨rfl, .inl ⟨xs, h⟩⟩)), q⟩
theorem tyM_s {K : PySem.W.Frag} {H : Hp} {z : Str} {k : Prop} (q : k) : TyM K "str" H (.str z) k := by unfold TyM; exact ⟨rfl, q⟩
theorem tyM_e {K : PySem.W.Frag} {T : String} {H : Hp} {x : V} {k : Prop} (h : TyM K T H x k) : tyV K T x H ∧ k := by unfold TyM at h; exact h
def fBM0 (K : PySem.W.Frag) (T : String) (r : RM) (to : TE) : TE := fun σ H Q => to σ H fun x H1 => TyM K T H1 x (r x [] H1 Q)
def fBM (K : PySem.W.Frag) (T : String) (r : RM) (to : TE) (t : TA) : TE := fun σ H Q => to σ H fun x H1 => TyM K T H1 x (t σ H1 fun xs H2 => r x xs H2 Q)
variable {o : Expr} {to : TE} {name : Str} {apos cpos : Pos} {T id : String} {r : RM}
theorem xe_bm0 (pa : PlainAttrs T) (slot : Slot T name id) (hty : typeOf (.builtin id) = pure (.type "method_descriptor")) (hm : MtR X id r) (ho : PE X o to)
    (hbase : attributeBase o name X.env (eval o X.env) = eval o X.env := by rfl) (hline : (apos.endLine == cpos.line) = true := by rfl) : PE X (.Call (.Attribute o name apos) [] [] cpos) (fBM0 X.K T r to) :=
  pe_mono (te := tBM0 X.K T r (mon to)) (pe_bm0 pa slot hty hm (pe_mon ho) hbase hline) fun σ H Q h => ⟨_, h, fun x H1 z => tyM_e z⟩
theorem xe_bm (pa : PlainAttrs T) (slot : Slot T name id) (hty : typeOf (.builtin id) = pure (.type "method_descriptor")) (hm : MtR X id r) (ho : PE X o to) (ha : PA X (e :: es) t)
    (hbase : attributeBase o name X.env (eval o X.env) = eval o X.env := by rfl)
    (hfew : ((backTo cpos (starEach (e :: es) X.env)).all (fun x => !x.1) && (backToKw cpos (keywordEach [] X.env)).all (fun x => x.1.isSome)
      && decide ((e :: es).length + ([] : List Keyword).length + (if ([] : List Keyword).isEmpty then 0 else 1) < 30)) = true := by rfl)
    (hline : (apos.endLine == cpos.line) = true := by rfl) (hs : starEach (e :: es) X.env = (false, eval e X.env) :: starEach es X.env := by rfl) (hplain : (backTo cpos (starEach es X.env)).any (·.1) = false := by rfl) :
    PE X (.Call (.Attribute o name apos) (e :: es) [] cpos) (fBM X.K T r to t) :=
  pe_mono (te := tBM X.K T r (mon to) t) (pe_bm pa slot hty hm (pe_mon ho) ha hbase hfew hline hs hplain) fun σ H Q h => ⟨_, h, fun x H1 z => tyM_e z⟩
theorem mtR_mono {r r' : RM} (h : MtR X id r) (m : ∀ x vs H Q, r' x vs H Q → r x vs H Q) : MtR X id r' := fun pins s σ H x xs v us Q I rx rv q => h pins s σ H x xs v us Q I rx rv (m _ _ _ _ q)
def rApp : RM := fun x vs H Q => match x, vs with
  | .ref l, [y] => Get H l fun o => match o with | .lst xs => Sd (xs.length < sizeLine) (Q .non (upd H l (.lst (xs ++ [y])))) | _ => False
  | _, _ => False
theorem m_append : MtR X "list.append" rApp := mtR_mono (r := rAppend) mt_append fun x vs H Q h => by
  unfold rApp at h
  split at h
  · obtain ⟨o, ho, h⟩ := get_e h
    split at h
    · obtain ⟨h1, h⟩ := sd_e h
      exact ⟨_, _, _, rfl, rfl, ho, h1, h⟩
    · exact h.elim
  · exact h.elim
def rExt : RM := fun x vs H Q => match x, vs with
  | .ref l, [.ref b] => Get H l fun o => Get H b fun u => match o, u with | .lst xs, .lst zs => Sd (xs.length + zs.length ≤ sizeLine) (Q .non (upd H l (.lst (xs ++ zs)))) | _, _ => False
  | _, _ => False
theorem m_extend : MtR X "list.extend" rExt := mtR_mono (r := rExtend) mt_extend fun x vs H Q h => by
  unfold rExt at h
  split at h
  · obtain ⟨o, ho, h⟩ := get_e h
    obtain ⟨u, hu, h⟩ := get_e h
    split at h
    · obtain ⟨h1, h⟩ := sd_e h
      exact ⟨_, _, _, _, rfl, rfl, ho, hu, h1, h⟩
    · exact h.elim
  · exact h.elim
def rPopF : RM := fun x vs H Q => match x, vs with
  | .ref l, [] => Get H l fun o => match o with | .lst xs => Som (xs[xs.length - 1]?) fun y => Q y (upd H l (.lst xs.dropLast)) | _ => False
  | _, _ => False
theorem m_pop : MtR X "list.pop" rPopF := mtR_mono (r := rPop) mt_pop fun x vs H Q h => by
  unfold rPopF at h
  split at h
  · obtain ⟨o, ho, h⟩ := get_e h
    split at h
    · obtain ⟨y, hy, h⟩ := som_e h
      exact ⟨_, _, _, rfl, rfl, ho, hy, h⟩
    · exact h.elim
  · exact h.elim
def rPopAtF : RM := fun x vs H Q => match x, vs with
  | .ref l, [.int i] => Get H l fun o => match o with | .lst xs => Sd (-(2 ^ 63) ≤ i ∧ i < 2 ^ 63) (Som (ixN xs.length i) fun k => Som (xs[k]?) fun y => Q y (upd H l (.lst (xs.eraseIdx k)))) | _ => False
  | _, _ => False
theorem m_popAt : MtR X "list.pop" rPopAtF := mtR_mono (r := rPopAt) mt_popAt fun x vs H Q h => by
  unfold rPopAtF at h
  split at h
  · obtain ⟨o, ho, h⟩ := get_e h
    split at h
    · obtain ⟨⟨h1, h2⟩, h⟩ := sd_e h
      obtain ⟨k, hk, h⟩ := som_e h
      obtain ⟨y, hy, h⟩ := som_e h
      exact ⟨_, _, _, _, _, rfl, rfl, ho, h1, h2, (ixN_seq hk).1, hy, h⟩
    · exact h.elim
  · exact h.elim

/-! ### loops -/
/-- what is walked: the items that are left; N what a turn is to reach -/
def LoopL (still : Hp → Prop) (g : TG) (tb : TS) (D : Ends) : List V → L2.St → Hp → Prop
  | [], σ, H => still H ∧ D.nx σ H
  | x :: r, σ, H => still H ∧ ∃ N : L2.St → Hp → Prop, (∀ σ' H', N σ' H' → LoopL still g tb D r σ' H') ∧ g x σ H fun σ2 H2 => tb { D with nx := N, ct := N, bk := D.nx } σ2 H2
theorem loop_nil {still : Hp → Prop} {g : TG} {tb : TS} {D : Ends} {σ : L2.St} {H : Hp} (s : still H) (q : D.nx σ H) : LoopL still g tb D [] σ H := ⟨s, q⟩
theorem loop_cons {still : Hp → Prop} {g : TG} {tb : TS} {D : Ends} {x : V} {r : List V} {σ : L2.St} {H : Hp} (s : still H)
    (q : g x σ H fun σ2 H2 => tb { D with nx := LoopL still g tb D r, ct := LoopL still g tb D r, bk := D.nx } σ2 H2) : LoopL still g tb D (x :: r) σ H := ⟨s, _, fun _ _ z => z, q⟩
theorem loop_inv {still : Hp → Prop} {g : TG} {tb : TS} {D : Ends} (Pv : Nat → L2.St → Hp → Prop) : ∀ (xs : List V) (n : Nat) {σ : L2.St} {H : Hp}, Pv n σ H → (∀ i σ H, Pv i σ H → still H) →
    (∀ i x σ H, xs[i]? = some x → Pv (n + i) σ H → g x σ H fun σ2 H2 => tb { D with nx := Pv (n + i + 1), ct := Pv (n + i + 1), bk := D.nx } σ2 H2) → (∀ σ H, Pv (n + xs.length) σ H → D.nx σ H) → LoopL still g tb D xs σ H
  | [], n, σ, H, h0, hst, hs, hd => ⟨hst _ _ _ h0, hd _ _ h0⟩
  | x :: r, n, σ, H, h0, hst, hs, hd => ⟨hst _ _ _ h0, Pv (n + 1), fun σ' H' z => loop_inv Pv r (n + 1) z hst (fun i y σ H e p => by
      have q := hs (i + 1) y σ H (by simpa using e) (by rw [show n + (i + 1) = n + 1 + i by omega]; exact p)
      rw [show n + (i + 1) = n + 1 + i by omega] at q
      exact q) (fun σ H p => hd σ H (by rw [show n + (x :: r).length = n + 1 + r.length by simp only [List.length_cons]; omega]; exact p)), by
      have q := hs 0 x σ H rfl h0
      exact q⟩
theorem loop_i {still : Hp → Prop} {g : TG} {tb : TS} {D : Ends} {xs : List V} {σ : L2.St} {H : Hp} (Pv : Nat → L2.St → Hp → Prop) (h0 : Pv 0 σ H) (hst : ∀ i σ H, Pv i σ H → still H)
    (hs : ∀ i x σ H, xs[i]? = some x → Pv i σ H → g x σ H fun σ2 H2 => tb { D with nx := Pv (i + 1), ct := Pv (i + 1), bk := D.nx } σ2 H2) (hd : ∀ σ H, Pv xs.length σ H → D.nx σ H) : LoopL still g tb D xs σ H :=
  loop_inv Pv xs 0 h0 hst (fun i x σ H e p => by
    have q := hs i x σ H e (by rw [Nat.zero_add] at p; exact p)
    rw [Nat.zero_add]; exact q) fun σ H p => hd σ H (by rw [Nat.zero_add] at p; exact p)
/-- evaluation stops here -/
@[irreducible] def Lp (still : Hp → Prop) (g : TG) (tb : TS) (D : Ends) (xs : List V) (σ : L2.St) (H : Hp) : Prop := LoopL still g tb D xs σ H
theorem lp_u {still : Hp → Prop} {g : TG} {tb : TS} {D : Ends} {xs : List V} {σ : L2.St} {H : Hp} (h : LoopL still g tb D xs σ H) : Lp still g tb D xs σ H := by unfold Lp; exact h
theorem lp_e {still : Hp → Prop} {g : TG} {tb : TS} {D : Ends} {xs : List V} {σ : L2.St} {H : Hp} (h : Lp still g tb D xs σ H) : LoopL still g tb D xs σ H := by unfold Lp at h; exact h
theorem lp_i {still : Hp → Prop} {g : TG} {tb : TS} {D : Ends} {xs : List V} {σ : L2.St} {H : Hp} (Pv : Nat → L2.St → Hp → Prop) (h0 : Pv 0 σ H) (hst : ∀ i σ H, Pv i σ H → still H)
    (hs : ∀ i x σ H, xs[i]? = some x → Pv i σ H → g x σ H fun σ2 H2 => tb { D with nx := Pv (i + 1), ct := Pv (i + 1), bk := D.nx } σ2 H2) (hd : ∀ σ H, Pv xs.length σ H → D.nx σ H) : Lp still g tb D xs σ H := lp_u (loop_i Pv h0 hst hs hd)
/-- over a list or a tuple -/
def fForS (K : PySem.W.Frag) (tl : TE) (g : TG) (tb : TS) : TS := fun D σ H => tl σ H fun x H1 => match x with | .ref a => RdL K H1 a fun xs => Lp (fun H => SqL K H a xs) g tb D xs σ H1 | _ => False
def fForT (K : PySem.W.Frag) (tl : TE) (g : TG) (tb : TS) : TS := fun D σ H => tl σ H fun x H1 => match x with | .ref a => RdT K H1 a fun xs => Lp (fun H => SqT K H a xs) g tb D xs σ H1 | _ => False
theorem forL_of {K : PySem.W.Frag} {a : Addr} {xs : List V} {g : TG} {tb : TS} {D : Ends} {σ : L2.St} {H : Hp} (h : LoopL (fun H => SqL K H a xs) g tb D xs σ H) :
    ∃ W : Nat → Nat → L2.St → Hp → Prop, (∃ m, W 0 m σ H) ∧ ∀ i m σ H, W i m σ H →
      ((Itl K a).stop i H ∧ D.nx σ H) ∨ ((Itl K a).go i H ∧ ∃ N : L2.St → Hp → Prop, (∀ σ' H', N σ' H' → ∃ m', m' < m ∧ W (i + 1) m' σ' H') ∧ ∀ x H', (Itl K a).yld i H x H' → g x σ H' fun σ2 H2 => tb { D with nx := N, ct := N, bk := D.nx } σ2 H2) := by
  refine ⟨fun i m σ H => m = xs.length - i ∧ i ≤ xs.length ∧ LoopL (fun H => SqL K H a xs) g tb D (xs.drop i) σ H, ⟨_, rfl, Nat.zero_le _, h⟩, ?_⟩
  rintro i m σ H ⟨rfl, hi, p⟩
  by_cases hlt : i < xs.length
  · rw [List.drop_eq_getElem_cons hlt] at p
    obtain ⟨s, N, hN, q⟩ := p
    refine .inr ⟨⟨xs, xs[i], s, by simp [hlt]⟩, N, fun σ' H' z => ⟨xs.length - (i + 1), by omega, rfl, hlt, hN _ _ z⟩, fun x H' y => ?_⟩
    obtain ⟨e, y⟩ := y
    subst e
    have e2 := y xs s
    rw [List.getElem?_eq_getElem hlt] at e2
    cases e2
    exact q
  · have e : i = xs.length := by omega
    subst e
    rw [List.drop_length] at p
    exact .inl ⟨⟨xs, p.1, Nat.le_refl _⟩, p.2⟩
theorem forT_of {K : PySem.W.Frag} {a : Addr} {xs : List V} {g : TG} {tb : TS} {D : Ends} {σ : L2.St} {H : Hp} (h : LoopL (fun H => SqT K H a xs) g tb D xs σ H) :
    ∃ W : Nat → Nat → L2.St → Hp → Prop, (∃ m, W 0 m σ H) ∧ ∀ i m σ H, W i m σ H →
      ((Itt K a).stop i H ∧ D.nx σ H) ∨ ((Itt K a).go i H ∧ ∃ N : L2.St → Hp → Prop, (∀ σ' H', N σ' H' → ∃ m', m' < m ∧ W (i + 1) m' σ' H') ∧ ∀ x H', (Itt K a).yld i H x H' → g x σ H' fun σ2 H2 => tb { D with nx := N, ct := N, bk := D.nx } σ2 H2) := by
  refine ⟨fun i m σ H => m = xs.length - i ∧ i ≤ xs.length ∧ LoopL (fun H => SqT K H a xs) g tb D (xs.drop i) σ H, ⟨_, rfl, Nat.zero_le _, h⟩, ?_⟩
  rintro i m σ H ⟨rfl, hi, p⟩
  by_cases hlt : i < xs.length
  · rw [List.drop_eq_getElem_cons hlt] at p
    obtain ⟨s, N, hN, q⟩ := p
    refine .inr ⟨⟨xs, xs[i], s, by simp [hlt]⟩, N, fun σ' H' z => ⟨xs.length - (i + 1), by omega, rfl, hlt, hN _ _ z⟩, fun x H' y => ?_⟩
    obtain ⟨e, y⟩ := y
    subst e
    have e2 := y xs s
    rw [List.getElem?_eq_getElem hlt] at e2
    cases e2
    exact q
  · have e : i = xs.length := by omega
    subst e
    rw [List.drop_length] at p
    exact .inl ⟨⟨xs, p.1, Nat.le_refl _⟩, p.2⟩
theorem fI_mon {K : PySem.W.Frag} {σ : L2.St} {D : Ends} {g : TG} {tb : TS} {H : Hp} (h : fForS K tl g tb D σ H) : tFor (iList K (mon tl)) g tb D σ H := by
  refine ⟨_, h, fun x H1 z => ?_⟩
  split at z
  · obtain ⟨xs, hx, z⟩ := rdL_e z
    exact ⟨_, rfl, ⟨xs, hx⟩, forL_of (lp_e z)⟩
  · exact z.elim
theorem fT_mon {K : PySem.W.Frag} {σ : L2.St} {D : Ends} {g : TG} {tb : TS} {H : Hp} (h : fForT K tl g tb D σ H) : tFor (iTup K (mon tl)) g tb D σ H := by
  refine ⟨_, h, fun x H1 z => ?_⟩
  split at z
  · obtain ⟨xs, hx, z⟩ := rdT_e z
    exact ⟨_, rfl, ⟨xs, hx⟩, forT_of (lp_e z)⟩
  · exact z.elim
variable {tg iter : Expr} {body : List Stmt} {g : TG} {tb : TS}
theorem xs_forL (hc : X.calm = true) (hi : PE X iter tl) (hg : PG X tg g) (hb : PSs X body tb) (hp : PassesOwn (model X.prog X.w) X.A X.env X.xe) (hs : ∀ x, foldedSetIterable iter X.env x = pure x := by intro _; rfl) :
    PS X (.For tg iter body [] pos) (fForS X.K tl g tb) := ps_mono (ps_for hp hc (pi_list (pe_mon hi)) hg hb hs) fun D σ H h => fI_mon h
theorem xs_forT (hc : X.calm = true) (hi : PE X iter tl) (hg : PG X tg g) (hb : PSs X body tb) (hp : PassesOwn (model X.prog X.w) X.A X.env X.xe) (hs : ∀ x, foldedSetIterable iter X.env x = pure x := by intro _; rfl) :
    PS X (.For tg iter body [] pos) (fForT X.K tl g tb) := ps_mono (ps_for hp hc (pi_tup (pe_mon hi)) hg hb hs) fun D σ H h => fT_mon h
/-- over a range -/
def rngV (lo : Int) (n : Nat) : List V := (List.range n).map fun (i : Nat) => V.int (lo + (i : Int))
theorem rngV_len (lo : Int) (n : Nat) : (rngV lo n).length = n := by unfold rngV; rw [List.length_map, List.length_range]
theorem rngV_get {lo : Int} {n i : Nat} {x : V} (h : (rngV lo n)[i]? = some x) : i < n ∧ x = .int (lo + (i : Int)) := by
  unfold rngV at h
  rw [List.getElem?_map] at h
  by_cases q : i < n
  · rw [List.getElem?_range q] at h; cases h; exact ⟨q, rfl⟩
  · rw [List.getElem?_eq_none (by rw [List.length_range]; omega)] at h; cases h
def rngB (j : Int) : Prop := -(2 ^ 62) ≤ j ∧ j < 2 ^ 62
def fForR1 (ta : TA) (g : TG) (tb : TS) : TS := fun D σ H => ta σ H fun vs H1 => match vs with
  | [.int j] => Sd (rngB j) (Lp (fun _ => True) g tb D (rngV 0 j.toNat) σ H1)
  | _ => False
def fForR2 (ta : TA) (g : TG) (tb : TS) : TS := fun D σ H => ta σ H fun vs H1 => match vs with
  | [.int i, .int j] => Sd (rngB i ∧ rngB j) (Lp (fun _ => True) g tb D (rngV i (j - i).toNat) σ H1)
  | _ => False
theorem forR_of {lo : Int} {n : Nat} {g : TG} {tb : TS} {D : Ends} {σ : L2.St} {H : Hp} (h : LoopL (fun _ => True) g tb D (rngV lo n) σ H) :
    ∃ W : Nat → Nat → L2.St → Hp → Prop, (∃ m, W 0 m σ H) ∧ ∀ i m σ H, W i m σ H →
      ((Itr lo n).stop i H ∧ D.nx σ H) ∨ ((Itr lo n).go i H ∧ ∃ N : L2.St → Hp → Prop, (∀ σ' H', N σ' H' → ∃ m', m' < m ∧ W (i + 1) m' σ' H') ∧ ∀ x H', (Itr lo n).yld i H x H' → g x σ H' fun σ2 H2 => tb { D with nx := N, ct := N, bk := D.nx } σ2 H2) := by
  refine ⟨fun i m σ H => m = n - i ∧ i ≤ n ∧ LoopL (fun _ => True) g tb D ((rngV lo n).drop i) σ H, ⟨_, rfl, Nat.zero_le _, h⟩, ?_⟩
  rintro i m σ H ⟨rfl, hi, p⟩
  have hl := rngV_len lo n
  by_cases hlt : i < n
  · rw [List.drop_eq_getElem_cons (by rw [hl]; exact hlt)] at p
    obtain ⟨s, N, hN, q⟩ := p
    refine .inr ⟨hlt, N, fun σ' H' z => ⟨n - (i + 1), by omega, rfl, hlt, hN _ _ z⟩, fun x H' y => ?_⟩
    obtain ⟨e, y⟩ := y
    subst e y
    have e2 := (rngV_get (List.getElem?_eq_getElem (show i < (rngV lo n).length by rw [hl]; exact hlt))).2
    rw [e2] at q
    exact q
  · have e : i = n := by omega
    subst e
    rw [show List.drop i (rngV lo i) = [] from List.drop_eq_nil_of_le (by rw [hl]; exact Nat.le_refl _)] at p
    exact .inl ⟨Nat.le_refl _, p.2⟩
def monA (ta : TA) : TA := fun σ H Q => ∃ R : List V → Hp → Prop, ta σ H R ∧ ∀ x H1, R x H1 → Q x H1
theorem pa_mon (h : PA X es t) : PA X es (monA t) := ⟨fun pos pins s σ H Q I q => by
  obtain ⟨R, q, m⟩ := q
  exact thn (h.run pos pins s σ H R I q) fun u s1 ⟨x, H1, I1, r, z⟩ => ⟨x, H1, I1, r, m x H1 z⟩⟩
theorem xs_forR1 {p : Pos} (hc : X.calm = true) (hgl : Gl X "range") (hm : X.mg "range" = none) (ha : PA X [a] t) (hg : PG X tg g) (hb : PSs X body tb) (hp : PassesOwn (model X.prog X.w) X.A X.env X.xe)
    (hsa : starEach [a] X.env = [(false, eval a X.env)] := by rfl) (hs : ∀ x, foldedSetIterable (.Call (.Name "range" p) [a] [] pos) X.env x = pure x := by intro _; rfl) {pos2 : Pos} :
    PS X (.For tg (.Call (.Name "range" p) [a] [] pos) body [] pos2) (fForR1 t g tb) :=
  ps_mono (ps_for hp hc (pi_range1 hgl hm (pa_mon ha) hsa) hg hb hs) fun D σ H h => ⟨_, h, fun vs H1 z => by
    split at z
    · obtain ⟨⟨h1, h2⟩, z⟩ := sd_e z
      exact ⟨_, rfl, h1, h2, forR_of (lp_e z)⟩
    · exact z.elim⟩
theorem xs_forR2 {p : Pos} (hc : X.calm = true) (hgl : Gl X "range") (hm : X.mg "range" = none) (ha : PA X [a, b] t) (hg : PG X tg g) (hb : PSs X body tb) (hp : PassesOwn (model X.prog X.w) X.A X.env X.xe)
    (hsa : starEach [a, b] X.env = [(false, eval a X.env), (false, eval b X.env)] := by rfl) (hsb : starEach [b] X.env = [(false, eval b X.env)] := by rfl) (hs : ∀ x, foldedSetIterable (.Call (.Name "range" p) [a, b] [] pos) X.env x = pure x := by intro _; rfl) {pos2 : Pos} :
    PS X (.For tg (.Call (.Name "range" p) [a, b] [] pos) body [] pos2) (fForR2 t g tb) :=
  ps_mono (ps_for hp hc (pi_range2 hgl hm (pa_mon ha) hsa hsb) hg hb hs) fun D σ H h => ⟨_, h, fun vs H1 z => by
    split at z
    · obtain ⟨⟨⟨h1, h2⟩, h3, h4⟩, z⟩ := sd_e z
      exact ⟨_, _, rfl, ⟨h1, h2, h3, h4⟩, forR_of (lp_e z)⟩
    · exact z.elim⟩
end
end FX
namespace FX
open PySem PySem.Spec L2

/-! ### a def that stands at a name -/
structure DefAt (K : PySem.W.Frag) (mg : Str → Option Value) (x qual : Str) (st : Stmt) : Prop where
  ex : ∃ f fd, mg x = some (.ref f) ∧ Fun K x qual st f fd
/-- what callers need of a def -/
structure Has (P : Program) (w : World) (K : PySem.W.Frag) (mg : Str → Option Value) (base : Heap) (CX : CXT) (k : Nat) (x : Str) (ps : List Str) (sp : Sp) : Prop where
  ex : ∃ f fd, mg x = some (.ref f) ∧ PySem.W.keepIn K (.ref f) = true ∧ Binds K fd ps [] ∧ FnOk P w K mg base CX k f fd ps sp
section
variable {P : Program} {w : World} {K : PySem.W.Frag} {mg : Str → Option Value} {base : Heap} {CX : CXT} {k : Nat} {x qual : Str} {st : Stmt} {ps : List Str} {sp : Sp}
theorem has_of (D : DefAt K mg x qual st) (hb : ∀ (kV doc pm : Value) (an : Option Addr) (cdv ct : Value) (us : List Value), us.length = ps.length → bindArgs (PySem.W.fnOf x qual (defArgs st) (defBody st) (defScope st) .none kV doc pm an cdv ct) ⟨us, []⟩ = pure (ps.zip us))
    (ok : ∀ f fd, Fun K x qual st f fd → FnOk P w K mg base CX k f fd ps sp) : Has P w K mg base CX k x ps sp := by
  obtain ⟨f, fd, m, F⟩ := D.ex
  exact ⟨f, fd, m, F.kp, F.binds hb, ok f fd F⟩
theorem Has.imp {sp' : Sp} (h : Has P w K mg base CX k x ps sp) (m : ∀ vs H Q E, sp' vs H Q E → sp vs H Q E) : Has P w K mg base CX k x ps sp' := by
  obtain ⟨f, fd, a, b, c, d⟩ := h.ex
  exact ⟨f, fd, a, b, c, d.imp m⟩
theorem Has.gc (h : Has P w K mg base CX k x ps sp) : Has P w K mg base CX k x ps (spGc sp) := by
  obtain ⟨f, fd, a, b, c, d⟩ := h.ex
  exact ⟨f, fd, a, b, c, fn_gc d⟩
end
section
variable {X : Cx} {CX : CXT} {k : Nat} {x : Str} {ps : List Str} {sp : Sp} {E : XK} {p pos : Pos} {e : Expr} {es : List Expr} {t : TA}
/-- the call of such a def -/
def fCall (sp : Sp) (E : XK) (t : TA) : TE := fun σ H Q => t σ H fun vs H1 => sp vs H1 Q E
theorem tCall_eq (sp : Sp) (E : XK) (t : TA) : tCall sp [] E t = fCall sp E t := by
  funext σ H Q; unfold tCall fCall; congr 1; funext vs H1; rw [List.append_nil]
theorem xe_call {P : Program} {w : World} {K : PySem.W.Frag} {mg : Str → Option Value} {base : Heap} (G : Has P w K mg base CX k x ps sp) (hr : Room k X.A) (hx : Passes CX X E) (ha : PA X (e :: es) t) (h1 : X.prog = P := by rfl) (h2 : X.w = w := by rfl) (h3 : X.K = K := by rfl) (h4 : X.mg = mg := by rfl) (h5 : X.base = base := by rfl)
    (hg : Gl X x := by rfl) (hdb : (x == ("__debug__" : Str)) = false := by decide)
    (he : starEach (e :: es) X.env = (false, eval e X.env) :: starEach es X.env := by rfl) (hpl : (backTo pos (starEach es X.env)).any (·.1) = false := by rfl) : PE X (.Call (.Name x p) (e :: es) [] pos) (fCall sp E t) := by
  subst h1 h2 h3 h4 h5
  obtain ⟨f, fd, hm, hk, hb, F⟩ := G.ex
  rw [← tCall_eq]
  exact pe_call F hr hg hm hk hb .nil hx ha hdb he hpl
theorem xe_call0 {P : Program} {w : World} {K : PySem.W.Frag} {mg : Str → Option Value} {base : Heap} (G : Has P w K mg base CX k x ps sp) (hr : Room k X.A) (hx : Passes CX X E) (h1 : X.prog = P := by rfl) (h2 : X.w = w := by rfl) (h3 : X.K = K := by rfl) (h4 : X.mg = mg := by rfl) (h5 : X.base = base := by rfl)
    (hg : Gl X x := by rfl) (hdb : (x == ("__debug__" : Str)) = false := by decide) : PE X (.Call (.Name x p) [] [] pos) (fCall sp E tNil) := by
  subst h1 h2 h3 h4 h5
  obtain ⟨f, fd, hm, hk, hb, F⟩ := G.ex
  rw [← tCall_eq]
  exact pe_call0 F hr hg hm hk hb .nil hx hdb
/-- a constant of the module -/
def ConstAt (mg : Str → Option Value) (x : Str) (v : V) : Prop := ∃ u, mg x = some u ∧ RelV v u
theorem xe_const {v : V} (c : ConstAt X.mg x v) (hg : Gl X x := by rfl) (hd : (x == ("__debug__" : Str)) = false := by decide) : PE X (.Name x pos) (tC v) := by
  obtain ⟨u, h, r⟩ := c
  exact pe_glob hg h r hd
end

/-! ### comprehensions -/
def lcTurn (g : TG) (tt : TT) (te : TE) (vs : List Nat) (σ : L2.St) (D : Addr) (Nx : Hp → Prop) (x : V) (H : Hp) : Prop :=
  g x (wipe σ vs) H fun σ2 H2 => Sd (wipe σ2 vs = wipe σ vs) (tt σ2 H2 fun b H3 => Br b (te σ2 H3 fun y H4 => Get H4 D fun o => match o with
    | .lst acc => Sd (acc.length < sizeLine) (Nx (upd H4 D (.lst (acc ++ [y]))))
    | _ => False) (Nx H3))
theorem lcTurn_eq (g : TG) (tt : TT) (te : TE) (vs : List Nat) (σ : L2.St) (D : Addr) (Nx : Hp → Prop) (x : V) (H : Hp) : lcTurn g tt te vs σ D Nx x H =
    g x (wipe σ vs) H fun σ2 H2 => wipe σ2 vs = wipe σ vs ∧ tt σ2 H2 fun b H3 => if b = true then te σ2 H3 fun y H4 => ∃ acc, H4 D = some (.lst acc) ∧ acc.length < sizeLine ∧ Nx (upd H4 D (.lst (acc ++ [y]))) else Nx H3 := by
  unfold lcTurn
  congr 1
  funext σ2 H2
  have e : (fun y (H4 : Hp) => Get H4 D fun o => (match o with
    | .lst acc => Sd (acc.length < sizeLine) (Nx (upd H4 D (.lst (acc ++ [y]))))
    | _ => False : Prop)) = fun y H4 => ∃ acc, H4 D = some (.lst acc) ∧ acc.length < sizeLine ∧ Nx (upd H4 D (.lst (acc ++ [y]))) := by
    funext y H4
    refine propext ⟨fun z => ?_, fun ⟨acc, h1, h2, q⟩ => get_i h1 (sd_i h2 q)⟩
    obtain ⟨o, ho, z⟩ := get_e z
    split at z
    · obtain ⟨h2, z⟩ := sd_e z
      exact ⟨_, ho, h2, z⟩
    · exact z.elim
  rw [e]
  have e2 : (fun b (H3 : Hp) => Br b (te σ2 H3 fun y H4 => ∃ acc, H4 D = some (.lst acc) ∧ acc.length < sizeLine ∧ Nx (upd H4 D (.lst (acc ++ [y])))) (Nx H3)) = fun b H3 => if b = true then te σ2 H3 fun y H4 => ∃ acc, H4 D = some (.lst acc) ∧ acc.length < sizeLine ∧ Nx (upd H4 D (.lst (acc ++ [y]))) else Nx H3 := by
    funext b H3; rw [br_eq]
  rw [e2]
  exact propext ⟨sd_e, fun ⟨a, b⟩ => sd_i a b⟩
def LcL (still : Hp → Prop) (g : TG) (tt : TT) (te : TE) (vs : List Nat) (σ : L2.St) (D : Addr) (Q : VK) : List V → Hp → Prop
  | [], H => still H ∧ Q (.ref D) H
  | x :: r, H => still H ∧ ∃ Nx : Hp → Prop, (∀ H', Nx H' → LcL still g tt te vs σ D Q r H') ∧ lcTurn g tt te vs σ D Nx x H
@[irreducible] def Lc (still : Hp → Prop) (g : TG) (tt : TT) (te : TE) (vs : List Nat) (σ : L2.St) (D : Addr) (Q : VK) (xs : List V) (H : Hp) : Prop := LcL still g tt te vs σ D Q xs H
theorem lc_u {still : Hp → Prop} {g : TG} {tt : TT} {te : TE} {vs : List Nat} {σ : L2.St} {D : Addr} {Q : VK} {xs : List V} {H : Hp} (h : LcL still g tt te vs σ D Q xs H) : Lc still g tt te vs σ D Q xs H := by unfold Lc; exact h
theorem lc_e {still : Hp → Prop} {g : TG} {tt : TT} {te : TE} {vs : List Nat} {σ : L2.St} {D : Addr} {Q : VK} {xs : List V} {H : Hp} (h : Lc still g tt te vs σ D Q xs H) : LcL still g tt te vs σ D Q xs H := by unfold Lc at h; exact h
/-- items that change nothing but the new list -/
theorem lc_map {still : Hp → Prop} {g : TG} {tt : TT} {te : TE} {vs : List Nat} {σ : L2.St} {D : Addr} {Q : VK} {H0 : Hp} (f : V → V) (p : V → Bool) : ∀ (xs : List V) (acc : List V), (∀ a, still (upd H0 D (.lst a))) → acc.length + xs.length < 1000000 →
    (∀ x ∈ xs, ∀ (a : List V) (Nx : Hp → Prop), a.length < 1000000 → (p x = true → Nx (upd H0 D (.lst (a ++ [f x])))) → (p x = false → Nx (upd H0 D (.lst a))) → lcTurn g tt te vs σ D Nx x (upd H0 D (.lst a))) →
    Q (.ref D) (upd H0 D (.lst (acc ++ (xs.filter p).map f))) → LcL still g tt te vs σ D Q xs (upd H0 D (.lst acc))
  | [], acc, hst, hl, hx, q => ⟨hst _, by rw [show acc = acc ++ (([] : List V).filter p).map f by simp]; exact q⟩
  | x :: r, acc, hst, hl, hx, q => by
    simp only [List.length_cons] at hl
    refine ⟨hst _, fun H' => H' = if p x = true then upd H0 D (.lst (acc ++ [f x])) else upd H0 D (.lst acc), fun H' e => ?_, hx x List.mem_cons_self acc _ (by omega) (fun h => by rw [if_pos h]) (fun h => by rw [if_neg (by rw [h]; decide)])⟩
    subst e
    cases h : p x with
    | true =>
      rw [if_pos rfl]
      refine lc_map f p r _ hst (by simp only [List.length_append, List.length_cons, List.length_nil]; omega) (fun y hy => hx y (List.mem_cons_of_mem _ hy)) ?_
      rw [List.filter_cons_of_pos h, List.map_cons] at q
      rw [List.append_assoc]; exact q
    | false =>
      rw [if_neg (by decide)]
      refine lc_map f p r _ hst (by omega) (fun y hy => hx y (List.mem_cons_of_mem _ hy)) ?_
      rw [List.filter_cons_of_neg (by rw [h]; decide)] at q
      exact q
theorem lc_map0 {still : Hp → Prop} {g : TG} {tt : TT} {te : TE} {vs : List Nat} {σ : L2.St} {D : Addr} {Q : VK} {H0 : Hp} {xs : List V} (f : V → V) (p : V → Bool) (hst : ∀ a, still (upd H0 D (.lst a))) (hl : xs.length < 1000000)
    (hx : ∀ x ∈ xs, ∀ (a : List V) (Nx : Hp → Prop), a.length < 1000000 → (p x = true → Nx (upd H0 D (.lst (a ++ [f x])))) → (p x = false → Nx (upd H0 D (.lst a))) → lcTurn g tt te vs σ D Nx x (upd H0 D (.lst a)))
    (q : Q (.ref D) (upd H0 D (.lst ((xs.filter p).map f)))) : Lc still g tt te vs σ D Q xs (upd H0 D (.lst [])) := lc_u (lc_map f p xs [] hst (by simpa using hl) hx q)
section
variable {X : Cx} {tl : TE} {t : TA} {g : TG} {tt : TT} {te : TE} {vs : List Nat} {σ : L2.St} {H : Hp} {Q : VK}
def fLcL (K : PySem.W.Frag) (tl : TE) (g : TG) (tt : TT) (te : TE) (vs : List Nat) : TE := fun σ H Q => tl σ H fun x H1 => match x with | .ref a => RdL K H1 a fun xs => New H1 fun D => Lc (fun H => SqL K H a xs) g tt te vs σ D Q xs (upd H1 D (.lst [])) | _ => False
def fLcT (K : PySem.W.Frag) (tl : TE) (g : TG) (tt : TT) (te : TE) (vs : List Nat) : TE := fun σ H Q => tl σ H fun x H1 => match x with | .ref a => RdT K H1 a fun xs => New H1 fun D => Lc (fun H => SqT K H a xs) g tt te vs σ D Q xs (upd H1 D (.lst [])) | _ => False
def fLcR1 (ta : TA) (g : TG) (tt : TT) (te : TE) (vs : List Nat) : TE := fun σ H Q => ta σ H fun ws H1 => match ws with | [.int j] => Sd (rngB j) (New H1 fun D => Lc (fun _ => True) g tt te vs σ D Q (rngV 0 j.toNat) (upd H1 D (.lst []))) | _ => False
def fLcR2 (ta : TA) (g : TG) (tt : TT) (te : TE) (vs : List Nat) : TE := fun σ H Q => ta σ H fun ws H1 => match ws with | [.int i, .int j] => Sd (rngB i ∧ rngB j) (New H1 fun D => Lc (fun _ => True) g tt te vs σ D Q (rngV i (j - i).toNat) (upd H1 D (.lst []))) | _ => False
theorem lcL_of {K : PySem.W.Frag} {a D : Addr} {xs : List V} {H1 : Hp} (h : LcL (fun H => SqL K H a xs) g tt te vs σ D Q xs (upd H1 D (.lst []))) :
    ∃ W : Nat → Nat → Hp → Prop, (∃ m, W 0 m (upd H1 D (.lst []))) ∧ ∀ i m H, W i m H →
      ((Itl K a).stop i H ∧ Q (.ref D) H) ∨ ((Itl K a).go i H ∧ ∃ Nx : Hp → Prop, (∀ H', Nx H' → ∃ m', m' < m ∧ W (i + 1) m' H') ∧ ∀ x H', (Itl K a).yld i H x H' → g x (wipe σ vs) H' fun σ2 H2 => wipe σ2 vs = wipe σ vs ∧ tt σ2 H2 fun b H3 =>
        if b = true then te σ2 H3 fun y H4 => ∃ acc, H4 D = some (.lst acc) ∧ acc.length < sizeLine ∧ Nx (upd H4 D (.lst (acc ++ [y]))) else Nx H3) := by
  refine ⟨fun i m H => m = xs.length - i ∧ i ≤ xs.length ∧ LcL (fun H => SqL K H a xs) g tt te vs σ D Q (xs.drop i) H, ⟨_, rfl, Nat.zero_le _, h⟩, ?_⟩
  rintro i m H ⟨rfl, hi, p⟩
  by_cases hlt : i < xs.length
  · rw [List.drop_eq_getElem_cons hlt] at p
    obtain ⟨s, N, hN, q⟩ := p
    refine .inr ⟨⟨xs, xs[i], s, by simp [hlt]⟩, N, fun H' z => ⟨xs.length - (i + 1), by omega, rfl, hlt, hN _ z⟩, fun x H' y => ?_⟩
    obtain ⟨e, y⟩ := y
    subst e
    have e2 := y xs s
    rw [List.getElem?_eq_getElem hlt] at e2
    cases e2
    rw [lcTurn_eq] at q
    exact q
  · have e : i = xs.length := by omega
    subst e
    rw [List.drop_length] at p
    exact .inl ⟨⟨xs, p.1, Nat.le_refl _⟩, p.2⟩
theorem lcT_of {K : PySem.W.Frag} {a D : Addr} {xs : List V} {H1 : Hp} (h : LcL (fun H => SqT K H a xs) g tt te vs σ D Q xs (upd H1 D (.lst []))) :
    ∃ W : Nat → Nat → Hp → Prop, (∃ m, W 0 m (upd H1 D (.lst []))) ∧ ∀ i m H, W i m H →
      ((Itt K a).stop i H ∧ Q (.ref D) H) ∨ ((Itt K a).go i H ∧ ∃ Nx : Hp → Prop, (∀ H', Nx H' → ∃ m', m' < m ∧ W (i + 1) m' H') ∧ ∀ x H', (Itt K a).yld i H x H' → g x (wipe σ vs) H' fun σ2 H2 => wipe σ2 vs = wipe σ vs ∧ tt σ2 H2 fun b H3 =>
        if b = true then te σ2 H3 fun y H4 => ∃ acc, H4 D = some (.lst acc) ∧ acc.length < sizeLine ∧ Nx (upd H4 D (.lst (acc ++ [y]))) else Nx H3) := by
  refine ⟨fun i m H => m = xs.length - i ∧ i ≤ xs.length ∧ LcL (fun H => SqT K H a xs) g tt te vs σ D Q (xs.drop i) H, ⟨_, rfl, Nat.zero_le _, h⟩, ?_⟩
  rintro i m H ⟨rfl, hi, p⟩
  by_cases hlt : i < xs.length
  · rw [List.drop_eq_getElem_cons hlt] at p
    obtain ⟨s, N, hN, q⟩ := p
    refine .inr ⟨⟨xs, xs[i], s, by simp [hlt]⟩, N, fun H' z => ⟨xs.length - (i + 1), by omega, rfl, hlt, hN _ z⟩, fun x H' y => ?_⟩
    obtain ⟨e, y⟩ := y
    subst e
    have e2 := y xs s
    rw [List.getElem?_eq_getElem hlt] at e2
    cases e2
    rw [lcTurn_eq] at q
    exact q
  · have e : i = xs.length := by omega
    subst e
    rw [List.drop_length] at p
    exact .inl ⟨⟨xs, p.1, Nat.le_refl _⟩, p.2⟩
theorem lcR_of {D : Addr} {lo : Int} {n : Nat} {H1 : Hp} (h : LcL (fun _ => True) g tt te vs σ D Q (rngV lo n) (upd H1 D (.lst []))) :
    ∃ W : Nat → Nat → Hp → Prop, (∃ m, W 0 m (upd H1 D (.lst []))) ∧ ∀ i m H, W i m H →
      ((Itr lo n).stop i H ∧ Q (.ref D) H) ∨ ((Itr lo n).go i H ∧ ∃ Nx : Hp → Prop, (∀ H', Nx H' → ∃ m', m' < m ∧ W (i + 1) m' H') ∧ ∀ x H', (Itr lo n).yld i H x H' → g x (wipe σ vs) H' fun σ2 H2 => wipe σ2 vs = wipe σ vs ∧ tt σ2 H2 fun b H3 =>
        if b = true then te σ2 H3 fun y H4 => ∃ acc, H4 D = some (.lst acc) ∧ acc.length < sizeLine ∧ Nx (upd H4 D (.lst (acc ++ [y]))) else Nx H3) := by
  refine ⟨fun i m H => m = n - i ∧ i ≤ n ∧ LcL (fun _ => True) g tt te vs σ D Q ((rngV lo n).drop i) H, ⟨_, rfl, Nat.zero_le _, h⟩, ?_⟩
  rintro i m H ⟨rfl, hi, p⟩
  have hl := rngV_len lo n
  by_cases hlt : i < n
  · rw [List.drop_eq_getElem_cons (by rw [hl]; exact hlt)] at p
    obtain ⟨s, N, hN, q⟩ := p
    refine .inr ⟨hlt, N, fun H' z => ⟨n - (i + 1), by omega, rfl, hlt, hN _ z⟩, fun x H' y => ?_⟩
    obtain ⟨e, y⟩ := y
    subst e y
    have e2 := (rngV_get (List.getElem?_eq_getElem (show i < (rngV lo n).length by rw [hl]; exact hlt))).2
    rw [e2, lcTurn_eq] at q
    exact q
  · have e : i = n := by omega
    subst e
    rw [show List.drop i (rngV lo i) = [] from List.drop_eq_nil_of_le (by rw [hl]; exact Nat.le_refl _)] at p
    exact .inl ⟨Nat.le_refl _, p.2⟩
theorem fLcL_to {K : PySem.W.Frag} (h : fLcL K tl g tt te vs σ H Q) : tLc (iList K (mon tl)) g tt te vs σ H Q := by
  refine ⟨_, h, fun x H1 z => ?_⟩
  split at z
  · obtain ⟨xs, hx, z⟩ := rdL_e z
    exact ⟨_, rfl, ⟨xs, hx⟩, fun D hD => lcL_of (lc_e (new_e z D hD))⟩
  · exact z.elim
theorem fLcT_to {K : PySem.W.Frag} (h : fLcT K tl g tt te vs σ H Q) : tLc (iTup K (mon tl)) g tt te vs σ H Q := by
  refine ⟨_, h, fun x H1 z => ?_⟩
  split at z
  · obtain ⟨xs, hx, z⟩ := rdT_e z
    exact ⟨_, rfl, ⟨xs, hx⟩, fun D hD => lcT_of (lc_e (new_e z D hD))⟩
  · exact z.elim
theorem fLcR1_to (h : fLcR1 t g tt te vs σ H Q) : tLc (iRng1 (monA t)) g tt te vs σ H Q := by
  refine ⟨_, h, fun x H1 z => ?_⟩
  split at z
  · obtain ⟨⟨h1, h2⟩, z⟩ := sd_e z
    exact ⟨_, rfl, h1, h2, fun D hD => lcR_of (lc_e (new_e z D hD))⟩
  · exact z.elim
theorem fLcR2_to (h : fLcR2 t g tt te vs σ H Q) : tLc (iRng2 (monA t)) g tt te vs σ H Q := by
  refine ⟨_, h, fun x H1 z => ?_⟩
  split at z
  · obtain ⟨⟨⟨h1, h2⟩, h3, h4⟩, z⟩ := sd_e z
    exact ⟨_, _, rfl, ⟨h1, h2, h3, h4⟩, fun D hD => lcR_of (lc_e (new_e z D hD))⟩
  · exact z.elim
end
section
variable {X : Cx} {elt tg iter a b : Expr} {ifs : List Expr} {scope : Scope} {own : List (Str × Nat)} {pos p p2 : Pos} {tl : TE} {t : TA} {g : TG} {tt : TT} {te : TE}
theorem xe_lcL (hc : X.calm = true) (hN : X.N.Nodup) (hi : PE X iter tl) (ok : BlkOk X.N X.env.scope scope own)
    (hg : ∀ (s : Shared) (H : Hp) (C : Addr) (cl : List (Str × Addr)) (fp : List Addr), PG (X.blk s H scope (compEnvC scope cl C X.env) fp) tg g) (ht : ∀ (s : Shared) (H : Hp) (C : Addr) (cl : List (Str × Addr)) (fp : List Addr), PTs (X.blk s H scope (compEnvC scope cl C X.env) fp) ifs tt)
    (he : ∀ (s : Shared) (H : Hp) (C : Addr) (cl : List (Str × Addr)) (fp : List Addr), PE (X.blk s H scope (compEnvC scope cl C X.env) fp) elt te) (hs : ∀ x, foldedSetIterable iter X.env x = pure x := by intro _; rfl) :
    PE X (.ListComp elt [⟨tg, iter, ifs, 0⟩] scope pos) (fLcL X.K tl g tt te (own.map (·.2))) := pe_mono (pe_lc hc hN (pi_list (pe_mon hi)) ok hg ht he hs) fun σ H Q h => fLcL_to h
theorem xe_lcT (hc : X.calm = true) (hN : X.N.Nodup) (hi : PE X iter tl) (ok : BlkOk X.N X.env.scope scope own)
    (hg : ∀ (s : Shared) (H : Hp) (C : Addr) (cl : List (Str × Addr)) (fp : List Addr), PG (X.blk s H scope (compEnvC scope cl C X.env) fp) tg g) (ht : ∀ (s : Shared) (H : Hp) (C : Addr) (cl : List (Str × Addr)) (fp : List Addr), PTs (X.blk s H scope (compEnvC scope cl C X.env) fp) ifs tt)
    (he : ∀ (s : Shared) (H : Hp) (C : Addr) (cl : List (Str × Addr)) (fp : List Addr), PE (X.blk s H scope (compEnvC scope cl C X.env) fp) elt te) (hs : ∀ x, foldedSetIterable iter X.env x = pure x := by intro _; rfl) :
    PE X (.ListComp elt [⟨tg, iter, ifs, 0⟩] scope pos) (fLcT X.K tl g tt te (own.map (·.2))) := pe_mono (pe_lc hc hN (pi_tup (pe_mon hi)) ok hg ht he hs) fun σ H Q h => fLcT_to h
theorem xe_lcR1 (hc : X.calm = true) (hN : X.N.Nodup) (hm : X.mg "range" = none) (hi : PA X [a] t) (ok : BlkOk X.N X.env.scope scope own)
    (hg : ∀ (s : Shared) (H : Hp) (C : Addr) (cl : List (Str × Addr)) (fp : List Addr), PG (X.blk s H scope (compEnvC scope cl C X.env) fp) tg g) (ht : ∀ (s : Shared) (H : Hp) (C : Addr) (cl : List (Str × Addr)) (fp : List Addr), PTs (X.blk s H scope (compEnvC scope cl C X.env) fp) ifs tt)
    (he : ∀ (s : Shared) (H : Hp) (C : Addr) (cl : List (Str × Addr)) (fp : List Addr), PE (X.blk s H scope (compEnvC scope cl C X.env) fp) elt te) (hgl : Gl X "range" := by rfl) (hsa : starEach [a] X.env = [(false, eval a X.env)] := by rfl) (hs : ∀ x, foldedSetIterable (.Call (.Name "range" p) [a] [] p2) X.env x = pure x := by intro _; rfl) :
    PE X (.ListComp elt [⟨tg, .Call (.Name "range" p) [a] [] p2, ifs, 0⟩] scope pos) (fLcR1 t g tt te (own.map (·.2))) := pe_mono (pe_lc hc hN (pi_range1 hgl hm (pa_mon hi) hsa) ok hg ht he hs) fun σ H Q h => fLcR1_to h
theorem xe_lcR2 (hc : X.calm = true) (hN : X.N.Nodup) (hm : X.mg "range" = none) (hi : PA X [a, b] t) (ok : BlkOk X.N X.env.scope scope own)
    (hg : ∀ (s : Shared) (H : Hp) (C : Addr) (cl : List (Str × Addr)) (fp : List Addr), PG (X.blk s H scope (compEnvC scope cl C X.env) fp) tg g) (ht : ∀ (s : Shared) (H : Hp) (C : Addr) (cl : List (Str × Addr)) (fp : List Addr), PTs (X.blk s H scope (compEnvC scope cl C X.env) fp) ifs tt)
    (he : ∀ (s : Shared) (H : Hp) (C : Addr) (cl : List (Str × Addr)) (fp : List Addr), PE (X.blk s H scope (compEnvC scope cl C X.env) fp) elt te) (hgl : Gl X "range" := by rfl) (hsa : starEach [a, b] X.env = [(false, eval a X.env), (false, eval b X.env)] := by rfl) (hsb : starEach [b] X.env = [(false, eval b X.env)] := by rfl)
    (hs : ∀ x, foldedSetIterable (.Call (.Name "range" p) [a, b] [] p2) X.env x = pure x := by intro _; rfl) :
    PE X (.ListComp elt [⟨tg, .Call (.Name "range" p) [a, b] [] p2, ifs, 0⟩] scope pos) (fLcR2 t g tt te (own.map (·.2))) := pe_mono (pe_lc hc hN (pi_range2 hgl hm (pa_mon hi) hsa hsb) ok hg ht he hs) fun σ H Q h => fLcR2_to h
end
/-! ### built-in names -/
theorem bt_len : bootBuiltins "len" = some (.builtin "len") := by decide +kernel
theorem bt_abs : bootBuiltins "abs" = some (.builtin "abs") := by decide +kernel
theorem bt_max : bootBuiltins "max" = some (.builtin "max") := by decide +kernel
theorem bt_min : bootBuiltins "min" = some (.builtin "min") := by decide +kernel
theorem bt_sum : bootBuiltins "sum" = some (.builtin "sum") := by decide +kernel
theorem bt_all : bootBuiltins "all" = some (.builtin "all") := by decide +kernel
theorem bt_any : bootBuiltins "any" = some (.builtin "any") := by decide +kernel
theorem bt_isinstance : bootBuiltins "isinstance" = some (.builtin "isinstance") := by decide +kernel
theorem bt_sorted : bootBuiltins "sorted" = some (.builtin "sorted") := by decide +kernel
theorem bt_ord : bootBuiltins "ord" = some (.builtin "ord") := by decide +kernel
theorem bt_int : bootBuiltins "int" = some (.type "int") := by decide +kernel
theorem bt_bool : bootBuiltins "bool" = some (.type "bool") := by decide +kernel
theorem bt_str : bootBuiltins "str" = some (.type "str") := by decide +kernel
theorem bt_list : bootBuiltins "list" = some (.type "list") := by decide +kernel
theorem bt_tuple : bootBuiltins "tuple" = some (.type "tuple") := by decide +kernel
theorem bt_dict : bootBuiltins "dict" = some (.type "dict") := by decide +kernel
end FX
namespace FX
open PySem PySem.Spec L2
theorem defAt_mk {K : PySem.W.Frag} {h : Heap} {mg : Str → Option Value} {x qual : Str} {st : Stmt} {f : Addr} {od an : Option Addr} {sl : Array (Option Value)} {oc kV dc pm cd ct : Value} (X : K.In h) (G : h.Ns mainGlobals mg)
    (a : PySem.W.nsIn K mainGlobals x = some (some (.ref f))) (l : K.lookup f = some ⟨oc, od, .func (PySem.W.fnOf x qual (defArgs st) (defBody st) (defScope st) .none kV dc pm an cd ct), sl⟩) (c : PySem.W.codeIn K cd qual = true) (k : PySem.W.keepIn K (.ref f) = true) : DefAt K mg x qual st :=
  ⟨f, _, PySem.W.mg_of X G a, fun_mk l c k⟩
theorem constAt_mk {K : PySem.W.Frag} {h : Heap} {mg : Str → Option Value} {x : Str} {u : Value} {v : V} (X : K.In h) (G : h.Ns mainGlobals mg) (a : PySem.W.nsIn K mainGlobals x = some (some u)) (r : RelV v u) : ConstAt mg x v := ⟨u, PySem.W.mg_of X G a, r⟩
theorem const_loose {p : Program} {lv : List (Str × PySem.W.WData)} {mg : Str → Option Value} {h : Heap} {x : Str} {n : Int} (X : PySem.W.XL p lv mg h) (hx : lv.lookup x = some (.int n)) : ConstAt mg x (.int n) := by
  obtain ⟨v, a, b⟩ := X.2.val _ (PySem.W.mem_lookup hx)
  obtain ⟨t, e, _⟩ := PySem.W.readsW_int_inv b
  subst e
  exact ⟨_, a, t, rfl⟩
/-- what the law's def is asked -/
def sp_law (K : PySem.W.Frag) : Sp := fun vs H Q _ => ∃ (a : Addr) (ns : List Int), vs = [.ref a] ∧ Only H ∧ SqL K H a (ns.map V.int) ∧ ns.length ≤ 63 ∧ ∀ H', Q (.bl true) H'
theorem law_walk {l : PySem.W.OpenLaw} {q : Program} {loose : List Str} {XP : (Str → Option Value) → Heap → Prop} {YP : World → Heap → Prop} {d : DefRec} {K : Params → PySem.W.Frag} {k : Nat} {CX : World → CXT} {st : Stmt} {qual : Str}
    (hn : l.most = some 63) (hdf : d.params.defaults = []) (hr : Room k callerA) (hY : ∀ (w : World) (h : Heap), YP w h → (K w.params).In h)
    (hps : ∀ (kV doc pm : Value) (an : Option Addr) (cdv ct : Value) (us : List Value), us.length = 1 → bindArgs (PySem.W.fnOf d.name qual (defArgs st) (defBody st) (defScope st) .none kV doc pm an cdv ct) ⟨us, []⟩ = pure ([("script" : Str)].zip us))
    (F : ∀ (w : World) (mg : Str → Option Value) (h : Heap), (K w.params).In h → h.Ns mainGlobals mg → XP mg h →
      DefAt (K w.params) mg d.name qual st ∧ ∀ (base : Heap), (K w.params).In base → base.Ns mainGlobals mg → ∀ f fd, Fun (K w.params) d.name qual st f fd → FnOk l.prog w (K w.params) mg base (CX w) k f fd ["script"] (sp_law (K w.params)))
    (hCX : ∀ (w : World) (H : Hp) (s : Shared) (e : Value) (s' : Shared), CX w [] H s (fun _ _ _ => False) e s' → False) :
    PySem.W.WalkO q loose XP YP l.row.toRowW d [] (fun f vs => PySem.call f vs) :=
  Att.attach_call hn hdf fun w s₀ s₁ mg mb fa o pm cd doc a vs ns G Y ho hd hcd hmg hobj hints hlen hg => by
    have KX := hY w _ Y
    obtain ⟨⟨f, fd, m, Fd⟩, ok⟩ := F w mg _ KX G.T.g G.X
    rw [hmg] at m
    cases m
    have hb : ∀ (s : Shared) (u : Value), BindsTo s fd ⟨[u], []⟩ [("script", u)] := fun s u => by
      obtain ⟨oc, od, kV, doc, pm, an, cdv, ct, osl, rfl, lk, hcd⟩ := Fd.ex
      exact .of_eq (hps kV doc pm an cdv ct [u] rfl)
    exact law_call KX G.T.g G.T.b G.T.builtins G.T.nolimit hg hobj hints (Nat.le_trans hlen (by decide)) hr (fun base kb gb => ok base kb gb _ _ Fd) hb (fun H hO hS => ⟨a, ns, rfl, hO, hS, hlen, fun _ => rfl⟩) fun H e s' => hCX w H s₁ e s'
theorem cx_none {P : Program} {w : World} {H : Hp} {s : Shared} {e : Value} {s' : Shared} (h : L2.CX P w [] H s (fun _ _ _ => False) e s') : False := by
  obtain ⟨_, _, _, _, _, _, _, _, _, _, _, _, z⟩ := h
  exact z
theorem upd_none_e {H : Hp} {a p : Addr} {o : HO} (h : upd H a o p = none) : p ≠ a ∧ H p = none := by rw [upd_none] at h; exact h
@[irreducible] def NeI (p a : Addr) (k : Prop) : Prop := p ≠ a → k
theorem neI_i {p a : Addr} {k : Prop} (h : p ≠ a → k) : NeI p a k := by unfold NeI; exact h
theorem neI_e {p a : Addr} {k : Prop} (h : NeI p a k) : p ≠ a → k := by unfold NeI at h; exact h
theorem new_step {H : Hp} {a : Addr} {o : HO} {k : Addr → Prop} (h : New H fun p => NeI p a (k p)) : New (upd H a o) k := new_i fun p hp => neI_e (new_e h p (upd_none_e hp).2) (upd_none_e hp).1
theorem sqL_upd {K : PySem.W.Frag} {H : Hp} {a p : Addr} {o : HO} {xs : List V} (h : SqL K H p xs) (n : H a = none) : SqL K (upd H a o) p xs := by
  rcases h with (h | ⟨ob, h⟩) | h
  · exact .inl (.inl (by rw [upd_ne (ne_of_none h n)]; exact h))
  · exact .inl (.inr ⟨ob, by rw [upd_ne (ne_of_none h n)]; exact h⟩)
  · exact .inr h
theorem sqL_ne {K : PySem.W.Frag} {H : Hp} {a p : Addr} {o : HO} {xs : List V} (h : SqL K H p xs) (n : p ≠ a) : SqL K (upd H a o) p xs := by
  rcases h with (h | ⟨ob, h⟩) | h
  · exact .inl (.inl (by rw [upd_ne n]; exact h))
  · exact .inl (.inr ⟨ob, by rw [upd_ne n]; exact h⟩)
  · exact .inr h
end FX
namespace FX
open PySem PySem.Spec L2
/-- a promise that may leave more behind than it says -/
def spB (sp : Sp) : Sp := fun vs H Q E => ∃ Q' : VK, sp vs H Q' E ∧ ∀ v H', Gc H H' (fun H2 => Q' v H2) → Q v H'
theorem fn_gcB {P : Program} {w : World} {K : PySem.W.Frag} {mg : Str → Option Value} {base : Heap} {CX : CXT} {k : Nat} {f : Addr} {fd : FuncData} {ps : List Str} {sp : Sp} (F : FnOk P w K mg base CX k f fd ps (spB sp)) : FnOk P w K mg base CX k f fd ps sp :=
  (fn_gc F).imp fun vs H Q E h => ⟨Q, h, fun _ _ g => g⟩

/-! ### the law's stream -/
def strm (l : Addr) (c p m : Int) : HO := .lst [.ref l, .int c, .int p, .int m]
@[irreducible] def Strm (H : Hp) (s : Addr) (k : Addr → Prop) : Prop := ∃ l c p m, ∃ ns : List Int, H s = some (strm l c p m) ∧ H l = some (.lst (ns.map V.int)) ∧ 0 ≤ c ∧ 0 ≤ p ∧ 0 ≤ m ∧ m < 2147483647 ∧ k l
theorem strm_i {H : Hp} {s : Addr} {k : Addr → Prop} {l : Addr} {c p m : Int} {ns : List Int} (h : H s = some (strm l c p m)) (hl : H l = some (.lst (ns.map V.int))) (h0 : 0 ≤ c ∧ 0 ≤ p ∧ 0 ≤ m ∧ m < 2147483647) (q : k l) : Strm H s k := by
  unfold Strm; exact ⟨l, c, p, m, ns, h, hl, h0.1, h0.2.1, h0.2.2.1, h0.2.2.2, q⟩
theorem strm_e {H : Hp} {s : Addr} {k : Addr → Prop} (h : Strm H s k) : ∃ l c p m, ∃ ns : List Int, H s = some (strm l c p m) ∧ H l = some (.lst (ns.map V.int)) ∧ 0 ≤ c ∧ 0 ≤ p ∧ 0 ≤ m ∧ m < 2147483647 ∧ k l := by unfold Strm at h; exact h
/-- some number from 0 on below n; the stream has gone on -/
@[irreducible] def Drawn (H : Hp) (s l : Addr) (n : Int) (k : Int → Hp → Prop) : Prop := ∀ v c p m, 0 ≤ v → v < n → 0 ≤ c ∧ 0 ≤ p ∧ 0 ≤ m ∧ m < 2147483647 → k v (upd H s (strm l c p m))
theorem drawn_i {H : Hp} {s l : Addr} {n : Int} {k : Int → Hp → Prop} (h : ∀ v c p m, 0 ≤ v → v < n → 0 ≤ c ∧ 0 ≤ p ∧ 0 ≤ m ∧ m < 2147483647 → k v (upd H s (strm l c p m))) : Drawn H s l n k := by unfold Drawn; exact h
theorem drawn_e {H : Hp} {s l : Addr} {n : Int} {k : Int → Hp → Prop} (h : Drawn H s l n k) : ∀ v c p m, 0 ≤ v → v < n → 0 ≤ c ∧ 0 ≤ p ∧ 0 ≤ m ∧ m < 2147483647 → k v (upd H s (strm l c p m)) := by unfold Drawn at h; exact h
/-- the stream stands last -/
theorem drawn_u {H : Hp} {s l : Addr} {o : HO} {n : Int} {k : Int → Hp → Prop} (h : ∀ v c p m, 0 ≤ v → v < n → 0 ≤ c ∧ 0 ≤ p ∧ 0 ≤ m ∧ m < 2147483647 → k v (upd H s (strm l c p m))) : Drawn (upd H s o) s l n k :=
  drawn_i fun v c p m h0 h1 h2 => by rw [upd_upd]; exact h v c p m h0 h1 h2
theorem drawn_u1 {H : Hp} {s l a : Addr} {o u : HO} {n : Int} {k : Int → Hp → Prop} (hn : s ≠ a) (h : ∀ v c p m, 0 ≤ v → v < n → 0 ≤ c ∧ 0 ≤ p ∧ 0 ≤ m ∧ m < 2147483647 → k v (upd (upd H a u) s (strm l c p m))) : Drawn (upd (upd H s o) a u) s l n k :=
  drawn_i fun v c p m h0 h1 h2 => by rw [upd_comm (H := H) hn, upd_upd]; exact h v c p m h0 h1 h2
theorem drawn_u2 {H : Hp} {s l a b : Addr} {o u x : HO} {n : Int} {k : Int → Hp → Prop} (hn : s ≠ a) (hm : s ≠ b) (h : ∀ v c p m, 0 ≤ v → v < n → 0 ≤ c ∧ 0 ≤ p ∧ 0 ≤ m ∧ m < 2147483647 → k v (upd (upd (upd H a u) b x) s (strm l c p m))) : Drawn (upd (upd (upd H s o) a u) b x) s l n k :=
  drawn_i fun v c p m h0 h1 h2 => by rw [upd_comm (H := H) hn, upd_comm (H := upd H a u) hm, upd_upd]; exact h v c p m h0 h1 h2
def sp__law_stream (K : PySem.W.Frag) : Sp := fun vs H Q _ => match vs with
  | [.ref a] => RdL K H a fun xs => Som (intsOf xs) fun _ => New H fun l => New (upd H l (.lst xs)) fun s => ∀ m, 0 ≤ m → m < 2147483647 → Q (.ref s) (upd (upd H l (.lst xs)) s (strm l 0 0 m))
  | _ => False
def sp__law_draw : Sp := fun vs H Q _ => match vs with
  | [.ref s, .int n] => Strm H s fun l => Sd (0 < n ∧ n < 2 ^ 100) (Drawn H s l n fun v H' => Q (.int v) H')
  | _ => False
def sp__law_pick (K : PySem.W.Frag) : Sp := fun vs H Q _ => match vs with
  | [.ref s, .ref r] => RdS K H r fun xs => Strm H s fun l => Sd (s ≠ r) (Sd (0 < xs.length ∧ xs.length < 1000000) (Drawn H s l xs.length fun v H' => ∀ x, xs[v.toNat]? = some x → Q x H'))
  | _ => False

/-! ### data, as _law_same looks at it -/
inductive Da where
  | non | bl (b : Bool) | int (i : Int) | str (x : Str) | lst (ds : List Da) | tup (ds : List Da)
mutual
def Da.beq : Da → Da → Bool
  | .non, .non => true
  | .bl a, .bl b => a == b
  | .int a, .int b => a == b
  | .str a, .str b => decide (a = b)
  | .lst a, .lst b => Da.beqs a b
  | .tup a, .tup b => Da.beqs a b
  | _, _ => false
def Da.beqs : List Da → List Da → Bool
  | [], [] => true
  | a :: r, b :: t => Da.beq a b && Da.beqs r t
  | _, _ => false
end
mutual
theorem Da.refl : ∀ d : Da, Da.beq d d = true
  | .non => rfl
  | .bl b => by simp [Da.beq]
  | .int b => by simp [Da.beq]
  | .str b => by simp [Da.beq]
  | .lst ds => by rw [Da.beq]; exact Da.refls ds
  | .tup ds => by rw [Da.beq]; exact Da.refls ds
theorem Da.refls : ∀ ds : List Da, Da.beqs ds ds = true
  | [] => rfl
  | d :: r => by rw [Da.beqs, Da.refl d, Da.refls r]; rfl
end
mutual
def Da.dep : Da → Nat
  | .lst ds => Da.deps ds + 1
  | .tup ds => Da.deps ds + 1
  | _ => 0
def Da.deps : List Da → Nat
  | [] => 0
  | d :: r => max (Da.dep d) (Da.deps r)
end
mutual
inductive Rp (H : Hp) : V → Da → Prop
  | non : Rp H .non .non
  | bl (b : Bool) : Rp H (.bl b) (.bl b)
  | int (i : Int) : Rp H (.int i) (.int i)
  | str (x : Str) : Rp H (.str x) (.str x)
  | lst {a : Addr} {xs : List V} {ds : List Da} : H a = some (.lst xs) → Rps H xs ds → Rp H (.ref a) (.lst ds)
  | tup {a : Addr} {xs : List V} {ds : List Da} : H a = some (.tup xs) → Rps H xs ds → Rp H (.ref a) (.tup ds)
inductive Rps (H : Hp) : List V → List Da → Prop
  | nil : Rps H [] []
  | cons {v : V} {vs : List V} {d : Da} {ds : List Da} : Rp H v d → Rps H vs ds → Rps H (v :: vs) (d :: ds)
end
theorem Rps.len {H : Hp} : ∀ {xs : List V} {ds : List Da}, Rps H xs ds → xs.length = ds.length
  | _, _, .nil => rfl
  | _, _, .cons _ t => by simp only [List.length_cons]; rw [Rps.len t]
theorem Rps.get {H : Hp} : ∀ {xs : List V} {ds : List Da} {i : Nat} {d : Da}, Rps H xs ds → ds[i]? = some d → ∃ v, xs[i]? = some v ∧ Rp H v d
  | _, _, i, d, .nil, e => by simp at e
  | _, _, 0, d, .cons r t, e => by simp at e; subst e; exact ⟨_, rfl, r⟩
  | _, _, i + 1, d, .cons r t, e => by simpa using Rps.get (i := i) t (by simpa using e)
mutual
theorem Rp.mono {H H' : Hp} (s : Same H H') : ∀ {v : V} {d : Da}, Rp H v d → Rp H' v d
  | _, _, .non => .non
  | _, _, .bl b => .bl b
  | _, _, .int b => .int b
  | _, _, .str b => .str b
  | _, _, .lst h r => .lst (s _ _ h) (Rps.mono s r)
  | _, _, .tup h r => .tup (s _ _ h) (Rps.mono s r)
theorem Rps.mono {H H' : Hp} (s : Same H H') : ∀ {vs : List V} {ds : List Da}, Rps H vs ds → Rps H' vs ds
  | _, _, .nil => .nil
  | _, _, .cons r t => .cons (Rp.mono s r) (Rps.mono s t)
end
theorem atI_of {xs : List V} {z : Int} {j : Nat} {v : V} (e : z = (j : Int)) (h : xs[j]? = some v) : atI xs z = some v := by
  subst e; exact atI_nat h
theorem sqT_ne {K : PySem.W.Frag} {H : Hp} {a p : Addr} {o : HO} {xs : List V} (h : SqT K H p xs) (n : p ≠ a) : SqT K (L2.upd H a o) p xs := by
  rcases h with (h | ⟨ob, h⟩) | h
  · exact .inl (.inl (by rw [upd_ne n]; exact h))
  · exact .inl (.inr ⟨ob, by rw [upd_ne n]; exact h⟩)
  · exact .inr h
theorem same_new {H : Hp} {p : Addr} {o : HO} (h : H p = none) : L2.Same H (L2.upd H p o) := fun b u e => by rw [upd_ne (ne_of_none e h)]; exact e
mutual
def Da.sml : Da → Bool
  | .lst ds => decide (ds.length < 100000) && Da.smls ds
  | .tup ds => decide (ds.length < 100000) && Da.smls ds
  | _ => true
def Da.smls : List Da → Bool
  | [] => true
  | d :: r => Da.sml d && Da.smls r
end
@[irreducible] def SameD (k : Nat) (H : Hp) (x y : V) (q : Bool → Prop) : Prop := ∃ d e, Rp H x d ∧ Rp H y e ∧ Da.dep e < k ∧ Da.sml e = true ∧ Cln H ∧ q (Da.beq d e)
theorem sameD_i {k : Nat} {H : Hp} {x y : V} {q : Bool → Prop} {d e : Da} (h1 : Rp H x d) (h2 : Rp H y e) (h3 : Da.dep e < k) (h4 : Da.sml e = true) (c : Cln H) (h : q (Da.beq d e)) : SameD k H x y q := by unfold SameD; exact ⟨d, e, h1, h2, h3, h4, c, h⟩
theorem sameD_e {k : Nat} {H : Hp} {x y : V} {q : Bool → Prop} (h : SameD k H x y q) : ∃ d e, Rp H x d ∧ Rp H y e ∧ Da.dep e < k ∧ Da.sml e = true ∧ Cln H ∧ q (Da.beq d e) := by unfold SameD at h; exact h
def sp_same (k : Nat) : Sp := fun vs H Q _ => match vs with | [x, y] => SameD k H x y fun b => Q (.bl b) H | _ => False
/-- a promise that nobody asks -/
theorem has_never {P : Program} {w : World} {K : PySem.W.Frag} {mg : Str → Option Value} {base : Heap} {CX : CXT} {x qual : Str} {st : Stmt} {ps : List Str} (D : DefAt K mg x qual st)
    (hb : ∀ (kV doc pm : Value) (an : Option Addr) (cdv ct : Value) (us : List Value), us.length = ps.length → bindArgs (PySem.W.fnOf x qual (defArgs st) (defBody st) (defScope st) .none kV doc pm an cdv ct) ⟨us, []⟩ = pure (ps.zip us)) : Has P w K mg base CX 0 x ps (fun _ _ _ _ => False) :=
  has_of D hb fun f fd F => ⟨fun _ _ _ _ h => h.elim, fun _ _ _ _ _ _ _ _ _ _ _ _ _ h => h.elim⟩
theorem Rp.tru {H : Hp} {a : Addr} {d : Da} (h : Rp H (.ref a) d) : ∃ o, H a = some o := by
  cases h with
  | lst h _ => exact ⟨_, h⟩
  | tup h _ => exact ⟨_, h⟩
theorem Da.dep_mem : ∀ {ds : List Da} {d : Da}, d ∈ ds → Da.dep d ≤ Da.deps ds
  | x :: r, d, h => by
    rw [Da.deps]
    rcases List.mem_cons.mp h with h | h
    · subst h; omega
    · have := Da.dep_mem h; omega
theorem Da.sml_mem : ∀ {ds : List Da} {d : Da}, d ∈ ds → Da.smls ds = true → Da.sml d = true
  | x :: r, d, h, z => by
    rw [Da.smls, Bool.and_eq_true] at z
    rcases List.mem_cons.mp h with h | h
    · subst h; exact z.1
    · exact Da.sml_mem h z.2
/-- place by place -/
theorem Da.beqs_all : ∀ (ds es : List Da), Da.beqs ds es = (decide (ds.length = es.length) && (List.range es.length).all fun k => Da.beq (ds.getD k .non) (es.getD k .non))
  | [], [] => rfl
  | [], e :: es => by simp [Da.beqs]
  | d :: ds, [] => by simp [Da.beqs]
  | d :: ds, e :: es => by
    rw [Da.beqs, Da.beqs_all ds es, List.length_cons, List.length_cons, List.range_succ_eq_map, List.all_cons, List.all_map]
    simp only [Nat.add_right_cancel_iff, Function.comp_def, List.getD_cons_zero, List.getD_cons_succ]
    rw [← Bool.and_assoc, ← Bool.and_assoc, Bool.and_comm (Da.beq d e)]
end FX
/-! the rules over a written part that is told by its name -/
namespace FX
open PySem PySem.Spec L2
section
variable {X : Cx} (K : PySem.W.Frag)
theorem y_add (hK : X.K = K := by rfl) : OpR X (binaryOp .Add) (rAdd K) := by subst hK; exact o_add
theorem y_iadd (hK : X.K = K := by rfl) : OpR X (inplaceOp .Add) (rIadd K) := by subst hK; exact o_iadd
theorem y_eq (hu : X.A.units + 64 < cLine) (hK : X.K = K := by rfl) : OpR X (compareOp .Eq) (rEqq K) := by subst hK; exact o_eq hu
theorem y_ne (hu : X.A.units + 64 < cLine) (hK : X.K = K := by rfl) : OpR X (compareOp .NotEq) (rNee K) := by subst hK; exact o_ne hu
theorem y_len (hK : X.K = K := by rfl) : CallR X (.builtin "len") (rLenF K) := by subst hK; exact c_len
theorem y_list (hK : X.K = K := by rfl) : CallR X (.type "list") (rListF K) := by subst hK; exact c_list
theorem y_tuple (hK : X.K = K := by rfl) : CallR X (.type "tuple") (rTupleF K) := by subst hK; exact c_tuple
theorem y_sum (hc : X.calm = true) (hK : X.K = K := by rfl) : CallR X (.builtin "sum") (rSumF K) := by subst hK; exact c_sum hc
theorem y_all (hc : X.calm = true) (hK : X.K = K := by rfl) : CallR X (.builtin "all") (rAllF K) := by subst hK; exact c_all hc
theorem y_any (hc : X.calm = true) (hK : X.K = K := by rfl) : CallR X (.builtin "any") (rAnyF K) := by subst hK; exact c_any hc
theorem y_maxL (hc : X.calm = true) (hK : X.K = K := by rfl) : CallR X (.builtin "max") (rMaxL K) := by subst hK; exact c_maxL hc
theorem y_minL (hc : X.calm = true) (hK : X.K = K := by rfl) : CallR X (.builtin "min") (rMinL K) := by subst hK; exact c_minL hc
variable {a b e iter tg elt : Expr} {es ifs : List Expr} {ta tb te tl tv to : TE} {t : TA} {pos p p2 apos cpos : Pos}
theorem y_tru (h : PE X e te) (he : ∀ whole, isTrue e X.env whole = (do let v ← whole; standAt e.pos; holding [v] (truthy v)) := by intro _; rfl) (hK : X.K = K := by rfl) : PT X e (fTru K te) := by subst hK; exact xt_tru h he
theorem y_ix (ha : PE X a ta) (hb : PE X b tb) (hs : PlainIx b := by intro _ _; rfl) (hK : X.K = K := by rfl) : PE X (.Subscript a b pos) (tOp (rIxF K) ta tb) := by subst hK; exact xe_ix ha hb hs
theorem y_slL {lo hi : Option Expr} {tlo thi : TO} (he : PE X e te) (hl : PO X lo tlo) (hu : PO X hi thi) (hK : X.K = K := by rfl) : PE X (.Subscript e (.Slice lo hi none p2) pos) (tSl (rSlF K) te tlo thi) := by subst hK; exact xe_slL he hl hu
theorem y_fld {f : Str} (he : PE X e te) (hb : attributeBase e f X.env (eval e X.env) = eval e X.env := by rfl) (hK : X.K = K := by rfl) : PE X (.Attribute e f pos) (fFld K f te) := by subst hK; exact xe_fld he hb
theorem y_sfld {o value : Expr} {f : Str} {pos' : Pos} (ha : PE X o ta) (hv : PE X value tv) (hs : swapsWith value (some (.Attribute o f pos')) pos.line X.env = pure false := by rfl) (hK : X.K = K := by rfl) : PS X (.Assign [.Attribute o f pos'] value pos) (fSFld K f ta tv) := by subst hK; exact xs_fld ha hv hs
theorem y_gtup {k : Nat} {t : TGs} {n : Nat} (hc : X.calm = true) (h : PGs X es t) (hn : (assignEach es X.env).length = n := by rfl) (hst : (assignEach es X.env).findIdx? (·.1) = none := by rfl) (hK : X.K = K := by rfl) : PG X (.Tuple es k pos) (gT K n t) := by subst hK; exact xg_tup hc h hn hst
theorem y_glst {k : Nat} {t : TGs} {n : Nat} (hc : X.calm = true) (h : PGs X es t) (hn : (assignEach es X.env).length = n := by rfl) (hst : (assignEach es X.env).findIdx? (·.1) = none := by rfl) (hK : X.K = K := by rfl) : PG X (.Tuple es k pos) (gL K n t) := by subst hK; exact xg_lst hc h hn hst
variable {o : Expr} {name : Str} {T id : String} {r : RM} {body : List Stmt} {g : TG} {tbd : TS}
theorem y_bm0 (pa : PlainAttrs T) (slot : Slot T name id) (hty : typeOf (.builtin id) = pure (.type "method_descriptor")) (hm : MtR X id r) (ho : PE X o to)
    (hbase : attributeBase o name X.env (eval o X.env) = eval o X.env := by rfl) (hline : (apos.endLine == cpos.line) = true := by rfl) (hK : X.K = K := by rfl) : PE X (.Call (.Attribute o name apos) [] [] cpos) (fBM0 K T r to) := by subst hK; exact xe_bm0 pa slot hty hm ho hbase hline
theorem y_bm (pa : PlainAttrs T) (slot : Slot T name id) (hty : typeOf (.builtin id) = pure (.type "method_descriptor")) (hm : MtR X id r) (ho : PE X o to) (ha : PA X (e :: es) t)
    (hbase : attributeBase o name X.env (eval o X.env) = eval o X.env := by rfl)
    (hfew : ((backTo cpos (starEach (e :: es) X.env)).all (fun x => !x.1) && (backToKw cpos (keywordEach [] X.env)).all (fun x => x.1.isSome)
      && decide ((e :: es).length + ([] : List Keyword).length + (if ([] : List Keyword).isEmpty then 0 else 1) < 30)) = true := by rfl)
    (hline : (apos.endLine == cpos.line) = true := by rfl) (hs : starEach (e :: es) X.env = (false, eval e X.env) :: starEach es X.env := by rfl) (hplain : (backTo cpos (starEach es X.env)).any (·.1) = false := by rfl) (hK : X.K = K := by rfl) :
    PE X (.Call (.Attribute o name apos) (e :: es) [] cpos) (fBM K T r to t) := by subst hK; exact xe_bm pa slot hty hm ho ha hbase hfew hline hs hplain
theorem y_forL (hc : X.calm = true) (hi : PE X iter tl) (hg : PG X tg g) (hb : PSs X body tbd) (hp : PassesOwn (model X.prog X.w) X.A X.env X.xe) (hs : ∀ x, foldedSetIterable iter X.env x = pure x := by intro _; rfl) (hK : X.K = K := by rfl) :
    PS X (.For tg iter body [] pos) (fForS K tl g tbd) := by subst hK; exact xs_forL hc hi hg hb hp hs
theorem y_forT (hc : X.calm = true) (hi : PE X iter tl) (hg : PG X tg g) (hb : PSs X body tbd) (hp : PassesOwn (model X.prog X.w) X.A X.env X.xe) (hs : ∀ x, foldedSetIterable iter X.env x = pure x := by intro _; rfl) (hK : X.K = K := by rfl) :
    PS X (.For tg iter body [] pos) (fForT K tl g tbd) := by subst hK; exact xs_forT hc hi hg hb hp hs
variable {scope : Scope} {own : List (Str × Nat)} {tt : TT}
theorem y_lcL (hc : X.calm = true) (hN : X.N.Nodup) (hi : PE X iter tl) (ok : BlkOk X.N X.env.scope scope own)
    (hg : ∀ (s : Shared) (H : Hp) (C : Addr) (cl : List (Str × Addr)) (fp : List Addr), PG (X.blk s H scope (compEnvC scope cl C X.env) fp) tg g) (ht : ∀ (s : Shared) (H : Hp) (C : Addr) (cl : List (Str × Addr)) (fp : List Addr), PTs (X.blk s H scope (compEnvC scope cl C X.env) fp) ifs tt)
    (he : ∀ (s : Shared) (H : Hp) (C : Addr) (cl : List (Str × Addr)) (fp : List Addr), PE (X.blk s H scope (compEnvC scope cl C X.env) fp) elt te) (hs : ∀ x, foldedSetIterable iter X.env x = pure x := by intro _; rfl) (hK : X.K = K := by rfl) :
    PE X (.ListComp elt [⟨tg, iter, ifs, 0⟩] scope pos) (fLcL K tl g tt te (own.map (·.2))) := by subst hK; exact xe_lcL hc hN hi ok hg ht he hs
theorem y_lcT (hc : X.calm = true) (hN : X.N.Nodup) (hi : PE X iter tl) (ok : BlkOk X.N X.env.scope scope own)
    (hg : ∀ (s : Shared) (H : Hp) (C : Addr) (cl : List (Str × Addr)) (fp : List Addr), PG (X.blk s H scope (compEnvC scope cl C X.env) fp) tg g) (ht : ∀ (s : Shared) (H : Hp) (C : Addr) (cl : List (Str × Addr)) (fp : List Addr), PTs (X.blk s H scope (compEnvC scope cl C X.env) fp) ifs tt)
    (he : ∀ (s : Shared) (H : Hp) (C : Addr) (cl : List (Str × Addr)) (fp : List Addr), PE (X.blk s H scope (compEnvC scope cl C X.env) fp) elt te) (hs : ∀ x, foldedSetIterable iter X.env x = pure x := by intro _; rfl) (hK : X.K = K := by rfl) :
    PE X (.ListComp elt [⟨tg, iter, ifs, 0⟩] scope pos) (fLcT K tl g tt te (own.map (·.2))) := by subst hK; exact xe_lcT hc hN hi ok hg ht he hs
end
theorem xs_par3 {X : Cx} {i j l : Nat} {x y z : Str} {a b c : Expr} {ta : TA} {px py pz pt pos : Pos} {kt k2 pt2} (hc : X.calm = true) (hN : X.N.Nodup) (hi : X.N[i]? = some x) (hj : X.N[j]? = some y) (hl : X.N[l]? = some z) (hij : i ≠ j) (hil : i ≠ l) (hjl : j ≠ l)
    (hx : X.env.scope.names.lookup x = some .local) (hy : X.env.scope.names.lookup y = some .local) (hz : X.env.scope.names.lookup z = some .local) (ha : PA X [a, b, c] ta)
    (hw : swappedStores [.Tuple [.Name x px, .Name y py, .Name z pz] kt pt] (.Tuple [a, b, c] k2 pt2) X.env = pure (some [x, y, z]))
    (hs : swapsWithSole [.Tuple [.Name x px, .Name y py, .Name z pz] kt pt] (.Tuple [a, b, c] k2 pt2) pos.line X.env = pure false := by rfl) :
    PS X (.Assign [.Tuple [.Name x px, .Name y py, .Name z pz] kt pt] (.Tuple [a, b, c] k2 pt2) pos) (fPar3 i j l ta) := by
  rw [fPar3_eq]
  exact ps_par3 hc hN hi hj hl hij hil hjl hx hy hz ha hw hs
theorem hp_ne {H : Hp} {a b : Addr} {o : HO} {u : Option HO} (n : b ≠ a) (h : H b = u) : upd H a o b = u := (upd_ne n).trans h
theorem fgt_set {H H1 H2 : Hp} {p : Addr} {o : HO} (f : Fgt H H1 H2) (h : okO o = true) : Fgt H (upd H1 p o) (upd H2 p o) := f.set h
theorem fgt_new {H H1 H2 : Hp} {p : Addr} {o : HO} (n : H1 p = none) (n0 : H p = none) (h : ∀ a, o ≠ .own a) (f : Fgt H H1 H2) : Fgt H (upd H1 p o) H2 := f.new n n0 h
theorem cln_upd {H : Hp} {a : Addr} {o : HO} (c : Cln H) (h : okO o = true) : Cln (upd H a o) := c.upd h
theorem sqL_of {K : PySem.W.Frag} {H : Hp} {a : Addr} {xs : List V} (h : H a = some (.lst xs)) : SqL K H a xs := SqL.of h
theorem sqT_of {K : PySem.W.Frag} {H : Hp} {a : Addr} {xs : List V} (h : H a = some (.tup xs)) : SqT K H a xs := SqT.of h
/-! ### a block that forgets what it made -/
theorem inv_down2 {X : Cx} {pins : List (Addr × Obj)} {σ σ' : L2.St} {H H' H2 : Hp} {s s' : Shared} (I : Inv X pins σ H s) (J : Inv X pins σ' H' s') (f : Fgt H H' H2) : Inv X pins σ' H2 s' :=
  ⟨J.ok, J.os, J.bare, ⟨J.base.keep, J.base.slot, fun b o e n hx => f.none (J.base.free b o e n hx), J.base.there, fun b xs e => f.keep (I.base.tups b xs e) (J.base.tups b xs e), fun b o u e => f.keep (I.base.frzs b o u e) (J.base.frzs b o u e),
      fun b ps e => let ⟨m1, e1⟩ := I.base.tbls b ps e; let ⟨m2, e2⟩ := J.base.tbls b ps e; ⟨m2, f.keep e1 e2⟩⟩, J.loc, J.cell, f.none J.free, fun x c e => f.none (J.freeC x c e),
    fun p hp => let ⟨e, n, r⟩ := J.pin p hp; ⟨e, f.none n, r⟩, hok_down f J.hok, J.len⟩
def tGcB (t : TS) : TS := fun D σ H => t { nx := fun σ' H' => Gc H H' fun H2 => D.nx σ' H2, rt := D.rt, bk := fun σ' H' => Gc H H' fun H2 => D.bk σ' H2, ct := fun σ' H' => Gc H H' fun H2 => D.ct σ' H2 } σ H
theorem pss_gc {X : Cx} {st : List Stmt} {t : TS} (h : PSs X st t) : PSs X st (tGcB t) := ⟨fun pins s σ H D I q => thn (h.run pins s σ H _ I q) fun f s1 z => by
  cases f with
  | next =>
    obtain ⟨σ', H', J, z⟩ := z
    obtain ⟨H2, f, z⟩ := gc_e z
    exact ⟨σ', H2, inv_down2 I J f, z⟩
  | brk =>
    obtain ⟨σ', H', J, z⟩ := z
    obtain ⟨H2, f, z⟩ := gc_e z
    exact ⟨σ', H2, inv_down2 I J f, z⟩
  | cont =>
    obtain ⟨σ', H', J, z⟩ := z
    obtain ⟨H2, f, z⟩ := gc_e z
    exact ⟨σ', H2, inv_down2 I J f, z⟩
  | ret u => exact z⟩
theorem ps_gc {X : Cx} {st : Stmt} {t : TS} (h : PS X st t) : PS X st (tGcB t) := ⟨fun pins s σ H D I q => thn (h.run pins s σ H _ I q) fun f s1 z => by
  cases f with
  | next =>
    obtain ⟨σ', H', J, z⟩ := z
    obtain ⟨H2, f, z⟩ := gc_e z
    exact ⟨σ', H2, inv_down2 I J f, z⟩
  | brk =>
    obtain ⟨σ', H', J, z⟩ := z
    obtain ⟨H2, f, z⟩ := gc_e z
    exact ⟨σ', H2, inv_down2 I J f, z⟩
  | cont =>
    obtain ⟨σ', H', J, z⟩ := z
    obtain ⟨H2, f, z⟩ := gc_e z
    exact ⟨σ', H2, inv_down2 I J f, z⟩
  | ret u => exact z⟩
theorem eqD_r {K : PySem.W.Frag} {H : Hp} {x y : V} {k : Bool → Prop} {d : PyData} (h1 : Dp K H x d) (h2 : Dp K H y d) (h3 : SeqAt.shaped d = true) (q : k true) : EqD K H x y k :=
  eqD_i h1 h2 h3 h3 (by rw [SeqAt.eqv_refl d (SeqAt.canLay_of_shaped h3)]; exact q)
theorem nd_f {p : Prop} [Decidable p] (h : p) : (!decide p) = false := by rw [decide_eq_true h]; rfl
theorem nd_t {p : Prop} [Decidable p] (h : ¬ p) : (!decide p) = true := by rw [decide_eq_false h]; rfl
/-! ### looks at a goal's head -/
theorem br_id {b : Bool} {A B : Prop} (h : Br b A B) : Br b A B := h
theorem br_ntt {A B : Prop} (h : B) : Br (!true) A B := br_f rfl h
theorem br_nff {A B : Prop} (h : A) : Br (!false) A B := br_t rfl h
theorem gc_id {H H' : Hp} {k : Hp → Prop} (h : Gc H H' k) : Gc H H' k := h
theorem get_id {H : Hp} {p : Addr} {k : HO → Prop} (h : Get H p k) : Get H p k := h
theorem rdS_id {K : PySem.W.Frag} {H : Hp} {p : Addr} {k : List V → Prop} (h : RdS K H p k) : RdS K H p k := h
theorem rdL_id {K : PySem.W.Frag} {H : Hp} {p : Addr} {k : List V → Prop} (h : RdL K H p k) : RdL K H p k := h
theorem rdT_id {K : PySem.W.Frag} {H : Hp} {p : Addr} {k : List V → Prop} (h : RdT K H p k) : RdT K H p k := h
theorem strm_id {H : Hp} {s : Addr} {k : Addr → Prop} (h : Strm H s k) : Strm H s k := h
theorem sd_id {P k : Prop} (h : Sd P k) : Sd P k := h
/-! ### joins: the value is said -/
def tJn (te : TE) : TE := fun σ H Q => ∃ v, te σ H (fun x H' => x = v ∧ H' = H) ∧ Q v H
def tJnT (tt : TT) : TT := fun σ H Q => ∃ b, tt σ H (fun x H' => x = b ∧ H' = H) ∧ Q b H
theorem pe_jn {X : Cx} {e : Expr} {te : TE} (h : PE X e te) : PE X e (tJn te) := ⟨fun pins s σ H Q I q => by
  obtain ⟨v, q1, q2⟩ := q
  exact thn (h.run pins s σ H _ I q1) fun u s1 ⟨x, H1, I1, r, e1, e2⟩ => by subst e1 e2; exact ⟨_, _, I1, r, q2⟩⟩
theorem pt_jn {X : Cx} {e : Expr} {tt : TT} (h : PT X e tt) : PT X e (tJnT tt) := ⟨fun pins s σ H Q I q => by
  obtain ⟨v, q1, q2⟩ := q
  exact thn (h.run pins s σ H _ I q1) fun u s1 ⟨H1, I1, e1, e2⟩ => by subst e1 e2; exact ⟨_, I1, q2⟩⟩
theorem sameD_int {k : Nat} {H : Hp} {i j : Int} {q : Bool → Prop} (c : Cln H) (e : i = j) (h0 : 0 < k) (h : q true) : SameD k H (.int i) (.int j) q := by
  subst e
  refine sameD_i (.int i) (.int i) (show 0 < k from h0) rfl c ?_
  rw [Da.refl]; exact h
theorem sameD_bl {k : Nat} {H : Hp} {i j : Bool} {q : Bool → Prop} (c : Cln H) (e : i = j) (h0 : 0 < k) (h : q true) : SameD k H (.bl i) (.bl j) q := by
  subst e
  refine sameD_i (.bl i) (.bl i) (show 0 < k from h0) rfl c ?_
  rw [Da.refl]; exact h
/-- the same data -/
theorem sameD_r {k : Nat} {H : Hp} {x y : V} {q : Bool → Prop} {d : Da} (h1 : Rp H x d) (h2 : Rp H y d) (h3 : Da.dep d < k) (h4 : Da.sml d = true) (c : Cln H) (h : q true) : SameD k H x y q :=
  sameD_i h1 h2 h3 h4 c (by rw [Da.refl]; exact h)
theorem rngV_mem {lo : Int} {n : Nat} {x : V} (h : x ∈ rngV lo n) : ∃ i : Nat, i < n ∧ x = .int (lo + (i : Int)) := by
  obtain ⟨i, hi, e⟩ := List.mem_iff_getElem.mp h
  have q := rngV_get (List.getElem?_eq_getElem hi)
  rw [e] at q
  exact ⟨i, q.1, q.2⟩
theorem rngV_map {β : Type} (f : V → β) (n : Nat) : (rngV 0 n).map f = (List.range n).map fun (i : Nat) => f (.int (i : Int)) := by
  unfold rngV
  rw [List.map_map]
  refine List.map_congr_left fun i _ => ?_
  show f (.int (0 + (i : Int))) = _
  rw [Int.zero_add]
theorem filter_yes {α : Type} (xs : List α) : xs.filter (fun _ => true) = xs := List.filter_eq_self.mpr fun _ _ => rfl
end FX
namespace FX
open PySem L2
local macro_rules | `(tactic| walk_at "ne") => `(tactic| first | assumption | (apply Ne.symm; assumption) | exact ne_of_none (by assumption) (by assumption) | exact (ne_of_none (by assumption) (by assumption)).symm)
local macro_rules | `(tactic| walk_at "hp") => `(tactic| first | assumption | exact upd_same | (apply hp_ne; (walk_at "ne"); (walk_at "hp")))
local macro_rules | `(tactic| walk_at "nn") => `(tactic| first | assumption | (apply hp_ne; (walk_at "ne"); (walk_at "nn")))
local macro_rules | `(tactic| walk_at "sql") => `(tactic| first | assumption | (apply sqL_of; walk_at "hp") | (apply sqL_upd; (walk_at "sql"); (walk_at "nn")) | (apply sqL_ne; (walk_at "sql"); (walk_at "ne")))
local macro_rules | `(tactic| walk_at "sqt") => `(tactic| first | assumption | (apply sqT_of; walk_at "hp") | (apply sqT_ne; (walk_at "sqt"); (walk_at "ne")))
local macro_rules | `(tactic| walk_at "cln") => `(tactic| first | assumption | (apply cln_upd; (walk_at "cln"); rfl))
local macro_rules | `(tactic| walk_at "fgt") => `(tactic| first | (apply fgt_new; (walk_at "nn"); (walk_at "nn"); (exact fun _ z => by cases z); walk_at "fgt") | (apply fgt_set; (walk_at "fgt"); rfl) | (apply Fgt.refl; walk_at "cln"))
local macro_rules | `(tactic| walk_at "fgs") => `(tactic| first | (apply fgt_set; (walk_at "fgt"); rfl) | (apply fgt_new; (walk_at "nn"); (walk_at "nn"); (exact fun _ z => by cases z); walk_at "fgs"))
local macro_rules | `(tactic| walk_at "sd") => `(tactic| first | with_reducible assumption | omega | exact sz_small (Nat.le_of_ble_eq_true rfl) | exact cdivW_small ⟨by omega, by omega⟩ | exact cdivNW_small ⟨by omega, by omega, by omega⟩ | exact mulOk_l ⟨by omega, by omega⟩ | exact mulOk_r ⟨by omega, by omega⟩ | exact sz_lt (by omega) | exact sz_small (by omega) | exact ⟨by omega, by omega⟩ | exact ⟨Nat.le_of_ble_eq_true rfl, Nat.le_of_ble_eq_true rfl⟩ | walk_at "ne" | walk_at "cln" | rfl | decide)
local macro_rules | `(tactic| walk_at "new") => `(tactic| ((repeat (refine new_step ?_)); (refine new_i fun p hp => ?_); (repeat (refine neI_i fun hn => ?_))))
local macro_rules | `(tactic| walk_at "g1") => `(tactic| ((conv => whnf); (first
  | (refine sd_id ?_; refine sd_i (by walk_at "sd") ?_)
  | walk_at "new"
  | (refine get_id ?_; refine get_i (by walk_at "hp") ?_)
  | (refine rdS_id ?_; first | refine rdS_l (by walk_at "sql") ?_ | refine rdS_t (by walk_at "sqt") ?_)
  | (refine rdL_id ?_; refine rdL_i (by walk_at "sql") ?_)
  | (refine rdT_id ?_; refine rdT_i (by walk_at "sqt") ?_)
  | refine som_i (intsOf_map _) ?_
  | refine som_i (blsOf_map _) ?_
  | refine som_i rfl ?_
  | (refine gc_id ?_; refine gc_i (by walk_at "fgt") ?_)
  | (refine strm_id ?_; refine strm_i (by walk_at "hp") (by walk_at "hp") (by assumption) ?_)
  | with_reducible refine br_tt ?_
  | with_reducible refine br_ff ?_
  | with_reducible refine br_ntt ?_
  | with_reducible refine br_nff ?_
  | (refine br_id ?_; first | refine br_t (by decide) ?_ | refine br_f (by decide) ?_))))
local macro_rules | `(tactic| walk_at "g") => `(tactic| (repeat (walk_at "g1")); (try (conv => whnf)))
local macro_rules | `(tactic| walk_at "dr") => `(tactic| (conv => whnf); (first | refine drawn_u ?_ | refine drawn_u1 (by walk_at "ne") ?_ | refine drawn_u2 (by walk_at "ne") (by walk_at "ne") ?_))
local macro_rules | `(tactic| walk_at "rp") => `(tactic| first | exact Rp.int _ | exact Rp.bl _ | exact Rp.str _ | exact Rp.non | (apply Rp.tup; (walk_at "hp"); (walk_at "rp")) | (apply Rp.lst; (walk_at "hp"); (walk_at "rp")) | exact Rps.nil | (apply Rps.cons; (walk_at "rp"); (walk_at "rp")))
local macro_rules | `(tactic| walk_at "dp") => `(tactic| first | exact Dp.int _ | exact Dp.bl _ | exact Dp.str _ | exact Dp.non | (apply Dp.tup; (walk_at "sqt"); (walk_at "dp")) | (apply Dp.lst; (walk_at "sql"); (walk_at "dp")) | exact DpAll.nil | (apply DpAll.cons; (walk_at "dp"); (walk_at "dp")))
def top (i : Nat) : Stmt := PySem.Challenge.pw_steadyticks_k01_numbers_and_lengths.main.body.getD i (.Pass ⟨0, 0, 0, 0⟩)
abbrev s_held : Stmt := top 4
theorem sc_held : FnScope ["number"] ["number"] (defScope s_held) := ⟨rfl, rfl, rfl, by decide +kernel, rfl, by decide +kernel, by decide +kernel⟩
abbrev s_times : Stmt := top 5
theorem sc_times : FnScope ["one", "two"] ["one", "two"] (defScope s_times) := ⟨rfl, rfl, rfl, by decide +kernel, rfl, by decide +kernel, by decide +kernel⟩
abbrev s_over : Stmt := top 6
theorem sc_over : FnScope ["one", "two"] ["one", "two"] (defScope s_over) := ⟨rfl, rfl, rfl, by decide +kernel, rfl, by decide +kernel, by decide +kernel⟩
abbrev s_sign : Stmt := top 7
theorem sc_sign : FnScope ["number"] ["number"] (defScope s_sign) := ⟨rfl, rfl, rfl, by decide +kernel, rfl, by decide +kernel, by decide +kernel⟩
abbrev s_toward : Stmt := top 8
theorem sc_toward : FnScope ["one", "two", "step"] ["one", "two", "step"] (defScope s_toward) := ⟨rfl, rfl, rfl, by decide +kernel, rfl, by decide +kernel, by decide +kernel⟩
abbrev s_between : Stmt := top 9
theorem sc_between : FnScope ["one", "two", "part"] ["one", "two", "part"] (defScope s_between) := ⟨rfl, rfl, rfl, by decide +kernel, rfl, by decide +kernel, by decide +kernel⟩
abbrev s_root : Stmt := top 10
theorem sc_root : FnScope ["number"] ["number"] (defScope s_root) := ⟨rfl, rfl, rfl, by decide +kernel, rfl, by decide +kernel, by decide +kernel⟩
abbrev s_far : Stmt := top 11
theorem sc_far : FnScope ["dx", "dy"] ["dx", "dy"] (defScope s_far) := ⟨rfl, rfl, rfl, by decide +kernel, rfl, by decide +kernel, by decide +kernel⟩
abbrev s_cell_of : Stmt := top 12
theorem sc_cell_of : FnScope ["place"] ["place"] (defScope s_cell_of) := ⟨rfl, rfl, rfl, by decide +kernel, rfl, by decide +kernel, by decide +kernel⟩
abbrev s_cells : Stmt := top 13
theorem sc_cells : FnScope ["low", "size"] ["low", "size"] (defScope s_cells) := ⟨rfl, rfl, rfl, by decide +kernel, rfl, by decide +kernel, by decide +kernel⟩
abbrev s_angle_steps : Stmt := top 14
theorem sc_angle_steps : FnScope ["number", "rows"] ["number"] (defScope s_angle_steps) := ⟨rfl, rfl, rfl, by decide +kernel, rfl, by decide +kernel, by decide +kernel⟩
abbrev s_wave : Stmt := top 15
theorem sc_wave : FnScope ["part", "at"] ["part"] (defScope s_wave) := ⟨rfl, rfl, rfl, by decide +kernel, rfl, by decide +kernel, by decide +kernel⟩
abbrev s__law_stream : Stmt := top 17
theorem sc__law_stream : FnScope ["script", "mixed", "cell"] ["script"] (defScope s__law_stream) := ⟨rfl, rfl, rfl, by decide +kernel, rfl, by decide +kernel, by decide +kernel⟩
abbrev s__law_draw : Stmt := top 18
theorem sc__law_draw : FnScope ["stream", "many", "value"] ["stream", "many"] (defScope s__law_draw) := ⟨rfl, rfl, rfl, by decide +kernel, rfl, by decide +kernel, by decide +kernel⟩
abbrev s__law_pick : Stmt := top 19
theorem sc__law_pick : FnScope ["stream", "rows"] ["stream", "rows"] (defScope s__law_pick) := ⟨rfl, rfl, rfl, by decide +kernel, rfl, by decide +kernel, by decide +kernel⟩
abbrev s__law_same : Stmt := top 20
theorem sc__law_same : FnScope ["value", "due", "k"] ["value", "due"] (defScope s__law_same) := ⟨rfl, rfl, rfl, by decide +kernel, rfl, by decide +kernel, by decide +kernel⟩
abbrev s_law : Stmt := top 21
theorem sc_law : FnScope ["script", "stream", "again", "most", "a", "b", "c", "clamped", "ratio", "step", "part", "place", "side", "way", "first", "last", "dx", "dy", "turn", "at"] ["script"] (defScope s_law) := ⟨rfl, rfl, rfl, by decide +kernel, rfl, by decide +kernel, by decide +kernel⟩
structure Txt (K : PySem.W.Frag) (mg : Str → Option Value) : Prop where
  c_LIMIT : ConstAt mg "LIMIT" (.int 1000000000)
  c_UNIT : ConstAt mg "UNIT" (.int 256)
  b_abs : mg "abs" = none
  b_all : mg "all" = none
  b_bool : mg "bool" = none
  b_int : mg "int" = none
  b_isinstance : mg "isinstance" = none
  f_isqrt : mg "isqrt" = some (.builtin "math.isqrt")
  b_len : mg "len" = none
  b_list : mg "list" = none
  b_max : mg "max" = none
  b_min : mg "min" = none
  b_range : mg "range" = none
  b_str : mg "str" = none
  b_tuple : mg "tuple" = none
  d_held : DefAt K mg "held" "held" s_held
  d_times : DefAt K mg "times" "times" s_times
  d_over : DefAt K mg "over" "over" s_over
  d_sign : DefAt K mg "sign" "sign" s_sign
  d_toward : DefAt K mg "toward" "toward" s_toward
  d_between : DefAt K mg "between" "between" s_between
  d_root : DefAt K mg "root" "root" s_root
  d_far : DefAt K mg "far" "far" s_far
  d_cell_of : DefAt K mg "cell_of" "cell_of" s_cell_of
  d_cells : DefAt K mg "cells" "cells" s_cells
  d_angle_steps : DefAt K mg "angle_steps" "angle_steps" s_angle_steps
  d_wave : DefAt K mg "wave" "wave" s_wave
  d__law_stream : DefAt K mg "_law_stream" "_law_stream" s__law_stream
  d__law_draw : DefAt K mg "_law_draw" "_law_draw" s__law_draw
  d__law_pick : DefAt K mg "_law_pick" "_law_pick" s__law_pick
  d__law_same : DefAt K mg "_law_same" "_law_same" s__law_same
  d_law : DefAt K mg "law" "law" s_law
def heldF (n : Int) : Int := max (-1000000000) (min 1000000000 n)
def sp_held : Sp := fun vs H Q _ => match vs with | [.int n] => Q (.int (heldF n)) H | _ => False
def sp_times : Sp := fun vs H Q _ => match vs with | [.int a, .int b] => Sd (MulOk a b) (Q (.int (heldF (a * b / 256))) H) | _ => False
def sp_over : Sp := fun vs H Q _ => match vs with | [.int a, .int b] => Sd (-(2 ^ 64) < b ∧ b < 2 ^ 64) (Q (.int (if b = 0 then 0 else heldF ((a * 256).fdiv b))) H) | _ => False
def sp_sign : Sp := fun vs H Q _ => match vs with | [.int a] => Q (.int (if a < 0 then -1 else if 0 < a then 1 else 0)) H | _ => False
def sp_toward : Sp := fun vs H Q _ => match vs with | [.int a, .int b, .int c] => Q (.int (if c ≤ 0 then a else if a < b then min b (a + c) else max b (a - c))) H | _ => False
def sp_between : Sp := fun vs H Q _ => match vs with | [.int a, .int b, .int c] => Sd (-(2 ^ 64) < c ∧ c < 2 ^ 64) (Q (.int (a + (b - a) * c / 256)) H) | _ => False
def rootF (n : Int) : Int := if n ≤ 0 then 0 else ((Float64.isqrt n.toNat : Nat) : Int)
def sp_root : Sp := fun vs H Q _ => match vs with | [.int a] => Sd (a < 2 ^ 64) (Q (.int (rootF a)) H) | _ => False
def sp_far : Sp := fun vs H Q _ => match vs with | [.int a, .int b] => Sd ((-(2 ^ 64) < a ∧ a < 2 ^ 64) ∧ (-(2 ^ 64) < b ∧ b < 2 ^ 64) ∧ a * a + b * b < 2 ^ 64) (Q (.int (rootF (a * a + b * b))) H) | _ => False
def sp_cell_of : Sp := fun vs H Q _ => match vs with | [.int a] => Q (.int (a / 256)) H | _ => False
def sp_cells : Sp := fun vs H Q _ => match vs with | [.int a, .int b] => New H fun p => Q (.ref p) (upd H p (.tup [.int (a / 256), .int ((a + max b 1 - 1) / 256)])) | _ => False
def sp_wave : Sp := fun vs H Q _ => match vs with | [.int a] => Q (.int (if a % 256 < 128 then 2 * (a % 256) else 2 * (256 - a % 256))) H | _ => False
def angL : List (Int × Int) := [(1, 0), (1, 1), (0, 1), (-1, 1), (-1, 0), (-1, -1), (0, -1), (1, -1)]
def angX (n : Int) : Int := (angL.getD (n % 8).toNat (0, 0)).1
def angY (n : Int) : Int := (angL.getD (n % 8).toNat (0, 0)).2
def sp_angle_steps : Sp := fun vs H Q _ => match vs with | [.int a] => Sd (Cln H) (New H fun p => Q (.ref p) (upd H p (.tup [.int (angX a), .int (angY a)]))) | _ => False
def sp__law_same : Sp := sp_same 4
section
variable {P : Program} {w : World} {K : PySem.W.Frag} {mg : Str → Option Value} {base : Heap}
theorem ang_mod {a b : Int} (h : a % 8 = b % 8) : angX a = angX b ∧ angY a = angY b := by unfold angX angY; rw [h]; exact ⟨rfl, rfl⟩
theorem ang8 (a : Int) : angX (a + 8) = angX a ∧ angY (a + 8) = angY a := ang_mod (by omega)
theorem ang2 (a : Int) : angX (a + 2) = -angY a ∧ angY (a + 2) = angX a := by
  have h : a % 8 = 0 ∨ a % 8 = 1 ∨ a % 8 = 2 ∨ a % 8 = 3 ∨ a % 8 = 4 ∨ a % 8 = 5 ∨ a % 8 = 6 ∨ a % 8 = 7 := by omega
  rcases h with h | h | h | h | h | h | h | h
  · rw [(ang_mod (a := a + 2) (b := 2) (by omega)).1, (ang_mod (a := a + 2) (b := 2) (by omega)).2, (ang_mod (a := a) (b := 0) (by omega)).1, (ang_mod (a := a) (b := 0) (by omega)).2]; decide
  · rw [(ang_mod (a := a + 2) (b := 3) (by omega)).1, (ang_mod (a := a + 2) (b := 3) (by omega)).2, (ang_mod (a := a) (b := 1) (by omega)).1, (ang_mod (a := a) (b := 1) (by omega)).2]; decide
  · rw [(ang_mod (a := a + 2) (b := 4) (by omega)).1, (ang_mod (a := a + 2) (b := 4) (by omega)).2, (ang_mod (a := a) (b := 2) (by omega)).1, (ang_mod (a := a) (b := 2) (by omega)).2]; decide
  · rw [(ang_mod (a := a + 2) (b := 5) (by omega)).1, (ang_mod (a := a + 2) (b := 5) (by omega)).2, (ang_mod (a := a) (b := 3) (by omega)).1, (ang_mod (a := a) (b := 3) (by omega)).2]; decide
  · rw [(ang_mod (a := a + 2) (b := 6) (by omega)).1, (ang_mod (a := a + 2) (b := 6) (by omega)).2, (ang_mod (a := a) (b := 4) (by omega)).1, (ang_mod (a := a) (b := 4) (by omega)).2]; decide
  · rw [(ang_mod (a := a + 2) (b := 7) (by omega)).1, (ang_mod (a := a + 2) (b := 7) (by omega)).2, (ang_mod (a := a) (b := 5) (by omega)).1, (ang_mod (a := a) (b := 5) (by omega)).2]; decide
  · rw [(ang_mod (a := a + 2) (b := 0) (by omega)).1, (ang_mod (a := a + 2) (b := 0) (by omega)).2, (ang_mod (a := a) (b := 6) (by omega)).1, (ang_mod (a := a) (b := 6) (by omega)).2]; decide
  · rw [(ang_mod (a := a + 2) (b := 1) (by omega)).1, (ang_mod (a := a + 2) (b := 1) (by omega)).2, (ang_mod (a := a) (b := 7) (by omega)).1, (ang_mod (a := a) (b := 7) (by omega)).2]; decide
theorem rootF_spec {n : Int} (h : 0 ≤ n) : 0 ≤ rootF n ∧ rootF n * rootF n ≤ n ∧ n < (rootF n + 1) * (rootF n + 1) := by
  unfold rootF
  split
  · have e : n = 0 := by omega
    subst e; decide
  · have q := PySem.Float64.isqrt_spec n.toNat
    refine ⟨by omega, ?_, ?_⟩
    · have := Int.ofNat_le.mpr q.1
      rw [Int.natCast_mul, Int.toNat_of_nonneg h] at this
      exact this
    · have := Int.ofNat_lt.mpr q.2
      rw [Int.natCast_mul, Int.toNat_of_nonneg h] at this
      simpa using this
theorem root_small {n r : Int} (h1 : 0 ≤ r) (h2 : r * r ≤ n) (h3 : n < 2 ^ 64) : r < 2 ^ 32 := by
  by_cases h : r < 2 ^ 32
  · exact h
  · have := Int.mul_le_mul (show 2 ^ 32 ≤ r by omega) (show 2 ^ 32 ≤ r by omega) (by decide) h1
    omega
theorem mul_le {a b m : Int} (ha : -m ≤ a ∧ a ≤ m) (hb : -m ≤ b ∧ b ≤ m) : ((a * b).natAbs : Int) ≤ m * m := by
  rw [Int.natAbs_mul, Int.natCast_mul]
  exact Int.mul_le_mul (by omega) (by omega) (by omega) (by omega)
theorem sq_le {a m : Int} (ha : -m ≤ a ∧ a ≤ m) : 0 ≤ a * a ∧ a * a ≤ m * m := by
  have h : a * a = ((a * a).natAbs : Int) := by rw [Int.natAbs_mul, Int.natCast_mul, ← Int.natAbs_mul_self' a]
  rw [h]
  exact ⟨by omega, mul_le ha ha⟩
theorem ok_held (T : Txt K mg) : Has P w K mg base CX0 1 "held" ["number"] sp_held := by
  refine has_of T.d_held (fun _ _ _ _ _ _ us hl => match us, hl with | [_], _ => rfl) fun f fd F => F.ok sc_held (by intro vs H Q E h; unfold sp_held at h; split at h; (first | rfl | exact h.elim); exact h.elim) (fun cdv A outer s H vs Q E hr h => ?_)
  refine ⟨_, (pss_one (ps_ret (pe_callB (c_max2 rfl) (by rfl) T.b_max bt_max (pa_cons (pe_un o_neg (xe_const T.c_LIMIT)) (pa_cons (pe_callB (c_min2 rfl) (by rfl) T.b_min bt_min (pa_cons (xe_const T.c_LIMIT) (pa_cons (xv 0) pa_nil))) pa_nil))))), ?_⟩
  unfold sp_held at h
  split at h
  · walk_at "g"
    exact h
  · exact h.elim
theorem ok_times (T : Txt K mg) : Has P w K mg base CX0 2 "times" ["one", "two"] sp_times := by
  have G_held : Has P w K mg base CX0 1 "held" ["number"] sp_held := ok_held T
  refine has_of T.d_times (fun _ _ _ _ _ _ us hl => match us, hl with | [_, _], _ => rfl) fun f fd F => F.ok sc_times (by intro vs H Q E h; unfold sp_times at h; split at h; (first | rfl | exact h.elim); exact h.elim) (fun cdv A outer s H vs Q E hr h => ?_)
  refine ⟨_, (pss_one (ps_ret (xe_call G_held (hr.mono (by first | decide | omega)) pass0 (pa_cons (pe_op o_div (pe_op o_mul (xv 0) (xv 1)) (xe_const T.c_UNIT)) pa_nil)))), ?_⟩
  unfold sp_times at h
  split at h
  · obtain ⟨h0, h⟩ := sd_e h
    walk_at "g"
    exact h
  · exact h.elim
theorem ok_over (T : Txt K mg) : Has P w K mg base CX0 2 "over" ["one", "two"] sp_over := by
  have G_held : Has P w K mg base CX0 1 "held" ["number"] sp_held := ok_held T
  refine has_of T.d_over (fun _ _ _ _ _ _ us hl => match us, hl with | [_, _], _ => rfl) fun f fd F => F.ok sc_over (by intro vs H Q E h; unfold sp_over at h; split at h; (first | rfl | exact h.elim); exact h.elim) (fun cdv A outer s H vs Q E hr h => ?_)
  refine ⟨_, (pss_cons (xs_if (xt_cmp (y_eq K hr.units) (xv 1) pe_int (nomark _)) (pss_one (ps_ret pe_int)) pss_nil) (pss_one (ps_ret (xe_call G_held (hr.mono (by first | decide | omega)) pass0 (pa_cons (pe_op o_divN (pe_op o_mul (xv 0) (xe_const T.c_UNIT)) (xv 1)) pa_nil))))), ?_⟩
  unfold sp_over at h
  split at h
  · obtain ⟨⟨h0, h1⟩, h⟩ := sd_e h
    walk_at "g"
    refine br_d (fun h2 => ?_) (fun h2 => ?_)
    · walk_at "g"
      rw [if_pos h2] at h
      exact h
    · rw [if_neg h2] at h
      walk_at "g"
      exact h
  · exact h.elim
theorem ok_sign (T : Txt K mg) : Has P w K mg base CX0 1 "sign" ["number"] sp_sign := by
  refine has_of T.d_sign (fun _ _ _ _ _ _ us hl => match us, hl with | [_], _ => rfl) fun f fd F => F.ok sc_sign (by intro vs H Q E h; unfold sp_sign at h; split at h; (first | rfl | exact h.elim); exact h.elim) (fun cdv A outer s H vs Q E hr h => ?_)
  refine ⟨_, (pss_cons (xs_if (xt_cmp o_lt (xv 0) pe_int (nomark _)) (pss_one (ps_ret (pe_un o_neg pe_int))) pss_nil) (pss_one (ps_ret (pe_callTy c_int1 (by rfl) T.b_int bt_int (pa_cons (pe_cmpR o_gt (xv 0) pe_int (nomark _)) pa_nil))))), ?_⟩
  unfold sp_sign at h
  split at h
  · walk_at "g"
    refine br_d (fun h1 => ?_) (fun h1 => ?_)
    · walk_at "g"
      rw [if_pos h1] at h
      exact h
    · rw [if_neg h1] at h
      walk_at "g"
      simpa using h
  · exact h.elim
theorem ok_toward (T : Txt K mg) : Has P w K mg base CX0 1 "toward" ["one", "two", "step"] sp_toward := by
  refine has_of T.d_toward (fun _ _ _ _ _ _ us hl => match us, hl with | [_, _, _], _ => rfl) fun f fd F => F.ok sc_toward (by intro vs H Q E h; unfold sp_toward at h; split at h; (first | rfl | exact h.elim); exact h.elim) (fun cdv A outer s H vs Q E hr h => ?_)
  refine ⟨_, (pss_cons (xs_if (xt_cmp o_le (xv 2) pe_int (nomark _)) (pss_one (ps_ret (xv 0))) pss_nil) (pss_cons (xs_if (xt_cmp o_lt (xv 0) (xv 1) (nomark _)) (pss_one (ps_ret (pe_callB (c_min2 rfl) (by rfl) T.b_min bt_min (pa_cons (xv 1) (pa_cons (pe_op (y_add K) (xv 0) (xv 2)) pa_nil))))) pss_nil) (pss_one (ps_ret (pe_callB (c_max2 rfl) (by rfl) T.b_max bt_max (pa_cons (xv 1) (pa_cons (pe_op o_sub (xv 0) (xv 2)) pa_nil))))))), ?_⟩
  unfold sp_toward at h
  split at h
  · walk_at "g"
    refine br_d (fun h1 => ?_) (fun h1 => ?_)
    · walk_at "g"
      rw [if_pos h1] at h
      exact h
    · rw [if_neg h1] at h
      walk_at "g"
      refine br_d (fun h1 => ?_) (fun h1 => ?_)
      · rw [if_pos h1] at h
        walk_at "g"
        exact h
      · rw [if_neg h1] at h
        walk_at "g"
        exact h
  · exact h.elim
theorem ok_between (T : Txt K mg) : Has P w K mg base CX0 1 "between" ["one", "two", "part"] sp_between := by
  refine has_of T.d_between (fun _ _ _ _ _ _ us hl => match us, hl with | [_, _, _], _ => rfl) fun f fd F => F.ok sc_between (by intro vs H Q E h; unfold sp_between at h; split at h; (first | rfl | exact h.elim); exact h.elim) (fun cdv A outer s H vs Q E hr h => ?_)
  refine ⟨_, (pss_one (ps_ret (pe_op (y_add K) (xv 0) (pe_op o_div (pe_op o_mul (pe_op o_sub (xv 1) (xv 0)) (xv 2)) (xe_const T.c_UNIT))))), ?_⟩
  unfold sp_between at h
  split at h
  · obtain ⟨⟨h0, h1⟩, h⟩ := sd_e h
    walk_at "g"
    exact h
  · exact h.elim
theorem ok_root (T : Txt K mg) : Has P w K mg base CX0 1 "root" ["number"] sp_root := by
  refine has_of T.d_root (fun _ _ _ _ _ _ us hl => match us, hl with | [_], _ => rfl) fun f fd F => F.ok sc_root (by intro vs H Q E h; unfold sp_root at h; split at h; (first | rfl | exact h.elim); exact h.elim) (fun cdv A outer s H vs Q E hr h => ?_)
  refine ⟨_, (pss_cons (xs_if (xt_cmp o_le (xv 0) pe_int (nomark _)) (pss_one (ps_ret pe_int)) pss_nil) (pss_one (ps_ret (pe_callBfun c_isqrt (by rfl) T.f_isqrt (pa_cons (xv 0) pa_nil))))), ?_⟩
  unfold sp_root at h
  split at h
  · obtain ⟨h0, h⟩ := sd_e h
    unfold rootF at h
    walk_at "g"
    refine br_d (fun h1 => ?_) (fun h1 => ?_)
    · rw [if_pos h1] at h
      walk_at "g"
      exact h
    · rw [if_neg h1] at h
      walk_at "g"
      exact h
  · exact h.elim
theorem ok_far (T : Txt K mg) : Has P w K mg base CX0 2 "far" ["dx", "dy"] sp_far := by
  have G_root : Has P w K mg base CX0 1 "root" ["number"] sp_root := ok_root T
  refine has_of T.d_far (fun _ _ _ _ _ _ us hl => match us, hl with | [_, _], _ => rfl) fun f fd F => F.ok sc_far (by intro vs H Q E h; unfold sp_far at h; split at h; (first | rfl | exact h.elim); exact h.elim) (fun cdv A outer s H vs Q E hr h => ?_)
  refine ⟨_, (pss_one (ps_ret (xe_call G_root (hr.mono (by first | decide | omega)) pass0 (pa_cons (pe_op (y_add K) (pe_op o_mul (xv 0) (xv 0)) (pe_op o_mul (xv 1) (xv 1))) pa_nil)))), ?_⟩
  unfold sp_far at h
  split at h
  · obtain ⟨⟨h0, h1, h2⟩, h⟩ := sd_e h
    walk_at "g"
    exact h
  · exact h.elim
theorem ok_cell_of (T : Txt K mg) : Has P w K mg base CX0 1 "cell_of" ["place"] sp_cell_of := by
  refine has_of T.d_cell_of (fun _ _ _ _ _ _ us hl => match us, hl with | [_], _ => rfl) fun f fd F => F.ok sc_cell_of (by intro vs H Q E h; unfold sp_cell_of at h; split at h; (first | rfl | exact h.elim); exact h.elim) (fun cdv A outer s H vs Q E hr h => ?_)
  refine ⟨_, (pss_one (ps_ret (pe_op o_div (xv 0) (xe_const T.c_UNIT)))), ?_⟩
  unfold sp_cell_of at h
  split at h
  · walk_at "g"
    exact h
  · exact h.elim
theorem ok_cells (T : Txt K mg) : Has P w K mg base CX0 1 "cells" ["low", "size"] sp_cells := by
  refine has_of T.d_cells (fun _ _ _ _ _ _ us hl => match us, hl with | [_, _], _ => rfl) fun f fd F => F.ok sc_cells (by intro vs H Q E h; unfold sp_cells at h; split at h; (first | rfl | exact h.elim); exact h.elim) (fun cdv A outer s H vs Q E hr h => ?_)
  refine ⟨_, (pss_one (ps_ret (xe_tup (pa_cons (pe_op o_div (xv 0) (xe_const T.c_UNIT)) (pa_cons (pe_op o_div (pe_op o_sub (pe_op (y_add K) (xv 0) (pe_callB (c_max2 rfl) (by rfl) T.b_max bt_max (pa_cons (xv 1) (pa_cons pe_int pa_nil)))) pe_int) (xe_const T.c_UNIT)) pa_nil))))), ?_⟩
  unfold sp_cells at h
  split at h
  · walk_at "g"
    exact new_e h _ (by assumption)
  · exact h.elim
theorem ok_wave (T : Txt K mg) : Has P w K mg base CX0 1 "wave" ["part"] sp_wave := by
  refine has_of T.d_wave (fun _ _ _ _ _ _ us hl => match us, hl with | [_], _ => rfl) fun f fd F => F.ok sc_wave (by intro vs H Q E h; unfold sp_wave at h; split at h; (first | rfl | exact h.elim); exact h.elim) (fun cdv A outer s H vs Q E hr h => ?_)
  refine ⟨_, (pss_cons (xs_set (i := 1) sc_wave.nd rfl (pe_op o_mod (xv 0) (xe_const T.c_UNIT))) (pss_cons (xs_if (xt_cmp o_lt (xv 1) (pe_op o_div (xe_const T.c_UNIT) pe_int) (nomark _)) (pss_one (ps_ret (pe_op o_mul pe_int (xv 1)))) pss_nil) (pss_one (ps_ret (pe_op o_mul pe_int (pe_op o_sub (xe_const T.c_UNIT) (xv 1))))))), ?_⟩
  unfold sp_wave at h
  split at h
  · walk_at "g"
    rename_i a
    refine br_d (p := a % 256 < 128) (fun h1 => ?_) (fun h1 => ?_)
    · rw [if_pos h1] at h
      walk_at "g"
      exact h
    · rw [if_neg h1] at h
      walk_at "g"
      exact h
  · exact h.elim
theorem ok_angle_steps (T : Txt K mg) : Has P w K mg base CX0 1 "angle_steps" ["number"] sp_angle_steps := by
  refine has_of T.d_angle_steps (fun _ _ _ _ _ _ us hl => match us, hl with | [_], _ => rfl) fun f fd F => fn_gcB (F.ok sc_angle_steps (by intro vs H Q E h; obtain ⟨Q', h, _⟩ := h; unfold sp_angle_steps at h; split at h; (first | rfl | exact h.elim); exact h.elim) (fun cdv A outer s H vs Q E hr h => ?_))
  obtain ⟨Q', h, hq⟩ := h
  refine ⟨_, (pss_cons (xs_set (i := 1) sc_angle_steps.nd rfl (xe_lst (pa_cons (xe_tup (pa_cons pe_int (pa_cons pe_int pa_nil))) (pa_cons (xe_tup (pa_cons pe_int (pa_cons pe_int pa_nil))) (pa_cons (xe_tup (pa_cons pe_int (pa_cons pe_int pa_nil))) (pa_cons (xe_tup (pa_cons (pe_un o_neg pe_int) (pa_cons pe_int pa_nil))) (pa_cons (xe_tup (pa_cons (pe_un o_neg pe_int) (pa_cons pe_int pa_nil))) (pa_cons (xe_tup (pa_cons (pe_un o_neg pe_int) (pa_cons (pe_un o_neg pe_int) pa_nil))) (pa_cons (xe_tup (pa_cons pe_int (pa_cons (pe_un o_neg pe_int) pa_nil))) (pa_cons (xe_tup (pa_cons pe_int (pa_cons (pe_un o_neg pe_int) pa_nil))) pa_nil)))))))))) (pss_one (ps_ret (y_ix K (xv 1) (pe_op o_mod (xv 0) pe_int))))), ?_⟩
  unfold sp_angle_steps at h
  split at h
  · rename_i n
    obtain ⟨cl, h⟩ := sd_e h
    have hr8 : n % 8 = 0 ∨ n % 8 = 1 ∨ n % 8 = 2 ∨ n % 8 = 3 ∨ n % 8 = 4 ∨ n % 8 = 5 ∨ n % 8 = 6 ∨ n % 8 = 7 := by omega
    unfold angX angY at h
    have h := new_e h
    walk_at "g"
    rcases hr8 with e | e | e | e | e | e | e | e <;> (rw [e] at h ⊢; refine som_i rfl ?_; refine hq _ _ (gc_i ?hs (h _ ?hn)); (case hn => assumption); (case hs => walk_at "fgs"))
  · exact h.elim
theorem ok__law_stream (T : Txt K mg) : Has P w K mg base CX0 1 "_law_stream" ["script"] (sp__law_stream K) := by
  refine has_of T.d__law_stream (fun _ _ _ _ _ _ us hl => match us, hl with | [_], _ => rfl) fun f fd F => F.ok sc__law_stream (by intro vs H Q E h; unfold sp__law_stream at h; split at h; (first | rfl | exact h.elim); exact h.elim) (fun cdv A outer s H vs Q E hr h => ?_)
  refine ⟨_, (pss_cons (xs_set (i := 1) sc__law_stream.nd rfl pe_int) (pss_cons (y_forL K (by rfl) (xv 0) (xg (i := 2) sc__law_stream.nd rfl) (pss_one (xs_set (i := 1) sc__law_stream.nd rfl (pe_op o_mod (pe_callTy c_int1 (by rfl) T.b_int bt_int (pa_cons (pe_op (y_add K) (pe_op (y_add K) (pe_op o_mul (xv 1) pe_int) (pe_op o_mod (pe_callTy c_int1 (by rfl) T.b_int bt_int (pa_cons (xv 2) pa_nil)) pe_int)) pe_int) pa_nil)) pe_int))) PassesOwn.never) (pss_one (ps_ret (xe_lst (pa_cons (pe_callTy (y_list K) (by rfl) T.b_list bt_list (pa_cons (xv 0) pa_nil)) (pa_cons pe_int (pa_cons pe_int (pa_cons (xv 1) pa_nil))))))))), ?_⟩
  unfold sp__law_stream at h
  split at h
  · rename_i a
    obtain ⟨xs, hx, h⟩ := rdL_e h
    obtain ⟨ns, hn, h⟩ := som_e h
    obtain rfl := intsOf_eq hn
    walk_at "g"
    refine lp_i (fun i σ H' => ∃ m c, σ = [some (.ref a), some (.int m), c] ∧ H' = H ∧ 0 ≤ m ∧ m < 2147483647) ⟨17, none, rfl, rfl, by decide, by decide⟩ (fun i σ H' ⟨m, c, _, e, _⟩ => by subst e; exact hx) ?_ ?_
    · rintro i x σ H' hi ⟨m, c, rfl, rfl, h0, h1⟩
      obtain ⟨n, rfl⟩ : ∃ n, x = V.int n := by
        have q := List.mem_of_getElem? hi
        obtain ⟨n, _, e⟩ := List.mem_map.mp q
        exact ⟨n, e.symm⟩
      walk_at "g"
      exact ⟨_, _, rfl, rfl, Int.emod_nonneg _ (by decide), Int.emod_lt_of_pos _ (by decide)⟩
    · rintro σ H' ⟨m, c, rfl, rfl, h0, h1⟩
      walk_at "g"
      exact new_e (new_e h _ (by assumption)) _ (by rw [upd_none]; exact ⟨by assumption, by assumption⟩) m h0 h1
  · exact h.elim
theorem ok__law_draw (T : Txt K mg) : Has P w K mg base CX0 1 "_law_draw" ["stream", "many"] sp__law_draw := by
  refine has_of T.d__law_draw (fun _ _ _ _ _ _ us hl => match us, hl with | [_, _], _ => rfl) fun f fd F => F.ok sc__law_draw (by intro vs H Q E h; unfold sp__law_draw at h; split at h; (first | rfl | exact h.elim); exact h.elim) (fun cdv A outer s H vs Q E hr h => ?_)
  refine ⟨_, (Evl.pss_cut (xs_if (PW.pt (xw_and (xt_cmp (y_eq K hr.units) (y_ix K (xv 0) pe_int) pe_int (nomark _)) (xw_and1 (xt_cmp o_lt (y_ix K (xv 0) pe_int) (pe_callB (y_len K) (by rfl) T.b_len bt_len (pa_cons (y_ix K (xv 0) pe_int) pa_nil)) (nomark _))))) (pss_cons (ps_asg (pe_callB c_abs (by rfl) T.b_abs bt_abs (pa_cons (pe_callTy c_int1 (by rfl) T.b_int bt_int (pa_cons (y_ix K (y_ix K (xv 0) pe_int) (y_ix K (xv 0) pe_int)) pa_nil)) pa_nil)) (pg_sub (xv 0) pe_int p_setL)) (pss_one (ps_asg (pe_op (y_add K) (y_ix K (xv 0) pe_int) pe_int) (pg_sub (xv 0) pe_int p_setL)))) pss_nil) (pss_cons (xs_if (xt_cmp (y_eq K hr.units) (y_ix K (xv 0) pe_int) pe_int (nomark _)) (pss_cons (ps_asg (pe_op o_mod (pe_callTy c_int1 (by rfl) T.b_int bt_int (pa_cons (pe_op (y_add K) (pe_op o_mul (y_ix K (xv 0) pe_int) pe_int) pe_int) pa_nil)) pe_int) (pg_sub (xv 0) pe_int p_setL)) (pss_one (ps_ret (pe_op o_mod (pe_callTy c_int1 (by rfl) T.b_int bt_int (pa_cons (pe_op o_div (y_ix K (xv 0) pe_int) pe_int) pa_nil)) (xv 1))))) pss_nil) (pss_cons (xs_set (i := 2) sc__law_draw.nd rfl (pe_op o_mod (pe_callTy c_int1 (by rfl) T.b_int bt_int (pa_cons (y_ix K (xv 0) pe_int) pa_nil)) (xv 1))) (pss_cons (ps_asg (pe_op o_div (y_ix K (xv 0) pe_int) (xv 1)) (pg_sub (xv 0) pe_int p_setL)) (pss_one (ps_ret (xv 2))))))), ?_⟩
  unfold sp__law_draw at h
  split at h
  · rename_i s n
    obtain ⟨l, c, p, m, ns, hs, hl, c0, p0, m0, m1, h⟩ := strm_e h
    obtain ⟨⟨n0, n1⟩, h⟩ := sd_e h
    have h := drawn_e h
    have hs' := hs
    unfold strm at hs
    have nls : l ≠ s := fun e => by
      rw [e, hs] at hl
      have q := HO.lst.inj (Option.some.inj hl)
      cases ns with
      | nil => cases q
      | cons y r => cases q
    refine ⟨fun σ' H' => ∃ c p, σ' = [some (.ref s), some (.int n), none] ∧ H' = upd H s (strm l c p m) ∧ 0 ≤ c ∧ 0 ≤ p, ?_, ?_⟩
    · walk_at "g"
      refine br_d (fun hc => ?_) (fun hc => ?_)
      · walk_at "g"
        refine br_d (fun hp => ?_) (fun hp => ?_)
        · simp only [List.length_map] at hp
          have hn : (ns.map V.int)[p.toNat]? = some (.int (ns.getD p.toNat 0)) := by
            rw [List.getElem?_map, List.getD_eq_getElem?_getD, List.getElem?_eq_getElem (by omega)]; rfl
          walk_at "g"
          refine som_i (atI_of (show p = ((p.toNat : Nat) : Int) by omega) hn) ?_
          walk_at "g"
          exact ⟨((ns.getD p.toNat 0).natAbs : Int), p + 1, rfl, by rw [upd_upd]; rfl, by omega, by omega⟩
        · walk_at "g"
          exact ⟨c, p, rfl, (upd_id hs').symm, c0, p0⟩
      · walk_at "g"
        exact ⟨c, p, rfl, (upd_id hs').symm, c0, p0⟩
    · rintro σ' H' ⟨c, p, rfl, rfl, c0, p0⟩
      have hs : upd H s (strm l c p m) s = some (.lst [.ref l, .int c, .int p, .int m]) := upd_same
      walk_at "g"
      refine br_d (fun hc => ?_) (fun hc => ?_)
      · walk_at "g"
        have q := h ((m * 48271 + 11) % 2147483647 / 97 % n) c p ((m * 48271 + 11) % 2147483647) (Int.emod_nonneg _ (by omega)) (Int.emod_lt_of_pos _ n0) ⟨c0, p0, Int.emod_nonneg _ (by decide), Int.emod_lt_of_pos _ (by decide)⟩
        rw [upd_upd]
        exact q
      · walk_at "g"
        have q := h (c % n) (c / n) p m (Int.emod_nonneg _ (by omega)) (Int.emod_lt_of_pos _ n0) ⟨Int.ediv_nonneg c0 (by omega), p0, m0, m1⟩
        rw [upd_upd]
        exact q
  · exact h.elim
theorem ok__law_pick (T : Txt K mg) : Has P w K mg base CX0 2 "_law_pick" ["stream", "rows"] (sp__law_pick K) := by
  have G__law_draw : Has P w K mg base CX0 1 "_law_draw" ["stream", "many"] sp__law_draw := ok__law_draw T
  refine has_of T.d__law_pick (fun _ _ _ _ _ _ us hl => match us, hl with | [_, _], _ => rfl) fun f fd F => F.ok sc__law_pick (by intro vs H Q E h; unfold sp__law_pick at h; split at h; (first | rfl | exact h.elim); exact h.elim) (fun cdv A outer s H vs Q E hr h => ?_)
  refine ⟨_, (pss_one (ps_ret (y_ix K (xv 1) (xe_call G__law_draw (hr.mono (by first | decide | omega)) pass0 (pa_cons (xv 0) (pa_cons (pe_callB (y_len K) (by rfl) T.b_len bt_len (pa_cons (xv 1) pa_nil)) pa_nil)))))), ?_⟩
  unfold sp__law_pick at h
  split at h
  · rename_i s r
    obtain ⟨xs, hx, h⟩ := rdS_e h
    obtain ⟨l, c, p, m, ns, hs, hl, c0, p0, m0, m1, h⟩ := strm_e h
    obtain ⟨nsr, h⟩ := sd_e h
    obtain ⟨⟨x0, x1⟩, h⟩ := sd_e h
    have h := drawn_e h
    have fin : ∀ v c p m, 0 ≤ v → v < (xs.length : Int) → 0 ≤ c ∧ 0 ≤ p ∧ 0 ≤ m ∧ m < 2147483647 → RdS K (upd H s (strm l c p m)) r fun ys => Som (atI ys v) fun x => Q x (upd H s (strm l c p m)) := by
      intro v c p m v0 v1 hh
      have hv : xs[v.toNat]? = some xs[v.toNat] := List.getElem?_eq_getElem (by omega)
      have e := atI_of (show v = ((v.toNat : Nat) : Int) by omega) hv
      rcases hx with hx | hx
      · exact rdS_l (sqL_ne hx (Ne.symm nsr)) (som_i e (h v c p m v0 v1 hh _ hv))
      · exact rdS_t (sqT_ne hx (Ne.symm nsr)) (som_i e (h v c p m v0 v1 hh _ hv))
    have hx2 : ∀ k : List V → Prop, k xs → RdS K H r k := fun k q => by
      rcases hx with hx | hx
      · exact rdS_l hx q
      · exact rdS_t hx q
    walk_at "g"
    refine hx2 _ ?_
    walk_at "g"
    refine strm_i hs hl ⟨c0, p0, m0, m1⟩ ?_
    walk_at "g"
    refine drawn_i fun v c p m v0 v1 hh => ?_
    walk_at "g"
    exact fin v c p m v0 v1 hh
  · exact h.elim
theorem same_step (T : Txt K mg) {j : Nat} (G__law_same : Has P w K mg base CX0 j "_law_same" ["value", "due"] (sp_same j)) : Has P w K mg base CX0 (j + 1) "_law_same" ["value", "due"] (sp_same (j + 1)) := by
  refine has_of T.d__law_same (fun _ _ _ _ _ _ us hl => match us, hl with | [_, _], _ => rfl) fun f fd F => fn_gcB (F.ok sc__law_same (by intro vs H Q E h; obtain ⟨Q', h, _⟩ := h; unfold sp_same at h; split at h; (first | rfl | exact h.elim); exact h.elim) (fun cdv A outer s H vs Q E hr h => ?_))
  obtain ⟨Q', h, hq⟩ := h
  refine ⟨_, (pss_cons (xs_if (PW.pt (xw_or (y_tru K (pe_callB c_isi (by rfl) T.b_isinstance bt_isinstance (pa_cons (xv 1) (pa_cons (pe_bltn (v := .ty "tuple") (by rfl) T.b_tuple bt_tuple rfl) pa_nil)))) (xw_or1 (y_tru K (pe_callB c_isi (by rfl) T.b_isinstance bt_isinstance (pa_cons (xv 1) (pa_cons (pe_bltn (v := .ty "list") (by rfl) T.b_list bt_list rfl) pa_nil))))))) (pss_cons (xs_if (PW.pt (xw_or (xt_cmp (y_ne K hr.units) (pe_callB c_isi (by rfl) T.b_isinstance bt_isinstance (pa_cons (xv 0) (pa_cons (pe_bltn (v := .ty "tuple") (by rfl) T.b_tuple bt_tuple rfl) pa_nil))) (pe_callB c_isi (by rfl) T.b_isinstance bt_isinstance (pa_cons (xv 1) (pa_cons (pe_bltn (v := .ty "tuple") (by rfl) T.b_tuple bt_tuple rfl) pa_nil))) (nomark _)) (xw_or1 (xt_cmp (y_ne K hr.units) (pe_callB c_isi (by rfl) T.b_isinstance bt_isinstance (pa_cons (xv 0) (pa_cons (pe_bltn (v := .ty "list") (by rfl) T.b_list bt_list rfl) pa_nil))) (pe_callB c_isi (by rfl) T.b_isinstance bt_isinstance (pa_cons (xv 1) (pa_cons (pe_bltn (v := .ty "list") (by rfl) T.b_list bt_list rfl) pa_nil))) (nomark _))))) (pss_one (ps_ret pe_bl)) pss_nil) (pss_one (ps_ret (pe_gc (xe_and (pe_cmpR (y_eq K hr.units) (pe_callB (y_len K) (by rfl) T.b_len bt_len (pa_cons (xv 0) pa_nil)) (pe_callB (y_len K) (by rfl) T.b_len bt_len (pa_cons (xv 1) pa_nil)) (nomark _)) (xe_one (pe_gc (pe_callB (y_all K rfl) (by rfl) T.b_all bt_all (pa_cons (xe_lcR1 (own := [("k", 2)]) rfl sc__law_same.nd T.b_range (pa_cons (pe_callB (y_len K) (by rfl) T.b_len bt_len (pa_cons (xv 1) pa_nil)) pa_nil) (blkOk_by (own := [("k", 2)]) (N := ["value", "due", "k"]) (sc := defScope s__law_same) (by decide +kernel)) (fun _ _ _ _ _ => by exact (xg (i := 2) sc__law_same.nd rfl)) (fun _ _ _ _ _ => by exact pts_nil) (fun _ _ _ _ _ => by exact (xe_call G__law_same (hr.mono (by first | decide | omega)) pass0 (pa_cons (y_ix K (xv 0) (xv 2)) (pa_cons (y_ix K (xv 1) (xv 2)) pa_nil))))) pa_nil))))))))) pss_nil) (pss_cons (xs_if (xt_cmp o_isN (xv 1) pe_non (nomark _)) (pss_one (ps_ret (pe_cmpR o_isN (xv 0) pe_non (nomark _)))) pss_nil) (pss_cons (xs_if (y_tru K (pe_callB c_isi (by rfl) T.b_isinstance bt_isinstance (pa_cons (xv 1) (pa_cons (pe_bltn (v := .ty "str") (by rfl) T.b_str bt_str rfl) pa_nil)))) (pss_one (ps_ret (xe_and (pe_callB c_isi (by rfl) T.b_isinstance bt_isinstance (pa_cons (xv 0) (pa_cons (pe_bltn (v := .ty "str") (by rfl) T.b_str bt_str rfl) pa_nil))) (xe_one (pe_cmpR (y_eq K hr.units) (xv 0) (xv 1) (nomark _)))))) pss_nil) (pss_one (ps_ret (xe_and (pe_callB c_isi (by rfl) T.b_isinstance bt_isinstance (pa_cons (xv 0) (pa_cons (pe_bltn (v := .ty "int") (by rfl) T.b_int bt_int rfl) pa_nil))) (xe_and (pe_cmpR (y_eq K hr.units) (pe_callB c_isi (by rfl) T.b_isinstance bt_isinstance (pa_cons (xv 0) (pa_cons (pe_bltn (v := .ty "bool") (by rfl) T.b_bool bt_bool rfl) pa_nil))) (pe_callB c_isi (by rfl) T.b_isinstance bt_isinstance (pa_cons (xv 1) (pa_cons (pe_bltn (v := .ty "bool") (by rfl) T.b_bool bt_bool rfl) pa_nil))) (nomark _)) (xe_one (pe_cmpR (y_eq K hr.units) (xv 0) (xv 1) (nomark _)))))))))), ?_⟩
  unfold sp_same at h
  split at h
  · rename_i x y
    obtain ⟨d, e, hd, he, dep, sml, cl, h⟩ := sameD_e h
    have end0 : Q (.bl (Da.beq d e)) H := hq _ _ (gc_i (Fgt.refl cl) h)
    cases he with
    | non =>
      walk_at "g"
      cases hd <;> (walk_at "g"; exact end0)
    | bl b =>
      walk_at "g"
      cases hd <;> (walk_at "g"; exact end0)
    | int i =>
      walk_at "g"
      cases hd <;> (walk_at "g"; exact end0)
    | str z =>
      walk_at "g"
      cases hd <;> (walk_at "g"; exact end0)
    | @lst b ys es ha hs =>
      have sml2 : es.length < 100000 ∧ Da.smls es = true := by rw [Da.sml, Bool.and_eq_true] at sml; exact ⟨of_decide_eq_true sml.1, sml.2⟩
      have sml1 := sml2.1
      have sml2 := sml2.2
      have hsl := hs.len
      have dep1 : Da.deps es < j := by rw [Da.dep] at dep; omega
      walk_at "g"
      cases hd with
      | tup hb ht => (walk_at "g"; exact end0)
      | @lst a xs ds hb ht =>
        have htl := ht.len
        walk_at "g"
        rw [Da.beq, Da.beqs_all] at end0
        refine br_d (fun hl => ?_) (fun hl => ?_)
        · walk_at "g"
          rename_i D hD
          refine lc_map0 (fun v => match v with | .int k => .bl (Da.beq (ds.getD k.toNat .non) (es.getD k.toNat .non)) | _ => .non) (fun _ => true) (fun _ => trivial) (by rw [rngV_len]; omega) ?_ ?_
          · intro x hx a Nx hla h1 _
            obtain ⟨i, hi, rfl⟩ := rngV_mem hx
            have hi2 : i < es.length := by rw [← hs.len]; omega
            have hi3 : i < ds.length := by rw [← ht.len]; omega
            obtain ⟨v1, g1, r1⟩ := ht.get (List.getElem?_eq_getElem hi3)
            obtain ⟨v2, g2, r2⟩ := hs.get (List.getElem?_eq_getElem hi2)
            walk_at "g"
            refine som_i (atI_of (show (0 : Int) + (i : Int) = ((i : Nat) : Int) by omega) g1) ?_
            walk_at "g"
            refine som_i (atI_of (show (0 : Int) + (i : Int) = ((i : Nat) : Int) by omega) g2) ?_
            walk_at "g"
            refine sameD_i (r1.mono (same_new hD)) (r2.mono (same_new hD)) (by have := Da.dep_mem (List.getElem_mem hi2); omega) (Da.sml_mem (List.getElem_mem hi2) sml2) (cl.upd rfl) ?_
            walk_at "g"
            rw [upd_upd]
            have e1 : ds.getD (0 + (i : Int)).toNat .non = ds[i] := by rw [Int.zero_add]; simp [List.getD_eq_getElem?_getD, hi3]
            have e2 : es.getD (0 + (i : Int)).toNat .non = es[i] := by rw [Int.zero_add]; simp [List.getD_eq_getElem?_getD, hi2]
            have h1 := h1 rfl
            dsimp only at h1
            rw [e1, e2] at h1
            exact h1
          · rw [filter_yes, rngV_map]
            walk_at "g"
            refine som_i (x := (List.range es.length).map fun k => Da.beq (ds.getD k .non) (es.getD k .non)) ?_ ?_
            · rw [hsl, ← blsOf_map, List.map_map]; rfl
            walk_at "g"
            have e0 : ((List.range es.length).map fun k => Da.beq (ds.getD k .non) (es.getD k .non)).all id = (List.range es.length).all fun k => Da.beq (ds.getD k .non) (es.getD k .non) := by rw [List.all_map]; rfl
            rw [e0]
            rw [decide_eq_true (show ds.length = es.length by omega), Bool.true_and] at end0
            exact end0
        · walk_at "g"
          rw [decide_eq_false (show ¬ ds.length = es.length by omega)] at end0
          exact end0
      | _ => (walk_at "g"; exact end0)
    | @tup b ys es ha hs =>
      have sml2 : es.length < 100000 ∧ Da.smls es = true := by rw [Da.sml, Bool.and_eq_true] at sml; exact ⟨of_decide_eq_true sml.1, sml.2⟩
      have sml1 := sml2.1
      have sml2 := sml2.2
      have hsl := hs.len
      have dep1 : Da.deps es < j := by rw [Da.dep] at dep; omega
      walk_at "g"
      cases hd with
      | lst hb ht => (walk_at "g"; exact end0)
      | @tup a xs ds hb ht =>
        have htl := ht.len
        walk_at "g"
        rw [Da.beq, Da.beqs_all] at end0
        refine br_d (fun hl => ?_) (fun hl => ?_)
        · walk_at "g"
          rename_i D hD
          refine lc_map0 (fun v => match v with | .int k => .bl (Da.beq (ds.getD k.toNat .non) (es.getD k.toNat .non)) | _ => .non) (fun _ => true) (fun _ => trivial) (by rw [rngV_len]; omega) ?_ ?_
          · intro x hx a Nx hla h1 _
            obtain ⟨i, hi, rfl⟩ := rngV_mem hx
            have hi2 : i < es.length := by rw [← hs.len]; omega
            have hi3 : i < ds.length := by rw [← ht.len]; omega
            obtain ⟨v1, g1, r1⟩ := ht.get (List.getElem?_eq_getElem hi3)
            obtain ⟨v2, g2, r2⟩ := hs.get (List.getElem?_eq_getElem hi2)
            walk_at "g"
            refine som_i (atI_of (show (0 : Int) + (i : Int) = ((i : Nat) : Int) by omega) g1) ?_
            walk_at "g"
            refine som_i (atI_of (show (0 : Int) + (i : Int) = ((i : Nat) : Int) by omega) g2) ?_
            walk_at "g"
            refine sameD_i (r1.mono (same_new hD)) (r2.mono (same_new hD)) (by have := Da.dep_mem (List.getElem_mem hi2); omega) (Da.sml_mem (List.getElem_mem hi2) sml2) (cl.upd rfl) ?_
            walk_at "g"
            rw [upd_upd]
            have e1 : ds.getD (0 + (i : Int)).toNat .non = ds[i] := by rw [Int.zero_add]; simp [List.getD_eq_getElem?_getD, hi3]
            have e2 : es.getD (0 + (i : Int)).toNat .non = es[i] := by rw [Int.zero_add]; simp [List.getD_eq_getElem?_getD, hi2]
            have h1 := h1 rfl
            dsimp only at h1
            rw [e1, e2] at h1
            exact h1
          · rw [filter_yes, rngV_map]
            walk_at "g"
            refine som_i (x := (List.range es.length).map fun k => Da.beq (ds.getD k .non) (es.getD k .non)) ?_ ?_
            · rw [hsl, ← blsOf_map, List.map_map]; rfl
            walk_at "g"
            have e0 : ((List.range es.length).map fun k => Da.beq (ds.getD k .non) (es.getD k .non)).all id = (List.range es.length).all fun k => Da.beq (ds.getD k .non) (es.getD k .non) := by rw [List.all_map]; rfl
            rw [e0]
            rw [decide_eq_true (show ds.length = es.length by omega), Bool.true_and] at end0
            exact end0
        · walk_at "g"
          rw [decide_eq_false (show ¬ ds.length = es.length by omega)] at end0
          exact end0
      | _ => (walk_at "g"; exact end0)
  · exact h.elim
theorem same_all (T : Txt K mg) : ∀ j, Has P w K mg base CX0 j "_law_same" ["value", "due"] (sp_same j)
  | 0 => (has_never T.d__law_same (fun _ _ _ _ _ _ us hl => match us, hl with | [_, _], _ => rfl)).imp fun vs H Q E h => by
    unfold sp_same at h; split at h
    · obtain ⟨_, _, _, _, z, _⟩ := sameD_e h; exact absurd z (Nat.not_lt_zero _)
    · exact h
  | j + 1 => same_step T (same_all T j)
theorem ok__law_same (T : Txt K mg) : Has P w K mg base CX0 4 "_law_same" ["value", "due"] sp__law_same := same_all T _
theorem ok_law (T : Txt K mg) {f : Addr} {fd : FuncData} (F : Fun K "law" "law" s_law f fd) : FnOk P w K mg base CX0 5 f fd ["script"] (sp_law K) := by
  have G__law_draw : Has P w K mg base CX0 1 "_law_draw" ["stream", "many"] sp__law_draw := ok__law_draw T
  have G__law_pick : Has P w K mg base CX0 2 "_law_pick" ["stream", "rows"] (sp__law_pick K) := ok__law_pick T
  have G__law_same : Has P w K mg base CX0 4 "_law_same" ["value", "due"] sp__law_same := ok__law_same T
  have G__law_stream : Has P w K mg base CX0 1 "_law_stream" ["script"] (sp__law_stream K) := ok__law_stream T
  have G_angle_steps : Has P w K mg base CX0 1 "angle_steps" ["number"] sp_angle_steps := ok_angle_steps T
  have G_between : Has P w K mg base CX0 1 "between" ["one", "two", "part"] sp_between := ok_between T
  have G_cell_of : Has P w K mg base CX0 1 "cell_of" ["place"] sp_cell_of := ok_cell_of T
  have G_cells : Has P w K mg base CX0 1 "cells" ["low", "size"] sp_cells := ok_cells T
  have G_far : Has P w K mg base CX0 2 "far" ["dx", "dy"] sp_far := ok_far T
  have G_held : Has P w K mg base CX0 1 "held" ["number"] sp_held := ok_held T
  have G_over : Has P w K mg base CX0 2 "over" ["one", "two"] sp_over := ok_over T
  have G_root : Has P w K mg base CX0 1 "root" ["number"] sp_root := ok_root T
  have G_sign : Has P w K mg base CX0 1 "sign" ["number"] sp_sign := ok_sign T
  have G_times : Has P w K mg base CX0 2 "times" ["one", "two"] sp_times := ok_times T
  have G_toward : Has P w K mg base CX0 1 "toward" ["one", "two", "step"] sp_toward := ok_toward T
  have G_wave : Has P w K mg base CX0 1 "wave" ["part"] sp_wave := ok_wave T
  refine F.ok sc_law (by intro vs H Q E h; obtain ⟨a, ns, rfl, _⟩ := h; rfl) (fun cdv A outer s H vs Q E hr h => ?_)
  obtain ⟨a, ns, rfl, hO, hS, hlen, k⟩ := h
  have cl := Cln.only hO
  refine ⟨_, (pss_cons (xs_set (i := 1) sc_law.nd rfl (xe_call G__law_stream (hr.mono (by first | decide | omega)) pass0 (pa_cons (xv 0) pa_nil))) (pss_cons (xs_if (PW.pt (xw_or (xt_cmp (y_ne K hr.units) (xe_const T.c_UNIT) pe_int (nomark _)) (xw_or1 (xt_cmp (y_ne K hr.units) (xe_const T.c_LIMIT) pe_int (nomark _))))) (pss_one (ps_ret pe_bl)) pss_nil) (pss_cons (xs_forR1 (by rfl) (by rfl) T.b_range (pa_cons pe_int pa_nil) (xg (i := 2) sc_law.nd rfl) (pss_gc (pss_cons (xs_set (i := 3) sc_law.nd rfl (pe_gc (xe_call G__law_pick (hr.mono (by first | decide | omega)) pass0 (pa_cons (xv 1) (pa_cons (xe_lst (pa_cons pe_int (pa_cons pe_int (pa_cons pe_int (pa_cons pe_int pa_nil))))) pa_nil))))) (pss_cons (xs_par3 (i := 4) (j := 5) (l := 6) (by rfl) sc_law.nd rfl rfl rfl (by decide) (by decide) (by decide) rfl rfl rfl (pa_cons (pe_op o_sub (xe_call G__law_draw (hr.mono (by first | decide | omega)) pass0 (pa_cons (xv 1) (pa_cons (pe_op o_mul pe_int (xv 3)) pa_nil))) (xv 3)) (pa_cons (pe_op o_sub (xe_call G__law_draw (hr.mono (by first | decide | omega)) pass0 (pa_cons (xv 1) (pa_cons (pe_op o_mul pe_int (xv 3)) pa_nil))) (xv 3)) (pa_cons (pe_op o_sub (xe_call G__law_draw (hr.mono (by first | decide | omega)) pass0 (pa_cons (xv 1) (pa_cons (xv 3) pa_nil))) pe_int) pa_nil))) (by rfl)) (pss_cons (xs_set (i := 7) sc_law.nd rfl (pe_callB (c_max2 rfl) (by rfl) T.b_max bt_max (pa_cons (pe_un o_neg pe_int) (pa_cons (pe_callB (c_min2 rfl) (by rfl) T.b_min bt_min (pa_cons pe_int (pa_cons (xv 4) pa_nil))) pa_nil)))) (pss_cons (xs_set (i := 8) sc_law.nd rfl (pe_jn (xe_if (xt_cmp (y_ne K hr.units) (xv 5) pe_int (nomark _)) (pe_op o_divN (pe_op o_mul (xv 4) pe_int) (xv 5)) pe_int))) (pss_cons (xs_if (PW.pt (xw_or (xt_not (y_tru K (xe_call G__law_same (hr.mono (by first | decide | omega)) pass0 (pa_cons (xe_call G_held (hr.mono (by first | decide | omega)) pass0 (pa_cons (xv 4) pa_nil)) (pa_cons (xv 7) pa_nil))))) (xw_or (xt_not (y_tru K (xe_call G__law_same (hr.mono (by first | decide | omega)) pass0 (pa_cons (xe_call G_times (hr.mono (by first | decide | omega)) pass0 (pa_cons (xv 4) (pa_cons (xv 5) pa_nil))) (pa_cons (pe_callB (c_max2 rfl) (by rfl) T.b_max bt_max (pa_cons (pe_un o_neg pe_int) (pa_cons (pe_callB (c_min2 rfl) (by rfl) T.b_min bt_min (pa_cons pe_int (pa_cons (pe_op o_div (pe_op o_mul (xv 4) (xv 5)) pe_int) pa_nil))) pa_nil))) pa_nil))))) (xw_or1 (xt_not (y_tru K (xe_call G__law_same (hr.mono (by first | decide | omega)) pass0 (pa_cons (xe_call G_over (hr.mono (by first | decide | omega)) pass0 (pa_cons (xv 4) (pa_cons (xv 5) pa_nil))) (pa_cons (pe_callB (c_max2 rfl) (by rfl) T.b_max bt_max (pa_cons (pe_un o_neg pe_int) (pa_cons (pe_callB (c_min2 rfl) (by rfl) T.b_min bt_min (pa_cons pe_int (pa_cons (xv 8) pa_nil))) pa_nil))) pa_nil))))))))) (pss_one (ps_ret pe_bl)) pss_nil) (pss_cons (xs_if (pt_jn (PW.pt (xw_or (xt_not (y_tru K (xe_call G__law_same (hr.mono (by first | decide | omega)) pass0 (pa_cons (xe_call G_sign (hr.mono (by first | decide | omega)) pass0 (pa_cons (xv 4) pa_nil)) (pa_cons (xe_if (xt_cmp o_gt (xv 4) pe_int (nomark _)) pe_int (xe_if (xt_cmp o_lt (xv 4) pe_int (nomark _)) (pe_un o_neg pe_int) pe_int)) pa_nil))))) (xw_or1 (xt_not (y_tru K (xe_call G__law_same (hr.mono (by first | decide | omega)) pass0 (pa_cons (xe_call G_cell_of (hr.mono (by first | decide | omega)) pass0 (pa_cons (xv 4) pa_nil)) (pa_cons (pe_op o_div (xv 4) pe_int) pa_nil))))))))) (pss_one (ps_ret pe_bl)) pss_nil) (pss_cons (xs_set (i := 9) sc_law.nd rfl (xe_call G_toward (hr.mono (by first | decide | omega)) pass0 (pa_cons (xv 4) (pa_cons (xv 5) (pa_cons (xv 6) pa_nil))))) (pss_cons (xs_if (pt_jn (PW.pt (xw_or (PW.pt (xw_and (xt_cmp o_le (xv 6) pe_int (nomark _)) (xw_and1 (xt_cmp (y_ne K hr.units) (xv 9) (xv 4) (nomark _))))) (xw_or1 (PW.pt (xw_and (xt_cmp o_gt (xv 6) pe_int (nomark _)) (xw_and1 (xt_not (y_tru K (xe_call G__law_same (hr.mono (by first | decide | omega)) pass0 (pa_cons (xv 9) (pa_cons (xe_if (xt_cmp o_le (pe_callB c_abs (by rfl) T.b_abs bt_abs (pa_cons (pe_op o_sub (xv 4) (xv 5)) pa_nil)) (xv 6) (nomark _)) (xv 5) (xe_if (xt_cmp o_gt (xv 5) (xv 4) (nomark _)) (pe_op (y_add K) (xv 4) (xv 6)) (pe_op o_sub (xv 4) (xv 6)))) pa_nil)))))))))))) (pss_one (ps_ret pe_bl)) pss_nil) (pss_cons (xs_set (i := 10) sc_law.nd rfl (xe_call G__law_draw (hr.mono (by first | decide | omega)) pass0 (pa_cons (xv 1) (pa_cons pe_int pa_nil)))) (pss_cons (xs_set (i := 11) sc_law.nd rfl (xe_call G_between (hr.mono (by first | decide | omega)) pass0 (pa_cons (xv 4) (pa_cons (xv 5) (pa_cons (xv 10) pa_nil))))) (pss_cons (xs_if (PW.pt (xw_or (xt_not (y_tru K (xe_call G__law_same (hr.mono (by first | decide | omega)) pass0 (pa_cons (xe_chain o_le o_lt (pe_op o_mul pe_int (xv 11)) (pe_op (y_add K) (pe_op o_mul pe_int (xv 4)) (pe_op o_mul (pe_op o_sub (xv 5) (xv 4)) (xv 10))) (pe_op (y_add K) (pe_op o_mul pe_int (xv 11)) pe_int)) (pa_cons pe_bl pa_nil))))) (xw_or (xt_cmp (y_ne K hr.units) (xe_call G_between (hr.mono (by first | decide | omega)) pass0 (pa_cons (xv 4) (pa_cons (xv 5) (pa_cons pe_int pa_nil)))) (xv 4) (nomark _)) (xw_or1 (xt_cmp (y_ne K hr.units) (xe_call G_between (hr.mono (by first | decide | omega)) pass0 (pa_cons (xv 4) (pa_cons (xv 5) (pa_cons pe_int pa_nil)))) (xv 5) (nomark _)))))) (pss_one (ps_ret pe_bl)) pss_nil) (pss_cons (xs_par (i := 12) (j := 13) (by rfl) sc_law.nd rfl rfl (by decide) rfl rfl (pa_cons (xe_call G_root (hr.mono (by first | decide | omega)) pass0 (pa_cons (pe_callB c_abs (by rfl) T.b_abs bt_abs (pa_cons (pe_op o_mul (xv 4) (xv 5)) pa_nil)) pa_nil)) (pa_cons (xe_call G_far (hr.mono (by first | decide | omega)) pass0 (pa_cons (xv 6) (pa_cons (xv 4) pa_nil))) pa_nil)) (by rfl)) (pss_cons (xs_if (PW.pt (xw_or (xt_not (y_tru K (xe_call G__law_same (hr.mono (by first | decide | omega)) pass0 (pa_cons (xe_chain o_le o_lt (pe_op o_mul (xv 12) (xv 12)) (pe_callB c_abs (by rfl) T.b_abs bt_abs (pa_cons (pe_op o_mul (xv 4) (xv 5)) pa_nil)) (pe_op o_mul (pe_op (y_add K) (xv 12) pe_int) (pe_op (y_add K) (xv 12) pe_int))) (pa_cons pe_bl pa_nil))))) (xw_or (xt_cmp (y_ne K hr.units) (xe_call G_root (hr.mono (by first | decide | omega)) pass0 (pa_cons (pe_un o_neg (pe_callB c_abs (by rfl) T.b_abs bt_abs (pa_cons (xv 4) pa_nil))) pa_nil)) pe_int (nomark _)) (xw_or1 (xt_not (y_tru K (xe_call G__law_same (hr.mono (by first | decide | omega)) pass0 (pa_cons (xe_chain o_le o_lt (pe_op o_mul (xv 13) (xv 13)) (pe_op (y_add K) (pe_op o_mul (xv 6) (xv 6)) (pe_op o_mul (xv 4) (xv 4))) (pe_op o_mul (pe_op (y_add K) (xv 13) pe_int) (pe_op (y_add K) (xv 13) pe_int))) (pa_cons pe_bl pa_nil))))))))) (pss_one (ps_ret pe_bl)) pss_nil) (pss_cons (ps_asg (xe_call G_cells (hr.mono (by first | decide | omega)) pass0 (pa_cons (xv 4) (pa_cons (xv 6) pa_nil))) (y_gtup K rfl (xgs_cons (xg (i := 14) sc_law.nd rfl) (xgs_cons (xg (i := 15) sc_law.nd rfl) xgs_nil)))) (pss_cons (xs_if (pt_jn (PW.pt (xw_or (xt_cmp (y_ne K hr.units) (xv 14) (pe_op o_div (xv 4) pe_int) (nomark _)) (xw_or1 (xt_cmp (y_ne K hr.units) (xv 15) (pe_op o_div (pe_op o_sub (pe_op (y_add K) (xv 4) (xe_if (xt_cmp o_gt (xv 6) pe_int (nomark _)) (xv 6) pe_int)) pe_int) pe_int) (nomark _)))))) (pss_one (ps_ret pe_bl)) pss_nil) (pss_cons (ps_asg (xe_call G_angle_steps (hr.mono (by first | decide | omega)) pass0 (pa_cons (xv 4) pa_nil)) (y_gtup K rfl (xgs_cons (xg (i := 16) sc_law.nd rfl) (xgs_cons (xg (i := 17) sc_law.nd rfl) xgs_nil)))) (pss_cons (xs_set (i := 18) sc_law.nd rfl (xe_call G_angle_steps (hr.mono (by first | decide | omega)) pass0 (pa_cons (pe_op (y_add K) (xv 4) pe_int) pa_nil))) (pss_cons (xs_if (pt_jn (PW.pt (xw_or (pt_gc (xt_cmp (y_ne K hr.units) (xv 18) (xe_tup (pa_cons (pe_un o_neg (xv 17)) (pa_cons (xv 16) pa_nil))) (nomark _))) (xw_or (pt_gc (xt_cmp (y_ne K hr.units) (xe_call G_angle_steps (hr.mono (by first | decide | omega)) pass0 (pa_cons (pe_op (y_add K) (xv 4) pe_int) pa_nil)) (xe_tup (pa_cons (xv 16) (pa_cons (xv 17) pa_nil))) (nomark _))) (xw_or (PW.pt (xw_and (xt_cmp (y_eq K hr.units) (pe_op o_mod (pe_callTy c_int1 (by rfl) T.b_int bt_int (pa_cons (xv 4) pa_nil)) pe_int) pe_int (nomark _)) (xw_and1 (pt_gc (xt_cmp (y_ne K hr.units) (xe_tup (pa_cons (xv 16) (pa_cons (xv 17) pa_nil))) (xe_tup (pa_cons pe_int (pa_cons pe_int pa_nil))) (nomark _)))))) (xw_or1 (PW.pt (xw_and (xt_cmp (y_eq K hr.units) (pe_op o_mod (pe_callTy c_int1 (by rfl) T.b_int bt_int (pa_cons (xv 4) pa_nil)) pe_int) pe_int (nomark _)) (xw_and1 (pt_gc (xt_cmp (y_ne K hr.units) (xe_tup (pa_cons (xv 16) (pa_cons (xv 17) pa_nil))) (xe_tup (pa_cons pe_int (pa_cons pe_int pa_nil))) (nomark _)))))))))))) (pss_one (ps_ret pe_bl)) pss_nil) (pss_cons (xs_set (i := 19) sc_law.nd rfl (pe_op o_mod (pe_callTy c_int1 (by rfl) T.b_int bt_int (pa_cons (xv 4) pa_nil)) pe_int)) (pss_one (xs_if (pt_jn (xt_not (y_tru K (xe_call G__law_same (hr.mono (by first | decide | omega)) pass0 (pa_cons (xe_call G_wave (hr.mono (by first | decide | omega)) pass0 (pa_cons (xv 4) pa_nil)) (pa_cons (xe_if (xt_cmp o_lt (xv 19) pe_int (nomark _)) (pe_op o_mul pe_int (xv 19)) (pe_op o_sub pe_int (pe_op o_mul pe_int (xv 19)))) pa_nil)))))) (pss_one (ps_ret pe_bl)) pss_nil)))))))))))))))))))))) PassesOwn.never) (pss_one (ps_ret pe_bl))))), ?_⟩
  walk_at "g"
  intro m m0 m1
  rename_i l hl st hst hne
  walk_at "g"
  refine lp_i (fun i σ H' => ∃ c p m, (0 ≤ c ∧ 0 ≤ p ∧ 0 ≤ m ∧ m < 2147483647) ∧ H' = upd (upd H l (.lst (ns.map V.int))) st (strm l c p m) ∧ ∃ z2 z3 z4 z5 z6 z7 z8 z9 z10 z11 z12 z13 z14 z15 z16 z17 z18 z19 : Option V, σ = [some (.ref a), some (.ref st), z2, z3, z4, z5, z6, z7, z8, z9, z10, z11, z12, z13, z14, z15, z16, z17, z18, z19])
    ⟨0, 0, m, ⟨by omega, by omega, by omega, by omega⟩, rfl, _, _, _, _, _, _, _, _, _, _, _, _, _, _, _, _, _, _, rfl⟩ (fun _ _ _ _ => trivial) ?_ ?_
  · rintro i x σ H' hi ⟨c, p, m, hb, rfl, z2, z3, z4, z5, z6, z7, z8, z9, z10, z11, z12, z13, z14, z15, z16, z17, z18, z19, rfl⟩
    clear hi
    have hl' : upd H l (.lst (ns.map V.int)) l = some (.lst (ns.map V.int)) := upd_same
    have cl' : Cln (upd H l (.lst (ns.map V.int))) := cl.upd rfl
    have hs' : upd H l (.lst (ns.map V.int)) st = none := by rw [upd_ne hne]; exact hst
    generalize upd H l (.lst (ns.map V.int)) = H0 at *
    walk_at "g"
    walk_at "dr"
    intro v c p m v0 v1 hb x1 hx
    obtain ⟨most, rfl, hm0, hm1⟩ : ∃ most, x1 = V.int most ∧ 5 ≤ most ∧ most ≤ 3000000000 := by
      have := List.mem_of_getElem? hx
      simp only [List.mem_cons, List.not_mem_nil, or_false] at this
      rcases this with h | h | h | h <;> exact ⟨_, h, by decide, by decide⟩
    clear hx v0 v1
    walk_at "g"
    walk_at "dr"
    intro v1 c p m v10 v11 hb
    walk_at "g"
    walk_at "dr"
    intro v2 c p m v20 v21 hb
    walk_at "g"
    walk_at "dr"
    intro v3 c p m v30 v31 hb
    walk_at "g"
    have hA : -3000000000 ≤ v1 - most ∧ v1 - most < 3000000000 := by omega
    have hB : -3000000000 ≤ v2 - most ∧ v2 - most < 3000000000 := by omega
    have hC : -3 ≤ v3 - 3 ∧ v3 - 3 < 3000000000 - 3 := by omega
    generalize v1 - most = A at hA ⊢
    generalize v2 - most = B at hB ⊢
    generalize v3 - 3 = C at hC ⊢
    obtain ⟨hA0, hA1⟩ := hA
    obtain ⟨hB0, hB1⟩ := hB
    obtain ⟨hC0, hC1⟩ := hC
    refine ⟨.int (if B = 0 then 0 else (A * 256).fdiv B), ?_, ?_⟩
    · walk_at "g"
      refine br_nd (fun h => ?_) (fun h => ?_)
      · walk_at "g"
        exact ⟨by rw [if_neg h], rfl⟩
      · walk_at "g"
        exact ⟨by rw [if_pos h], rfl⟩
    walk_at "g"
    refine sameD_int (by walk_at "cln") rfl (by decide) ?_
    walk_at "g"
    refine sameD_int (by walk_at "cln") rfl (by decide) ?_
    walk_at "g"
    refine sameD_int (by walk_at "cln") (by split <;> rfl) (by decide) ?_
    walk_at "g"
    refine ⟨false, ?_, ?_⟩
    · walk_at "g"
      refine br_d (p := 0 < A) (fun h => ?_) (fun h => ?_)
      · walk_at "g"
        refine sameD_int (by walk_at "cln") (by rw [if_neg (by omega), if_pos h]) (by decide) ?_
        walk_at "g"
        refine sameD_int (by walk_at "cln") rfl (by decide) ?_
        walk_at "g"
        exact ⟨rfl, rfl⟩
      · walk_at "g"
        refine br_d (p := A < 0) (fun h2 => ?_) (fun h2 => ?_)
        · walk_at "g"
          refine sameD_int (by walk_at "cln") (by rw [if_pos h2]) (by decide) ?_
          walk_at "g"
          refine sameD_int (by walk_at "cln") rfl (by decide) ?_
          walk_at "g"
          exact ⟨rfl, rfl⟩
        · walk_at "g"
          refine sameD_int (by walk_at "cln") (by rw [if_neg h2, if_neg h]) (by decide) ?_
          walk_at "g"
          refine sameD_int (by walk_at "cln") rfl (by decide) ?_
          walk_at "g"
          exact ⟨rfl, rfl⟩
    walk_at "g"
    generalize hS : (if C ≤ 0 then A else if A < B then min B (A + C) else max B (A - C)) = S
    refine ⟨false, ?_, ?_⟩
    · walk_at "g"
      refine br_d (p := C ≤ 0) (fun h => ?_) (fun h => ?_)
      · rw [if_pos h] at hS
        walk_at "g"
        refine br_ndf hS.symm ?_
        walk_at "g"
        refine br_df (p := 0 < C) (by omega) ?_
        walk_at "g"
        exact ⟨rfl, rfl⟩
      · rw [if_neg h] at hS
        walk_at "g"
        refine br_dt (p := 0 < C) (by omega) ?_
        walk_at "g"
        refine br_d (p := ((A - B).natAbs : Int) ≤ C) (fun h2 => ?_) (fun h2 => ?_)
        · walk_at "g"
          refine sameD_int (by walk_at "cln") (by split at hS <;> omega) (by decide) ?_
          walk_at "g"
          exact ⟨rfl, rfl⟩
        · walk_at "g"
          refine br_d (p := A < B) (fun h3 => ?_) (fun h3 => ?_)
          · walk_at "g"
            refine sameD_int (by walk_at "cln") (by rw [if_pos h3] at hS; omega) (by decide) ?_
            walk_at "g"
            exact ⟨rfl, rfl⟩
          · walk_at "g"
            refine sameD_int (by walk_at "cln") (by rw [if_neg h3] at hS; omega) (by decide) ?_
            walk_at "g"
            exact ⟨rfl, rfl⟩
    walk_at "g"
    walk_at "dr"
    intro pt c p m pt0 pt1 hb
    walk_at "g"
    refine br_dt (p := 256 * (A + (B - A) * pt / 256) ≤ 256 * A + (B - A) * pt) (by omega) ?_
    walk_at "g"
    refine sameD_bl (by walk_at "cln") (decide_eq_true (by omega)) (by decide) ?_
    walk_at "g"
    refine br_ndf (by omega) ?_
    walk_at "g"
    refine br_ndf (by omega) ?_
    have hAB : (((A * B).natAbs : Nat) : Int) < 2 ^ 64 := by
      have := mul_le (m := 3000000000) (a := A) (b := B) (by omega) (by omega)
      omega
    have hCA : (-(2 ^ 64) < C ∧ C < 2 ^ 64) ∧ (-(2 ^ 64) < A ∧ A < 2 ^ 64) ∧ C * C + A * A < 2 ^ 64 := by
      have h1 := sq_le (m := 3000000000) (a := A) (by omega)
      have h2 := sq_le (m := 3000000000) (a := C) (by omega)
      exact ⟨by omega, by omega, by omega⟩
    walk_at "g"
    obtain ⟨s0, s1, s2⟩ := rootF_spec (n := ((A * B).natAbs : Int)) (by omega)
    have s3 := root_small s0 s1 hAB
    have hsq : 0 ≤ C * C + A * A := by
      have h1 := sq_le (m := 3000000000) (a := A) (by omega)
      have h2 := sq_le (m := 3000000000) (a := C) (by omega)
      omega
    obtain ⟨w0, w1, w2⟩ := rootF_spec (n := C * C + A * A) hsq
    have w3 := root_small w0 w1 hCA.2.2
    generalize rootF ((A * B).natAbs : Int) = S1 at *
    generalize rootF (C * C + A * A) = W1 at *
    walk_at "g"
    refine br_dt (p := S1 * S1 ≤ ((A * B).natAbs : Int)) s1 ?_
    walk_at "g"
    refine sameD_bl (by walk_at "cln") (decide_eq_true s2) (by decide) ?_
    walk_at "g"
    refine br_ndf (by unfold rootF; rw [if_pos (by omega)]) ?_
    walk_at "g"
    refine br_dt (p := W1 * W1 ≤ C * C + A * A) w1 ?_
    walk_at "g"
    refine sameD_bl (by walk_at "cln") (decide_eq_true w2) (by decide) ?_
    walk_at "g"
    refine ⟨false, ?_, ?_⟩
    · walk_at "g"
      refine br_ndf rfl ?_
      walk_at "g"
      refine br_d (p := 1 < C) (fun h => ?_) (fun h => ?_)
      · walk_at "g"
        exact ⟨nd_f (by omega), rfl⟩
      · walk_at "g"
        exact ⟨nd_f (by omega), rfl⟩
    walk_at "g"
    rw [(ang2 A).1, (ang2 A).2]
    refine ⟨false, ?_, ?_⟩
    · walk_at "g"
      refine eqD_r (d := .tuple [.int (-angY A), .int (angX A)]) (by walk_at "dp") (by walk_at "dp") rfl ?_
      walk_at "g"
      rw [(ang8 A).1, (ang8 A).2]
      refine eqD_r (d := .tuple [.int (angX A), .int (angY A)]) (by walk_at "dp") (by walk_at "dp") rfl ?_
      walk_at "g"
      refine br_d (p := A % 8 = 1) (fun h => ?_) (fun h => ?_)
      · have e := ang_mod (a := A) (b := 1) h
        rw [e.1, e.2]
        walk_at "g"
        refine eqD_r (d := .tuple [.int 1, .int 1]) (by walk_at "dp") (by walk_at "dp") rfl ?_
        walk_at "g"
        refine br_df (p := A % 8 = 0) (by omega) ?_
        walk_at "g"
        exact ⟨rfl, rfl⟩
      · walk_at "g"
        refine br_d (p := A % 8 = 0) (fun h => ?_) (fun h => ?_)
        · have e := ang_mod (a := A) (b := 0) h
          rw [e.1, e.2]
          walk_at "g"
          refine eqD_r (d := .tuple [.int 1, .int 0]) (by walk_at "dp") (by walk_at "dp") rfl ?_
          walk_at "g"
          exact ⟨rfl, rfl⟩
        · walk_at "g"
          exact ⟨rfl, rfl⟩
    walk_at "g"
    refine ⟨false, ?_, ?_⟩
    · walk_at "g"
      refine br_d (p := A % 256 < 128) (fun h => ?_) (fun h => ?_)
      · walk_at "g"
        refine sameD_int (by walk_at "cln") (by rw [if_pos h]) (by decide) ?_
        walk_at "g"
        exact ⟨rfl, rfl⟩
      · walk_at "g"
        refine sameD_int (by walk_at "cln") (by rw [if_neg h]; omega) (by decide) ?_
        walk_at "g"
        exact ⟨rfl, rfl⟩
    walk_at "g"
    exact ⟨c, p, m, hb, rfl, _, _, _, _, _, _, _, _, _, _, _, _, _, _, _, _, _, _, rfl⟩
  · rintro σ H' ⟨c, p, m, hb, rfl, z2, z3, z4, z5, z6, z7, z8, z9, z10, z11, z12, z13, z14, z15, z16, z17, z18, z19, rfl⟩
    walk_at "g"
    exact k _
end
end FX

open PySem PySem.W PyProof.Rows in
set_option maxRecDepth 100000 in
set_option maxHeartbeats 0 in
theorem PySem.Challenge.cw_steadyticks_k01_numbers_and_lengths_holds : PySem.Challenge.rw_steadyticks_k01_numbers_and_lengths.Holds := by
  w_on; o_law; k_head; (case hw => w_witness2)
  k_fill
  refine FX.law_walk (l := PySem.Challenge.rw_steadyticks_k01_numbers_and_lengths) (CX := (fun _ => L2.CX0)) (k := 5) (st := FX.s_law) (qual := "law") rfl rfl ⟨rfl, by decide, by decide⟩ (fun w h Y => PySem.W.kIn_of Y) (fun _ _ _ _ _ _ us hl => match us, hl with | [_], _ => rfl) ?F (fun _ _ _ _ _ z => z)
  case F =>
    intro w mg h KX G GX
    have c_LIMIT : FX.ConstAt mg "LIMIT" (.int 1000000000) := FX.const_loose GX (by decide +kernel)
    have c_UNIT : FX.ConstAt mg "UNIT" (.int 256) := by
      refine' FX.constAt_mk KX G ?a_UNIT ?r_UNIT
      (case a_UNIT => k_is)
      (case r_UNIT => exact ⟨_, rfl⟩)
    have b_abs : mg "abs" = none := PySem.W.mg_none_of KX G (by k_is)
    have b_all : mg "all" = none := PySem.W.mg_none_of KX G (by k_is)
    have b_bool : mg "bool" = none := PySem.W.mg_none_of KX G (by k_is)
    have b_int : mg "int" = none := PySem.W.mg_none_of KX G (by k_is)
    have b_isinstance : mg "isinstance" = none := PySem.W.mg_none_of KX G (by k_is)
    have f_isqrt : mg "isqrt" = some (.builtin "math.isqrt") := PySem.W.mg_of KX G (by k_is)
    have b_len : mg "len" = none := PySem.W.mg_none_of KX G (by k_is)
    have b_list : mg "list" = none := PySem.W.mg_none_of KX G (by k_is)
    have b_max : mg "max" = none := PySem.W.mg_none_of KX G (by k_is)
    have b_min : mg "min" = none := PySem.W.mg_none_of KX G (by k_is)
    have b_range : mg "range" = none := PySem.W.mg_none_of KX G (by k_is)
    have b_str : mg "str" = none := PySem.W.mg_none_of KX G (by k_is)
    have b_tuple : mg "tuple" = none := PySem.W.mg_none_of KX G (by k_is)
    have d_held := FX.defAt_mk (x := "held") (qual := "held") (st := FX.s_held) KX G (by k_is) (by k_is) (by k_is) (by k_is)
    have d_times := FX.defAt_mk (x := "times") (qual := "times") (st := FX.s_times) KX G (by k_is) (by k_is) (by k_is) (by k_is)
    have d_over := FX.defAt_mk (x := "over") (qual := "over") (st := FX.s_over) KX G (by k_is) (by k_is) (by k_is) (by k_is)
    have d_sign := FX.defAt_mk (x := "sign") (qual := "sign") (st := FX.s_sign) KX G (by k_is) (by k_is) (by k_is) (by k_is)
    have d_toward := FX.defAt_mk (x := "toward") (qual := "toward") (st := FX.s_toward) KX G (by k_is) (by k_is) (by k_is) (by k_is)
    have d_between := FX.defAt_mk (x := "between") (qual := "between") (st := FX.s_between) KX G (by k_is) (by k_is) (by k_is) (by k_is)
    have d_root := FX.defAt_mk (x := "root") (qual := "root") (st := FX.s_root) KX G (by k_is) (by k_is) (by k_is) (by k_is)
    have d_far := FX.defAt_mk (x := "far") (qual := "far") (st := FX.s_far) KX G (by k_is) (by k_is) (by k_is) (by k_is)
    have d_cell_of := FX.defAt_mk (x := "cell_of") (qual := "cell_of") (st := FX.s_cell_of) KX G (by k_is) (by k_is) (by k_is) (by k_is)
    have d_cells := FX.defAt_mk (x := "cells") (qual := "cells") (st := FX.s_cells) KX G (by k_is) (by k_is) (by k_is) (by k_is)
    have d_angle_steps := FX.defAt_mk (x := "angle_steps") (qual := "angle_steps") (st := FX.s_angle_steps) KX G (by k_is) (by k_is) (by k_is) (by k_is)
    have d_wave := FX.defAt_mk (x := "wave") (qual := "wave") (st := FX.s_wave) KX G (by k_is) (by k_is) (by k_is) (by k_is)
    have d__law_stream := FX.defAt_mk (x := "_law_stream") (qual := "_law_stream") (st := FX.s__law_stream) KX G (by k_is) (by k_is) (by k_is) (by k_is)
    have d__law_draw := FX.defAt_mk (x := "_law_draw") (qual := "_law_draw") (st := FX.s__law_draw) KX G (by k_is) (by k_is) (by k_is) (by k_is)
    have d__law_pick := FX.defAt_mk (x := "_law_pick") (qual := "_law_pick") (st := FX.s__law_pick) KX G (by k_is) (by k_is) (by k_is) (by k_is)
    have d__law_same := FX.defAt_mk (x := "_law_same") (qual := "_law_same") (st := FX.s__law_same) KX G (by k_is) (by k_is) (by k_is) (by k_is)
    have d_law := FX.defAt_mk (x := "law") (qual := "law") (st := FX.s_law) KX G (by k_is) (by k_is) (by k_is) (by k_is)
    have T : FX.Txt (L2.KOf KX) mg := ⟨c_LIMIT, c_UNIT, b_abs, b_all, b_bool, b_int, b_isinstance, f_isqrt, b_len, b_list, b_max, b_min, b_range, b_str, b_tuple, d_held, d_times, d_over, d_sign, d_toward, d_between, d_root, d_far, d_cell_of, d_cells, d_angle_steps, d_wave, d__law_stream, d__law_draw, d__law_pick, d__law_same, d_law⟩
    exact ⟨d_law, fun base _ _ f fd F => FX.ok_law T F⟩
#print axioms PySem.Challenge.cw_steadyticks_k01_numbers_and_lengths_holds
