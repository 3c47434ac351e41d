import PyProof.Rows.All
import Wide.All
import OpenK.AllK
import Wide.FinOn
import HandS.ForMost
import HandS.Wide
import HandS.TupAny
import HandS.IsInst
import HandS.OwnEq
import HandS.MakeKwOnly
import HandS.Evl
import HandS.Codes
import PyProof.InstNe
import KE.DataEq
import PySem.Challenge.RW_roomleft_k65_verdict_objects
set_option Elab.async false
set_option linter.all false
set_option maxRecDepth 100000
set_option maxHeartbeats 4000000
set_option autoImplicit false
namespace My
open PySem L2
/-! promises by the number of arguments -/
def Sp0 (f : Hp → VK → XK → Prop) : Sp := fun vs H Q E => vs = [] ∧ f H Q E
def Sp1 (f : V → Hp → VK → XK → Prop) : Sp := fun vs H Q E => ∃ a, vs = [a] ∧ f a H Q E
def Sp2 (f : V → V → Hp → VK → XK → Prop) : Sp := fun vs H Q E => ∃ a b, vs = [a, b] ∧ f a b H Q E
def Sp3 (f : V → V → V → Hp → VK → XK → Prop) : Sp := fun vs H Q E => ∃ a b c, vs = [a, b, c] ∧ f a b c H Q E
def Sp4 (f : V → V → V → V → Hp → VK → XK → Prop) : Sp := fun vs H Q E => ∃ a b c d, vs = [a, b, c, d] ∧ f a b c d H Q E
def Sp5 (f : V → V → V → V → V → Hp → VK → XK → Prop) : Sp := fun vs H Q E => ∃ a b c d e, vs = [a, b, c, d, e] ∧ f a b c d e H Q E
def Sp6 (f : V → V → V → V → V → V → Hp → VK → XK → Prop) : Sp := fun vs H Q E => ∃ a b c d e g, vs = [a, b, c, d, e, g] ∧ f a b c d e g H Q E
section
variable {vs : List V} {H : Hp} {Q : VK} {E : XK}
theorem sp1_len {f : V → Hp → VK → XK → Prop} (h : Sp1 f vs H Q E) : vs.length = 1 := by obtain ⟨_, rfl, _⟩ := h; rfl
theorem sp2_len {f : V → V → Hp → VK → XK → Prop} (h : Sp2 f vs H Q E) : vs.length = 2 := by obtain ⟨_, _, rfl, _⟩ := h; rfl
theorem sp3_len {f : V → V → V → Hp → VK → XK → Prop} (h : Sp3 f vs H Q E) : vs.length = 3 := by obtain ⟨_, _, _, rfl, _⟩ := h; rfl
theorem sp4_len {f : V → V → V → V → Hp → VK → XK → Prop} (h : Sp4 f vs H Q E) : vs.length = 4 := by obtain ⟨_, _, _, _, rfl, _⟩ := h; rfl
theorem sp5_len {f : V → V → V → V → V → Hp → VK → XK → Prop} (h : Sp5 f vs H Q E) : vs.length = 5 := by obtain ⟨_, _, _, _, _, rfl, _⟩ := h; rfl
theorem sp6_len {f : V → V → V → V → V → V → Hp → VK → XK → Prop} (h : Sp6 f vs H Q E) : vs.length = 6 := by obtain ⟨_, _, _, _, _, _, rfl, _⟩ := h; rfl
theorem sp1_of {f : V → Hp → VK → XK → Prop} (h : Sp1 f vs H Q E) : ∃ a, vs = [a] ∧ f a H Q E := h
theorem sp2_of {f : V → V → Hp → VK → XK → Prop} (h : Sp2 f vs H Q E) : ∃ a b, vs = [a, b] ∧ f a b H Q E := h
theorem sp3_of {f : V → V → V → Hp → VK → XK → Prop} (h : Sp3 f vs H Q E) : ∃ a b c, vs = [a, b, c] ∧ f a b c H Q E := h
theorem sp4_of {f : V → V → V → V → Hp → VK → XK → Prop} (h : Sp4 f vs H Q E) : ∃ a b c d, vs = [a, b, c, d] ∧ f a b c d H Q E := h
theorem sp5_of {f : V → V → V → V → V → Hp → VK → XK → Prop} (h : Sp5 f vs H Q E) : ∃ a b c d e, vs = [a, b, c, d, e] ∧ f a b c d e H Q E := h
theorem sp6_of {f : V → V → V → V → V → V → Hp → VK → XK → Prop} (h : Sp6 f vs H Q E) : ∃ a b c d e g, vs = [a, b, c, d, e, g] ∧ f a b c d e g H Q E := h
end
/-! the drawing state: the list at p, the script's copy at l, its numbers -/
structure Dr where
  p : Addr
  l : Addr
  ns : List Int
/-- all that is tracked stands, but the state itself -/
def Chg (d : Dr) (H H' : Hp) : Prop := ∀ b o, b ≠ d.p → H b = some o → H' b = some o
section
variable {d : Dr} {H H1 H2 H' : Hp} {q : Addr} {o : HO}
theorem Chg.refl : Chg d H H := fun _ _ _ e => e
theorem Chg.trans (a : Chg d H H1) (b : Chg d H1 H2) : Chg d H H2 := fun c o n e => b c o n (a c o n e)
theorem Chg.upd : Chg d H (upd H d.p o) := fun b u n e => by rw [upd_ne n]; exact e
theorem Chg.new (h : H q = none) : Chg d H (L2.upd H q o) := fun b u n e => by rw [upd_ne (ne_of_none e h)]; exact e
theorem Chg.same (h : Same H H') : Chg d H H' := fun b u _ e => h b u e
/-- a thing that was new, changed -/
theorem Chg.mut (e : Chg d H H') (h : H q = none) : Chg d H (L2.upd H' q o) := fun b u n k => by rw [upd_ne (ne_of_none k h)]; exact e b u n k
end
structure RngL (H : Hp) (d : Dr) (i : Nat) (c s : Int) : Prop where
  pl : d.l ≠ d.p
  st : H d.p = some (.lst [.ref d.l, .int i, .int c, .int s])
  ls : H d.l = some (.lst (d.ns.map V.int))
  hi : i ≤ d.ns.length
  hn : d.ns.length ≤ 63
  hc : 0 ≤ c
  hs : 0 ≤ s
  hs2 : s < 2147483647
def Rng (d : Dr) (H : Hp) : Prop := ∃ i c s, RngL H d i c s
theorem RngL.set {H : Hp} {d : Dr} {i : Nat} {c s : Int} (r : RngL H d i c s) {j : Nat} {x t : Int} (hj : j ≤ d.ns.length) (hx : 0 ≤ x) (ht : 0 ≤ t) (ht2 : t < 2147483647) :
    RngL (upd H d.p (.lst [.ref d.l, .int j, .int x, .int t])) d j x t := ⟨r.pl, upd_same, by rw [upd_ne r.pl]; exact r.ls, hj, r.hn, hx, ht, ht2⟩
section
variable {d : Dr} {H H' : Hp} {q : Addr} {o : HO}
theorem Rng.atp (r : Rng d H) : ∃ xs, H d.p = some (.lst xs) ∧ xs.length = 4 := by
  obtain ⟨i, c, s, r⟩ := r
  exact ⟨_, r.st, rfl⟩
theorem Rng.atl (r : Rng d H) : H d.l = some (.lst (d.ns.map V.int)) := by
  obtain ⟨i, c, s, r⟩ := r
  exact r.ls
/-- something else is changed -/
theorem Rng.put (r : Rng d H) (h1 : q ≠ d.p) (h2 : q ≠ d.l) : Rng d (upd H q o) := by
  obtain ⟨i, c, s, r⟩ := r
  exact ⟨i, c, s, r.pl, by rw [upd_ne h1.symm]; exact r.st, by rw [upd_ne h2.symm]; exact r.ls, r.hi, r.hn, r.hc, r.hs, r.hs2⟩
theorem Rng.nep (r : Rng d H) (h : H q = none) : q ≠ d.p := fun z => by
  obtain ⟨xs, e, _⟩ := r.atp
  rw [← z, h] at e
  cases e
theorem Rng.nel (r : Rng d H) (h : H q = none) : q ≠ d.l := fun z => by
  have e := r.atl
  rw [← z, h] at e
  cases e
theorem Rng.new (r : Rng d H) (h : H q = none) : Rng d (upd H q o) := r.put (r.nep h) (r.nel h)
theorem Rng.same (r : Rng d H) (e : Same H H') : Rng d H' := by
  obtain ⟨i, c, s, r⟩ := r
  exact ⟨i, c, s, r.pl, e _ _ r.st, e _ _ r.ls, r.hi, r.hn, r.hc, r.hs, r.hs2⟩
/-- what was free stays apart from the state -/
theorem Chg.free (e : Chg d H H') (n : q ≠ d.p) (h : H' q = none) : H q = none := by
  cases z : H q with
  | none => rfl
  | some o => rw [e q o n z] at h; cases h
end
theorem ne_lst {H : Hp} {p q : Addr} {xs : List V} {o : HO} (h : H p = some (.lst xs)) (h2 : H q = some o) (d : ∀ ys, o ≠ .lst ys) : q ≠ p := fun z => by
  rw [z, h] at h2
  exact d xs (Option.some.inj h2).symm
theorem pos_ {n : Int} (h : 0 < n) : 0 < n := h
theorem heap_gen {G : Hp → Prop} {H0 : Hp} (C : Hp → Prop) (h : C H0) (k : ∀ H1, C H1 → G H1) : G H0 := k _ h
/-! the script -/
theorem start_seq {K : PySem.W.Frag} {H : Hp} {a : Addr} {xs : List V} (h : SqL K H a xs) : SqL K H a xs := h
def sp_law0 (K : PySem.W.Frag) : Sp := Sp1 fun a H Q _ => ∃ (l : Addr) (ns : List Int), a = .ref l ∧ SqL K H l (ns.map V.int) ∧ ns.length ≤ 63 ∧ ∀ H', Q (.bl true) H'
def sp_start (K : PySem.W.Frag) : Sp := Sp1 fun a H Q _ => ∃ (l : Addr) (ns : List Int), a = .ref l ∧ SqL K H l (ns.map V.int) ∧ ns.length ≤ 63 ∧
  ∀ (d : Dr) H', H d.p = none → H d.l = none → Same H H' → Rng d H' → Q (.ref d.p) H'
def sp_pull : Sp := Sp2 fun a b H Q _ => ∃ (d : Dr) (many : Int), a = .ref d.p ∧ b = .int many ∧ Rng d H ∧ 0 < many ∧ many.natAbs.log2 < 9000 ∧
  ∀ (v : Int) H', 0 ≤ v → v < many → Chg d H H' → Rng d H' → Q (.int v) H'
theorem kit_self {K : PySem.W.Frag} {C : Addr} : PySem.W.kitOne K (.ref C) (.ref C) = some true := by
  unfold PySem.W.kitOne
  rw [if_pos (by simp)]
theorem small_log {n : Int} (h0 : 0 < n) (h : n < 1000000000) : n.natAbs.log2 < 9000 := by
  have e : n.natAbs < 2 ^ 30 := by omega
  have := (Nat.log2_lt (by omega)).mpr e
  omega
end My

namespace My
open PySem L2
/-- every tracked tuple stands -/
def TupKeep (H H' : Hp) : Prop := ∀ b xs, H b = some (.tup xs) → H' b = some (.tup xs)
theorem TupKeep.refl {H : Hp} : TupKeep H H := fun _ _ e => e
theorem TupKeep.trans {H H1 H2 : Hp} (a : TupKeep H H1) (b : TupKeep H1 H2) : TupKeep H H2 := fun c xs e => b c xs (a c xs e)
theorem TupKeep.chg {d : Dr} {H H' : Hp} (r : Rng d H) (e : Chg d H H') : TupKeep H H' := fun b xs k => by
  obtain ⟨ys, hp, _⟩ := r.atp
  exact e b _ (ne_lst hp k fun ys => by intro z; cases z) k
theorem TupKeep.set {D : Addr} {H : Hp} {xs : List V} {o : HO} (h : H D = some (.lst xs)) : TupKeep H (upd H D o) := fun b ys k => by
  rw [upd_ne (ne_lst h k fun ys => by intro z; cases z)]
  exact k
theorem TupKeep.new {D : Addr} {H : Hp} {o : HO} (h : H D = none) : TupKeep H (upd H D o) := fun b ys k => by
  rw [upd_ne (ne_of_none k h)]
  exact k
/-- [e for k in range(..)], e (and the range's end) drawing from the state -/
theorem lc_draw {σ : St} {H : Hp} {te : TE} {ta : TA} {j : Nat} {vs : List Nat} {d : Dr} (Pn : Nat → Prop) (Φ : V → Hp → Prop) (hΦ : ∀ v H1 H2, TupKeep H1 H2 → Φ v H1 → Φ v H2)
    (hw : ∀ x, wipe ((wipe σ vs).set j (some x)) vs = wipe σ vs) (hn : ∀ n, Pn n → n ≤ 100000)
    (hta : ∀ R : List V → Hp → Prop, (∀ (n : Nat) H1, Pn n → Chg d H H1 → Rng d H1 → R [.int (n : Int)] H1) → ta σ H R)
    (ht : ∀ (x : V) H1 (Q : VK), Rng d H1 → Chg d H H1 → (∀ v H2, Φ v H2 → Chg d H1 H2 → Rng d H2 → Q v H2) → te ((wipe σ vs).set j (some x)) H1 Q) {Q : VK}
    (k : ∀ (n : Nat) D (xs : List V) H', Pn n → D ≠ d.p → D ≠ d.l → H D = none → xs.length = n → (∀ x ∈ xs, Φ x H') → H' D = some (.lst xs) → Chg d H H' → Rng d H' → Q (.ref D) H') :
    tLc (iRng1 ta) (gName j) tYes te vs σ H Q := by
  refine hta _ fun n H1 pn e1 r1 => ?_
  have hn' := hn n pn
  refine ⟨(n : Int), rfl, by omega, by omega, fun D hD => ?_⟩
  have nDp := r1.nep hD
  have nDl := r1.nel hD
  have hD0 := e1.free nDp hD
  refine lc_range (lo := 0) (n := n) (fun i H' => ∃ xs : List V, H' D = some (.lst xs) ∧ xs.length = i ∧ (∀ x ∈ xs, Φ x H') ∧ Chg d H H' ∧ Rng d H')
    ⟨[], upd_same, rfl, fun x hx => by simp at hx, e1.trans (Chg.new hD), r1.new hD⟩ ?_ ?_
  · rintro i H' hi ⟨xs, hxs, hl, hf, e2, r2⟩
    refine ⟨hw _, ?_⟩
    refine ht _ H' _ r2 e2 fun v H3 hv e3 r3 => ?_
    have hD3 : H3 D = some (.lst xs) := e3 D _ nDp hxs
    refine ⟨xs, hD3, ?_, xs ++ [v], upd_same, by rw [List.length_append, hl]; rfl, fun x hx => ?_, (e2.trans e3).mut hD0, r3.put nDp nDl⟩
    · rw [hl, sizeLine_eq]; omega
    · have tk : TupKeep H3 (upd H3 D (.lst (xs ++ [v]))) := TupKeep.set hD3
      rcases List.mem_append.mp hx with hx | hx
      · exact hΦ x _ _ ((TupKeep.chg r2 e3).trans tk) (hf x hx)
      · rw [List.mem_singleton.mp hx]
        exact hΦ v _ _ tk hv
  · rintro H' ⟨xs, hxs, hl, hf, e2, r2⟩
    exact k n D xs H' pn nDp nDl hD0 hl hf hxs e2 r2
theorem q_setLc {wi : TI} {g : TG} {tt : TT} {te : TE} {vs : List Nat} {i : Nat} {tz : TS} {D : Ends} {σ : St} {H : Hp} (h : tLc wi g tt te vs σ H fun x H1 => tz D (σ.set i (some x)) H1) : tSeq (tAsg (tLc wi g tt te vs) (gName i)) tz D σ H := h
/-! texts of drawn signs -/
def Sign (ok : Nat → Prop) (v : V) (_ : Hp) : Prop := ∃ c, ok c ∧ v = .str ⟨#[c]⟩
theorem signs_of {ok : Nat → Prop} {H : Hp} : ∀ {xs : List V}, (∀ x ∈ xs, Sign ok x H) → ∃ cs : List Nat, xs = (cs.map fun c => (⟨#[c]⟩ : Str)).map V.str ∧ (∀ c ∈ cs, ok c) ∧ cs.length = xs.length
  | [], _ => ⟨[], rfl, fun c h => by simp at h, rfl⟩
  | x :: xs, h => by
    obtain ⟨c, hc, rfl⟩ := h x (List.mem_cons_self ..)
    obtain ⟨cs, e, hcs, hl⟩ := signs_of (xs := xs) fun y hy => h y (List.mem_cons_of_mem _ hy)
    refine ⟨c :: cs, by rw [e]; rfl, fun y hy => ?_, by rw [List.length_cons, List.length_cons, hl]⟩
    rcases List.mem_cons.mp hy with rfl | hy
    · exact hc
    · exact hcs y hy
theorem joinL_signs : ∀ cs : List Nat, TL.joinL [] ((cs.map fun c => (⟨#[c]⟩ : Str)).map TL.tl) = cs
  | [] => rfl
  | [c] => rfl
  | c :: e :: r => by
    have ih := joinL_signs (e :: r)
    show [c] ++ ([] ++ TL.joinL [] (((e :: r).map fun c => (⟨#[c]⟩ : Str)).map TL.tl)) = c :: e :: r
    rw [ih]
    rfl
theorem join_signs (z : Str) (hz : TL.tl z = []) (cs : List Nat) : Txt.join z (cs.map fun c => (⟨#[c]⟩ : Str)) = ⟨cs.toArray⟩ := by
  refine TL.ext_tl ?_
  rw [TL.join_eq, TL.tl_join, hz, joinL_signs]
theorem sum_signs (cs : List Nat) : ((cs.map fun c => (⟨#[c]⟩ : Str)).map (·.length)).sum = cs.length := by
  induction cs with
  | nil => rfl
  | cons c r ih => rw [List.map_cons, List.map_cons, List.sum_cons, ih, List.length_cons]; show 1 + r.length = r.length + 1; omega
/-- a sign of a written text, at a drawn place -/
theorem pick_sign {z : Str} {l : List Nat} (e : z.cps.toList = l) {v : Int} (h0 : 0 ≤ v) (h1 : v < (l.length : Int)) : ∃ c, c ∈ l ∧ atI z.cps.toList v = some c := by
  obtain ⟨n, rfl⟩ := Int.eq_ofNat_of_zero_le h0
  have hn : n < l.length := by omega
  refine ⟨l[n], List.getElem_mem hn, ?_⟩
  rw [e]
  exact atI_nat (by simp [hn])
/-- what a def that draws a text promises -/
def sp_text (ok : Nat → Prop) : Sp := Sp2 fun a b H Q _ => ∃ (d : Dr) (n : Nat), a = .ref d.p ∧ b = .int (n : Int) ∧ n ≤ 100000 ∧ Rng d H ∧
  ∀ (cs : List Nat) H', cs.length = n → (∀ c ∈ cs, ok c) → Chg d H H' → Rng d H' → Q (.str ⟨cs.toArray⟩) H'
def letter (c : Nat) : Prop := 97 ≤ c ∧ c ≤ 122
def bit (c : Nat) : Prop := c = 48 ∨ c = 49
theorem abc_eq : (Str.ofString "abcdefghijklmnopqrstuvwxyz").cps.toList = [97, 98, 99, 100, 101, 102, 103, 104, 105, 106, 107, 108, 109, 110, 111, 112, 113, 114, 115, 116, 117, 118, 119, 120, 121, 122] := by decide +kernel
theorem abc_letter : ∀ c ∈ [97, 98, 99, 100, 101, 102, 103, 104, 105, 106, 107, 108, 109, 110, 111, 112, 113, 114, 115, 116, 117, 118, 119, 120, 121, 122], letter c := by
  unfold letter
  decide
theorem bits_eq : (Str.ofString "01").cps.toList = [48, 49] := by decide +kernel
theorem bits_bit : ∀ c ∈ [48, 49], bit c := by
  unfold bit
  decide
theorem tl_empty : TL.tl (Str.ofString "") = [] := by decide +kernel
end My

namespace My
open PySem PySem.Spec PyProof.Rows L2
/-- a class over object alone with an own __eq__ at f and no own __ne__ -/
structure EqC (K : PySem.W.Frag) (C f : Addr) : Prop where
  eq : PySem.W.findIn K (.ref C) "__eq__" = some (some (.ref f))
  fn : PySem.W.isFn K (.ref f) = true
  cls : ∃ nm q N bs hd sn sub ab col dd k0 k1 k2 k3 k5 newId, K.lookup C = some (excClassObj nm q C N bs [.type "object"] hd sn sub ab col dd k0 k1 k2 k3 k5 newId) ∧
    PySem.W.nsOkIn K N = true ∧ PySem.W.nsIn K N "__eq__" = some (some (.ref f)) ∧ PySem.W.nsIn K N "__ne__" = some none
def rEqO (C : Addr) (sp : Sp) : R2 := fun x y H Q => ∃ a b dx dy fs gs, x = .ref a ∧ y = .ref b ∧ H a = some (.ins C dx fs) ∧ H b = some (.ins C dy gs) ∧ sp [.ref a, .ref b] H Q E0
def rNeO (C : Addr) (sp : Sp) : R2 := fun x y H Q => ∃ a b dx dy fs gs, x = .ref a ∧ y = .ref b ∧ H a = some (.ins C dx fs) ∧ H b = some (.ins C dy gs) ∧
  sp [.ref a, .ref b] H (fun v H' => ∃ r, v = .bl r ∧ Q (.bl (!r)) H') E0
/-- one call deeper in the interpreter's own stack -/
abbrev in1X (X : Cx) : Cx := { X with A := X.A.in1 }
theorem inv_in1 {X : Cx} {pins : List (Addr × Obj)} {σ : L2.St} {H : Hp} {s : Shared} (I : L2.Inv X pins σ H s) : Inv (in1X X) pins σ H s :=
  ⟨⟨I.ok.mod, I.ok.kind, I.ok.glob, I.ok.blt, I.ok.above, I.ok.inj, I.ok.has, I.ok.cab, I.ok.hd, I.ok.frames, I.ok.stk, I.ok.exf, I.ok.bs, I.ok.bsz, I.ok.noex, I.ok.exfs, I.ok.funs, I.ok.frf⟩, I.os, I.bare, I.base, I.loc, I.cell, I.free, I.freeC, I.pin, I.hok, I.len⟩
theorem inv_out1 {X : Cx} {pins : List (Addr × Obj)} {σ : L2.St} {H : Hp} {s : Shared} (I : L2.Inv (in1X X) pins σ H s) : Inv X pins σ H s :=
  ⟨⟨I.ok.mod, I.ok.kind, I.ok.glob, I.ok.blt, I.ok.above, I.ok.inj, I.ok.has, I.ok.cab, I.ok.hd, I.ok.frames, I.ok.stk, I.ok.exf, I.ok.bs, I.ok.bsz, I.ok.noex, I.ok.exfs, I.ok.funs, I.ok.frf⟩, I.os, I.bare, I.base, I.loc, I.cell, I.free, I.freeC, I.pin, I.hok, I.len⟩
theorem rel_notni {v : V} {u : Value} (r : RelV v u) : u ≠ .notImplemented := by
  cases v with
  | non => cases r; exact fun z => nomatch z
  | bl _ => cases r; exact fun z => nomatch z
  | int _ => obtain ⟨t, rfl⟩ := r; exact fun z => nomatch z
  | str _ => obtain ⟨t, rfl⟩ := r; exact fun z => nomatch z
  | byt _ => obtain ⟨t, rfl⟩ := r; exact fun z => nomatch z
  | flt _ => obtain ⟨t, rfl⟩ := r; exact fun z => nomatch z
  | ref _ => cases r; exact fun z => nomatch z
  | ty _ => cases r; exact fun z => nomatch z
theorem cmpBack_of {Q : Value → Shared → Prop} {u : Value} {s : Shared} (h : u ≠ .notImplemented) (q : Q u s) : PySem.W.CmpBack Q u s := by
  unfold PySem.W.CmpBack
  cases u <;> first | exact q | exact absurd rfl h
/-- what a class's own dict holds, out of the written part -/
theorem ns_at {K : PySem.W.Frag} {h : Heap} {N : Addr} {m : Str → Option Value} {n : Str} {v : Value} (kin : K.In h) (G : h.Ns N m) (e : PySem.W.nsIn K N n = some (some v)) : m n = some v := by
  obtain ⟨ob, es, ep, gN, dat, _, look⟩ := G
  unfold PySem.W.nsIn at e
  cases q : K.lookup N with
  | none => simp [q] at e
  | some o2 =>
    have z := (kin _ _ q).symm.trans gN
    injection z with z
    subst z
    obtain ⟨cl, di, da, sl⟩ := o2
    simp only at dat
    subst dat
    simp only [q] at e
    cases r : es.toList.find? (·.key.isStr n) with
    | none => simp only [r] at e; split at e <;> simp at e
    | some en =>
      simp only [r, Option.some.injEq] at e
      rw [← look]
      show (es.find? _).map _ = some v
      rw [← Array.find?_toList]
      simp only [r, Option.map_some, e]
section
variable {X : Cx} {C f : Addr} {fd : FuncData} {ps : List Str} {sp : Sp} {n : Nat}
theorem op_eqO (F : FnOk X.prog X.w X.K X.mg X.base CX0 n f fd ps sp) (c : EqC X.K C f) (hb : Binds X.K fd ps []) (hr : Room n X.A) : OpR X (compareOp .Eq) (rEqO C sp) := by
  intro pins s σ H x y u v Q I rx ry h
  obtain ⟨a, b, dx, dy, fs, gs, rfl, rfl, ha, hb', hs⟩ := h
  cases rx
  cases ry
  obtain ⟨mA, J, _⟩ := ins_get I.hok ha
  obtain ⟨mB, J', _⟩ := ins_get I.hok hb'
  obtain ⟨od, J, _⟩ := J.look
  obtain ⟨od', J', _⟩ := J'.look
  obtain ⟨m, hF⟩ := I.fr
  show wpAny (model X.prog X.w) X.A (richCompare .Eq _ _) (EP X pins σ Q) X.xe s
  refine PySem.W.cmp_K (op := .Eq) (tb := .ref C) hr.units0 hF I.ok.mod.kin J J'.type (by simp [PySem.W.notFirst]) c.eq c.fn ?_
  refine thn (run_fn (us := [.ref a, .ref b]) (vs := [.ref a, .ref b]) F hr hb .nil pass0 I (.cons rfl (.cons rfl .nil)) (show sp ([.ref a, .ref b] ++ []) H _ E0 from hs)) fun w s' hw => ?_
  obtain ⟨v, H', I', r, q⟩ := hw
  exact cmpBack_of (rel_notni r) ⟨v, H', I', r, q⟩
theorem op_neO (F : FnOk X.prog X.w X.K X.mg X.base CX0 n f fd ps sp) (c : EqC X.K C f) (hb : Binds X.K fd ps []) (hr : Room (n + 1) X.A) : OpR X (compareOp .NotEq) (rNeO C sp) := by
  intro pins s σ H x y u v Q I rx ry h
  obtain ⟨a, b, dx, dy, fs, gs, rfl, rfl, ha, hb', hs⟩ := h
  cases rx
  cases ry
  have KX := I.kIn
  obtain ⟨mA, J, _⟩ := ins_get I.hok ha
  obtain ⟨mB, J', _⟩ := ins_get I.hok hb'
  obtain ⟨nm, q, N, bs, hd, sn, sub, ab, col, dd, k0, k1, k2, k3, k5, newId, lC, okN, nE, nN⟩ := c.cls
  obtain ⟨of, lf, ef⟩ := Option.map_eq_some_iff.mp (show (X.K.lookup f).map (·.cls) = some (.type "function") from beq_iff_eq.mp c.fn)
  have NN := Heap.Ns.of_isNs (PySem.W.isNs_of_in KX okN)
  have OE : s.heap.OwnEqNoNe a C f "object" [.type "object"] :=
    ⟨_, of, nm, q, N, bs, hd, sn, sub, ab, col, dd, k0, k1, k2, k3, k5, newId, _, _, J.obj, rfl, KX _ _ lC, NN, ns_at KX NN nE, KX _ _ lf, ef, PySem.F.cmp_object.mro, PySem.F.cmp_object.eq.lookup, PySem.W.ns_none_of KX NN nN⟩
  obtain ⟨hp, g, d, tk, os⟩ := s
  refine compareOp_ne_ownEq PySem.F.cmp_object OE J'.obj rfl (by have := hr.un; omega) ?_
  have I1 := inv_in1 I
  refine thn (run_fn (X := in1X X) (us := [.ref a, .ref b]) (vs := [.ref a, .ref b]) F hr.in1 hb .nil pass0 I1 (.cons rfl (.cons rfl .nil)) (show sp ([.ref a, .ref b] ++ []) H _ E0 from hs)) fun w s' hw => ?_
  obtain ⟨v, H', I', r, z, rfl, q⟩ := hw
  cases r
  exact ⟨_, rfl, .bl _, H', inv_out1 I', rfl, q⟩
end
end My

namespace My
open PySem PySem.Spec PyProof.Rows L2
/-! == and != of data without dicts, at any texts -/
def rEqP (K : PySem.W.Frag) : R2 := fun x y H Q => ∃ d e, Dp K H x d ∧ Dp K H y e ∧ d.plain = true ∧ e.plain = true ∧ d.depth ≤ 60 ∧ Q (.bl (PyData.eqv d e)) H
def rNeP (K : PySem.W.Frag) : R2 := fun x y H Q => ∃ d e, Dp K H x d ∧ Dp K H y e ∧ d.plain = true ∧ e.plain = true ∧ d.depth ≤ 60 ∧ Q (.bl (!PyData.eqv d e)) H
section
variable {X : Cx}
theorem op_eqP (hu : X.A.units + 64 < cLine) : OpR X (compareOp .Eq) (rEqP X.K) := by
  intro pins s σ H x y v u Q I rx ry h
  obtain ⟨d, e, hd, he, pd, pe, dp, q⟩ := h
  obtain ⟨as, r1⟩ := Dp.reads I d x v hd rx
  obtain ⟨bs, r2⟩ := Dp.reads I e y u he ry
  exact SeqAt.eq_plain r1 r2 pd pe (by have := Nat.min_le_left d.depth e.depth; omega) ⟨.bl _, H, I, rfl, q⟩
theorem op_neP (hu : X.A.units + 64 < cLine) : OpR X (compareOp .NotEq) (rNeP X.K) := by
  intro pins s σ H x y v u Q I rx ry h
  obtain ⟨d, e, hd, he, pd, pe, dp, q⟩ := h
  obtain ⟨as, r1⟩ := Dp.reads I d x v hd rx
  obtain ⟨bs, r2⟩ := Dp.reads I e y u he ry
  exact SeqAt.ne_plain r1 r2 pd pe (by have := Nat.min_le_left d.depth e.depth; omega) ⟨.bl _, H, I, rfl, q⟩
end
mutual
theorem Dp.keep {K : PySem.W.Frag} {H H' : Hp} (e : Same H H') : ∀ {d : PyData} {v : V}, Dp K H v d → Dp K H' v d
  | _, _, .non => .non
  | _, _, .bl b => .bl b
  | _, _, .int i => .int i
  | _, _, .str x => .str x
  | _, _, .lst h a => .lst (e.seq h) (DpAll.keep e a)
  | _, _, .tup h a => .tup (h.elim (fun h => .inl (h.elim (fun h => .inl (e _ _ h)) fun ⟨o, h⟩ => .inr ⟨o, e _ _ h⟩)) fun h => .inr h) (DpAll.keep e a)
theorem DpAll.keep {K : PySem.W.Frag} {H H' : Hp} (e : Same H H') : ∀ {ds : List PyData} {vs : List V}, DpAll K H vs ds → DpAll K H' vs ds
  | _, _, .nil => .nil
  | _, _, .cons h a => .cons (Dp.keep e h) (DpAll.keep e a)
end
theorem DpAll.length {K : PySem.W.Frag} {H : Hp} : ∀ {vs : List V} {ds : List PyData}, DpAll K H vs ds → vs.length = ds.length
  | _, _, .nil => rfl
  | _, _, .cons _ a => congrArg Nat.succ (DpAll.length a)
theorem eqv_list (xs ys : List PyData) : PyData.eqv (.list xs) (.list ys) = PyData.eqvAll xs ys := by rw [PyData.eqv]
theorem eqv_tuple (xs ys : List PyData) : PyData.eqv (.tuple xs) (.tuple ys) = PyData.eqvAll xs ys := by rw [PyData.eqv]
/-! keywords: the values by their places -/
def pick {α : Type} (ix : List Nat) (l : List α) : List α := ix.filterMap fun i => l[i]?
theorem pick_rel : ∀ (ix : List Nat) {vs : List V} {us : List Value}, Vals vs us → Vals (pick ix vs) (pick ix us)
  | [], _, _, _ => .nil
  | i :: ix, vs, us, r => by
    have ih := pick_rel ix r
    unfold pick at ih ⊢
    rw [List.filterMap_cons, List.filterMap_cons]
    cases e : vs[i]? with
    | none =>
      rw [r.none_of e]
      exact ih
    | some x =>
      obtain ⟨u, hu, ru⟩ := r.get e
      rw [hu]
      exact .cons ru ih
theorem fun_kbn {K : PySem.W.Frag} {x qual : Str} {st : Stmt} {f : Addr} {fd : FuncData} {ps ks : List Str} {n : Nat} (ix : List Nat) (F : Fun K x qual st f fd)
    (h : ∀ (kV doc pm : Value) (an : Option Addr) (cdv ct : Value) (us ws : List Value), us.length = n → ws.length = ks.length →
      bindArgs (PySem.W.fnOf x qual (defArgs st) (defBody st) (defScope st) .none kV doc pm an cdv ct) ⟨us, ks.zip ws⟩ = pure (ps.zip (pick ix (us ++ ws)))) :
    KBn K fd ps n ks (fun us ws => pick ix (us ++ ws)) (fun vs zs => pick ix (vs ++ zs)) := by
  obtain ⟨oc, od, kV, doc, pm, an, cdv, ct, osl, rfl, lk, hcd⟩ := F.ex
  exact ⟨fun s us ws _ l1 l2 => .of_eq (h kV doc pm an cdv ct us ws l1 l2), fun r1 r2 => pick_rel ix (r1.append r2)⟩
end My
namespace My
open PySem L2

def top (i : Nat) : Stmt := PySem.Challenge.pw_roomleft_k65_verdict_objects.main.body.getD i (.Pass ⟨0, 0, 0, 0⟩)
abbrev s_Verdict___init__ : Stmt := inClass (top 1) 0
abbrev s_Verdict___eq__ : Stmt := inClass (top 1) 1
abbrev s__law_start : Stmt := top 3
abbrev s__law_pull : Stmt := top 4
abbrev s__law_big : Stmt := top 5
abbrev s__law_word : Stmt := top 6
abbrev s__law_bits : Stmt := top 7
abbrev s__law_thing : Stmt := top 8
abbrev s__law_fields : Stmt := top 9
abbrev s_law : Stmt := top 10
structure Ad where
  f_Verdict___init__ : Addr
  d_Verdict___init__ : FuncData
  f_Verdict___eq__ : Addr
  d_Verdict___eq__ : FuncData
  f__law_start : Addr
  d__law_start : FuncData
  f__law_pull : Addr
  d__law_pull : FuncData
  f__law_big : Addr
  d__law_big : FuncData
  f__law_word : Addr
  d__law_word : FuncData
  f__law_bits : Addr
  d__law_bits : FuncData
  f__law_thing : Addr
  d__law_thing : FuncData
  f__law_fields : Addr
  d__law_fields : FuncData
  f_law : Addr
  d_law : FuncData
  c_Verdict : Addr
structure Txt (K : PySem.W.Frag) (mg : Str → Option Value) (A : Ad) : Prop where
  F_Verdict___init__ : Fun K "__init__" "Verdict.__init__" s_Verdict___init__ A.f_Verdict___init__ A.d_Verdict___init__
  k_Verdict___init__ : PySem.W.keepIn K (.ref A.f_Verdict___init__) = true
  b_Verdict___init__ : Binds K A.d_Verdict___init__ ["self", "refused", "short", "in_step", "stepped", "other"] []
  F_Verdict___eq__ : Fun K "__eq__" "Verdict.__eq__" s_Verdict___eq__ A.f_Verdict___eq__ A.d_Verdict___eq__
  k_Verdict___eq__ : PySem.W.keepIn K (.ref A.f_Verdict___eq__) = true
  b_Verdict___eq__ : Binds K A.d_Verdict___eq__ ["self", "other"] []
  m_Verdict___eq__ : PySem.W.findIn K (.ref A.c_Verdict) "__eq__" = some (some (.ref A.f_Verdict___eq__))
  i_Verdict___eq__ : PySem.W.isFn K (.ref A.f_Verdict___eq__) = true
  F__law_start : Fun K "_law_start" "_law_start" s__law_start A.f__law_start A.d__law_start
  k__law_start : PySem.W.keepIn K (.ref A.f__law_start) = true
  b__law_start : Binds K A.d__law_start ["script"] []
  mg__law_start : mg "_law_start" = some (.ref A.f__law_start)
  F__law_pull : Fun K "_law_pull" "_law_pull" s__law_pull A.f__law_pull A.d__law_pull
  k__law_pull : PySem.W.keepIn K (.ref A.f__law_pull) = true
  b__law_pull : Binds K A.d__law_pull ["state", "many"] []
  mg__law_pull : mg "_law_pull" = some (.ref A.f__law_pull)
  F__law_big : Fun K "_law_big" "_law_big" s__law_big A.f__law_big A.d__law_big
  k__law_big : PySem.W.keepIn K (.ref A.f__law_big) = true
  b__law_big : Binds K A.d__law_big ["state", "many"] []
  mg__law_big : mg "_law_big" = some (.ref A.f__law_big)
  F__law_word : Fun K "_law_word" "_law_word" s__law_word A.f__law_word A.d__law_word
  k__law_word : PySem.W.keepIn K (.ref A.f__law_word) = true
  b__law_word : Binds K A.d__law_word ["state", "size"] []
  mg__law_word : mg "_law_word" = some (.ref A.f__law_word)
  F__law_bits : Fun K "_law_bits" "_law_bits" s__law_bits A.f__law_bits A.d__law_bits
  k__law_bits : PySem.W.keepIn K (.ref A.f__law_bits) = true
  b__law_bits : Binds K A.d__law_bits ["state", "size"] []
  mg__law_bits : mg "_law_bits" = some (.ref A.f__law_bits)
  F__law_thing : Fun K "_law_thing" "_law_thing" s__law_thing A.f__law_thing A.d__law_thing
  k__law_thing : PySem.W.keepIn K (.ref A.f__law_thing) = true
  b__law_thing : Binds K A.d__law_thing ["state"] []
  mg__law_thing : mg "_law_thing" = some (.ref A.f__law_thing)
  F__law_fields : Fun K "_law_fields" "_law_fields" s__law_fields A.f__law_fields A.d__law_fields
  k__law_fields : PySem.W.keepIn K (.ref A.f__law_fields) = true
  b__law_fields : Binds K A.d__law_fields ["verdict"] []
  mg__law_fields : mg "_law_fields" = some (.ref A.f__law_fields)
  F_law : Fun K "law" "law" s_law A.f_law A.d_law
  k_law : PySem.W.keepIn K (.ref A.f_law) = true
  b_law : Binds K A.d_law ["script"] []
  mg_law : mg "law" = some (.ref A.f_law)
  mg_Verdict : mg "Verdict" = some (.ref A.c_Verdict)
  cl_Verdict : Cls K A.c_Verdict
  mk_Verdict : Mk K A.c_Verdict A.f_Verdict___init__
  n_Verdict_refused : NoAttr K A.c_Verdict "refused"
  n_Verdict_short : NoAttr K A.c_Verdict "short"
  n_Verdict_in_step : NoAttr K A.c_Verdict "in_step"
  n_Verdict_stepped : NoAttr K A.c_Verdict "stepped"
  n_Verdict_other : NoAttr K A.c_Verdict "other"
  isc_Verdict : C8.InsC K A.c_Verdict
  eq_Verdict : EqC K A.c_Verdict A.f_Verdict___eq__
  b_int : mg "int" = none
  b_isinstance : mg "isinstance" = none
  b_len : mg "len" = none
  b_list : mg "list" = none
  b_range : mg "range" = none
abbrev N_Verdict___init__ : List Str := ["self", "refused", "short", "in_step", "stepped", "other"]
theorem sc_Verdict___init__ : FnScope ["self", "refused", "short", "in_step", "stepped", "other"] ["self", "refused", "short", "in_step", "stepped", "other"] (defScope s_Verdict___init__) := ⟨rfl, rfl, rfl, by decide +kernel, rfl, by decide +kernel, by decide +kernel⟩
abbrev N_Verdict___eq__ : List Str := ["self", "other", "one"]
theorem sc_Verdict___eq__ : FnScope ["self", "other", "one"] ["self", "other"] (defScope s_Verdict___eq__) := ⟨rfl, rfl, rfl, by decide +kernel, rfl, by decide +kernel, by decide +kernel⟩
abbrev N__law_start : List Str := ["script"]
theorem sc__law_start : FnScope ["script"] ["script"] (defScope s__law_start) := ⟨rfl, rfl, rfl, by decide +kernel, rfl, by decide +kernel, by decide +kernel⟩
abbrev N__law_pull : List Str := ["state", "many", "cell", "number"]
theorem sc__law_pull : FnScope ["state", "many", "cell", "number"] ["state", "many"] (defScope s__law_pull) := ⟨rfl, rfl, rfl, by decide +kernel, rfl, by decide +kernel, by decide +kernel⟩
abbrev N__law_big : List Str := ["state", "many", "number", "k"]
theorem sc__law_big : FnScope ["state", "many", "number", "k"] ["state", "many"] (defScope s__law_big) := ⟨rfl, rfl, rfl, by decide +kernel, rfl, by decide +kernel, by decide +kernel⟩
abbrev N__law_word : List Str := ["state", "size", "letters", "k"]
theorem sc__law_word : FnScope ["state", "size", "letters", "k"] ["state", "size"] (defScope s__law_word) := ⟨rfl, rfl, rfl, by decide +kernel, rfl, by decide +kernel, by decide +kernel⟩
abbrev N__law_bits : List Str := ["state", "size", "k"]
theorem sc__law_bits : FnScope ["state", "size", "k"] ["state", "size"] (defScope s__law_bits) := ⟨rfl, rfl, rfl, by decide +kernel, rfl, by decide +kernel, by decide +kernel⟩
abbrev N__law_thing : List Str := ["state", "turn"]
theorem sc__law_thing : FnScope ["state", "turn"] ["state"] (defScope s__law_thing) := ⟨rfl, rfl, rfl, by decide +kernel, rfl, by decide +kernel, by decide +kernel⟩
abbrev N__law_fields : List Str := ["verdict"]
theorem sc__law_fields : FnScope ["verdict"] ["verdict"] (defScope s__law_fields) := ⟨rfl, rfl, rfl, by decide +kernel, rfl, by decide +kernel, by decide +kernel⟩
abbrev N_law : List Str := ["script", "state", "at", "things", "k", "one", "same", "bent", "unlike", "rest", "drawn"]
theorem sc_law : FnScope ["script", "state", "at", "things", "k", "one", "same", "bent", "unlike", "rest", "drawn"] ["script"] (defScope s_law) := ⟨rfl, rfl, rfl, by decide +kernel, rfl, by decide +kernel, by decide +kernel⟩
abbrev sp__law_start (K : PySem.W.Frag) (_ : Ad) : Sp := sp_start K
abbrev sp_law (K : PySem.W.Frag) (_ : Ad) : Sp := sp_law0 K
abbrev sp__law_pull (_ : PySem.W.Frag) (_ : Ad) : Sp := sp_pull
abbrev sp__law_big (_ : PySem.W.Frag) (_ : Ad) : Sp := sp_pull
abbrev sp__law_word (_ : PySem.W.Frag) (_ : Ad) : Sp := sp_text letter
abbrev sp__law_bits (_ : PySem.W.Frag) (_ : Ad) : Sp := sp_text bit

/-- a drawn thing, and what it is as data -/
def TD (H : Hp) (v : V) (d : PyData) : Prop :=
  (v = .non ∧ d = .none) ∨ (∃ i, v = .int i ∧ d = .int i) ∨ (∃ z, v = .str z ∧ d = .str z) ∨ ∃ t y z, v = .ref t ∧ H t = some (.tup [.str y, .str z]) ∧ d = .tuple [.str y, .str z]
def Thing (v : V) (H : Hp) : Prop := ∃ d, TD H v d
theorem TD.keep {H H' : Hp} (e : TupKeep H H') {v : V} {d : PyData} (h : TD H v d) : TD H' v d := by
  rcases h with h | h | h | ⟨t, y, z, h1, h2, h3⟩
  · exact .inl h
  · exact .inr (.inl h)
  · exact .inr (.inr (.inl h))
  · exact .inr (.inr (.inr ⟨t, y, z, h1, e _ _ h2, h3⟩))
theorem TD.dp {K : PySem.W.Frag} {H : Hp} {v : V} {d : PyData} (h : TD H v d) : Dp K H v d ∧ d.plain = true ∧ d.depth ≤ 1 := by
  rcases h with ⟨rfl, rfl⟩ | ⟨i, rfl, rfl⟩ | ⟨z, rfl, rfl⟩ | ⟨t, y, z, rfl, h, rfl⟩
  · exact ⟨.non, rfl, Nat.zero_le _⟩
  · exact ⟨.int i, rfl, Nat.zero_le _⟩
  · exact ⟨.str z, rfl, Nat.zero_le _⟩
  · exact ⟨.tup (SqT.of h) (.cons (.str y) (.cons (.str z) .nil)), rfl, by simp [PyData.depth, PyData.depthAll]⟩
theorem TD.one {H : Hp} {v : V} {d : PyData} (h : TD H v d) : PyData.eqv (.tuple [d]) d = false ∧ PyData.eqv d (.tuple [d]) = false := by
  rcases h with ⟨_, rfl⟩ | ⟨i, _, rfl⟩ | ⟨z, _, rfl⟩ | ⟨t, y, z, _, _, rfl⟩ <;> simp [PyData.eqv, PyData.eqvAll]
def TDs (H : Hp) : List V → List PyData → Prop := Paired (TD H)
theorem tds_of {H : Hp} : ∀ {xs : List V}, (∀ x ∈ xs, Thing x H) → ∃ ds, TDs H xs ds
  | [], _ => ⟨[], .nil⟩
  | x :: xs, h => by
    obtain ⟨d, hd⟩ := h x (List.mem_cons_self ..)
    obtain ⟨ds, hds⟩ := tds_of (xs := xs) fun y hy => h y (List.mem_cons_of_mem _ hy)
    exact ⟨d :: ds, .cons hd hds⟩
theorem tds_at {H : Hp} : ∀ {xs : List V} {ds : List PyData} {j : Nat} {y : V}, TDs H xs ds → xs[j]? = some y → ∃ d, ds[j]? = some d ∧ TD H y d
  | _, _, _, _, .nil, h => by simp at h
  | _, _, 0, _, .cons h t, e => by
    have q := Option.some.inj e
    subst q
    exact ⟨_, rfl, h⟩
  | _, _, j + 1, _, .cons h t, e => tds_at (j := j) t e
theorem TDs.keep {H H' : Hp} (e : TupKeep H H') : ∀ {xs : List V} {ds : List PyData}, TDs H xs ds → TDs H' xs ds
  | _, _, .nil => .nil
  | _, _, .cons h t => .cons (h.keep e) (TDs.keep e t)
theorem TDs.dp {K : PySem.W.Frag} {H : Hp} : ∀ {xs : List V} {ds : List PyData}, TDs H xs ds → DpAll K H xs ds ∧ PyData.plainAll ds = true ∧ PyData.depthAll ds ≤ 1
  | _, _, .nil => ⟨.nil, rfl, Nat.zero_le _⟩
  | _, _, .cons h t => by
    obtain ⟨a, b, c⟩ := h.dp (K := K)
    obtain ⟨a2, b2, c2⟩ := TDs.dp (K := K) t
    exact ⟨.cons a a2, by simp [PyData.plainAll, b, b2], by simp only [PyData.depthAll]; omega⟩
theorem same_tk {H H' : Hp} (e : Same H H') : TupKeep H H' := fun b xs h => e b _ h
theorem len5 {xs : List V} (h : xs.length = 5) : ∃ a b c d e, xs = [a, b, c, d, e] := match xs, h with | [a, b, c, d, e], _ => ⟨a, b, c, d, e, rfl⟩
/-- a Verdict and its fields -/
structure VerF (fs : List (Str × V)) (a b c d e : V) : Prop where
  f1 : fs.lookup ("refused" : Str) = some a
  f2 : fs.lookup ("short" : Str) = some b
  f3 : fs.lookup ("in_step" : Str) = some c
  f4 : fs.lookup ("stepped" : Str) = some d
  f5 : fs.lookup ("other" : Str) = some e
def Ver (C : Addr) (H : Hp) (x : Addr) (xs : List V) : Prop := ∃ dx fs a b c d e, H x = some (.ins C dx fs) ∧ xs = [a, b, c, d, e] ∧ VerF fs a b c d e
theorem Ver.same {C : Addr} {H H' : Hp} {x : Addr} {xs : List V} (h : Ver C H x xs) (e : Same H H') : Ver C H' x xs := by
  obtain ⟨dx, fs, a, b, c, d, f, h1, h2⟩ := h
  exact ⟨dx, fs, a, b, c, d, f, e _ _ h1, h2⟩
theorem Ver.chg {C : Addr} {H H' : Hp} {x : Addr} {xs : List V} {d : Dr} (h : Ver C H x xs) (r : Rng d H) (e : Chg d H H') : Ver C H' x xs := by
  obtain ⟨dx, fs, a, b, c, k, f, h1, h2⟩ := h
  obtain ⟨ys, hp, _⟩ := r.atp
  exact ⟨dx, fs, a, b, c, k, f, e _ _ (ne_lst hp h1 fun ys => by intro z; cases z) h1, h2⟩
abbrev sp__law_thing (_ : PySem.W.Frag) (_ : Ad) : Sp := Sp1 fun a H Q _ => ∃ (d : Dr), a = .ref d.p ∧ Rng d H ∧ ∀ v H', Thing v H' → Chg d H H' → Rng d H' → Q v H'
abbrev sp_Verdict___init__ (_ : PySem.W.Frag) (A : Ad) : Sp := Sp6 fun s a b c d e H Q _ => ∃ (x dx : Addr), s = .ref x ∧ H x = some (.ins A.c_Verdict dx []) ∧
  ∀ H', (∀ q, q ≠ x → H' q = H q) → Ver A.c_Verdict H' x [a, b, c, d, e] → Q .non H'
abbrev sp__law_fields (_ : PySem.W.Frag) (A : Ad) : Sp := Sp1 fun v H Q _ => ∃ (x : Addr) (xs : List V), v = .ref x ∧ Ver A.c_Verdict H x xs ∧ ∀ p H', H p = none → Same H H' → H' p = some (.lst xs) → Q (.ref p) H'
abbrev sp_Verdict___eq__ (K : PySem.W.Frag) (A : Ad) : Sp := Sp2 fun v w H Q _ => ∃ (x y : Addr) (xs ys : List V) (ds es : List PyData), v = .ref x ∧ w = .ref y ∧ Ver A.c_Verdict H x xs ∧ Ver A.c_Verdict H y ys ∧
  DpAll K H xs ds ∧ DpAll K H ys es ∧ PyData.plainAll ds = true ∧ PyData.plainAll es = true ∧ PyData.depthAll ds ≤ 50 ∧ ∀ H', Same H H' → Q (.bl (PyData.eqvAll ds es)) H'
theorem made {C : Addr} {xs : List V} {H : Hp} {P : Addr → Hp → Prop} (h5 : xs.length = 5) (k : ∀ x H', H x = none → Same H H' → Ver C H' x xs → P x H') : ∀ x dx, H x = none → H dx = none → dx ≠ x →
    Sp6 (fun s a b c d e H Q _ => ∃ (x dx : Addr), s = .ref x ∧ H x = some (.ins C dx []) ∧ ∀ H', (∀ q, q ≠ x → H' q = H q) → Ver C H' x [a, b, c, d, e] → Q .non H') (.ref x :: xs) (upd (upd H dx (.own x)) x (.ins C dx [])) (fun v H2 => v = .non ∧ P x H2) E0 := by
  intro x dx hx hdx ne
  obtain ⟨a, b, c, d, e, rfl⟩ := len5 h5
  refine ⟨_, _, _, _, _, _, rfl, x, dx, rfl, upd_same, fun H' hs hv => ⟨rfl, k x H' hx (fun q o hq => ?_) hv⟩⟩
  rw [hs q (ne_of_none hq hx), upd_ne (ne_of_none hq hx), upd_ne (ne_of_none hq hdx)]
  exact hq

theorem DpAll.set {K : PySem.W.Frag} {H : Hp} {y : V} {e : PyData} (h : Dp K H y e) : ∀ {xs : List V} {ds : List PyData} (j : Nat), DpAll K H xs ds → DpAll K H (xs.set j y) (ds.set j e)
  | _, _, _, .nil => .nil
  | _, _, 0, .cons _ a => .cons h a
  | _, _, j + 1, .cons b a => .cons b (DpAll.set h j a)
theorem eqvAll_set {e d : PyData} (he : PyData.eqv d e = false ∧ PyData.eqv e d = false) : ∀ (ds : List PyData) (j : Nat), ds[j]? = some d → PyData.eqvAll ds (ds.set j e) = false ∧ PyData.eqvAll (ds.set j e) ds = false
  | [], j, h => by simp at h
  | a :: r, 0, h => by
    have q : a = d := Option.some.inj h
    subst q
    exact ⟨by show PyData.eqvAll (a :: r) (e :: r) = false; rw [PyData.eqvAll, he.1]; rfl, by show PyData.eqvAll (e :: r) (a :: r) = false; rw [PyData.eqvAll, he.2]; rfl⟩
  | a :: r, j + 1, h => by
    have ih := eqvAll_set he r j h
    exact ⟨by show PyData.eqvAll (a :: r) (a :: r.set j e) = false; rw [PyData.eqvAll, ih.1, Bool.and_false], by show PyData.eqvAll (a :: r.set j e) (a :: r) = false; rw [PyData.eqvAll, ih.2, Bool.and_false]⟩
theorem plain_set {e : PyData} (he : e.plain = true) : ∀ (ds : List PyData) (j : Nat), PyData.plainAll ds = true → PyData.plainAll (ds.set j e) = true
  | [], _, h => h
  | a :: r, 0, h => by
    simp only [PyData.plainAll, Bool.and_eq_true] at h
    show PyData.plainAll (e :: r) = true
    simp only [PyData.plainAll, he, h.2, Bool.and_self]
  | a :: r, j + 1, h => by
    simp only [PyData.plainAll, Bool.and_eq_true] at h
    show PyData.plainAll (a :: r.set j e) = true
    simp only [PyData.plainAll, h.1, plain_set he r j h.2, Bool.and_self]
theorem depth_set {e : PyData} {m : Nat} (he : e.depth ≤ m) : ∀ (ds : List PyData) (j : Nat), PyData.depthAll ds ≤ m → PyData.depthAll (ds.set j e) ≤ m
  | [], _, h => h
  | a :: r, 0, h => by
    simp only [PyData.depthAll] at h
    show PyData.depthAll (e :: r) ≤ m
    simp only [PyData.depthAll]
    omega
  | a :: r, j + 1, h => by
    simp only [PyData.depthAll] at h
    have ih := depth_set he r j (by omega : PyData.depthAll r ≤ m)
    show PyData.depthAll (a :: r.set j e) ≤ m
    simp only [PyData.depthAll]
    omega
theorem rEqO_ver {K : PySem.W.Frag} {A : Ad} {H : Hp} {x y : Addr} {xs ys : List V} {ds es : List PyData} {Q : VK} (b : Bool) (v1 : Ver A.c_Verdict H x xs) (v2 : Ver A.c_Verdict H y ys) (d1 : DpAll K H xs ds) (d2 : DpAll K H ys es) (p1 : PyData.plainAll ds = true) (p2 : PyData.plainAll es = true)
    (z : PyData.depthAll ds ≤ 50) (hb : PyData.eqvAll ds es = b) (k : ∀ H', Same H H' → Q (.bl b) H') : rEqO A.c_Verdict (sp_Verdict___eq__ K A) (.ref x) (.ref y) H Q := by
  obtain ⟨dx, fs, a1, a2, a3, a4, a5, hx, _, _⟩ := id v1
  obtain ⟨dy, gs, c1, c2, c3, c4, c5, hy, _, _⟩ := id v2
  exact ⟨x, y, dx, dy, fs, gs, rfl, rfl, hx, hy, _, _, rfl, x, y, xs, ys, ds, es, rfl, rfl, v1, v2, d1, d2, p1, p2, z, fun H' e => by rw [hb]; exact k H' e⟩
theorem rNeO_ver {K : PySem.W.Frag} {A : Ad} {H : Hp} {x y : Addr} {xs ys : List V} {ds es : List PyData} {Q : VK} (b : Bool) (v1 : Ver A.c_Verdict H x xs) (v2 : Ver A.c_Verdict H y ys) (d1 : DpAll K H xs ds) (d2 : DpAll K H ys es) (p1 : PyData.plainAll ds = true) (p2 : PyData.plainAll es = true)
    (z : PyData.depthAll ds ≤ 50) (hb : PyData.eqvAll ds es = b) (k : ∀ H', Same H H' → Q (.bl (!b)) H') : rNeO A.c_Verdict (sp_Verdict___eq__ K A) (.ref x) (.ref y) H Q := by
  obtain ⟨dx, fs, a1, a2, a3, a4, a5, hx, _, _⟩ := id v1
  obtain ⟨dy, gs, c1, c2, c3, c4, c5, hy, _, _⟩ := id v2
  exact ⟨x, y, dx, dy, fs, gs, rfl, rfl, hx, hy, _, _, rfl, x, y, xs, ys, ds, es, rfl, rfl, v1, v2, d1, d2, p1, p2, z, fun H' e => ⟨b, by rw [hb], k H' e⟩⟩
/-- what the law carries -/
structure L65 (C : Addr) (d : Dr) (D x1 x2 : Addr) (xs : List V) (ds : List PyData) (H : Hp) : Prop where
  r : Rng d H
  nD : D ≠ d.p
  hD : H D = some (.lst xs)
  td : TDs H xs ds
  v1 : Ver C H x1 xs
  v2 : Ver C H x2 xs
theorem L65.same {C : Addr} {d : Dr} {D x1 x2 : Addr} {xs : List V} {ds : List PyData} {H H' : Hp} (h : L65 C d D x1 x2 xs ds H) (e : Same H H') : L65 C d D x1 x2 xs ds H' :=
  ⟨h.r.same e, h.nD, e _ _ h.hD, h.td.keep (same_tk e), h.v1.same e, h.v2.same e⟩
theorem L65.chg {C : Addr} {d : Dr} {D x1 x2 : Addr} {xs : List V} {ds : List PyData} {H H' : Hp} (h : L65 C d D x1 x2 xs ds H) (e : Chg d H H') (r : Rng d H') : L65 C d D x1 x2 xs ds H' :=
  ⟨r, h.nD, e _ _ h.nD h.hD, h.td.keep (TupKeep.chg h.r e), h.v1.chg h.r e, h.v2.chg h.r e⟩

section
variable {P : Program} {w : World} {K : PySem.W.Frag} {mg : Str → Option Value} {base : Heap} {A : Ad}
theorem ok_Verdict___init__ (T : Txt K mg A) : FnOk P w K mg base CX0 1 A.f_Verdict___init__ A.d_Verdict___init__ ["self", "refused", "short", "in_step", "stepped", "other"] (sp_Verdict___init__ K A) := by
  refine T.F_Verdict___init__.ok sc_Verdict___init__ (fun vs H Q E h => sp6_len h) (fun cdv A0 outer s H vs Q E hr h => ?_)
  have nd := sc_Verdict___init__.nd
  refine ⟨_, (pss_cons (ps_fld (pv 0) (pv 1) rfl)
      (pss_cons (ps_fld (pv 0) (pv 2) rfl)
      (pss_cons (ps_fld (pv 0) (pv 3) rfl)
      (pss_cons (ps_fld (pv 0) (pv 4) rfl)
      (pss_one (ps_fld (pv 0) (pv 5) rfl)))))), ?_⟩
  clear nd hr
  replace h := sp6_of h
  obtain ⟨v_self, v_refused, v_short, v_in_step, v_stepped, v_other, rfl, h⟩ := h
  obtain ⟨x, dx, rfl, hx, k⟩ := h
  refine ⟨_, rfl, _, rfl, x, _, dx, _, rfl, hx, T.cl_Verdict, T.n_Verdict_refused, ?_, ?_⟩
  · exact (by decide : 0 < 1000)
  refine ⟨_, rfl, _, rfl, x, _, dx, _, rfl, upd_same, T.cl_Verdict, T.n_Verdict_short, ?_, ?_⟩
  · exact Nat.lt_of_le_of_lt (length_putF _ _ _) (by decide)
  refine ⟨_, rfl, _, rfl, x, _, dx, _, rfl, upd_same, T.cl_Verdict, T.n_Verdict_in_step, ?_, ?_⟩
  · exact Nat.lt_of_le_of_lt (Nat.le_trans (length_putF _ _ _) (Nat.succ_le_succ (length_putF _ _ _))) (by decide)
  refine ⟨_, rfl, _, rfl, x, _, dx, _, rfl, upd_same, T.cl_Verdict, T.n_Verdict_stepped, ?_, ?_⟩
  · exact Nat.lt_of_le_of_lt (Nat.le_trans (length_putF _ _ _) (Nat.succ_le_succ (Nat.le_trans (length_putF _ _ _) (Nat.succ_le_succ (length_putF _ _ _))))) (by decide)
  refine ⟨_, rfl, _, rfl, x, _, dx, _, rfl, upd_same, T.cl_Verdict, T.n_Verdict_other, ?_, ?_⟩
  · exact Nat.lt_of_le_of_lt (Nat.le_trans (length_putF _ _ _) (Nat.succ_le_succ (Nat.le_trans (length_putF _ _ _) (Nat.succ_le_succ (Nat.le_trans (length_putF _ _ _) (Nat.succ_le_succ (length_putF _ _ _))))))) (by decide)
  refine k _ (fun q hq => ?_) ⟨dx, _, v_refused, v_short, v_in_step, v_stepped, v_other, upd_same, rfl, ?_, ?_, ?_, ?_, ?_⟩
  · rw [upd_ne hq, upd_ne hq, upd_ne hq, upd_ne hq, upd_ne hq]
  · rw [lookup_putF, if_neg (by decide +kernel : ¬ ("refused" : Str) = "other")]; rw [lookup_putF, if_neg (by decide +kernel : ¬ ("refused" : Str) = "stepped")]; rw [lookup_putF, if_neg (by decide +kernel : ¬ ("refused" : Str) = "in_step")]; rw [lookup_putF, if_neg (by decide +kernel : ¬ ("refused" : Str) = "short")]; rw [lookup_putF, if_pos rfl]
  · rw [lookup_putF, if_neg (by decide +kernel : ¬ ("short" : Str) = "other")]; rw [lookup_putF, if_neg (by decide +kernel : ¬ ("short" : Str) = "stepped")]; rw [lookup_putF, if_neg (by decide +kernel : ¬ ("short" : Str) = "in_step")]; rw [lookup_putF, if_pos rfl]
  · rw [lookup_putF, if_neg (by decide +kernel : ¬ ("in_step" : Str) = "other")]; rw [lookup_putF, if_neg (by decide +kernel : ¬ ("in_step" : Str) = "stepped")]; rw [lookup_putF, if_pos rfl]
  · rw [lookup_putF, if_neg (by decide +kernel : ¬ ("stepped" : Str) = "other")]; rw [lookup_putF, if_pos rfl]
  · rw [lookup_putF, if_pos rfl]
theorem ok_Verdict___eq__ (T : Txt K mg A) : FnOk P w K mg base CX0 1 A.f_Verdict___eq__ A.d_Verdict___eq__ ["self", "other"] (sp_Verdict___eq__ K A) := by
  refine T.F_Verdict___eq__.ok sc_Verdict___eq__ (fun vs H Q E h => sp2_len h) (fun cdv A0 outer s H vs Q E hr h => ?_)
  have nd := sc_Verdict___eq__.nd
  refine ⟨_, (pss_cons (ps_if (pt_not (pt_val (pe_callB call_isi (by rfl) T.b_isinstance (by decide +kernel) (pa_cons (pv 1) (pa_cons (pe_glob (v := .ref A.c_Verdict) (by rfl) T.mg_Verdict rfl) pa_nil))))) (pss_one (ps_ret pe_bl)) pss_nil)
      (pss_cons (ps_set (i := 2) nd rfl (by first | exact Or.inl rfl | exact Or.inr rfl) (pe_tup (pa_cons (pe_fld (pv 0) rfl) (pa_cons (pe_fld (pv 0) rfl) (pa_cons (pe_fld (pv 0) rfl) (pa_cons (pe_fld (pv 0) rfl) (pa_cons (pe_fld (pv 0) rfl) pa_nil)))))))
      (pss_one (ps_ret (pe_cmpR (op_eqP hr.units) (pv 2) (pe_tup (pa_cons (pe_fld (pv 1) rfl) (pa_cons (pe_fld (pv 1) rfl) (pa_cons (pe_fld (pv 1) rfl) (pa_cons (pe_fld (pv 1) rfl) (pa_cons (pe_fld (pv 1) rfl) pa_nil)))))) (nomark _)))))), ?_⟩
  clear nd hr
  replace h := sp2_of h
  obtain ⟨v_self, v_other, rfl, h⟩ := h

  obtain ⟨x, y, xs, ys, ds, es, rfl, rfl, ⟨dx, fs, a1, a2, a3, a4, a5, hx, rfl, f⟩, ⟨dy, gs, b1, b2, b3, b4, b5, hy, rfl, g⟩, d1, d2, p1, p2, z1, k⟩ := h
  refine ⟨_, rfl, _, _, _, _, _, rfl, .own _, .base (TyOf.ins hy T.isc_Verdict.cl T.isc_Verdict.ha T.isc_Verdict.hn T.isc_Verdict.htk T.isc_Verdict.hm), T.isc_Verdict.me, _, rfl, ?_⟩
  refine iteF ?_
  refine ⟨_, rfl, x, _, dx, fs, _, rfl, hx, T.cl_Verdict, T.n_Verdict_refused, f.f1, _, rfl, x, _, dx, fs, _, rfl, hx, T.cl_Verdict, T.n_Verdict_short, f.f2, _, rfl, x, _, dx, fs, _, rfl, hx, T.cl_Verdict, T.n_Verdict_in_step, f.f3, _, rfl, x, _, dx, fs, _, rfl, hx, T.cl_Verdict, T.n_Verdict_stepped, f.f4, _, rfl, x, _, dx, fs, _, rfl, hx, T.cl_Verdict, T.n_Verdict_other, f.f5, (by show 5 ≤ sizeLine; rw [sizeLine_eq]; decide), fun p hp => ?_⟩
  have e1 : Same H (upd H p (.tup [a1, a2, a3, a4, a5])) := fun b o e => by rw [upd_ne (ne_of_none e hp)]; exact e
  replace hy := e1 _ _ hy
  refine ⟨_, rfl, _, rfl, y, _, dy, gs, _, rfl, hy, T.cl_Verdict, T.n_Verdict_refused, g.f1, _, rfl, y, _, dy, gs, _, rfl, hy, T.cl_Verdict, T.n_Verdict_short, g.f2, _, rfl, y, _, dy, gs, _, rfl, hy, T.cl_Verdict, T.n_Verdict_in_step, g.f3, _, rfl, y, _, dy, gs, _, rfl, hy, T.cl_Verdict, T.n_Verdict_stepped, g.f4, _, rfl, y, _, dy, gs, _, rfl, hy, T.cl_Verdict, T.n_Verdict_other, g.f5, (by show 5 ≤ sizeLine; rw [sizeLine_eq]; decide), fun q hq => ?_⟩
  have e2 : Same (upd H p (.tup [a1, a2, a3, a4, a5])) (upd (upd H p (.tup [a1, a2, a3, a4, a5])) q (.tup [b1, b2, b3, b4, b5])) := fun b o e => by rw [upd_ne (ne_of_none e hq)]; exact e
  refine ⟨.tuple ds, .tuple es, .tup (SqT.of (e2 _ _ upd_same)) (DpAll.keep (e1.trans e2) d1), .tup (SqT.of upd_same) (DpAll.keep (e1.trans e2) d2), p1, p2, by simp only [PyData.depth]; omega, ?_⟩
  rw [eqv_tuple]
  exact k _ (e1.trans e2)
theorem ok__law_start (T : Txt K mg A) : FnOk P w K mg base CX0 1 A.f__law_start A.d__law_start ["script"] (sp__law_start K A) := by
  refine T.F__law_start.ok sc__law_start (fun vs H Q E h => sp1_len h) (fun cdv A0 outer s H vs Q E hr h => ?_)
  have nd := sc__law_start.nd
  refine ⟨_, (pss_one (ps_ret (pe_lst (pa_cons (pe_callTy call_list_of (by rfl) T.b_list (by decide +kernel) (pa_cons (pv 0) pa_nil)) (pa_cons pe_int (pa_cons pe_int (pa_cons pe_int pa_nil))))))), ?_⟩
  clear nd hr
  replace h := sp1_of h
  obtain ⟨v_script, rfl, h⟩ := h

  obtain ⟨l, ns, rfl, hl, hn, k⟩ := h
  refine ⟨_, rfl, l, _, rfl, .inl hl, fun q hq => ⟨by show 4 ≤ sizeLine; rw [sizeLine_eq]; decide, fun p hp => ?_⟩⟩
  have nqp : q ≠ p := fun z => by rw [← z, upd_same] at hp; cases hp
  have hp0 : H p = none := by rw [upd_ne nqp.symm] at hp; exact hp
  refine k ⟨p, q, ns⟩ _ hp0 hq (fun b u e => ?_) ⟨0, 0, 1234577, nqp, upd_same, ?_, Nat.zero_le _, hn, by decide, by decide, by decide⟩
  · rw [upd_ne (ne_of_none e hp0), upd_ne (ne_of_none e hq)]
    exact e
  · show upd _ p _ q = _
    rw [upd_ne nqp, upd_same]
theorem ok__law_pull (T : Txt K mg A) : FnOk P w K mg base CX0 1 A.f__law_pull A.d__law_pull ["state", "many"] (sp__law_pull K A) := by
  refine T.F__law_pull.ok sc__law_pull (fun vs H Q E h => sp2_len h) (fun cdv A0 outer s H vs Q E hr h => ?_)
  have nd := sc__law_pull.nd
  refine ⟨_, (Evl.pss_cut (ps_if (PW.pt (pw_and (pt_cmpR op_eq (pe_ix ix_list (pv 0) pe_int (fun _ _ => rfl)) pe_int (nomark _)) (pw_and1 (pt_cmpR op_lt (pe_ix ix_list (pv 0) pe_int (fun _ _ => rfl)) (pe_callB call_len (by rfl) T.b_len (by decide +kernel) (pa_cons (pe_ix ix_list (pv 0) pe_int (fun _ _ => rfl)) pa_nil)) (nomark _))))) (pss_cons (ps_set (i := 2) nd rfl (by first | exact Or.inl rfl | exact Or.inr rfl) (pe_ix ix_list (pe_ix ix_list (pv 0) pe_int (fun _ _ => rfl)) (pe_ix ix_list (pv 0) pe_int (fun _ _ => rfl)) (fun _ _ => rfl)))
      (pss_cons (ps_asg (pe_op op_add (pe_ix ix_list (pv 0) pe_int (fun _ _ => rfl)) pe_int) (pg_sub (pv 0) pe_int set_list))
      (pss_one (ps_if (pt_cmpR op_ge (pv 2) (pe_op op_pow pe_int pe_int) (nomark _)) (pss_one (ps_asg (pv 2) (pg_sub (pv 0) pe_int set_list))) (pss_one (ps_asg (pe_op op_mod (pe_callTy call_int1 (by rfl) T.b_int (by decide +kernel) (pa_cons (pe_op op_add (pe_op op_add (pe_op op_mul (pe_ix ix_list (pv 0) pe_int (fun _ _ => rfl)) pe_int) (pe_op op_mod (pe_callTy call_int1 (by rfl) T.b_int (by decide +kernel) (pa_cons (pv 2) pa_nil)) pe_int)) pe_int) pa_nil)) pe_int) (pg_sub (pv 0) pe_int set_list))))))) pss_nil)
      (pss_cons (ps_if (pt_cmpR op_gt (pe_ix ix_list (pv 0) pe_int (fun _ _ => rfl)) pe_int (nomark _)) (pss_cons (ps_set (i := 3) nd rfl (by first | exact Or.inl rfl | exact Or.inr rfl) (pe_op op_mod (pe_callTy call_int1 (by rfl) T.b_int (by decide +kernel) (pa_cons (pe_ix ix_list (pv 0) pe_int (fun _ _ => rfl)) pa_nil)) (pv 1)))
      (pss_cons (ps_asg (pe_op op_fdivW (pe_ix ix_list (pv 0) pe_int (fun _ _ => rfl)) (pv 1)) (pg_sub (pv 0) pe_int set_list))
      (pss_one (ps_ret (pv 3))))) pss_nil)
      (pss_cons (ps_asg (pe_op op_mod (pe_callTy call_int1 (by rfl) T.b_int (by decide +kernel) (pa_cons (pe_op op_add (pe_op op_mul (pe_ix ix_list (pv 0) pe_int (fun _ _ => rfl)) pe_int) pe_int) pa_nil)) pe_int) (pg_sub (pv 0) pe_int set_list))
      (pss_cons (ps_set (i := 3) nd rfl (by first | exact Or.inl rfl | exact Or.inr rfl) (pe_op op_mod (pe_callTy call_int1 (by rfl) T.b_int (by decide +kernel) (pa_cons (pe_op op_add (pe_op op_mul (pe_ix ix_list (pv 0) pe_int (fun _ _ => rfl)) pe_int) (pe_op op_fdivW (pe_ix ix_list (pv 0) pe_int (fun _ _ => rfl)) pe_int)) pa_nil)) pe_int))
      (pss_one (ps_ret (pe_op op_mod (pe_callTy call_int1 (by rfl) T.b_int (by decide +kernel) (pa_cons (pe_op op_fdivW (pv 3) pe_int) pa_nil)) (pv 1)))))))), ?_⟩
  clear nd hr
  replace h := sp2_of h
  obtain ⟨v_state, v_many, rfl, h⟩ := h

  obtain ⟨d, many, rfl, rfl, ⟨i, c, s, R⟩, hm, hlog, k⟩ := h
  refine ⟨fun σ' H' => ∃ (v : Option V) (j : Nat) (x t : Int), σ' = [some (.ref d.p), some (.int many), v, none] ∧ Chg d H H' ∧ RngL H' d j x t, ?_, ?_⟩
  · refine ⟨_, rfl, _, _, _, _, rfl, rfl, SqL.of R.st, rfl, rfl, _, rfl, ?_⟩
    refine ite2 (fun hc0 => ?_) (fun _ => iteF ⟨none, i, c, s, rfl, Chg.refl, R⟩)
    refine ⟨_, rfl, _, _, _, _, rfl, rfl, SqL.of R.st, rfl, _, rfl, _, _, _, _, rfl, rfl, SqL.of R.st, rfl, _, _, rfl, .inl ⟨_, SqL.of R.ls, rfl⟩, _, _, rfl, rfl, _, rfl, ?_⟩
    refine ite2 (fun hlt => ?_) (fun _ => ⟨none, i, c, s, rfl, Chg.refl, R⟩)
    have hi : i < d.ns.length := by
      have q := of_decide_eq_true hlt
      rw [List.length_map] at q
      omega
    have hat : atI (d.ns.map V.int) (i : Int) = some (.int d.ns[i]) := atI_nat (by simp [hi])
    refine ⟨_, rfl, _, _, _, _, rfl, rfl, SqL.of R.st, rfl, _, rfl, _, _, _, _, rfl, rfl, SqL.of R.st, rfl, _, _, _, _, rfl, rfl, SqL.of R.ls, hat, ?_⟩
    refine ⟨_, rfl, _, _, _, _, rfl, rfl, SqL.of R.st, rfl, _, _, rfl, rfl, _, rfl, _, _, _, _, rfl, rfl, R.st, rfl, ?_⟩
    have R1 : RngL (upd H d.p (.lst [.ref d.l, .int ((i + 1 : Nat) : Int), .int c, .int s])) d (i + 1) c s := R.set hi R.hc R.hs R.hs2
    have e1 : Chg d H (upd H d.p (.lst [.ref d.l, .int ((i + 1 : Nat) : Int), .int c, .int s])) := Chg.upd
    refine heap_gen (fun H1 => RngL H1 d (i + 1) c s ∧ Chg d H H1) ⟨R1, e1⟩ fun H1 ⟨R1, e1⟩ => ?_
    refine ⟨_, rfl, _, _, rfl, rfl, ⟨by decide, by decide, by decide⟩, _, _, rfl, rfl, _, rfl, ?_⟩
    refine ite2 (fun hge => ?_) (fun _ => ?_)
    · have h0 : 0 ≤ d.ns[i] := by
        have q := of_decide_eq_true hge
        have e : ((10 : Int) ^ ((18 : Int).toNat)) = 1000000000000000000 := by decide
        rw [e] at q
        omega
      refine ⟨_, rfl, _, rfl, _, _, _, _, rfl, rfl, R1.st, rfl, ?_⟩
      exact ⟨_, i + 1, d.ns[i], s, rfl, e1.trans Chg.upd, R1.set R1.hi h0 R1.hs R1.hs2⟩
    · refine ⟨_, rfl, _, _, _, _, rfl, rfl, SqL.of R1.st, rfl, _, _, rfl, rfl, .inl ⟨by have := R1.hs; omega, by have := R1.hs2; omega⟩, _, rfl, .inl ⟨_, rfl, _, _, rfl, rfl, pos_ (by decide), _, _, rfl, rfl, _, _, rfl, rfl, .inl ⟨_, rfl, _, _, rfl, rfl, pos_ (by decide), ?_⟩⟩⟩
      refine ⟨_, rfl, _, _, _, _, rfl, rfl, R1.st, rfl, ?_⟩
      exact ⟨_, i + 1, c, _, rfl, e1.trans Chg.upd, R1.set R1.hi R1.hc (Int.emod_nonneg _ (by decide)) (Int.emod_lt_of_pos _ (by decide))⟩
  · rintro σ' H' ⟨v, j, x, t, rfl, e1, R1⟩
    refine ⟨_, rfl, _, _, _, _, rfl, rfl, SqL.of R1.st, rfl, _, _, rfl, rfl, _, rfl, ?_⟩
    refine ite2 (fun hd => ?_) (fun _ => ?_)
    · refine ⟨_, rfl, _, _, _, _, rfl, rfl, SqL.of R1.st, rfl, .inl ⟨_, rfl, _, rfl, _, _, rfl, rfl, hm, ?_⟩⟩
      refine ⟨_, rfl, _, _, _, _, rfl, rfl, SqL.of R1.st, rfl, _, rfl, _, _, rfl, rfl, ⟨hm, hlog⟩, _, rfl, _, _, _, _, rfl, rfl, R1.st, rfl, _, rfl, ?_⟩
      exact k _ _ (Int.emod_nonneg _ (by omega)) (Int.emod_lt_of_pos _ hm) (e1.trans Chg.upd) ⟨_, _, _, R1.set R1.hi (Int.ediv_nonneg R1.hc (Int.le_of_lt hm)) R1.hs R1.hs2⟩
    · refine ⟨_, rfl, _, _, _, _, rfl, rfl, SqL.of R1.st, rfl, _, _, rfl, rfl, .inl ⟨by have := R1.hs; omega, by have := R1.hs2; omega⟩, _, _, rfl, rfl, .inl ⟨_, rfl, _, _, rfl, rfl, pos_ (by decide), _, rfl, _, _, _, _, rfl, rfl, R1.st, rfl, ?_⟩⟩
      have R2 := R1.set (j := j) (x := x) R1.hi R1.hc (Int.emod_nonneg ((t * 69621 + 11)) (by decide : (2147483647 : Int) ≠ 0)) (Int.emod_lt_of_pos (t * 69621 + 11) (by decide : (0 : Int) < 2147483647))
      have e2 := e1.trans (Chg.upd (o := .lst [.ref d.l, .int (j : Int), .int x, .int ((t * 69621 + 11) % 2147483647)]))
      refine heap_gen (fun H2 => RngL H2 d j x ((t * 69621 + 11) % 2147483647) ∧ Chg d H H2) ⟨R2, e2⟩ fun H2 ⟨R2, e2⟩ => ?_
      generalize (t * 69621 + 11) % 2147483647 = t2 at R2
      refine ⟨_, rfl, _, _, _, _, rfl, rfl, SqL.of R2.st, rfl, _, _, rfl, rfl, .inl ⟨by have := R2.hs; omega, by have := R2.hs2; omega⟩, _, rfl, _, _, _, _, rfl, rfl, SqL.of R2.st, rfl, _, _, rfl, rfl, ⟨by decide, small_log (by decide) (by decide)⟩, _, _, rfl, rfl, .inl ⟨_, rfl, _, _, rfl, rfl, pos_ (by decide), ?_⟩⟩
      refine ⟨_, rfl, _, _, rfl, rfl, ⟨by decide, small_log (by decide) (by decide)⟩, .inl ⟨_, rfl, _, rfl, _, _, rfl, rfl, hm, ?_⟩⟩
      exact k _ _ (Int.emod_nonneg _ (by omega)) (Int.emod_lt_of_pos _ hm) e2 ⟨_, _, _, R2⟩
theorem ok__law_big (T : Txt K mg A) : FnOk P w K mg base CX0 2 A.f__law_big A.d__law_big ["state", "many"] (sp__law_big K A) := by
  refine T.F__law_big.ok sc__law_big (fun vs H Q E h => sp2_len h) (fun cdv A0 outer s H vs Q E hr h => ?_)
  have nd := sc__law_big.nd
  refine ⟨_, (pss_cons (ps_set (i := 2) nd rfl (by first | exact Or.inl rfl | exact Or.inr rfl) pe_int)
      (pss_cons (ps_for PassesOwn.never rfl (pi_range1 (by rfl) T.b_range (pa_cons pe_int pa_nil)) (pg_name (i := 3) nd rfl (by first | exact Or.inl rfl | exact Or.inr rfl)) (pss_one (ps_set (i := 2) nd rfl (by first | exact Or.inl rfl | exact Or.inr rfl) (pe_op op_add (pe_op op_mul (pv 2) pe_int) (pe_call (ok__law_pull T) (hr.mono (by decide)) (by rfl) T.mg__law_pull T.k__law_pull T.b__law_pull .nil pass0 (pa_cons (pv 0) (pa_cons pe_int pa_nil)))))))
      (pss_one (ps_ret (pe_op op_mod (pe_callTy call_int1 (by rfl) T.b_int (by decide +kernel) (pa_cons (pv 2) pa_nil)) (pv 1)))))), ?_⟩
  clear nd hr
  replace h := sp2_of h
  obtain ⟨v_state, v_many, rfl, h⟩ := h

  obtain ⟨d, many, rfl, rfl, r, hm, hlog, k⟩ := h
  refine ⟨6, rfl, by decide, by decide, for_range (n := 6) (fun i σ' H' => ∃ (num : Int) (kv : Option V), σ' = [some (.ref d.p), some (.int many), some (.int num), kv] ∧ Chg d H H' ∧ Rng d H') ⟨_, _, rfl, Chg.refl, r⟩ ?_ ?_⟩
  · rintro i σ' H' hi ⟨num, kv, rfl, e1, r1⟩
    exact ⟨_, rfl, _, _, rfl, rfl, .inr ⟨by decide, by decide⟩, _, rfl, _, _, rfl, d, _, rfl, rfl, r1, by decide, small_log (by decide) (by decide), fun v H2 h0 h1 e2 r2 => ⟨_, _, rfl, rfl, _, _, rfl, e1.trans e2, r2⟩⟩
  · rintro σ' H' ⟨num, kv, rfl, e1, r1⟩
    exact ⟨_, rfl, .inl ⟨_, rfl, _, rfl, _, _, rfl, rfl, hm, k _ _ (Int.emod_nonneg _ (by omega)) (Int.emod_lt_of_pos _ hm) e1 r1⟩⟩
theorem ok__law_word (T : Txt K mg A) : FnOk P w K mg base CX0 2 A.f__law_word A.d__law_word ["state", "size"] (sp__law_word K A) := by
  refine T.F__law_word.ok sc__law_word (fun vs H Q E h => sp2_len h) (fun cdv A0 outer s H vs Q E hr h => ?_)
  have nd := sc__law_word.nd
  refine ⟨_, (pss_cons (ps_set (i := 2) nd rfl (by first | exact Or.inl rfl | exact Or.inr rfl) pe_str)
      (pss_one (ps_ret (pe_join pe_str (pe_lc (own := [("k", 3)]) (g := gName 3) (tt := tYes) (by rfl) nd (pi_range1 (by rfl) T.b_range (pa_cons (pv 1) pa_nil)) (blkOk_by (own := [("k", 3)]) (N := ["state", "size", "letters", "k"]) (sc := defScope s__law_word) (by decide +kernel)) (fun _ _ _ _ _ => pg_name (i := 3) nd rfl (Or.inl rfl)) (fun _ _ _ _ _ => pts_nil) (fun _ _ _ _ _ => (pe_ix ix_str (pv 2) (pe_call (ok__law_pull T) (hr.mono (by decide)) (by rfl) T.mg__law_pull T.k__law_pull T.b__law_pull .nil pass0 (pa_cons (pv 0) (pa_cons pe_int pa_nil))) (fun _ _ => rfl)))))))), ?_⟩
  clear nd hr
  replace h := sp2_of h
  obtain ⟨v_state, v_size, rfl, h⟩ := h

  obtain ⟨d, n, rfl, rfl, hn, r, k⟩ := h
  refine ⟨⟨_, rfl⟩, ?_⟩
  refine lc_draw (d := d) (fun m => m = n) (Sign letter) (fun _ _ _ _ h => h) (fun x => rfl) (fun m e => by omega) (fun R h => ⟨_, rfl, h n H rfl Chg.refl r⟩) (fun x H1 Q1 r1 e1 h1 => ?_) (fun m D xs H' e nDp nDl hD hl hf hxs e2 r2 => ?_)
  · refine ⟨_, rfl, _, rfl, _, _, rfl, d, _, rfl, rfl, r1, by decide, small_log (by decide) (by decide), fun v H2 h0 hv e2 r2 => ?_⟩
    obtain ⟨c, hc, ha⟩ := pick_sign abc_eq h0 hv
    exact ⟨_, _, c, rfl, rfl, by show (Str.ofString _).cps.size ≤ sizeLine; rw [sizeLine_eq]; decide +kernel, ha, h1 _ _ ⟨c, abc_letter c hc, rfl⟩ e2 r2⟩
  · obtain ⟨cs, rfl, hcs, hl2⟩ := signs_of hf
    refine ⟨_, D, cs.map fun c => (⟨#[c]⟩ : Str), rfl, rfl, .inl (SqL.of hxs), ?_, ?_⟩
    · rw [sum_signs]
      have : (Str.ofString "").length = 0 := by decide +kernel
      rw [this, List.length_map]
      rw [List.length_map, List.length_map] at hl
      omega
    · rw [join_signs _ tl_empty]
      refine k cs H' ?_ hcs e2 r2
      rw [← e, ← hl, List.length_map, List.length_map]
theorem ok__law_bits (T : Txt K mg A) : FnOk P w K mg base CX0 2 A.f__law_bits A.d__law_bits ["state", "size"] (sp__law_bits K A) := by
  refine T.F__law_bits.ok sc__law_bits (fun vs H Q E h => sp2_len h) (fun cdv A0 outer s H vs Q E hr h => ?_)
  have nd := sc__law_bits.nd
  refine ⟨_, (pss_one (ps_ret (pe_join pe_str (pe_lc (own := [("k", 2)]) (g := gName 2) (tt := tYes) (by rfl) nd (pi_range1 (by rfl) T.b_range (pa_cons (pv 1) pa_nil)) (blkOk_by (own := [("k", 2)]) (N := ["state", "size", "k"]) (sc := defScope s__law_bits) (by decide +kernel)) (fun _ _ _ _ _ => pg_name (i := 2) nd rfl (Or.inl rfl)) (fun _ _ _ _ _ => pts_nil) (fun _ _ _ _ _ => (pe_ix ix_str pe_str (pe_call (ok__law_pull T) (hr.mono (by decide)) (by rfl) T.mg__law_pull T.k__law_pull T.b__law_pull .nil pass0 (pa_cons (pv 0) (pa_cons pe_int pa_nil))) (fun _ _ => rfl))))))), ?_⟩
  clear nd hr
  replace h := sp2_of h
  obtain ⟨v_state, v_size, rfl, h⟩ := h

  obtain ⟨d, n, rfl, rfl, hn, r, k⟩ := h
  refine ⟨⟨_, rfl⟩, ?_⟩
  refine lc_draw (d := d) (fun m => m = n) (Sign bit) (fun _ _ _ _ h => h) (fun x => rfl) (fun m e => by omega) (fun R h => ⟨_, rfl, h n H rfl Chg.refl r⟩) (fun x H1 Q1 r1 e1 h1 => ?_) (fun m D xs H' e nDp nDl hD hl hf hxs e2 r2 => ?_)
  · refine ⟨_, rfl, _, _, rfl, d, _, rfl, rfl, r1, by decide, small_log (by decide) (by decide), fun v H2 h0 hv e2 r2 => ?_⟩
    obtain ⟨c, hc, ha⟩ := pick_sign bits_eq h0 hv
    exact ⟨_, _, c, rfl, rfl, by show (Str.ofString _).cps.size ≤ sizeLine; rw [sizeLine_eq]; decide +kernel, ha, h1 _ _ ⟨c, bits_bit c hc, rfl⟩ e2 r2⟩
  · obtain ⟨cs, rfl, hcs, hl2⟩ := signs_of hf
    refine ⟨_, D, cs.map fun c => (⟨#[c]⟩ : Str), rfl, rfl, .inl (SqL.of hxs), ?_, ?_⟩
    · rw [sum_signs]
      have : (Str.ofString "").length = 0 := by decide +kernel
      rw [this, List.length_map]
      rw [List.length_map, List.length_map] at hl
      omega
    · rw [join_signs _ tl_empty]
      refine k cs H' ?_ hcs e2 r2
      rw [← e, ← hl, List.length_map, List.length_map]
theorem ok__law_thing (T : Txt K mg A) : FnOk P w K mg base CX0 3 A.f__law_thing A.d__law_thing ["state"] (sp__law_thing K A) := by
  refine T.F__law_thing.ok sc__law_thing (fun vs H Q E h => sp1_len h) (fun cdv A0 outer s H vs Q E hr h => ?_)
  have nd := sc__law_thing.nd
  refine ⟨_, (pss_cons (ps_set (i := 1) nd rfl (by first | exact Or.inl rfl | exact Or.inr rfl) (pe_call (ok__law_pull T) (hr.mono (by decide)) (by rfl) T.mg__law_pull T.k__law_pull T.b__law_pull .nil pass0 (pa_cons (pv 0) (pa_cons pe_int pa_nil))))
      (pss_cons (ps_if (pt_cmpR op_eq (pv 1) pe_int (nomark _)) (pss_one (ps_ret pe_non)) pss_nil)
      (pss_cons (ps_if (pt_cmpR op_eq (pv 1) pe_int (nomark _)) (pss_one (ps_ret (pe_op op_sub (pe_call (ok__law_big T) (hr.mono (by decide)) (by rfl) T.mg__law_big T.k__law_big T.b__law_big .nil pass0 (pa_cons (pv 0) (pa_cons (pe_op op_mul pe_int (pe_op op_pow pe_int pe_int)) pa_nil))) (pe_op op_pow pe_int pe_int)))) pss_nil)
      (pss_cons (ps_if (pt_cmpR op_eq (pv 1) pe_int (nomark _)) (pss_one (ps_ret (pe_call (ok__law_word T) (hr.mono (by decide)) (by rfl) T.mg__law_word T.k__law_word T.b__law_word .nil pass0 (pa_cons (pv 0) (pa_cons (pe_op op_add pe_int (pe_call (ok__law_pull T) (hr.mono (by decide)) (by rfl) T.mg__law_pull T.k__law_pull T.b__law_pull .nil pass0 (pa_cons (pv 0) (pa_cons pe_int pa_nil)))) pa_nil))))) pss_nil)
      (pss_cons (ps_if (pt_cmpR op_eq (pv 1) pe_int (nomark _)) (pss_one (ps_ret (pe_tup (pa_cons (pe_call (ok__law_bits T) (hr.mono (by decide)) (by rfl) T.mg__law_bits T.k__law_bits T.b__law_bits .nil pass0 (pa_cons (pv 0) (pa_cons pe_int pa_nil))) (pa_cons (pe_call (ok__law_bits T) (hr.mono (by decide)) (by rfl) T.mg__law_bits T.k__law_bits T.b__law_bits .nil pass0 (pa_cons (pv 0) (pa_cons pe_int pa_nil))) pa_nil))))) pss_nil)
      (pss_one (ps_ret (pe_call (ok__law_bits T) (hr.mono (by decide)) (by rfl) T.mg__law_bits T.k__law_bits T.b__law_bits .nil pass0 (pa_cons (pv 0) (pa_cons (pe_call (ok__law_pull T) (hr.mono (by decide)) (by rfl) T.mg__law_pull T.k__law_pull T.b__law_pull .nil pass0 (pa_cons (pv 0) (pa_cons pe_int pa_nil))) pa_nil)))))))))), ?_⟩
  clear nd hr
  replace h := sp1_of h
  obtain ⟨v_state, rfl, h⟩ := h

  obtain ⟨d, rfl, r, k⟩ := h
  refine ⟨_, rfl, _, _, rfl, d, _, rfl, rfl, r, by decide, small_log (by decide) (by decide), fun v H1 h0 h1 e1 r1 => ?_⟩
  refine ⟨_, rfl, rfl, _, rfl, ite2 (fun _ => k _ _ ⟨_, .inl ⟨rfl, rfl⟩⟩ e1 r1) (fun _ => ?_)⟩
  refine ⟨_, rfl, rfl, _, rfl, ite2 (fun _ => ?_) (fun _ => ?_)⟩
  · refine ⟨_, rfl, _, _, rfl, rfl, ⟨by decide, by decide, by decide⟩, _, _, rfl, rfl, .inl ⟨by decide, by decide⟩, _, _, rfl, d, _, rfl, rfl, r1, by decide, by decide +kernel, fun w H2 h2 h3 e2 r2 => ?_⟩
    exact ⟨_, _, rfl, rfl, ⟨by decide, by decide, by decide⟩, _, _, rfl, rfl, k _ _ ⟨_, .inr (.inl ⟨_, rfl, rfl⟩)⟩ (e1.trans e2) r2⟩
  refine ⟨_, rfl, rfl, _, rfl, ite2 (fun _ => ?_) (fun _ => ?_)⟩
  · refine ⟨_, rfl, _, rfl, _, _, rfl, d, _, rfl, rfl, r1, by decide, small_log (by decide) (by decide), fun w H2 h2 h3 e2 r2 => ?_⟩
    obtain ⟨n, rfl⟩ := Int.eq_ofNat_of_zero_le h2
    refine ⟨_, _, rfl, rfl, _, _, rfl, d, 1 + n, rfl, by simp, by omega, r2, fun cs H3 hl hc e3 r3 => ?_⟩
    exact k _ _ ⟨_, .inr (.inr (.inl ⟨_, rfl, rfl⟩))⟩ ((e1.trans e2).trans e3) r3
  refine ⟨_, rfl, rfl, _, rfl, ite2 (fun _ => ?_) (fun _ => ?_)⟩
  · refine ⟨_, rfl, _, _, rfl, d, 2, rfl, rfl, by decide, r1, fun cs H2 hl hc e2 r2 => ?_⟩
    refine ⟨_, rfl, _, _, rfl, d, 2, rfl, rfl, by decide, r2, fun cs2 H3 hl2 hc2 e3 r3 => ?_⟩
    refine ⟨by show 2 ≤ sizeLine; rw [sizeLine_eq]; decide, fun p hp => ?_⟩
    exact k _ _ ⟨_, .inr (.inr (.inr ⟨p, _, _, rfl, upd_same, rfl⟩))⟩ (((e1.trans e2).trans e3).trans (Chg.new hp)) (r3.new hp)
  refine ⟨_, rfl, _, rfl, _, _, rfl, d, _, rfl, rfl, r1, by decide, small_log (by decide) (by decide), fun w H2 h2 h3 e2 r2 => ?_⟩
  obtain ⟨n, rfl⟩ := Int.eq_ofNat_of_zero_le h2
  refine ⟨_, _, rfl, d, n, rfl, rfl, by omega, r2, fun cs H3 hl hc e3 r3 => ?_⟩
  exact k _ _ ⟨_, .inr (.inr (.inl ⟨_, rfl, rfl⟩))⟩ ((e1.trans e2).trans e3) r3
theorem ok__law_fields (T : Txt K mg A) : FnOk P w K mg base CX0 1 A.f__law_fields A.d__law_fields ["verdict"] (sp__law_fields K A) := by
  refine T.F__law_fields.ok sc__law_fields (fun vs H Q E h => sp1_len h) (fun cdv A0 outer s H vs Q E hr h => ?_)
  have nd := sc__law_fields.nd
  refine ⟨_, (pss_one (ps_ret (pe_lst (pa_cons (pe_fld (pv 0) rfl) (pa_cons (pe_fld (pv 0) rfl) (pa_cons (pe_fld (pv 0) rfl) (pa_cons (pe_fld (pv 0) rfl) (pa_cons (pe_fld (pv 0) rfl) pa_nil)))))))), ?_⟩
  clear nd hr
  replace h := sp1_of h
  obtain ⟨v_verdict, rfl, h⟩ := h

  obtain ⟨x, xs, rfl, ⟨dx, fs, a, b, c, d, e, hx, rfl, f⟩, k⟩ := h
  refine ⟨_, rfl, x, _, dx, fs, _, rfl, hx, T.cl_Verdict, T.n_Verdict_refused, f.f1, _, rfl, x, _, dx, fs, _, rfl, hx, T.cl_Verdict, T.n_Verdict_short, f.f2, _, rfl, x, _, dx, fs, _, rfl, hx, T.cl_Verdict, T.n_Verdict_in_step, f.f3,
    _, rfl, x, _, dx, fs, _, rfl, hx, T.cl_Verdict, T.n_Verdict_stepped, f.f4, _, rfl, x, _, dx, fs, _, rfl, hx, T.cl_Verdict, T.n_Verdict_other, f.f5, (by show 5 ≤ sizeLine; rw [sizeLine_eq]; decide), fun p hp => ?_⟩
  exact k p _ hp (fun b o e => by rw [upd_ne (ne_of_none e hp)]; exact e) upd_same
theorem kb0_Verdict___init__ {K : PySem.W.Frag} {mg : Str → Option Value} {A : Ad} (T : Txt K mg A) : KBn K A.d_Verdict___init__ ["self", "refused", "short", "in_step", "stepped", "other"] 1 ["other", "stepped", "in_step", "short", "refused"] (fun us ws => pick [0, 5, 4, 3, 2, 1] (us ++ ws)) (fun vs zs => pick [0, 5, 4, 3, 2, 1] (vs ++ zs)) :=
  fun_kbn [0, 5, 4, 3, 2, 1] T.F_Verdict___init__ fun _ _ _ _ _ _ us ws h1 h2 => match us, ws, h1, h2 with | [_], [_, _, _, _, _], _, _ => rfl
theorem ok_law (T : Txt K mg A) : FnOk P w K mg base CX0 4 A.f_law A.d_law ["script"] (sp_law K A) := by
  refine T.F_law.ok sc_law (fun vs H Q E h => sp1_len h) (fun cdv A0 outer s H vs Q E hr h => ?_)
  have nd := sc_law.nd
  refine ⟨_, (pss_cons (ps_set (i := 1) nd rfl (by first | exact Or.inl rfl | exact Or.inr rfl) (pe_call (ok__law_start T) (hr.mono (by decide)) (by rfl) T.mg__law_start T.k__law_start T.b__law_start .nil pass0 (pa_cons (pv 0) pa_nil)))
      (pss_cons (ps_set (i := 2) nd rfl (by first | exact Or.inl rfl | exact Or.inr rfl) (pe_call (ok__law_pull T) (hr.mono (by decide)) (by rfl) T.mg__law_pull T.k__law_pull T.b__law_pull .nil pass0 (pa_cons (pv 1) (pa_cons pe_int pa_nil))))
      (pss_cons (ps_setLc (i := 3) (own := [("k", 4)]) (g := gName 4) (tt := tYes) (by rfl) nd rfl rfl (sw_true rfl rfl rfl (by decide +kernel)) (pi_range1 (by rfl) T.b_range (pa_cons pe_int pa_nil)) (blkOk_by (own := [("k", 4)]) (N := ["script", "state", "at", "things", "k", "one", "same", "bent", "unlike", "rest", "drawn"]) (sc := defScope s_law) (by decide +kernel)) (fun _ _ _ _ _ => pg_name (i := 4) nd rfl (Or.inl rfl)) (fun _ _ _ _ _ => pts_nil) (fun _ _ _ _ _ => (pe_call (ok__law_thing T) (hr.mono (by decide)) (by rfl) T.mg__law_thing T.k__law_thing T.b__law_thing .nil pass0 (pa_cons (pv 1) pa_nil))))
      (pss_cons (ps_set (i := 5) nd rfl (by first | exact Or.inl rfl | exact Or.inr rfl) (pe_make T.mk_Verdict (ok_Verdict___init__ T) (hr.mono (by decide)) (by rfl) T.mg_Verdict T.b_Verdict___init__ .nil pass0 (pa_cons (pe_ix ix_list (pv 3) pe_int (fun _ _ => rfl)) (pa_cons (pe_ix ix_list (pv 3) pe_int (fun _ _ => rfl)) (pa_cons (pe_ix ix_list (pv 3) pe_int (fun _ _ => rfl)) (pa_cons (pe_ix ix_list (pv 3) pe_int (fun _ _ => rfl)) (pa_cons (pe_ix ix_list (pv 3) pe_int (fun _ _ => rfl)) pa_nil)))))))
      (pss_cons (ps_set (i := 6) nd rfl (by first | exact Or.inl rfl | exact Or.inr rfl) (pe_makeK0 T.mk_Verdict (ok_Verdict___init__ T) (hr.mono (by decide)) (by rfl) T.mg_Verdict (kb0_Verdict___init__ T) pass0 (pk_cons (pe_ix ix_list (pv 3) pe_int (fun _ _ => rfl)) (pk_cons (pe_ix ix_list (pv 3) pe_int (fun _ _ => rfl)) (pk_cons (pe_ix ix_list (pv 3) pe_int (fun _ _ => rfl)) (pk_cons (pe_ix ix_list (pv 3) pe_int (fun _ _ => rfl)) (pk_cons (pe_ix ix_list (pv 3) pe_int (fun _ _ => rfl)) pk_nil)))))))
      (pss_cons (ps_if (PW.pt (pw_or (pt_cmpR (op_neP hr.units) (pe_call (ok__law_fields T) (hr.mono (by decide)) (by rfl) T.mg__law_fields T.k__law_fields T.b__law_fields .nil pass0 (pa_cons (pv 5) pa_nil)) (pv 3) (nomark _)) (pw_or1 (pt_cmpR (op_neP hr.units) (pe_call (ok__law_fields T) (hr.mono (by decide)) (by rfl) T.mg__law_fields T.k__law_fields T.b__law_fields .nil pass0 (pa_cons (pv 6) pa_nil)) (pv 3) (nomark _))))) (pss_one (ps_ret pe_bl)) pss_nil)
      (pss_cons (ps_if (PW.pt (pw_or (pt_not (pt_cmpR (op_eqO (ok_Verdict___eq__ T) T.eq_Verdict T.b_Verdict___eq__ (hr.mono (by decide))) (pv 5) (pv 6) (nomark _))) (pw_or (pt_cmpR (op_neO (ok_Verdict___eq__ T) T.eq_Verdict T.b_Verdict___eq__ (hr.mono (by decide))) (pv 5) (pv 6) (nomark _)) (pw_or1 (pt_not (pt_cmpR (op_eqO (ok_Verdict___eq__ T) T.eq_Verdict T.b_Verdict___eq__ (hr.mono (by decide))) (pv 6) (pv 5) (nomark _))))))) (pss_one (ps_ret pe_bl)) pss_nil)
      (pss_cons (ps_set (i := 7) nd rfl (by first | exact Or.inl rfl | exact Or.inr rfl) (pe_callTy call_list_of (by rfl) T.b_list (by decide +kernel) (pa_cons (pv 3) pa_nil)))
      (pss_cons (ps_asg (pe_tup (pa_cons (pe_ix ix_list (pv 3) (pv 2) (fun _ _ => rfl)) pa_nil)) (pg_sub (pv 7) (pv 2) set_list))
      (pss_cons (ps_set (i := 8) nd rfl (by first | exact Or.inl rfl | exact Or.inr rfl) (pe_make T.mk_Verdict (ok_Verdict___init__ T) (hr.mono (by decide)) (by rfl) T.mg_Verdict T.b_Verdict___init__ .nil pass0 (pa_cons (pe_ix ix_list (pv 7) pe_int (fun _ _ => rfl)) (pa_cons (pe_ix ix_list (pv 7) pe_int (fun _ _ => rfl)) (pa_cons (pe_ix ix_list (pv 7) pe_int (fun _ _ => rfl)) (pa_cons (pe_ix ix_list (pv 7) pe_int (fun _ _ => rfl)) (pa_cons (pe_ix ix_list (pv 7) pe_int (fun _ _ => rfl)) pa_nil)))))))
      (pss_cons (ps_if (PW.pt (pw_or (pt_cmpR (op_eqO (ok_Verdict___eq__ T) T.eq_Verdict T.b_Verdict___eq__ (hr.mono (by decide))) (pv 8) (pv 5) (nomark _)) (pw_or (pt_cmpR (op_eqO (ok_Verdict___eq__ T) T.eq_Verdict T.b_Verdict___eq__ (hr.mono (by decide))) (pv 5) (pv 8) (nomark _)) (pw_or1 (pt_not (pt_cmpR (op_neO (ok_Verdict___eq__ T) T.eq_Verdict T.b_Verdict___eq__ (hr.mono (by decide))) (pv 5) (pv 8) (nomark _))))))) (pss_one (ps_ret pe_bl)) pss_nil)
      (pss_cons (ps_setLc (i := 9) (own := [("k", 4)]) (g := gName 4) (tt := tYes) (by rfl) nd rfl rfl (sw_true rfl rfl rfl (by decide +kernel)) (pi_range1 (by rfl) T.b_range (pa_cons pe_int pa_nil)) (blkOk_by (own := [("k", 4)]) (N := ["script", "state", "at", "things", "k", "one", "same", "bent", "unlike", "rest", "drawn"]) (sc := defScope s_law) (by decide +kernel)) (fun _ _ _ _ _ => pg_name (i := 4) nd rfl (Or.inl rfl)) (fun _ _ _ _ _ => pts_nil) (fun _ _ _ _ _ => (pe_call (ok__law_thing T) (hr.mono (by decide)) (by rfl) T.mg__law_thing T.k__law_thing T.b__law_thing .nil pass0 (pa_cons (pv 1) pa_nil))))
      (pss_cons (ps_set (i := 10) nd rfl (by first | exact Or.inl rfl | exact Or.inr rfl) (pe_make T.mk_Verdict (ok_Verdict___init__ T) (hr.mono (by decide)) (by rfl) T.mg_Verdict T.b_Verdict___init__ .nil pass0 (pa_cons (pe_ix ix_list (pv 9) pe_int (fun _ _ => rfl)) (pa_cons (pe_ix ix_list (pv 9) pe_int (fun _ _ => rfl)) (pa_cons (pe_ix ix_list (pv 9) pe_int (fun _ _ => rfl)) (pa_cons (pe_ix ix_list (pv 9) pe_int (fun _ _ => rfl)) (pa_cons (pe_ix ix_list (pv 9) pe_int (fun _ _ => rfl)) pa_nil)))))))
      (pss_one (ps_ret (pe_and (pe_cmpR op_eq (pe_cmpR (op_eqO (ok_Verdict___eq__ T) T.eq_Verdict T.b_Verdict___eq__ (hr.mono (by decide))) (pv 10) (pv 5) (nomark _)) (pe_cmpR (op_eqP hr.units) (pv 9) (pv 3) (nomark _)) (nomark _)) (pe_one (pe_cmpR (op_eqP hr.units) (pe_call (ok__law_fields T) (hr.mono (by decide)) (by rfl) T.mg__law_fields T.k__law_fields T.b__law_fields .nil pass0 (pa_cons (pv 5) pa_nil)) (pv 3) (nomark _))))))))))))))))))), ?_⟩
  clear nd hr
  replace h := sp1_of h
  obtain ⟨v_script, rfl, h⟩ := h

  obtain ⟨l, ns, rfl, hl, hn, k⟩ := h
  refine ⟨_, rfl, _, rfl, l, ns, rfl, hl, hn, fun d H1 hp hl2 e0 r0 => ?_⟩
  refine ⟨_, rfl, _, _, rfl, d, _, rfl, rfl, r0, by decide, small_log (by decide) (by decide), fun at_ H2 a0 a1 e2 r2 => ?_⟩
  clear hl hp hl2 e0 r0 e2
  dsimp only [gName]
  refine q_setLc ?_
  refine lc_draw (d := d) (fun m => m = 5) Thing (fun v H1 H2 e ⟨t, h⟩ => ⟨t, h.keep e⟩) (fun x => rfl) (fun m e => by omega) (fun R h => h 5 H2 rfl Chg.refl r2) (fun x H1 Q1 r1 e1 h1 => ⟨_, rfl, _, rfl, d, rfl, r1, h1⟩) (fun m D xs H3 em nDp nDl hD hl hf hxs e3 r3 => ?_)
  subst em
  obtain ⟨ds, td⟩ := tds_of hf
  clear hf e3 hD r2
  obtain ⟨x0, x1, x2, x3, x4, rfl⟩ := len5 hl
  have pl : PyData.plainAll ds = true := (TDs.dp (K := K) td).2.1
  have dp1 : PyData.depthAll ds ≤ 1 := (TDs.dp (K := K) td).2.2
  have dl : (PyData.list ds).depth ≤ 60 := by simp only [PyData.depth]; omega
  have dz : PyData.depthAll ds ≤ 50 := by omega
  have rf : PyData.eqvAll ds ds = true := SeqAt.eqvAll_refl_plain ds pl
  have rl : PyData.eqv (.list ds) (.list ds) = true := by rw [eqv_list]; exact rf
  refine ⟨_, rfl, _, _, _, _, rfl, rfl, SqL.of hxs, rfl, _, rfl, _, _, _, _, rfl, rfl, SqL.of hxs, rfl, _, rfl, _, _, _, _, rfl, rfl, SqL.of hxs, rfl, _, rfl, _, _, _, _, rfl, rfl, SqL.of hxs, rfl, _, rfl, _, _, _, _, rfl, rfl, SqL.of hxs, rfl, made (xs := [x0, x1, x2, x3, x4]) rfl fun o1 H4 ho1 e4 v1 => ?_⟩
  replace hxs := e4 _ _ hxs
  replace td := td.keep (same_tk e4)
  replace r3 := r3.same e4
  clear e4 ho1
  refine ⟨_, rfl, _, _, _, _, rfl, rfl, SqL.of hxs, rfl, _, rfl, _, _, _, _, rfl, rfl, SqL.of hxs, rfl, _, rfl, _, _, _, _, rfl, rfl, SqL.of hxs, rfl, _, rfl, _, _, _, _, rfl, rfl, SqL.of hxs, rfl, _, rfl, _, _, _, _, rfl, rfl, SqL.of hxs, rfl, rfl, rfl, made (xs := [x0, x1, x2, x3, x4]) rfl fun o2 H5 ho2 e5 v2 => ?_⟩
  have L : L65 A.c_Verdict d D o1 o2 [x0, x1, x2, x3, x4] ds H5 := ⟨r3.same e5, nDp, e5 _ _ hxs, td.keep (same_tk e5), v1.same e5, v2⟩
  clear v1 v2 e5 ho2 hxs td r3
  -- the fields of both are the things
  refine ⟨_, rfl, _, rfl, o1, _, rfl, L.v1, fun p Hp hp ep hlp => ?_⟩
  replace L := L.same ep
  refine ⟨_, rfl, .list ds, .list ds, .lst (SqL.of hlp) (L.td.dp).1, .lst (SqL.of L.hD) (L.td.dp).1, pl, pl, dl, ?_⟩
  clear hlp hp ep
  refine ⟨false, by rw [rl]; rfl, ?_⟩
  refine ⟨_, rfl, _, rfl, o2, _, rfl, L.v2, fun p Hp hp ep hlp => ?_⟩
  replace L := L.same ep
  refine ⟨_, rfl, .list ds, .list ds, .lst (SqL.of hlp) (L.td.dp).1, .lst (SqL.of L.hD) (L.td.dp).1, pl, pl, dl, ?_⟩
  clear hlp hp ep
  refine ⟨false, by rw [rl]; rfl, ?_⟩
  refine ⟨_, rfl, _, rfl, rEqO_ver true L.v1 L.v2 (L.td.dp).1 (L.td.dp).1 pl pl dz rf fun He ee => ?_⟩
  replace L := L.same ee
  refine ⟨true, rfl, ?_⟩
  refine ⟨_, rfl, _, rfl, rNeO_ver true L.v1 L.v2 (L.td.dp).1 (L.td.dp).1 pl pl dz rf fun He ee => ?_⟩
  replace L := L.same ee
  refine ⟨false, rfl, ?_⟩
  refine ⟨_, rfl, _, rfl, rEqO_ver true L.v2 L.v1 (L.td.dp).1 (L.td.dp).1 pl pl dz rf fun He ee => ?_⟩
  replace L := L.same ee
  refine ⟨true, rfl, ?_⟩
  -- bent = list(things); bent[at] = (things[at],)
  refine ⟨_, rfl, D, _, rfl, .inl (SqL.of L.hD), fun B hB => ?_⟩
  have eB : Same He (upd He B (.lst [x0, x1, x2, x3, x4])) := fun b o e => by rw [upd_ne (ne_of_none e hB)]; exact e
  obtain ⟨j, rfl⟩ := Int.eq_ofNat_of_zero_le a0
  have hj : j < 5 := by omega
  obtain ⟨y, hy⟩ : ∃ y, ([x0, x1, x2, x3, x4] : List V)[j]? = some y := ⟨([x0, x1, x2, x3, x4] : List V)[j], by simp [hj]⟩
  have hat : atI [x0, x1, x2, x3, x4] (j : Int) = some y := atI_nat hy
  have hix : ixN ([x0, x1, x2, x3, x4] : List V).length (j : Int) = some j := by
    unfold ixN
    rw [if_pos (by omega), if_pos (by simp; omega)]
    simp
  have L1 := L.same eB
  refine ⟨_, rfl, _, rfl, _, _, _, _, rfl, rfl, SqL.of L1.hD, hat, (by show 1 ≤ sizeLine; rw [sizeLine_eq]; decide), fun t ht => ?_⟩
  have et : Same (upd He B (.lst [x0, x1, x2, x3, x4])) (upd (upd He B (.lst [x0, x1, x2, x3, x4])) t (.tup [y])) := fun b o e => by rw [upd_ne (ne_of_none e ht)]; exact e
  have nBt : B ≠ t := fun z => by rw [← z, upd_same] at ht; cases ht
  refine ⟨_, rfl, _, rfl, B, _, _, j, rfl, rfl, et _ _ upd_same, hix, ?_⟩
  refine heap_gen (fun H9 => Same He H9 ∧ H9 B = some (.lst (([x0, x1, x2, x3, x4] : List V).set j (.ref t))) ∧ H9 t = some (.tup [y])) ⟨fun b o e => ?_, upd_same, ?_⟩ fun H9 ⟨e9, hB9, ht9⟩ => ?_
  · rw [upd_ne (ne_of_none e hB)]
    exact et _ _ (eB _ _ e)
  · rw [upd_ne nBt.symm]
    exact upd_same
  replace L := L.same e9
  clear L1 eB et ht hB e9 hat hix
  obtain ⟨dj, hdj, tdj⟩ : ∃ dj, ds[j]? = some dj ∧ TD H9 y dj := tds_at L.td hy
  have dpy : Dp K H9 (.ref t) (.tuple [dj]) := .tup (SqT.of ht9) (.cons (tdj.dp).1 .nil)
  have ply : (PyData.tuple [dj]).plain = true := by simp [PyData.plain, PyData.plainAll, (tdj.dp (K := K)).2.1]
  have dpy2 : (PyData.tuple [dj]).depth ≤ 2 := by
    have := (tdj.dp (K := K)).2.2
    simp only [PyData.depth, PyData.depthAll]
    omega
  have es := eqvAll_set ⟨tdj.one.2, tdj.one.1⟩ ds j hdj
  have plb := plain_set ply ds j pl
  have dpb := depth_set dpy2 ds j (by omega)
  have dab : DpAll K H9 (([x0, x1, x2, x3, x4] : List V).set j (.ref t)) (ds.set j (.tuple [dj])) := DpAll.set dpy j (L.td.dp).1
  generalize ds.set j (.tuple [dj]) = eb at es plb dpb dab
  obtain ⟨b0, b1, b2, b3, b4, ebs⟩ := len5 (show (([x0, x1, x2, x3, x4] : List V).set j (.ref t)).length = 5 by simp)
  rw [ebs] at dab hB9
  refine ⟨_, rfl, _, _, _, _, rfl, rfl, SqL.of hB9, rfl, _, rfl, _, _, _, _, rfl, rfl, SqL.of hB9, rfl, _, rfl, _, _, _, _, rfl, rfl, SqL.of hB9, rfl, _, rfl, _, _, _, _, rfl, rfl, SqL.of hB9, rfl, _, rfl, _, _, _, _, rfl, rfl, SqL.of hB9, rfl, made (xs := [b0, b1, b2, b3, b4]) rfl fun o3 H10 ho3 e10 v3 => ?_⟩
  replace L := L.same e10
  replace dab := DpAll.keep e10 dab
  clear ht9 hB9 tdj dpy e10
  refine ⟨_, rfl, _, rfl, rEqO_ver false v3 L.v1 dab (L.td.dp).1 plb pl (by omega) es.2 fun H11 e11 => ?_⟩
  replace L := L.same e11
  replace dab := DpAll.keep e11 dab
  replace v3 := v3.same e11
  refine ⟨false, rfl, ?_⟩
  refine ⟨_, rfl, _, rfl, rEqO_ver false L.v1 v3 (L.td.dp).1 dab pl plb dz es.1 fun H12 e12 => ?_⟩
  replace L := L.same e12
  replace dab := DpAll.keep e12 dab
  replace v3 := v3.same e12
  refine ⟨false, rfl, ?_⟩
  refine ⟨_, rfl, _, rfl, rNeO_ver false L.v1 v3 (L.td.dp).1 dab pl plb dz es.1 fun H13 e13 => ?_⟩
  replace L := L.same e13
  refine ⟨true, rfl, ?_⟩
  clear v3 dab e13 e12 e11 es plb dpb
  refine iteF ?_
  dsimp only [tNext]
  refine q_setLc ?_
  refine lc_draw (d := d) (fun m => m = 5) Thing (fun v H1 H2 e ⟨t, h⟩ => ⟨t, h.keep e⟩) (fun x => rfl) (fun m e => by omega) (fun R h => h 5 H13 rfl Chg.refl L.r) (fun x H1 Q1 r1 e1 h1 => ⟨_, rfl, _, rfl, d, rfl, r1, h1⟩) (fun m D2 ys H14 em nDp2 nDl2 hD2 hl5 hf2 hxs2 e14 r14 => ?_)
  subst em
  replace L := L.chg e14 r14
  obtain ⟨rs, tr⟩ := tds_of hf2
  obtain ⟨y0, y1, y2, y3, y4, rfl⟩ := len5 hl5
  have plr : PyData.plainAll rs = true := (TDs.dp (K := K) tr).2.1
  have dpr : PyData.depthAll rs ≤ 1 := (TDs.dp (K := K) tr).2.2
  refine ⟨_, rfl, _, _, _, _, rfl, rfl, SqL.of hxs2, rfl, _, rfl, _, _, _, _, rfl, rfl, SqL.of hxs2, rfl, _, rfl, _, _, _, _, rfl, rfl, SqL.of hxs2, rfl, _, rfl, _, _, _, _, rfl, rfl, SqL.of hxs2, rfl, _, rfl, _, _, _, _, rfl, rfl, SqL.of hxs2, rfl, made (xs := [y0, y1, y2, y3, y4]) rfl fun o4 H15 ho4 e15 v4 => ?_⟩
  replace L := L.same e15
  replace tr := tr.keep (same_tk e15)
  replace hxs2 := e15 _ _ hxs2
  refine ⟨_, rfl, _, rfl, rEqO_ver (PyData.eqvAll rs ds) v4 L.v1 (tr.dp).1 (L.td.dp).1 plr pl (by omega) rfl fun H16 e16 => ?_⟩
  replace L := L.same e16
  replace tr := tr.keep (same_tk e16)
  replace hxs2 := e16 _ _ hxs2
  refine ⟨_, rfl, _, rfl, .list rs, .list ds, .lst (SqL.of hxs2) (tr.dp).1, .lst (SqL.of L.hD) (L.td.dp).1, plr, pl, by simp only [PyData.depth]; omega, rfl, ?_⟩
  rw [eqv_list]
  refine ⟨true, by simp, ?_⟩
  refine ⟨_, rfl, _, rfl, o1, _, rfl, L.v1, fun p Hp hp ep hlp => ?_⟩
  replace L := L.same ep
  refine ⟨_, rfl, .list ds, .list ds, .lst (SqL.of hlp) (L.td.dp).1, .lst (SqL.of L.hD) (L.td.dp).1, pl, pl, dl, ?_⟩
  rw [rl]
  exact k Hp
end
theorem all_mk {K : PySem.W.Frag} {h : Heap} {mg : Str → Option Value} {f0 f1 f2 f3 f4 f5 f6 f7 f8 f9 C0 : Addr} (X : K.In h) (G : h.Ns mainGlobals mg)
    {od0 an0 : Option Addr} {sl0 : Array (Option Value)} {oc0 kV0 dc0 pm0 cd0 ct0 : Value}
    {od1 an1 : Option Addr} {sl1 : Array (Option Value)} {oc1 kV1 dc1 pm1 cd1 ct1 : Value}
    {od2 an2 : Option Addr} {sl2 : Array (Option Value)} {oc2 kV2 dc2 pm2 cd2 ct2 : Value}
    {od3 an3 : Option Addr} {sl3 : Array (Option Value)} {oc3 kV3 dc3 pm3 cd3 ct3 : Value}
    {od4 an4 : Option Addr} {sl4 : Array (Option Value)} {oc4 kV4 dc4 pm4 cd4 ct4 : Value}
    {od5 an5 : Option Addr} {sl5 : Array (Option Value)} {oc5 kV5 dc5 pm5 cd5 ct5 : Value}
    {od6 an6 : Option Addr} {sl6 : Array (Option Value)} {oc6 kV6 dc6 pm6 cd6 ct6 : Value}
    {od7 an7 : Option Addr} {sl7 : Array (Option Value)} {oc7 kV7 dc7 pm7 cd7 ct7 : Value}
    {od8 an8 : Option Addr} {sl8 : Array (Option Value)} {oc8 kV8 dc8 pm8 cd8 ct8 : Value}
    {od9 an9 : Option Addr} {sl9 : Array (Option Value)} {oc9 kV9 dc9 pm9 cd9 ct9 : Value}
    (aC0 : PySem.W.nsIn K mainGlobals "Verdict" = some (some (.ref C0)))
    (a0 : PySem.W.findIn K (.ref C0) "__init__" = some (some (.ref f0)))
    (i0 : PySem.W.isFn K (.ref f0) = true)
    (l0 : K.lookup f0 = some ⟨oc0, od0, .func (PySem.W.fnOf "__init__" "Verdict.__init__" (defArgs s_Verdict___init__) (defBody s_Verdict___init__) (defScope s_Verdict___init__) .none kV0 dc0 pm0 an0 cd0 ct0), sl0⟩)
    (c0 : PySem.W.codeIn K cd0 "Verdict.__init__" = true)
    (k0 : PySem.W.keepIn K (.ref f0) = true)
    (a1 : PySem.W.findIn K (.ref C0) "__eq__" = some (some (.ref f1)))
    (i1 : PySem.W.isFn K (.ref f1) = true)
    (l1 : K.lookup f1 = some ⟨oc1, od1, .func (PySem.W.fnOf "__eq__" "Verdict.__eq__" (defArgs s_Verdict___eq__) (defBody s_Verdict___eq__) (defScope s_Verdict___eq__) .none kV1 dc1 pm1 an1 cd1 ct1), sl1⟩)
    (c1 : PySem.W.codeIn K cd1 "Verdict.__eq__" = true)
    (k1 : PySem.W.keepIn K (.ref f1) = true)
    (a2 : PySem.W.nsIn K mainGlobals "_law_start" = some (some (.ref f2)))
    (l2 : K.lookup f2 = some ⟨oc2, od2, .func (PySem.W.fnOf "_law_start" "_law_start" (defArgs s__law_start) (defBody s__law_start) (defScope s__law_start) .none kV2 dc2 pm2 an2 cd2 ct2), sl2⟩)
    (c2 : PySem.W.codeIn K cd2 "_law_start" = true)
    (k2 : PySem.W.keepIn K (.ref f2) = true)
    (a3 : PySem.W.nsIn K mainGlobals "_law_pull" = some (some (.ref f3)))
    (l3 : K.lookup f3 = some ⟨oc3, od3, .func (PySem.W.fnOf "_law_pull" "_law_pull" (defArgs s__law_pull) (defBody s__law_pull) (defScope s__law_pull) .none kV3 dc3 pm3 an3 cd3 ct3), sl3⟩)
    (c3 : PySem.W.codeIn K cd3 "_law_pull" = true)
    (k3 : PySem.W.keepIn K (.ref f3) = true)
    (a4 : PySem.W.nsIn K mainGlobals "_law_big" = some (some (.ref f4)))
    (l4 : K.lookup f4 = some ⟨oc4, od4, .func (PySem.W.fnOf "_law_big" "_law_big" (defArgs s__law_big) (defBody s__law_big) (defScope s__law_big) .none kV4 dc4 pm4 an4 cd4 ct4), sl4⟩)
    (c4 : PySem.W.codeIn K cd4 "_law_big" = true)
    (k4 : PySem.W.keepIn K (.ref f4) = true)
    (a5 : PySem.W.nsIn K mainGlobals "_law_word" = some (some (.ref f5)))
    (l5 : K.lookup f5 = some ⟨oc5, od5, .func (PySem.W.fnOf "_law_word" "_law_word" (defArgs s__law_word) (defBody s__law_word) (defScope s__law_word) .none kV5 dc5 pm5 an5 cd5 ct5), sl5⟩)
    (c5 : PySem.W.codeIn K cd5 "_law_word" = true)
    (k5 : PySem.W.keepIn K (.ref f5) = true)
    (a6 : PySem.W.nsIn K mainGlobals "_law_bits" = some (some (.ref f6)))
    (l6 : K.lookup f6 = some ⟨oc6, od6, .func (PySem.W.fnOf "_law_bits" "_law_bits" (defArgs s__law_bits) (defBody s__law_bits) (defScope s__law_bits) .none kV6 dc6 pm6 an6 cd6 ct6), sl6⟩)
    (c6 : PySem.W.codeIn K cd6 "_law_bits" = true)
    (k6 : PySem.W.keepIn K (.ref f6) = true)
    (a7 : PySem.W.nsIn K mainGlobals "_law_thing" = some (some (.ref f7)))
    (l7 : K.lookup f7 = some ⟨oc7, od7, .func (PySem.W.fnOf "_law_thing" "_law_thing" (defArgs s__law_thing) (defBody s__law_thing) (defScope s__law_thing) .none kV7 dc7 pm7 an7 cd7 ct7), sl7⟩)
    (c7 : PySem.W.codeIn K cd7 "_law_thing" = true)
    (k7 : PySem.W.keepIn K (.ref f7) = true)
    (a8 : PySem.W.nsIn K mainGlobals "_law_fields" = some (some (.ref f8)))
    (l8 : K.lookup f8 = some ⟨oc8, od8, .func (PySem.W.fnOf "_law_fields" "_law_fields" (defArgs s__law_fields) (defBody s__law_fields) (defScope s__law_fields) .none kV8 dc8 pm8 an8 cd8 ct8), sl8⟩)
    (c8 : PySem.W.codeIn K cd8 "_law_fields" = true)
    (k8 : PySem.W.keepIn K (.ref f8) = true)
    (a9 : PySem.W.nsIn K mainGlobals "law" = some (some (.ref f9)))
    (l9 : K.lookup f9 = some ⟨oc9, od9, .func (PySem.W.fnOf "law" "law" (defArgs s_law) (defBody s_law) (defScope s_law) .none kV9 dc9 pm9 an9 cd9 ct9), sl9⟩)
    (c9 : PySem.W.codeIn K cd9 "law" = true)
    (k9 : PySem.W.keepIn K (.ref f9) = true)
    (pg0 : PySem.W.plainGet K C0 Str.empty = true)
    (hd0 : PySem.W.hasDictIn K C0 = true)
    (po0 : PySem.W.plainOver K C0 = true)
    (sa0 : PySem.W.findIn K (.ref C0) "__setattr__" = some (some (.builtin "object.__setattr__")))
    (mk0 : PySem.W.makesIn K C0 = true)
    (kc0 : PySem.W.keepIn K (.ref C0) = true)
    (n0_refused : PySem.W.findIn K (.ref C0) "refused" = some none)
    (n0_short : PySem.W.findIn K (.ref C0) "short" = some none)
    (n0_in_step : PySem.W.findIn K (.ref C0) "in_step" = some none)
    (n0_stepped : PySem.W.findIn K (.ref C0) "stepped" = some none)
    (n0_other : PySem.W.findIn K (.ref C0) "other" = some none)
    (ha0 : PySem.W.findIn K (.ref C0) "__class__" = some (some (.builtin "object.__class__")))
    (hm0 : PySem.W.mroIn K C0 (.type "object") = some true)
    {qn0 qq0 : Str} {qN0 : Addr} {qb0 : List Value} {qh0 : Bool} {qs0 : List Str} {qu0 : List Value} {qa0 : Bool} {qc0 : Option Bool} {qd0 : Option Addr} {q00 q10 q20 q30 q50 : Option Value} {qi0 : String}
    (lc0 : K.lookup C0 = some (excClassObj qn0 qq0 C0 qN0 qb0 [.type "object"] qh0 qs0 qu0 qa0 qc0 qd0 q00 q10 q20 q30 q50 qi0))
    (no0 : PySem.W.nsOkIn K qN0 = true)
    (nq0 : PySem.W.nsIn K qN0 "__eq__" = some (some (.ref f1)))
    (nn0 : PySem.W.nsIn K qN0 "__ne__" = some none)
    (gn : PySem.W.specialIn K (.builtin "object.__class__") "__get__" = some (some (.builtin "getset_descriptor.__get__")))
    (gt : PySem.W.takesIn K (.builtin "object.__class__") = some true)
    (z_int : PySem.W.nsIn K mainGlobals "int" = some none)
    (z_isinstance : PySem.W.nsIn K mainGlobals "isinstance" = some none)
    (z_len : PySem.W.nsIn K mainGlobals "len" = some none)
    (z_list : PySem.W.nsIn K mainGlobals "list" = some none)
    (z_range : PySem.W.nsIn K mainGlobals "range" = some none) :
    ∃ A : Ad, Txt K mg A ∧ mg "law" = some (.ref A.f_law) ∧ ∀ (s : Shared) (v : Value), BindsTo s A.d_law ⟨[v], []⟩ [("script", v)] := by
  have F0 := fun_mk (st := s_Verdict___init__) l0 c0 k0
  have F1 := fun_mk (st := s_Verdict___eq__) l1 c1 k1
  have F2 := fun_mk (st := s__law_start) l2 c2 k2
  have F3 := fun_mk (st := s__law_pull) l3 c3 k3
  have F4 := fun_mk (st := s__law_big) l4 c4 k4
  have F5 := fun_mk (st := s__law_word) l5 c5 k5
  have F6 := fun_mk (st := s__law_bits) l6 c6 k6
  have F7 := fun_mk (st := s__law_thing) l7 c7 k7
  have F8 := fun_mk (st := s__law_fields) l8 c8 k8
  have F9 := fun_mk (st := s_law) l9 c9 k9
  exact ⟨{ f_Verdict___init__ := f0, d_Verdict___init__ := _, f_Verdict___eq__ := f1, d_Verdict___eq__ := _, f__law_start := f2, d__law_start := _, f__law_pull := f3, d__law_pull := _, f__law_big := f4, d__law_big := _, f__law_word := f5, d__law_word := _, f__law_bits := f6, d__law_bits := _, f__law_thing := f7, d__law_thing := _, f__law_fields := f8, d__law_fields := _, f_law := f9, d_law := _, c_Verdict := C0 }, { F_Verdict___init__ := F0, k_Verdict___init__ := k0, b_Verdict___init__ := F0.binds (ps := ["self", "refused", "short", "in_step", "stepped", "other"]) fun _ _ _ _ _ _ us hl => match us, hl with | [_, _, _, _, _, _], _ => rfl, F_Verdict___eq__ := F1, k_Verdict___eq__ := k1, b_Verdict___eq__ := F1.binds (ps := ["self", "other"]) fun _ _ _ _ _ _ us hl => match us, hl with | [_, _], _ => rfl, m_Verdict___eq__ := a1, i_Verdict___eq__ := i1, F__law_start := F2, k__law_start := k2, b__law_start := F2.binds (ps := ["script"]) fun _ _ _ _ _ _ us hl => match us, hl with | [_], _ => rfl, mg__law_start := PySem.W.mg_of X G a2, F__law_pull := F3, k__law_pull := k3, b__law_pull := F3.binds (ps := ["state", "many"]) fun _ _ _ _ _ _ us hl => match us, hl with | [_, _], _ => rfl, mg__law_pull := PySem.W.mg_of X G a3, F__law_big := F4, k__law_big := k4, b__law_big := F4.binds (ps := ["state", "many"]) fun _ _ _ _ _ _ us hl => match us, hl with | [_, _], _ => rfl, mg__law_big := PySem.W.mg_of X G a4, F__law_word := F5, k__law_word := k5, b__law_word := F5.binds (ps := ["state", "size"]) fun _ _ _ _ _ _ us hl => match us, hl with | [_, _], _ => rfl, mg__law_word := PySem.W.mg_of X G a5, F__law_bits := F6, k__law_bits := k6, b__law_bits := F6.binds (ps := ["state", "size"]) fun _ _ _ _ _ _ us hl => match us, hl with | [_, _], _ => rfl, mg__law_bits := PySem.W.mg_of X G a6, F__law_thing := F7, k__law_thing := k7, b__law_thing := F7.binds (ps := ["state"]) fun _ _ _ _ _ _ us hl => match us, hl with | [_], _ => rfl, mg__law_thing := PySem.W.mg_of X G a7, F__law_fields := F8, k__law_fields := k8, b__law_fields := F8.binds (ps := ["verdict"]) fun _ _ _ _ _ _ us hl => match us, hl with | [_], _ => rfl, mg__law_fields := PySem.W.mg_of X G a8, F_law := F9, k_law := k9, b_law := F9.binds (ps := ["script"]) fun _ _ _ _ _ _ us hl => match us, hl with | [_], _ => rfl, mg_law := PySem.W.mg_of X G a9, mg_Verdict := PySem.W.mg_of X G aC0, cl_Verdict := ⟨pg0, hd0, po0, sa0⟩, mk_Verdict := ⟨mk0, a0, i0, kc0⟩, n_Verdict_refused := n0_refused, n_Verdict_short := n0_short, n_Verdict_in_step := n0_in_step, n_Verdict_stepped := n0_stepped, n_Verdict_other := n0_other, isc_Verdict := ⟨⟨pg0, hd0, po0, sa0⟩, ha0, gn, gt, hm0, kit_self⟩, eq_Verdict := ⟨a1, i1, _, _, _, _, _, _, _, _, _, _, _, _, _, _, _, _, lc0, no0, nq0, nn0⟩, b_int := PySem.W.mg_none_of X G z_int, b_isinstance := PySem.W.mg_none_of X G z_isinstance, b_len := PySem.W.mg_none_of X G z_len, b_list := PySem.W.mg_none_of X G z_list, b_range := PySem.W.mg_none_of X G z_range }, PySem.W.mg_of X G a9, fun s v => .of_eq rfl⟩
end My

open PySem PySem.W PyProof.Rows in
set_option maxRecDepth 100000 in
set_option maxHeartbeats 0 in
theorem PySem.Challenge.cw_roomleft_k65_verdict_objects_holds : PySem.Challenge.rw_roomleft_k65_verdict_objects.Holds := by
  w_on; o_law; k_head; (case hw => w_witness2)
  k_fill
  refine L2.walk_ofK (l := PySem.Challenge.rw_roomleft_k65_verdict_objects) (n := 63) (k := 4) (x := "script") (CX := L2.CX0) (sp := My.sp_law0) rfl (by decide) rfl ⟨rfl, by decide, by decide⟩ (fun w h Y => PySem.W.kIn_of Y) ?F ?S ?Z
  case S => exact fun K H a ns hl hO hS => ⟨_, rfl, a, ns, rfl, hS, hl, fun _ => rfl⟩
  case Z => exact fun _ _ _ _ z => z
  case F =>
    intro w mg fa h KX G hmg
    obtain ⟨A, T, e, b⟩ : ∃ A : My.Ad, My.Txt _ mg A ∧ mg "law" = some (.ref A.f_law) ∧ ∀ (s : Shared) (v : Value), BindsTo s A.d_law ⟨[v], []⟩ [("script", v)] := by
      refine' My.all_mk KX G ?aC0 ?a0 ?i0 ?l0 ?c0 ?k0 ?a1 ?i1 ?l1 ?c1 ?k1 ?a2 ?l2 ?c2 ?k2 ?a3 ?l3 ?c3 ?k3 ?a4 ?l4 ?c4 ?k4 ?a5 ?l5 ?c5 ?k5 ?a6 ?l6 ?c6 ?k6 ?a7 ?l7 ?c7 ?k7 ?a8 ?l8 ?c8 ?k8 ?a9 ?l9 ?c9 ?k9 ?pg0 ?hd0 ?po0 ?sa0 ?mk0 ?kc0 ?n0_refused ?n0_short ?n0_in_step ?n0_stepped ?n0_other ?ha0 ?hm0 ?lc0 ?no0 ?nq0 ?nn0 ?gn ?gt ?z_int ?z_isinstance ?z_len ?z_list ?z_range
      (case aC0 => k_is)
      (case a0 => k_is)
      (case i0 => k_is)
      (case l0 => k_is)
      (case c0 => k_is)
      (case k0 => k_is)
      (case a1 => k_is)
      (case i1 => k_is)
      (case l1 => k_is)
      (case c1 => k_is)
      (case k1 => k_is)
      (case a2 => k_is)
      (case l2 => k_is)
      (case c2 => k_is)
      (case k2 => k_is)
      (case a3 => k_is)
      (case l3 => k_is)
      (case c3 => k_is)
      (case k3 => k_is)
      (case a4 => k_is)
      (case l4 => k_is)
      (case c4 => k_is)
      (case k4 => k_is)
      (case a5 => k_is)
      (case l5 => k_is)
      (case c5 => k_is)
      (case k5 => k_is)
      (case a6 => k_is)
      (case l6 => k_is)
      (case c6 => k_is)
      (case k6 => k_is)
      (case a7 => k_is)
      (case l7 => k_is)
      (case c7 => k_is)
      (case k7 => k_is)
      (case a8 => k_is)
      (case l8 => k_is)
      (case c8 => k_is)
      (case k8 => k_is)
      (case a9 => k_is)
      (case l9 => k_is)
      (case c9 => k_is)
      (case k9 => k_is)
      (case pg0 => k_is)
      (case hd0 => k_is)
      (case po0 => k_is)
      (case sa0 => k_is)
      (case mk0 => k_is)
      (case kc0 => k_is)
      (case n0_refused => k_is)
      (case n0_short => k_is)
      (case n0_in_step => k_is)
      (case n0_stepped => k_is)
      (case n0_other => k_is)
      (case ha0 => k_is)
      (case hm0 => k_is)
      (case lc0 => k_is)
      (case no0 => kernel_rfl)
      (case nq0 => k_is)
      (case nn0 => k_is)
      (case gn => k_is)
      (case gt => k_is)
      (case z_int => k_is)
      (case z_isinstance => k_is)
      (case z_len => k_is)
      (case z_list => k_is)
      (case z_range => k_is)
    have e2 := hmg.symm.trans e
    cases e2
    exact ⟨A.d_law, b, fun base _ _ => My.ok_law T⟩
#print axioms PySem.Challenge.cw_roomleft_k65_verdict_objects_holds
